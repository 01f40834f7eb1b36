import PyProof.Rows.All
import PyProof.StrOps2
import Wide.All
import OpenK.AllK
import Wide.FinOn
import HandS.ForMost
import HandS.Exc
import HandS.ExcOwn
import HandS.IsInst
import HandS.ClsMeth
import HandS.Iter
import HandS.Zip
import HandS.Comp
import HandS.Text
import HandS.Strs
import HandS.StrSplit
import HandS.StrMore
import HandS.FStr
import HandS.Sort
import HandS.SortRule
import HandS.Conv
import HandS.SuiteRaise
import HandS.TryMany
import HandS.TryElse
import HandS.RaiseMore
import HandS.RaiseOp
import HandS.ExcInit
import HandS.ExcIs
import HandS.ExcField
import HandS.ExcValue
import HandS.Nested
import HandS.DictTup
import HandS.Defaults
import HandS.Words
import HandS.Head0
import HandS.Head1
import HandS.Head2
import HandS.Head3
import HandS.Head4
import HandS.HeadEnd
import HandS.HeadHook1
import HandS.HeadHook2
import HandS.HeadHook3
import HandS.HeadHook4
import HandS.HeadWalk
import HandS.EndBits
import HandS.Steps
import HandS.Small
import HandS.WordsExc
import KE.KStateDown
import KE.KeyNested
import HandS.SetKeys
import HandS.TupLen
import HandS.Rev
import KE.KDictDisplayH
import KE.KDictList
import HandS.RevTup
import PySem.Challenge.RW_mustmay_k22_rooms_alike
set_option Elab.async false
set_option linter.all false
set_option maxRecDepth 100000
set_option maxHeartbeats 0
namespace Mp
open PySem
inductive D where
  | non | bl (b : Bool) | int (i : Int) | str (s : Str)
  | tup (xs : List D) | lst (xs : List D) | dct (ks vs : List D)
  | obj (c : Nat) (ns : List Nat) (vs : List D)
  | scr (xs : List Int)
  | rl (xs : List D)
  | xc (c : Nat) (fs : List D)
  | tdc (ks vs : List D)
inductive Rv where
  | d (x : D) | o (x : D) | m (n : Nat)
inductive Nd where
  | lst (xs : List Rv) | dct (ks : List D) (vs : List Rv) | tdc (ks : List D) (vs : List Rv) | obj (c : Nat) (ns : List Nat) (vs : List Rv)
inductive Out (σ α : Type) where
  | ok (a : α) (s : σ) | exc (c : Nat) (fs : List D) (s : σ) | stuck
def Out.bind {σ α β : Type} : Out σ α → (α → σ → Out σ β) → Out σ β
  | .ok a s, f => f a s
  | .exc c fs s, _ => .exc c fs s
  | .stuck, _ => .stuck
structure Sg where
  st : List (Option Rv)
  mu : List Nd
inductive O2 where
  | add | sub | mul | fdiv | mod | pow | lt | le | gt | ge | eq | ne | isin | ntin | isv | ntv
inductive Bi where
  | len | int | list | tuple | all | any | max2 | min2 | str | setlen | dict | sorted
inductive Bm where
  | append | index | join | split | clear | extend
inductive Ty where
  | int | bool | str | list | tuple | cls (c : Nat)
inductive E where
  | nm (i : Nat) | int (i : Int) | str (s : Str) | bl (b : Bool) | non | gl (k : Nat)
  | o2 (o : O2) (a b : E) | neg (a : E)
  | no (a : E) | an (a b : E) | or (a b : E) | la (a : E) | ie (c a b : E) | ch (o o' : O2) (a b c : E) | isN (a : E) | ntN (a : E)
  | nil | cons (a b : E)
  | tup (a : E) | lst (a : E) | dnew
  | sub (a i : E) | slc (a lo hi : E)
  | subs (i : Nat) (a : E) | ins (neg : Bool) (a : E) (i : Nat)
  | attr (a : E) (k : Nat)
  | call (f : Nat) (a : E) | new (c : Nat) (a : E) | meth (a : E) (k : Nat) (as : E) | clm (c : Nat) (k : Nat) (as : E)
  | bi (b : Bi) (a : E) | bis (b : Bi) (i : Nat)
  | bm (b : Bm) (a : E) (as : E) | bms (b : Bm) (i : Nat) (as : E)
  | isi (a : E) (t : Ty)
  | consb (a b : E) | consp (i : Nat) (b : E) | callb (f : Nat) (a : E)
  | xat (a : E) (f : Str) | xis (a : E) (c : Option Nat) | dsp (k : Str) (v : E) | xnw (c : Nat) (a : E) | ixs (i : Nat) (a : E)
  | newb (c : Nat) (a : E) | compm (elt : E) (tg : List Nat) (it : E) | dd (k : Int) (v : E)
  | bma (a : E) (b : E) | subm (i : Nat) (a : E) | methi (a : E) (k : Nat) (as : E) | clt (a : E)
  | sl (a : E) | join (a b : E) | gets (i : Nat) (a b : E) | gets1 (i : Nat) (a : E)
  | eqs (neg : Bool) (i j : Nat) | callr (f : Nat) (a : E) | newi (c : Nat) (a : E) | isis (i : Nat) (t : Ty) | isNs (neg : Bool) (i : Nat) | popl (i : Nat)
  | tnew | tdsp (k v : E) | sdf (i : Nat) (a b : E) | sdt (i : Nat) (a b : E) | pk (i : Nat) | rev (a : E) | cl (a : E) | cs (a b : E) | ci (neg : Bool) (a b : E)
  | comp (elt : E) (tg : List Nat) (it : E) (cond : E)
  | rng (a : E) | rng2 (a : E) | enu (a : E) | zip (a : E) | pl (a : E) | pt (a : E) | ps (a : E)
inductive S where
  | skip | seq (a b : S) | asg (i : Nat) (e : E) | ast (is : List Nat) (e : E) | aug (i : Nat) (o : O2) (e : E)
  | seta (i : Nat) (k : Nat) (e : E) | setam (i : Nat) (k : Nat) (e : E) | sets (i : Nat) (j e : E) | setv (b j e : E)
  | ifs (c : E) (a b : S) | whl (c : E) (a : S) | fors (tg : List Nat) (it : E) (a : S) | form (i j : Nat) (a : S) | asm (i : Nat) (e : E)
  | ret (e : E) | retm (i : Nat) | exp (e : E) | never | brk | cnt
  | mv (i j : Nat)
  | rse (c : Nat) (a : E) | tr (b : S) (c i j : Nat) (e : E)
structure Fn where
  nm : Str
  qn : Str
  cl : Option Nat
  ps : List Str
  N : List Str
  body : S
structure Cl where
  nm : Str
  atts : List Nat
  meths : List (Nat × Nat)
  ini : Nat
  sup : List Nat
  cms : List Nat
structure Xl where
  nm : Str
  sup : List Nat
  fs : List Str
  ini : Option Nat
structure Tab where
  fns : List Fn
  cls : List Cl
  an : List Str
  cn : List (Str × D)
  xs : List Xl
def Rv.sh : Rv → Rv
  | .o x => .d x
  | r => r
def Rv.isD : Rv → Bool
  | .d _ => true
  | _ => false
def sq : D → Option (List D)
  | .scr xs => some (xs.map .int)
  | .lst xs => some xs
  | .tup xs => some xs
  | _ => none
def lsD : D → Option (List D)
  | .lst xs => some xs
  | .rl xs => some xs
  | _ => none
mutual
def noL : D → Bool
  | .rl _ => false
  | .xc _ _ => false
  | .tup xs => noLs xs
  | .lst xs => noLs xs
  | .dct _ vs => noLs vs
  | .tdc _ _ => false
  | .obj _ _ vs => noLs vs
  | _ => true
def noLs : List D → Bool
  | [] => true
  | x :: xs => noL x && noLs xs
end
def smallB (i : Int) (c : Nat) : Bool := Nat.ble i.natAbs c
theorem small_to {i : Int} {c : Nat} (h : smallB i c = true) : i.natAbs ≤ c := Nat.le_of_ble_eq_true h
theorem small_of {i : Int} {c : Nat} (h : i.natAbs ≤ c) : smallB i c = true := Nat.ble_eq_true_of_le h
def mulOk (i j : Int) : Bool := smallB i 18446744073709551615 || smallB j 18446744073709551615
theorem mulOk_l {i j : Int} (h : -(2 ^ 64) < i ∧ i < 2 ^ 64) : mulOk i j = true := by unfold mulOk; rw [small_of (by omega), Bool.true_or]
theorem mulOk_r {i j : Int} (h : -(2 ^ 64) < j ∧ j < 2 ^ 64) : mulOk i j = true := by unfold mulOk; rw [small_of (i := j) (by omega), Bool.or_true]
mutual
def toPd : D → Option PyData
  | .non => some .none
  | .bl b => some (.bool b)
  | .int i => some (.int i)
  | .str s => some (.str s)
  | .tup xs => (toPds xs).map .tuple
  | .lst xs => (toPds xs).map .list
  | _ => none
def toPds : List D → Option (List PyData)
  | [] => some []
  | x :: xs => match toPd x, toPds xs with
    | some p, some ps => some (p :: ps)
    | _, _ => none
end
mutual
def eqB : D → D → Bool
  | .non, .non => true
  | .bl a, .bl b => a == b
  | .bl a, .int j => (if a then 1 else 0) == j
  | .int i, .bl b => i == (if b then 1 else 0)
  | .int i, .int j => i == j
  | .str x, .str y => x == y
  | .lst xs, .lst ys => eqBs xs ys
  | .tup xs, .tup ys => eqBs xs ys
  | _, _ => false
def eqBs : List D → List D → Bool
  | [], [] => true
  | x :: xs, y :: ys => eqB x y && eqBs xs ys
  | _, _ => false
end
def okN : Nat → D → Bool
  | _, .non => true
  | _, .bl _ => true
  | _, .int _ => true
  | _, .str s => PyData.strOk s
  | n + 1, .tup xs => xs.all (okN n)
  | n + 1, .lst xs => xs.all (okN n)
  | _, _ => false
def eqF (x y : D) : Option Bool := if okN 8 x && okN 8 y then some (eqB x y) else none
def flatD : D → Bool
  | .non => true
  | .bl _ => true
  | .int _ => true
  | .str _ => true
  | _ => false
def inF (x : D) (ys : List D) : Option Bool := if flatD x && ys.all flatD then some (ys.any fun y => eqB y x) else none
def keyD : D → Bool
  | .int _ => true
  | .str _ => true
  | _ => false
def keyEq : D → D → Bool
  | .int i, .int j => decide (i = j)
  | .str i, .str j => decide (i = j)
  | _, _ => false
def dget (k : D) : List D → List D → Option D
  | k' :: ks, v :: vs => if keyEq k' k then some v else dget k ks vs
  | _, _ => none
def dputV (k v : D) : List D → List D → List D
  | k' :: ks, v' :: vs => if keyEq k' k then v :: dputV k v ks vs else v' :: dputV k v ks vs
  | _, vs => vs
def dput (k v : D) (ks vs : List D) : D := match dget k ks vs with
  | some _ => .dct ks (dputV k v ks vs)
  | none => .dct (ks ++ [k]) (vs ++ [v])
mutual
def nkOf : D → Option NestedKey
  | .non => some .none
  | .bl b => some (.num (if b = true then 1 else 0))
  | .int i => some (.num i)
  | .str x => some (.text x)
  | .tup xs => (nksOf xs).map .tup
  | _ => none
def nksOf : List D → Option (List NestedKey)
  | [] => some []
  | x :: xs => match nkOf x, nksOf xs with
    | some k, some ks => some (k :: ks)
    | _, _ => none
end
def tkOf : D → Option NestedKey
  | .tup xs => (match nkOf (.tup xs) with
    | some k => if k.depth ≤ 8 then some k else none
    | none => none)
  | _ => none
def tget {α : Type} (q : NestedKey) : List D → List α → Option α
  | k :: ks, v :: vs => if tkOf k = some q then some v else tget q ks vs
  | _, _ => none
def tputV {α : Type} (q : NestedKey) (v : α) : List D → List α → List α
  | k :: ks, v' :: vs => if tkOf k = some q then v :: tputV q v ks vs else v' :: tputV q v ks vs
  | _, vs => vs
def tputK {α : Type} (q : NestedKey) (k : D) (v : α) (ks : List D) (vs : List α) : List D × List α := match tget q ks vs with
  | some _ => (ks, tputV q v ks vs)
  | none => (ks ++ [k], vs ++ [v])
def mulS (x : Str) (k : Int) : Str := if k < 1 then Str.empty else if (k == 1 || x.length == 0) = true then x else ⟨(List.replicate k.toNat x.cps).foldl (· ++ ·) #[]⟩
def o2F : O2 → D → D → Option Rv
  | .add, .int i, .int j => some (.d (.int (i + j)))
  | .add, .str x, .str y => if x.length + y.length ≤ sizeLine then some (.d (.str (x ++ y))) else none
  | .add, .lst x, .lst y => if x.length + y.length ≤ sizeLine then some (.o (.lst (x ++ y))) else none
  | .sub, .int i, .int j => some (.d (.int (i - j)))
  | .mul, .int i, .int j => if mulOk i j then some (.d (.int (i * j))) else none
  | .mul, .str x, .int k => if 0 ≤ k ∧ k ≤ 1000 ∧ x.length ≤ 1000 then some (.d (.str (mulS x k))) else none
  | .mul, .lst xs, .int k => if smallB k 9223372036854775807 = true ∧ xs.length * k.toNat ≤ sizeLine then some (.o (.lst (List.replicate k.toNat xs).flatten)) else none
  | .pow, .int i, .int j => if 0 ≤ j ∧ j ≤ 1000000 ∧ i.natAbs < 2 ^ 64 then some (.d (.int (i ^ j.toNat))) else none
  | .fdiv, .int i, .int j => if j ≠ 0 ∧ j.natAbs < 1073741824 then some (.d (.int (i.fdiv j))) else none
  | .mod, .int i, .int j => if j ≠ 0 then some (.d (.int (i.fmod j))) else none
  | .lt, .int i, .int j => some (.d (.bl (decide (i < j))))
  | .le, .int i, .int j => some (.d (.bl (decide (i ≤ j))))
  | .gt, .int i, .int j => some (.d (.bl (decide (j < i))))
  | .ge, .int i, .int j => some (.d (.bl (decide (j ≤ i))))
  | .eq, x, y => (eqF x y).map fun b => .d (.bl b)
  | .ne, x, y => (eqF x y).map fun b => .d (.bl (!b))
  | .isv, .bl a, .bl b => some (.d (.bl (a == b)))
  | .ntv, .bl a, .bl b => some (.d (.bl (!(a == b))))
  | .isin, x, .lst ys => (inF x ys).map fun b => .d (.bl b)
  | .isin, x, .tup ys => (inF x ys).map fun b => .d (.bl b)
  | .isin, .str x, .str y => some (.d (.bl (!(Builtin.Str.occurrences y x 0 y.length 1).isEmpty)))
  | .isin, x, .dct ks vs => if keyD x then some (.d (.bl (dget x ks vs).isSome)) else none
  | .isin, x, .tdc ks vs => (tkOf x).map fun q => .d (.bl (tget q ks vs).isSome)
  | .ntin, x, .tdc ks vs => (tkOf x).map fun q => .d (.bl (!(tget q ks vs).isSome))
  | .ntin, x, .lst ys => (inF x ys).map fun b => .d (.bl (!b))
  | .ntin, x, .tup ys => (inF x ys).map fun b => .d (.bl (!b))
  | .ntin, .str x, .str y => some (.d (.bl (!(!(Builtin.Str.occurrences y x 0 y.length 1).isEmpty))))
  | .ntin, x, .dct ks vs => if keyD x then some (.d (.bl (!(dget x ks vs).isSome))) else none
  | _, _, _ => none
def subF : D → D → Option D
  | .scr xs, .int i => (L2.atI xs i).map .int
  | .lst xs, .int i => L2.atI xs i
  | .tup xs, .int i => L2.atI xs i
  | .str z, .int i => if z.length ≤ sizeLine then (L2.atI z.cps.toList i).map fun c => .str ⟨#[c]⟩ else none
  | .dct ks vs, k => if keyD k then dget k ks vs else none
  | .tdc ks vs, k => (tkOf k).bind fun q => tget q ks vs
  | _, _ => none
def partL : List D → Option (Option Int)
  | [] => some none
  | [.int i] => some (some i)
  | _ => none
def cutD {α : Type} (xs : List α) (lo hi : Option Int) : List α := (xs.drop (HT.sIx xs.length 0 lo)).take (HT.sIx xs.length xs.length hi - HT.sIx xs.length 0 lo)
def slcF (l h : Option Int) : D → Option Rv
  | .lst xs => some (.o (.lst (cutD xs l h)))
  | .scr xs => some (.o (.lst ((cutD xs l h).map .int)))
  | .str z => if z.length ≤ sizeLine then some (.d (.str (L2.cutS z l h))) else none
  | _ => none
def setF : D → D → D → Option D
  | .lst xs, .int k, y => (L2.ixN xs.length k).map fun p => .lst (xs.set p y)
  | .dct ks vs, k, y => if keyD k && decide (ks.length < sizeLine) then some (dput k y ks vs) else none
  | .tdc ks vs, k, y => (tkOf k).bind fun q => if ks.length < sizeLine then some (.tdc (tputK q k y ks vs).1 (tputK q k y ks vs).2) else none
  | _, _, _ => none
def attF (k : Nat) : List Nat → List D → Option D
  | n :: ns, v :: vs => if n = k then some v else attF k ns vs
  | _, _ => none
def attM (k : Nat) : List Nat → List Rv → Option Rv
  | n :: ns, v :: vs => if n = k then some v else attM k ns vs
  | _, _ => none
def attPut (k : Nat) (v : Rv) : List Nat → List Rv → List Nat × List Rv
  | n :: ns, x :: vs => if n = k then (n :: ns, v :: vs) else ((n :: (attPut k v ns vs).1), (x :: (attPut k v ns vs).2))
  | _, _ => ([k], [v])
def bools : List D → Option (List Bool)
  | [] => some []
  | .bl b :: r => (bools r).map (b :: ·)
  | _ :: _ => none
def strsD : List D → Option (List Str)
  | [] => some []
  | .str b :: r => (strsD r).map (b :: ·)
  | _ :: _ => none
def dedup (xs : List Str) : List Str := xs.foldl PyProof.Rows.step_dedup []
def biF : Bi → List D → Option Rv
  | .len, [.lst xs] => some (.d (.int xs.length))
  | .len, [.scr xs] => some (.d (.int xs.length))
  | .len, [.rl xs] => some (.d (.int xs.length))
  | .len, [.tup xs] => some (.d (.int xs.length))
  | .len, [.dct ks _] => some (.d (.int ks.length))
  | .len, [.tdc ks _] => some (.d (.int ks.length))
  | .len, [.str x] => if x.length ≤ sizeLine then some (.d (.int x.length)) else none
  | .int, [.int i] => some (.d (.int i))
  | .int, [.bl b] => some (.d (.int (if b then 1 else 0)))
  | .list, [.lst xs] => some (.o (.lst xs))
  | .list, [.rl xs] => some (.o (.lst xs))
  | .list, [.tup xs] => some (.o (.lst xs))
  | .tuple, [.lst xs] => some (.d (.tup xs))
  | .all, [.lst xs] => (bools xs).map fun bs => .d (.bl (bs.all id))
  | .any, [.lst xs] => (bools xs).map fun bs => .d (.bl (bs.any id))
  | .max2, [.int i, .int j] => some (.d (.int (if j > i then j else i)))
  | .min2, [.int i, .int j] => some (.d (.int (if j < i then j else i)))
  | .str, [.int i] => if i.natAbs.log2 < 1920 then some (.d (.str (toString i))) else none
  | .setlen, [.lst xs] => (strsD xs).bind fun ss => if ss.length < 4000 then some (.d (.int (dedup ss).length)) else none
  | _, _ => none
def idxD : List D → Int → Option Nat
  | .int j :: xs, k => if j = k then some 0 else (idxD xs k).map (· + 1)
  | _, _ => none
def bmF : Bm → D → List D → Option (D × D)
  | .append, .lst xs, [y] => if xs.length < sizeLine then some (.non, .lst (xs ++ [y])) else none
  | .clear, .lst _, [] => some (.non, .lst [])
  | .extend, .lst xs, [.lst ys] => if xs.length + ys.length ≤ sizeLine then some (.non, .lst (xs ++ ys)) else none
  | _, _, _ => none
def isiA : Ty → D → Bool
  | .int, .int _ => true
  | .int, .bl _ => true
  | .bool, .bl _ => true
  | .str, .str _ => true
  | .list, .lst _ => true
  | .list, .rl _ => true
  | .tuple, .tup _ => true
  | _, _ => false
def isiF (Γ : Tab) (t : Ty) (x : D) : Option Bool := match x with
  | .scr _ => none
  | .tdc _ _ => none
  | .xc _ _ => none
  | .obj c' _ _ => (Γ.cls[c']?).bind fun k => (match t with
    | .cls c => (Γ.cls[c]?).map fun _ => k.sup.contains c
    | _ => some false)
  | x => (match t with
    | .cls c => (Γ.cls[c]?).map fun _ => false
    | t => some (isiA t x))
def dints (n : Nat) (lo : Int) : List D := (List.range n).map fun i => .int (lo + (i : Nat))
def enumD : Nat → List D → List D
  | _, [] => []
  | i, x :: xs => .tup [.int (i : Nat), x] :: enumD (i + 1) xs
def zipD : List D → List D → List D
  | x :: xs, y :: ys => .tup [x, y] :: zipD xs ys
  | _, _ => []
def rngOk (j : Int) : Bool := smallB j 4611686018427387903
theorem rngOk_of {j : Int} (h : -(2 ^ 62) < j ∧ j < 2 ^ 62) : rngOk j = true := small_of (by omega)
def itF : E → List D → Option (List D)
  | _, _ => none
def setS (st : List (Option Rv)) (i : Nat) (r : Rv) : List (Option Rv) := st.set i (some r)
def wipeS (st : List (Option Rv)) : List Nat → List (Option Rv)
  | [] => st
  | v :: vs => (wipeS st vs).set v none
def backS (old new : List (Option Rv)) : List Nat → List (Option Rv)
  | [] => new
  | v :: vs => (backS old new vs).set v ((old[v]?).getD none)
def setN (is : List Nat) (x : D) (st : List (Option Rv)) : Option (List (Option Rv)) := match x with
  | .tup xs => if is.length = xs.length then some ((is.zip xs).foldl (fun st p => setS st p.1 (.d p.2)) st) else none
  | _ => none
def setT (is : List Nat) (x : D) (st : List (Option Rv)) : Option (List (Option Rv)) := match is with
  | [i] => some (setS st i (.d x))
  | _ => setN is x st
def ofO (o : Option Rv) (s : Sg) : Out Sg (List Rv) := match o with
  | some r => .ok [r] s
  | none => .stuck
def one (rs : List Rv) (s : Sg) (k : Rv → Out Sg (List Rv)) : Out Sg (List Rv) := match rs with
  | [r] => k r
  | _ => .stuck
def oneD (x : Out Sg (List Rv)) (k : D → Sg → Out Sg (List Rv)) : Out Sg (List Rv) := x.bind fun rs s => match rs with
  | [.d y] => k y s
  | [.o y] => k y s
  | _ => .stuck
def oneB (x : Out Sg (List Rv)) (k : Bool → Sg → Out Sg (List Rv)) : Out Sg (List Rv) := x.bind fun rs s => match rs with
  | [.d (.bl b)] => k b s
  | _ => .stuck
def getDs : List Rv → Option (List D)
  | [] => some []
  | .d x :: r => (getDs r).map (x :: ·)
  | _ :: _ => none
def manyD (x : Out Sg (List Rv)) (k : List D → Sg → Out Sg (List Rv)) : Out Sg (List Rv) := x.bind fun rs s => match getDs rs with
  | some ds => k ds s
  | none => .stuck
def peek (s : Sg) (i : Nat) : Option D := match s.st[i]? with
  | some (some (.d x)) => some x
  | some (some (.o x)) => some x
  | _ => none
def noX (x : Out Sg (List Rv)) : Out Sg (List Rv) := match x with
  | .exc _ _ _ => .stuck
  | x => x
def compF (f c : Sg → Out Sg (List Rv)) (tg : List Nat) : List D → List D → Sg → Out Sg (List Rv)
  | [], acc, s => .ok [.o (.lst acc)] s
  | x :: xs, acc, s => match setT tg x (wipeS s.st tg) with
    | some st => oneB (noX (c { s with st := st })) fun b s => match b with
      | true => oneD (noX (f s)) fun y s => if acc.length < sizeLine then compF f c tg xs (acc ++ [y]) s else .stuck
      | false => compF f c tg xs acc s
    | none => .stuck
def okT (st : List (Option Rv)) : List Nat → Bool
  | [] => true
  | i :: is => (match st[i]? with
    | some (some (.o _)) => false
    | some _ => true
    | none => false) && okT st is
def dfzs (f : Rv → Option D) : List Rv → Option (List D)
  | [] => some []
  | x :: xs => match f x, dfzs f xs with
    | some y, some ys => some (y :: ys)
    | _, _ => none
def dfz (mu : List Nd) : Nat → Rv → Option D
  | 0, r => (match r with
    | .d x => some x
    | _ => none)
  | k + 1, r => (match r with
    | .d x => some x
    | .o _ => none
    | .m n => (match mu[n]? with
      | some (.lst xs) => (dfzs (dfz mu k) xs).map .lst
      | some (.dct ks vs) => (dfzs (dfz mu k) vs).map (.dct ks)
      | some (.tdc ks vs) => (dfzs (dfz mu k) vs).map (.tdc ks)
      | some (.obj c ns vs) => (dfzs (dfz mu k) vs).map (.obj c ns)
      | none => none))
def lnM (mu : List Nd) : Nat → Rv → Option D
  | 0, r => (match r with
    | .d x => some x
    | _ => none)
  | k + 1, r => (match r with
    | .d x => some x
    | .o _ => none
    | .m n => (match mu[n]? with
      | some (.lst xs) => (dfzs (lnM mu k) xs).map .rl
      | _ => none))
abbrev Rec := Nat → List Rv → List Nd → Out (List Nd) Rv
def callD (rec : Rec) (f : Nat) (ds : List D) (s : Sg) : Out Sg (List Rv) := match rec f (ds.map .d) [] with
  | .ok (.d x) _ => .ok [.d x] s
  | .ok (.o x) _ => .ok [.o x] s
  | .ok (.m n) mu => (match dfz mu 8 (.m n) with
    | some x => .ok [.d x] s
    | none => .stuck)
  | .exc c fs _ => .exc c fs s
  | .stuck => .stuck
def shR (o : Nat) : Rv → Rv
  | .m n => .m (n + o)
  | r => r
def shN (o : Nat) : Nd → Nd
  | .lst xs => .lst (xs.map (shR o))
  | .dct ks vs => .dct ks (vs.map (shR o))
  | .tdc ks vs => .tdc ks (vs.map (shR o))
  | .obj c ns vs => .obj c ns (vs.map (shR o))
def callI (rec : Rec) (f : Nat) (ds : List D) (s : Sg) : Out Sg (List Rv) := match rec f (ds.map .d) [] with
  | .ok (.m n) mu => .ok [.m (n + s.mu.length)] { s with mu := s.mu ++ mu.map (shN s.mu.length) }
  | _ => .stuck
def arOk (Γ : Tab) (f n : Nat) : Bool := match Γ.fns[f]? with
  | some F => decide (n = F.ps.length)
  | none => false
def callM (rec : Rec) (f : Nat) (rs : List Rv) (s : Sg) : Out Sg (List Rv) := match rec f rs s.mu with
  | .ok r mu => .ok [r] { s with mu := mu }
  | .exc c fs mu => .exc c fs { s with mu := mu }
  | .stuck => .stuck
def callG (Γ : Tab) (rec : Rec) (f : Nat) (rs : List Rv) (s : Sg) : Out Sg (List Rv) := match arOk Γ f rs.length with
  | true => (match getDs rs with
    | some ds => callD rec f ds s
    | none => callM rec f rs s)
  | false => .stuck
def resB (s : Sg) : List Rv → Option (List D)
  | [] => some []
  | .d x :: r => (resB s r).map (x :: ·)
  | .m i :: r => (match peek s i with
    | some x => (resB s r).map (x :: ·)
    | none => none)
  | .o _ :: _ => none
def resL (s : Sg) : List Rv → Option (List D)
  | [] => some []
  | .d x :: r => (resL s r).map (x :: ·)
  | .m i :: r => (match s.st[i]? with
    | some (some (.d x)) => (resL s r).map (x :: ·)
    | some (some (.o (.lst xs))) => (resL s r).map (.rl xs :: ·)
    | some (some (.m n)) => (match lnM s.mu 4 (.m n) with
      | some x => (resL s r).map (x :: ·)
      | none => none)
    | _ => none)
  | .o _ :: _ => none
def callB (Γ : Tab) (rec : Rec) (f : Nat) (rs : List Rv) (s : Sg) : Out Sg (List Rv) := match arOk Γ f rs.length with
  | true => (match resB s rs with
    | some ds => (match rec f (ds.map .d) [] with
      | .ok (.d x) _ => if flatD x then .ok [.d x] s else .stuck
      | .ok (.o (.lst xs)) _ => if xs.all flatD then .ok [.o (.lst xs)] s else .stuck
      | _ => .stuck)
    | none => .stuck)
  | false => .stuck
def flatR : List Rv → Option (List D) := getDs
def callR (rec : Rec) (f : Nat) (ds : List D) (s : Sg) : Out Sg (List Rv) := match rec f (ds.map .d) [] with
  | .ok (.d x) _ => .ok [.d x] s
  | .ok (.m n) mu => (match mu[n]? with
    | some (.lst rs) => (match getDs rs with
      | some xs => .ok [.o (.lst xs)] s
      | none => .stuck)
    | _ => .stuck)
  | _ => .stuck
def newI (Γ : Tab) (rec : Rec) (c : Nat) (ds : List D) (s : Sg) : Out Sg (List Rv) := match Γ.cls[c]? with
  | some k => (match arOk Γ k.ini (ds.length + 1) with
    | true => (match rec k.ini (.m 0 :: ds.map .d) [.obj c [] []] with
      | .ok (.d .non) mu => .ok [.m s.mu.length] { s with mu := s.mu ++ mu.map (shN s.mu.length) }
      | _ => .stuck)
    | false => .stuck)
  | none => .stuck
def newD (Γ : Tab) (rec : Rec) (c : Nat) (ds : List D) (s : Sg) : Out Sg (List Rv) := match Γ.cls[c]? with
  | some k => (match arOk Γ k.ini (ds.length + 1) with
    | true => (match rec k.ini (.m 0 :: ds.map .d) [.obj c [] []] with
      | .ok (.d .non) mu => (match dfz mu 8 (.m 0) with
        | some x => .ok [.d x] s
        | none => .stuck)
      | .ok _ _ => .stuck
      | .exc c fs _ => .exc c fs s
      | .stuck => .stuck)
    | false => .stuck)
  | none => .stuck
def newB (Γ : Tab) (rec : Rec) (c : Nat) (ds : List D) (s : Sg) : Out Sg (List Rv) := match Γ.cls[c]? with
  | some k => (match arOk Γ k.ini (ds.length + 1) with
    | true => (match rec k.ini (.m 0 :: ds.map .d) [.obj c [] []] with
      | .ok (.d .non) mu => (match dfz mu 8 (.m 0) with
        | some x => if noL x then .ok [.d x] s else .stuck
        | none => .stuck)
      | _ => .stuck)
    | false => .stuck)
  | none => .stuck
def compMF (f : Sg → Out Sg (List Rv)) (tg : List Nat) : List D → List Rv → Sg → Out Sg (List Rv)
  | [], acc, s => .ok [.m s.mu.length] { s with mu := s.mu ++ [.lst acc] }
  | x :: xs, acc, s => match setT tg x (wipeS s.st tg) with
    | some st => (noX (f { s with st := st })).bind fun rs s => match rs with
      | [.o (.lst ys)] => if acc.length < sizeLine then compMF f tg xs (acc ++ [.m s.mu.length]) { s with mu := s.mu ++ [.lst (ys.map .d)] } else .stuck
      | _ => .stuck
    | none => .stuck
def attOk (Γ : Tab) (c k : Nat) : Bool := match Γ.cls[c]? with
  | some z => z.atts.contains k
  | none => false
def recvOf (s : Sg) : Rv → Option (Nat × List Nat)
  | .d (.obj c ns _) => some (c, ns)
  | .m n => (match s.mu[n]? with
    | some (.obj c ns _) => some (c, ns)
    | _ => none)
  | _ => none
def fldOf (Γ : Tab) (s : Sg) (k : Nat) : Rv → Option Rv
  | .d (.obj c ns vs) => if attOk Γ c k then (attF k ns vs).map .d else none
  | .m n => (match s.mu[n]? with
    | some (.obj c ns vs) => if attOk Γ c k then attM k ns vs else none
    | _ => none)
  | _ => none
def oneR (x : Out Sg (List Rv)) (k : Rv → Sg → Out Sg (List Rv)) : Out Sg (List Rv) := x.bind fun rs s => match rs with
  | [r] => k r.sh s
  | _ => .stuck
def methOf (Γ : Tab) (c k : Nat) : Option Nat := (Γ.cls[c]?).bind fun z => z.meths.lookup k
def cmOf (Γ : Tab) (c k : Nat) : Option Nat := (Γ.cls[c]?).bind fun z => if z.cms.contains k then z.meths.lookup k else none
def lkX (f : Str) : List Str → List D → Option D
  | n :: ns, v :: vs => if f = n then some v else lkX f ns vs
  | _, _ => none
def supX (k : Xl) : Option Nat → Bool
  | none => true
  | some c => k.sup.contains c
def mkX (Γ : Tab) (c : Nat) (ds : List D) : Option (List D) := match Γ.xs[c]? with
  | some k => (match k.ini, ds with
    | none, [_] => some []
    | none, _ => none
    | some _, ds => if ds.length = k.fs.length then some ds.reverse else none)
  | none => none
def ev (Γ : Tab) (rec : Rec) : E → Sg → Out Sg (List Rv)
  | .nm i, s => (match s.st[i]? with
    | some (some (.d x)) => .ok [.d x] s
    | some (some (.o x)) => .ok [.d x] { s with st := setS s.st i (.d x) }
    | some (some (.m n)) => .ok [.m n] s
    | _ => .stuck)
  | .int i, s => .ok [.d (.int i)] s
  | .str x, s => .ok [.d (.str x)] s
  | .bl b, s => .ok [.d (.bl b)] s
  | .non, s => .ok [.d .non] s
  | .gl k, s => (match Γ.cn[k]? with
    | some p => .ok [.d p.2] s
    | none => .stuck)
  | .o2 o a b, s => oneD (ev Γ rec a s) fun x s => oneD (ev Γ rec b s) fun y s => ofO (o2F o x y) s
  | .neg a, s => oneD (ev Γ rec a s) fun x s => (match x with
    | .int i => .ok [.d (.int (-i))] s
    | _ => .stuck)
  | .no a, s => oneB (ev Γ rec a s) fun b s => .ok [.d (.bl (!b))] s
  | .an a b, s => oneB (ev Γ rec a s) fun c s => (match c with
    | true => ev Γ rec b s
    | false => .ok [.d (.bl false)] s)
  | .or a b, s => oneB (ev Γ rec a s) fun c s => (match c with
    | true => .ok [.d (.bl true)] s
    | false => ev Γ rec b s)
  | .la a, s => ev Γ rec a s
  | .ie c a b, s => oneB (ev Γ rec c s) fun c s => (match c with
    | true => ev Γ rec a s
    | false => ev Γ rec b s)
  | .ch o o' a b c, s => oneD (ev Γ rec a s) fun x s => oneD (ev Γ rec b s) fun y s => (match o2F o x y with
    | some (.d (.bl true)) => oneD (ev Γ rec c s) fun z s => ofO (o2F o' y z) s
    | some (.d (.bl false)) => .ok [.d (.bl false)] s
    | _ => .stuck)
  | .isN a, s => oneD (ev Γ rec a s) fun x s => (match x with
    | .non => .ok [.d (.bl true)] s
    | _ => .ok [.d (.bl false)] s)
  | .ntN a, s => oneD (ev Γ rec a s) fun x s => (match x with
    | .non => .ok [.d (.bl false)] s
    | _ => .ok [.d (.bl true)] s)
  | .nil, s => .ok [] s
  | .cons a b, s => (ev Γ rec a s).bind fun ra s => (match ra with
    | [r] => (ev Γ rec b s).bind fun rb s => .ok (r.sh :: rb) s
    | _ => .stuck)
  | .tup a, s => manyD (ev Γ rec a s) fun ds s => if ds.length ≤ sizeLine then .ok [.d (.tup ds)] s else .stuck
  | .lst a, s => manyD (ev Γ rec a s) fun ds s => if ds.length ≤ sizeLine then .ok [.o (.lst ds)] s else .stuck
  | .dnew, s => .ok [.o (.dct [] [])] s
  | .sub a i, s => oneD (ev Γ rec a s) fun x s => oneD (ev Γ rec i s) fun y s => ofO ((subF x y).map .d) s
  | .slc a l h, s => oneD (ev Γ rec a s) fun x s => manyD (ev Γ rec l s) fun y s => (match partL y with
    | some lo => manyD (ev Γ rec h s) fun z s => (match partL z with
      | some hi => ofO (slcF lo hi x) s
      | none => .stuck)
    | none => .stuck)
  | .subs i a, s => (match peek s i with
    | some _ => oneD (ev Γ rec a s) fun y s => (match peek s i with
      | some x => ofO ((subF x y).map .d) s
      | none => .stuck)
    | none => .stuck)
  | .ins n a i, s => oneD (ev Γ rec a s) fun x s => (match peek s i with
    | some y => ofO (o2F (match n with
      | true => .ntin
      | false => .isin) x y) s
    | none => .stuck)
  | .attr a k, s => oneR (ev Γ rec a s) fun r s => ofO (fldOf Γ s k r) s
  | .call f a, s => (ev Γ rec a s).bind fun rs s => callG Γ rec f rs s
  | .new c a, s => manyD (ev Γ rec a s) fun ds s => newD Γ rec c ds s
  | .meth a k as, s => oneR (ev Γ rec a s) fun r s => (match recvOf s r with
    | some (c, ns) => (match methOf Γ c k, ns.contains k with
      | some f, false => (ev Γ rec as s).bind fun rs s => callG Γ rec f (r :: rs) s
      | _, _ => .stuck)
    | none => .stuck)
  | .clm c k as, s => (match cmOf Γ c k with
    | some f => (ev Γ rec as s).bind fun rs s => callG Γ rec f rs s
    | none => .stuck)
  | .bi b a, s => manyD (ev Γ rec a s) fun ds s => ofO (biF b ds) s
  | .bis b i, s => (match peek s i with
    | some x => ofO (biF b [x]) s
    | none => .stuck)
  | .bm b a as, s => oneR (ev Γ rec a s) fun r s => (match r with
    | .m n => (match s.mu[n]? with
      | some (.lst _) => manyD (ev Γ rec as s) fun ds s => (match s.mu[n]?, b, ds with
        | some (.lst xs), .append, [y] => if xs.length < sizeLine then .ok [.d .non] { s with mu := s.mu.set n (.lst (xs ++ [.d y])) } else .stuck
        | some (.lst _), .clear, [] => .ok [.d .non] { s with mu := s.mu.set n (.lst []) }
        | _, _, _ => .stuck)
      | _ => .stuck)
    | _ => .stuck)
  | .bms b i as, s => (match s.st[i]? with
    | some (some (.o (.lst _))) => manyD (ev Γ rec as s) fun ds s => (match s.st[i]? with
      | some (some (.o x)) => (match bmF b x ds with
        | some (r, y) => .ok [.d r] { s with st := setS s.st i (.o y) }
        | none => .stuck)
      | _ => .stuck)
    | _ => .stuck)
  | .isi a t, s => oneD (ev Γ rec a s) fun x s => ofO ((isiF Γ t x).map fun b => .d (.bl b)) s
  | .consb a b, s => oneD (ev Γ rec a s) fun x s => (ev Γ rec b s).bind fun rb s => .ok (.d x :: rb) s
  | .consp i b, s => (match s.st[i]? with
    | some (some _) => (ev Γ rec b s).bind fun rb s => .ok (.m i :: rb) s
    | _ => .stuck)
  | .callb f a, s => (ev Γ rec a s).bind fun rs s => callB Γ rec f rs s
  | .bma a b, s => oneR (ev Γ rec a s) fun r s => (match r with
    | .m n => (match s.mu[n]? with
      | some (.lst _) => (ev Γ rec b s).bind fun rs s => (match rs with
        | [.o (.lst ys)] => (match s.mu[n]? with
          | some (.lst xs) => if xs.length < sizeLine then .ok [.d .non] { s with mu := s.mu.set n (.lst (xs ++ [.m s.mu.length])) ++ [.lst (ys.map .d)] } else .stuck
          | _ => .stuck)
        | _ => .stuck)
      | _ => .stuck)
    | _ => .stuck)
  | .subm i a, s => (match s.st[i]? with
    | some (some (.m n)) => oneD (ev Γ rec a s) fun y s => (match s.mu[n]?, y with
      | some (.lst xs), .int k => (match L2.atI xs k with
        | some (.o _) => .stuck
        | some r => .ok [r] s
        | none => .stuck)
      | _, _ => .stuck)
    | _ => .stuck)
  | .methi a k as, s => oneR (ev Γ rec a s) fun r s => (match recvOf s r with
    | some (c, ns) => (match methOf Γ c k, ns.contains k with
      | some f, false => (ev Γ rec as s).bind fun rs s => (match getDs (r :: rs) with
        | some ds => (match arOk Γ f ds.length with
          | true => callI rec f ds s
          | false => .stuck)
        | none => .stuck)
      | _, _ => .stuck)
    | none => .stuck)
  | .clt a, s => (ev Γ rec a s).bind fun rs s => (match rs with
    | [.o (.lst _)] => .ok [.d .non] s
    | _ => .stuck)
  | .newb c a, s => (ev Γ rec a s).bind fun rs s => (match resL s rs with
    | some ds => newB Γ rec c ds s
    | none => .stuck)
  | .compm e tg it, s => manyD (ev Γ rec it s) fun ds s => (match okT s.st tg with
    | true => (compMF (ev Γ rec e) tg ds [] s).bind fun r s' => .ok r { s' with st := backS s.st s'.st tg }
    | false => .stuck)
  | .dd k v, s => (match v with
    | .int i => .ok [.o (.dct [.int k] [.int i])] s
    | .bl b => .ok [.o (.dct [.int k] [.bl b])] s
    | _ => .stuck)
  | .xat a f, s => oneD (ev Γ rec a s) fun x s => (match x with
    | .xc c fs => (match Γ.xs[c]? with
      | some k => ofO ((lkX f k.fs fs).map .d) s
      | none => .stuck)
    | _ => .stuck)
  | .xis a q, s => oneD (ev Γ rec a s) fun x s => (match x with
    | .non => .ok [.d (.bl false)] s
    | .xc c _ => (match Γ.xs[c]? with
      | some k => .ok [.d (.bl (supX k q))] s
      | none => .stuck)
    | _ => .stuck)
  | .dsp k v, s => (match v with
    | .int i => .ok [.o (.dct [.str k] [.int i])] s
    | .bl b => .ok [.o (.dct [.str k] [.bl b])] s
    | _ => .stuck)
  | .ixs i a, s => (match peek s i with
    | some (.lst _) => manyD (ev Γ rec a s) fun ds s => (match peek s i, ds with
      | some (.lst xs), [.int k] => if xs.all flatD then ofO ((idxD xs k).map fun j => .d (.int (j : Nat))) s else .stuck
      | _, _ => .stuck)
    | _ => .stuck)
  | .xnw c a, s => manyD (ev Γ rec a s) fun ds s => (match mkX Γ c ds with
    | some fs => .ok [.d (.xc c fs)] s
    | none => .stuck)
  | .sl a, s => oneD (ev Γ rec a s) fun x s => (match lsD x with
    | some xs => (match strsD xs with
      | some ss => if ss.length < 4000 then .ok [.d (.int (dedup ss).length)] s else .stuck
      | none => .stuck)
    | none => .stuck)
  | .join a b, s => oneD (ev Γ rec a s) fun x s => (match x with
    | .str z => oneD (ev Γ rec b s) fun y s => (match y with
      | .lst xs => (match strsD xs with
        | some ss => if (ss.map (·.length)).sum + ss.length * z.length ≤ 16777216 then .ok [.d (.str (PySem.Txt.join z ss))] s else .stuck
        | none => .stuck)
      | _ => .stuck)
    | _ => .stuck)
  | .gets i a b, s => (match peek s i with
    | some (.tdc _ _) => oneD (ev Γ rec a s) fun k s => oneD (ev Γ rec b s) fun z s => (match peek s i with
      | some (.tdc ks vs) => ofO ((tkOf k).map fun q => .d ((tget q ks vs).getD z)) s
      | _ => .stuck)
    | some (.dct _ _) => oneD (ev Γ rec a s) fun k s => oneD (ev Γ rec b s) fun z s => (match peek s i with
      | some (.dct ks vs) => if keyD k then .ok [.d ((dget k ks vs).getD z)] s else .stuck
      | _ => .stuck)
    | _ => .stuck)
  | .gets1 i a, s => (match peek s i with
    | some (.tdc _ _) => oneD (ev Γ rec a s) fun k s => (match peek s i with
      | some (.tdc ks vs) => ofO ((tkOf k).map fun q => .d ((tget q ks vs).getD .non)) s
      | _ => .stuck)
    | some (.dct _ _) => oneD (ev Γ rec a s) fun k s => (match peek s i with
      | some (.dct ks vs) => if keyD k then .ok [.d ((dget k ks vs).getD .non)] s else .stuck
      | _ => .stuck)
    | _ => .stuck)
  | .eqs neg i j, s => (match peek s i, peek s j with
    | some x, some y => ofO ((eqF x y).map fun b => .d (.bl (if neg then !b else b))) s
    | _, _ => .stuck)
  | .callr f a, s => manyD (ev Γ rec a s) fun ds s => (match arOk Γ f ds.length with
    | true => callR rec f ds s
    | false => .stuck)
  | .newi c a, s => manyD (ev Γ rec a s) fun ds s => newI Γ rec c ds s
  | .isis i t, s => (match peek s i with
    | some x => ofO ((isiF Γ t x).map fun b => .d (.bl b)) s
    | none => .stuck)
  | .isNs neg i, s => (match peek s i with
    | some .non => .ok [.d (.bl (!neg))] s
    | some _ => .ok [.d (.bl neg)] s
    | none => .stuck)
  | .popl i, s => (match s.st[i]? with
    | some (some (.o (.lst xs))) => (match xs[xs.length - 1]? with
      | some y => .ok [.d y] { s with st := setS s.st i (.o (.lst xs.dropLast)) }
      | none => .stuck)
    | _ => .stuck)
  | .tnew, s => .ok [.o (.tdc [] [])] s
  | .tdsp k v, s => oneD (noX (ev Γ rec k s)) fun x s => oneD (noX (ev Γ rec v s)) fun y s => (match tkOf x with
    | some _ => .ok [.o (.tdc [x] [y])] s
    | none => .stuck)
  | .sdf i a b, s => (match s.st[i]? with
    | some (some (.o (.dct _ _))) => oneD (ev Γ rec a s) fun k s => oneD (ev Γ rec b s) fun z s => (match s.st[i]? with
      | some (some (.o (.dct ks vs))) => if keyD k && decide (ks.length < sizeLine) then (match dget k ks vs with
        | some v => .ok [.d v] s
        | none => .ok [.d z] { s with st := setS s.st i (.o (.dct (ks ++ [k]) (vs ++ [z]))) }) else .stuck
      | _ => .stuck)
    | _ => .stuck)
  | .sdt i a b, s => (match s.st[i]? with
    | some (some (.o (.tdc _ _))) => oneD (ev Γ rec a s) fun k s => oneD (ev Γ rec b s) fun z s => (match s.st[i]?, tkOf k with
      | some (some (.o (.tdc ks vs))), some q => if ks.length < sizeLine then (match tget q ks vs with
        | some v => .ok [.d v] s
        | none => .ok [.d z] { s with st := setS s.st i (.o (.tdc (ks ++ [k]) (vs ++ [z]))) }) else .stuck
      | _, _ => .stuck)
    | _ => .stuck)
  | .pk i, s => (match s.st[i]? with
    | some (some (.o (.dct ks vs))) => .ok (ks.map .d) { s with st := setS s.st i (.d (.dct ks vs)) }
    | some (some (.o (.tdc ks vs))) => .ok (ks.map .d) { s with st := setS s.st i (.d (.tdc ks vs)) }
    | _ => .stuck)
  | .rev a, s => oneD (ev Γ rec a s) fun x s => (match x with
    | .lst xs => .ok [.o (.lst xs.reverse)] s
    | _ => .stuck)
  | .cl a, s => oneR (ev Γ rec a s) fun r s => (match r with
    | .m n => (match s.mu[n]? with
      | some (.lst xs) => .ok [.d (.int xs.length)] s
      | _ => .stuck)
    | _ => .stuck)
  | .cs a b, s => oneR (ev Γ rec a s) fun r s => (match r with
    | .m n => oneD (ev Γ rec b s) fun y s => (match s.mu[n]?, y with
      | some (.lst xs), .int k => (match L2.atI xs k with
        | some (.o _) => .stuck
        | some r => .ok [r] s
        | none => .stuck)
      | _, _ => .stuck)
    | _ => .stuck)
  | .ci neg a b, s => oneD (ev Γ rec a s) fun x s => oneR (ev Γ rec b s) fun r s => (match r with
    | .m n => (match s.mu[n]?, tkOf x with
      | some (.tdc ks vs), some q => .ok [.d (.bl (if neg then !(tget q ks vs).isSome else (tget q ks vs).isSome))] s
      | _, _ => .stuck)
    | _ => .stuck)
  | .comp e tg it c, s => manyD (ev Γ rec it s) fun ds s => (match okT s.st tg with
    | true => (compF (ev Γ rec e) (ev Γ rec c) tg ds [] s).bind fun r s' => .ok r { s' with st := backS s.st s'.st tg }
    | false => .stuck)
  | .rng a, s => manyD (ev Γ rec a s) fun ds s => (match ds with
    | [.int j] => if rngOk j then .ok ((dints j.toNat 0).map .d) s else .stuck
    | _ => .stuck)
  | .rng2 a, s => manyD (ev Γ rec a s) fun ds s => (match ds with
    | [.int i, .int j] => if rngOk i && rngOk j then .ok ((dints (j - i).toNat i).map .d) s else .stuck
    | _ => .stuck)
  | .enu a, s => oneD (ev Γ rec a s) fun x s => (match lsD x with
    | some xs => .ok ((enumD 0 xs).map .d) s
    | none => .stuck)
  | .zip a, s => manyD (ev Γ rec a s) fun ds s => (match ds with
    | [.lst xs, .lst ys] => .ok ((zipD xs ys).map .d) s
    | _ => .stuck)
  | .pl a, s => oneD (ev Γ rec a s) fun x s => (match x with
    | .lst xs => .ok (xs.map .d) s
    | .rl xs => .ok (xs.map .d) s
    | .scr xs => .ok ((xs.map D.int).map .d) s
    | _ => .stuck)
  | .pt a, s => oneD (ev Γ rec a s) fun x s => (match x with
    | .tup xs => .ok (xs.map .d) s
    | _ => .stuck)
  | .ps a, s => oneD (ev Γ rec a s) fun x s => (match x with
    | .str z => .ok ((z.cps.toList.map fun c => D.str ⟨#[c]⟩).map .d) s
    | _ => .stuck)
def ndOf : D → Option Nd
  | .lst xs => some (.lst (xs.map .d))
  | .dct ks vs => some (.dct ks (vs.map .d))
  | .tdc ks vs => some (.tdc ks (vs.map .d))
  | _ => none
inductive SO where
  | nx (s : Sg) | rt (r : Rv) (s : Sg) | bk (s : Sg) | ct (s : Sg) | exc (c : Nat) (fs : List D) (s : Sg) | stuck
def onOut (x : Out Sg (List Rv)) (k : Rv → Sg → SO) : SO := match x with
  | .ok [r] s => k r s
  | .ok _ _ => .stuck
  | .exc c fs s => .exc c fs s
  | .stuck => .stuck
def onD (x : Out Sg (List Rv)) (k : D → Sg → SO) : SO := onOut x fun r s => match r with
  | .d y => k y s
  | .o y => k y s
  | .m _ => .stuck
def onB (x : Out Sg (List Rv)) (k : Bool → Sg → SO) : SO := onOut x fun r s => match r with
  | .d (.bl b) => k b s
  | _ => .stuck
def onDs (x : Out Sg (List Rv)) (k : List D → Sg → SO) : SO := match x with
  | .ok rs s => (match getDs rs with
    | some ds => k ds s
    | none => .stuck)
  | .exc c fs s => .exc c fs s
  | .stuck => .stuck
def whlF (c : Sg → Out Sg (List Rv)) (f : Sg → SO) : Nat → Sg → SO
  | 0, _ => .stuck
  | n + 1, s => onB (c s) fun b s => match b with
    | false => .nx s
    | true => match f s with
      | .nx s => whlF c f n s
      | .ct s => whlF c f n s
      | .bk s => .nx s
      | r => r
def forF (f : Sg → SO) (tg : List Nat) : List D → Sg → SO
  | [], s => .nx s
  | x :: xs, s => match setT tg x s.st with
    | some st => (match f { s with st := st } with
      | .nx s => forF f tg xs s
      | .ct s => forF f tg xs s
      | .bk s => .nx s
      | r => r)
    | none => .stuck
def formF (f : Sg → SO) (i n : Nat) : Nat → Nat → Sg → SO
  | 0, _, _ => .stuck
  | m + 1, k, s => match s.mu[n]? with
    | some (.lst rs) => (match rs[k]? with
      | some (.o _) => .stuck
      | some r => (match f { s with st := setS s.st i r } with
        | .nx s => formF f i n m (k + 1) s
        | .ct s => formF f i n m (k + 1) s
        | .bk s => .nx s
        | r => r)
      | none => .nx s)
    | _ => .stuck
def fuel : Nat := 100000
def ex (Γ : Tab) (rec : Rec) : S → Sg → SO
  | .skip, s => .nx s
  | .seq a b, s => (match ex Γ rec a s with
    | .nx s => ex Γ rec b s
    | r => r)
  | .asg i e, s => onOut (ev Γ rec e s) fun r s => .nx { s with st := setS s.st i r }
  | .ast is e, s => onD (ev Γ rec e s) fun x s => (match setT is x s.st with
    | some st => .nx { s with st := st }
    | none => .stuck)
  | .aug i o e, s => (match peek s i with
    | some x => onD (ev Γ rec e s) fun y s => (match o2F o x y with
      | some (.d z) => .nx { s with st := setS s.st i (.d z) }
      | _ => .stuck)
    | none => .stuck)
  | .seta i k e, s => onOut (ev Γ rec e s) fun r s => (match s.st[i]?, r.sh with
    | some (some (.m n)), r => (match s.mu[n]? with
      | some (.obj c ns vs) => if attOk Γ c k && decide (ns.length < 1000) then .nx { s with mu := s.mu.set n (.obj c (attPut k r ns vs).1 (attPut k r ns vs).2) } else .stuck
      | _ => .stuck)
    | _, _ => .stuck)
  | .setam i k e, s => onOut (ev Γ rec e s) fun r s => (match s.st[i]?, r with
    | some (some (.m n)), .o x => (match s.mu[n]?, ndOf x with
      | some (.obj c ns vs), some nd => if attOk Γ c k && decide (ns.length < 1000) then .nx { s with mu := s.mu.set n (.obj c (attPut k (.m s.mu.length) ns vs).1 (attPut k (.m s.mu.length) ns vs).2) ++ [nd] } else .stuck
      | _, _ => .stuck)
    | _, _ => .stuck)
  | .sets i j e, s => onD (ev Γ rec e s) fun y s => (match peek s i with
    | some _ => onD (ev Γ rec j s) fun k s => (match s.st[i]? with
      | some (some (.o x)) => (match setF x k y with
        | some z => .nx { s with st := setS s.st i (.o z) }
        | none => .stuck)
      | _ => .stuck)
    | none => .stuck)
  | .setv b j e, s => onD (ev Γ rec e s) fun y s => onOut (ev Γ rec b s) fun r s => (match r with
    | .m n => onD (ev Γ rec j s) fun k s => (match s.mu[n]?, k with
      | some (.lst xs), .int k => (match L2.ixN xs.length k with
        | some p => .nx { s with mu := s.mu.set n (.lst (xs.set p (.d y))) }
        | none => .stuck)
      | some (.tdc ks vs), k => (match tkOf k with
        | some q => if ks.length < sizeLine then .nx { s with mu := s.mu.set n (.tdc (tputK q k (.d y) ks vs).1 (tputK q k (.d y) ks vs).2) } else .stuck
        | none => .stuck)
      | _, _ => .stuck)
    | _ => .stuck)
  | .ifs c a b, s => onB (ev Γ rec c s) fun t s => (match t with
    | true => ex Γ rec a s
    | false => ex Γ rec b s)
  | .whl c a, s => whlF (ev Γ rec c) (ex Γ rec a) fuel s
  | .fors tg it a, s => onDs (ev Γ rec it s) fun ds s => forF (ex Γ rec a) tg ds s
  | .asm i e, s => onOut (ev Γ rec e s) fun r s => (match r with
    | .o x => (match ndOf x with
      | some nd => .nx { s with st := setS s.st i (.m s.mu.length), mu := s.mu ++ [nd] }
      | none => .stuck)
    | _ => .stuck)
  | .form i j a, s => (match s.st[j]? with
    | some (some (.m n)) => formF (ex Γ rec a) i n fuel 0 s
    | _ => .stuck)
  | .ret e, s => onOut (ev Γ rec e s) fun r s => .rt r s
  | .retm i, s => (match s.st[i]? with
    | some (some r) => .rt r s
    | _ => .stuck)
  | .exp e, s => onOut (ev Γ rec e s) fun _ s => .nx s
  | .never, _ => .stuck
  | .mv i j, s => (match s.st[j]? with
    | some (some (.o x)) => .nx { s with st := setS (s.st.set j none) i (.o x) }
    | _ => .stuck)
  | .rse c a, s => onDs (ev Γ rec a s) fun ds s => (match mkX Γ c ds with
    | some fs => .exc c fs s
    | none => .stuck)
  | .tr b c i j e, s => (match ex Γ rec b s with
    | .exc c' fs s => (match Γ.xs[c']? with
      | some k => (match k.sup.contains c with
        | true => (match ev Γ rec e { s with st := setS s.st i (.d (.xc c' fs)) } with
          | .ok [r] s => .nx { s with st := (setS s.st j r).set i none }
          | _ => .stuck)
        | false => .exc c' fs s)
      | none => .stuck)
    | r => r)
  | .brk, s => .bk s
  | .cnt, s => .ct s
def run (Γ : Tab) : Nat → Rec
  | 0 => fun _ _ _ => .stuck
  | n + 1 => fun f args mu => match Γ.fns[f]? with
    | some F => (match decide (args.length = F.ps.length) with
      | true => (match ex Γ (run Γ n) F.body ⟨args.map some ++ List.replicate (F.N.length - args.length) none, mu⟩ with
        | .nx s => .ok (.d .non) s.mu
        | .rt r s => .ok r s.mu
        | .exc c fs s => .exc c fs s.mu
        | _ => .stuck)
      | false => .stuck)
    | none => .stuck
end Mp
namespace L2
open PySem PySem.Spec PyProof.Rows
mutual
def NKv (H : Hp) : NestedKey → V → Prop
  | .none, v => v = .non
  | .num i, v => v = .int i ∨ ∃ b, v = .bl b ∧ i = (if b = true then 1 else 0)
  | .text x, v => v = .str x
  | .tup ks, v => ∃ a vs, v = .ref a ∧ H a = some (.tup vs) ∧ NKvs H ks vs
def NKvs (H : Hp) : List NestedKey → List V → Prop
  | [], vs => vs = []
  | k :: ks, vs => ∃ v r, vs = v :: r ∧ NKv H k v ∧ NKvs H ks r
end
section
variable {P : Program} {w : World} {H H' : Hp} {h : Heap}
mutual
theorem NKv.is (ok : HOk P w H h) : ∀ (k : NestedKey) (v : V) (u : Value), NKv H k v → RelV v u → NestedIs h k u
  | .none, _, u, e, r => by cases (show _ = V.non from e); cases (show u = .none from r); exact .none
  | .num i, _, u, e, r => by
    rcases (show _ ∨ _ from e) with e | ⟨b, e, e2⟩
    · subst e; obtain ⟨t, rfl⟩ := r; exact .int _ _
    · subst e; cases (show u = .bool b from r); exact .bool e2
  | .text x, _, u, e, r => by cases (show _ = V.str x from e); obtain ⟨t, rfl⟩ := r; exact .text _ _
  | .tup ks, _, u, ⟨a, vs, e, hh, q⟩, r => by
    subst e
    cases (show u = .ref a from r)
    obtain ⟨_, its, rl, o, h1, h2, n, h3⟩ := (show ObjOk P w H h a (.tup vs) from ok a _ hh)
    exact .tup h1 h2 h3 (by simpa using NKvs.is ok ks vs its q rl)
theorem NKvs.is (ok : HOk P w H h) : ∀ (ks : List NestedKey) (vs : List V) (us : List Value), NKvs H ks vs → Vals vs us → NestedAll h ks us
  | [], _, us, e, r => by cases (show _ = [] from e); cases r; exact .nil
  | k :: ks, _, us, ⟨v, t, e, h1, h2⟩, r => by
    subst e
    cases r with
    | cons r1 r2 => exact .cons (NKv.is ok k v _ h1 r1) (NKvs.is ok ks t _ h2 r2)
end
mutual
theorem NKv.stay (k0 : ∀ a vs, H a = some (.tup vs) → H' a = some (.tup vs)) : ∀ (k : NestedKey) (v : V), NKv H k v → NKv H' k v
  | .none, _, e => e
  | .num _, _, e => e
  | .text _, _, e => e
  | .tup ks, _, ⟨a, vs, e, hh, q⟩ => ⟨a, vs, e, k0 a vs hh, NKvs.stay k0 ks vs q⟩
theorem NKvs.stay (k0 : ∀ a vs, H a = some (.tup vs) → H' a = some (.tup vs)) : ∀ (ks : List NestedKey) (vs : List V), NKvs H ks vs → NKvs H' ks vs
  | [], _, e => e
  | k :: ks, _, ⟨v, t, e, h1, h2⟩ => ⟨v, t, e, NKv.stay k0 k v h1, NKvs.stay k0 ks t h2⟩
end
end
abbrev NT : Type := List (NestedKey × Addr × V)
def atN (kvs : NT) (k : NestedKey) : Option V := (kvs.find? fun x => decide (x.1 = k)).map (·.2.2)
def putN (kvs : NT) (k : NestedKey) (a : Addr) (v : V) : NT := if (kvs.any fun x => decide (x.1 = k)) = true then kvs.map (fun x => if x.1 = k then (x.1, x.2.1, v) else x) else kvs ++ [(k, a, v)]
def KN (kvs : NT) (xs : List (NestedKey × Addr × Value)) : Prop := Paired (fun p q => p.1 = q.1 ∧ p.2.1 = q.2.1 ∧ RelV p.2.2 q.2.2) kvs xs
theorem atN_pos {p : NestedKey × Addr × V} {r : NT} {k : NestedKey} (e : p.1 = k) : atN (p :: r) k = some p.2.2 := by simp [atN, List.find?_cons, e]
theorem atN_neg {p : NestedKey × Addr × V} {r : NT} {k : NestedKey} (e : ¬ p.1 = k) : atN (p :: r) k = atN r k := by simp [atN, List.find?_cons, e]
theorem atN_any (k : NestedKey) : ∀ kvs : NT, (kvs.any fun x => decide (x.1 = k)) = (atN kvs k).isSome
  | [] => rfl
  | p :: r => by
    rw [List.any_cons]
    by_cases e : p.1 = k
    · simp only [atN_pos e, decide_eq_true e, Bool.true_or, Option.isSome_some]
    · rw [atN_neg e, decide_eq_false e, Bool.false_or]; exact atN_any k r
theorem KN.val {kvs : NT} {xs : List (NestedKey × Addr × Value)} (r : KN kvs xs) (k : NestedKey) : RelO (atN kvs k) ((atKey xs k).map (·.2)) := by
  unfold KN at r
  induction r with
  | nil => exact True.intro
  | @cons p q ps qs h t ih =>
    by_cases e : p.1 = k
    · rw [atN_pos e]
      have e2 : q.1 = k := h.1.symm.trans e
      simp only [atKey, List.find?_cons, e2, decide_true, Option.map_some]
      exact h.2.2
    · rw [atN_neg e]
      have e2 : ¬ q.1 = k := fun z => e (h.1.trans z)
      simp only [atKey, List.find?_cons, e2, decide_false] at ih ⊢
      exact ih
theorem KN.repl {k : NestedKey} {v : V} {u : Value} (hv : RelV v u) {kvs : NT} {xs : List (NestedKey × Addr × Value)} (r : KN kvs xs) : KN (kvs.map (fun x => if x.1 = k then (x.1, x.2.1, v) else x)) (xs.map (putAt k u)) := by
  unfold KN at r
  induction r with
  | nil => exact .nil
  | @cons p q ps qs h t ih =>
    refine .cons ?_ ih
    by_cases e : p.1 = k
    · have e2 : q.1 = k := h.1.symm.trans e
      simp only [putAt, if_pos e, if_pos e2]
      exact ⟨h.1, h.2.1, hv⟩
    · have e2 : ¬ q.1 = k := fun z => e (h.1.trans z)
      simp only [putAt, if_neg e, if_neg e2]
      exact h
theorem KN.put {kvs : NT} {xs : List (NestedKey × Addr × Value)} (r : KN kvs xs) (k : NestedKey) (a : Addr) {v : V} {u : Value} (hv : RelV v u) : KN (putN kvs k a v) (storedH xs k a u) := by
  have e : (kvs.any fun x => decide (x.1 = k)) = (atKey xs k).isSome := by rw [atN_any, (r.val k).isSome_eq, Option.isSome_map]
  unfold putN storedH
  rw [e]
  by_cases c : (atKey xs k).isSome = true
  · rw [if_pos c, if_pos c]; exact r.repl hv
  · rw [if_neg c, if_neg c]; exact Paired.snoc r ⟨rfl, rfl, hv⟩
theorem length_putN (kvs : NT) (k : NestedKey) (a : Addr) (v : V) : (putN kvs k a v).length ≤ kvs.length + 1 := by
  unfold putN
  split <;> simp
def TDo (w : World) (a : Addr) (kvs : NT) : HO := .ext fun h => kvs.length ≤ sizeLine ∧ (a == sysModules) = false ∧ ∃ xs : List (NestedKey × Addr × Value), KN kvs xs ∧
  ∃ o es ep, h.get? a = some o ∧ o.ExactDict ∧ o.data = .dict es ep ∧ es.toList = xs.map (fun x => (⟨x.1.hash w, .ref x.2.1, x.2.2⟩ : DictEntry)) ∧ (xs.map (·.1)).Nodup
def NKat (H : Hp) (k : NestedKey) (b : Addr) : Prop := NKv H k (.ref b) ∧ k.depth ≤ 8
def TDat (w : World) (H : Hp) (a : Addr) (kvs : NT) : Prop := Rd H a (TDo w a kvs) ∧ ∀ p ∈ kvs, NKat H p.1 p.2.1
section
variable {X : Cx} {pins : List (Addr × Obj)} {σ : St} {H : Hp} {s : Shared} {a b : Addr} {kvs : NT} {k : NestedKey} {v : V} {u : Value} {A : Around} {E : Value → Shared → Prop}
theorem td_new {P : Program} {w : World} {H' : Hp} {h' : Heap} {xs : List (NestedKey × Addr × Value)} (z : kvs.length ≤ sizeLine) (hd : (a == sysModules) = false) (rel : KN kvs xs) (dd : h'.DictOfH (nestedKind P w) a xs) : ObjOk P w H' h' a (TDo w a kvs) := by
  obtain ⟨o, es, ep, h1, h2, h3, h4, _, h5⟩ := dd
  exact ⟨⟨z, hd, xs, rel, o, es, ep, h1, h2, h3, h4, h5⟩, ⟨o, h1⟩, fun ha hb ⟨q1, q2, ys, q3, o', es', ep', g1, g2⟩ kk => ⟨q1, q2, ys, q3, o', es', ep', kk _ g1, g2⟩⟩
theorem td_phi {P : Program} {w : World} {h : Heap} (ok : HOk P w H h) (e : Rd H a (TDo w a kvs)) : kvs.length ≤ sizeLine ∧ (a == sysModules) = false ∧ ∃ xs : List (NestedKey × Addr × Value), KN kvs xs ∧
    ∃ o es ep, h.get? a = some o ∧ o.ExactDict ∧ o.data = .dict es ep ∧ es.toList = xs.map (fun x => (⟨x.1.hash w, .ref x.2.1, x.2.2⟩ : DictEntry)) ∧ (xs.map (·.1)).Nodup :=
  (show ObjOk P w H h a (TDo w a kvs) from rd_of ok e).1
theorem td_of {P : Program} {w : World} {h : Heap} (ok : HOk P w H h) (e : TDat w H a kvs) : kvs.length ≤ sizeLine ∧ (a == sysModules) = false ∧ ∃ xs, KN kvs xs ∧ h.DictOfH (nestedKind P w) a xs := by
  obtain ⟨z, y, xs, r, o, es, ep, h1, h2, h3, h4, h5⟩ := td_phi ok e.1
  refine ⟨z, y, xs, r, o, es, ep, h1, h2, h3, h4, fun x hx => ?_, h5⟩
  have all : ∀ {l : NT} {m : List (NestedKey × Addr × Value)}, KN l m → (∀ p ∈ l, NKat H p.1 p.2.1) → ∀ x ∈ m, (nestedKind P w).is h x.1 x.2.1 := by
    intro l m q
    unfold KN at q
    induction q with
    | nil => intro _ x hx; exact nomatch hx
    | @cons p q ps qs hq t ih =>
      intro hp x hx
      rcases List.mem_cons.mp hx with rfl | hx
      · obtain ⟨g1, g2⟩ := hp p (List.mem_cons_self ..)
        rw [← hq.1, ← hq.2.1]
        exact ⟨NKv.is ok _ _ _ g1 rfl, g2⟩
      · exact ih (fun p hp' => hp p (List.mem_cons_of_mem _ hp')) x hx
  exact all r e.2 x hx
theorem td_key {P : Program} {w : World} {h : Heap} (ok : HOk P w H h) (e : NKat H k b) : (nestedKind P w).is h k b := ⟨NKv.is ok _ _ _ e.1 rfl, e.2⟩
def TGet (w : World) (H : Hp) (a : Addr) (y : V) (r : Option V) : Prop := ∃ kvs k b, TDat w H a kvs ∧ y = .ref b ∧ NKat H k b ∧ r = atN kvs k
theorem nk_room {A : Around} (hu : A.units + 9 < cLine) : A.in1.units + 8 < cLine := by rw [Around.in1_units]; omega
theorem td_getItem {y : V} {Q : Value → Shared → Prop} (hu : A.units + 9 < cLine) (I : Inv X pins σ H s) (g : TGet X.w H a y (some v)) (ry : RelV y u) (h : ∀ w' s', Inv X pins σ H s' → RelV v w' → Q w' s') :
    wpAny (model X.prog X.w) A (getItem (.ref a) u) Q E s := by
  obtain ⟨kvs, k, b, e, rfl, eb, l⟩ := g
  cases (show u = Value.ref b from ry)
  obtain ⟨z, hd, xs, rel, dd⟩ := td_of I.hok e
  obtain ⟨w', hw, rw'⟩ := RelO.some_of (v := v) (o := (atKey xs k).map (·.2)) (by rw [l]; exact rel.val k)
  obtain ⟨p, hp, hp2⟩ := Option.map_eq_some_iff.mp hw
  refine wpAny_getItem_heap (nk_room hu) (td_key I.hok eb) dd hp ?_
  rw [hp2]
  exact h w' _ (I.tok _) rw'
theorem td_type (I : Inv X pins σ H s) (e : TDat X.w H a kvs) : s.TypeIs (.ref a) "dict" := let ⟨_, _, _, _, dd⟩ := td_of I.hok e; dd.typeIs
def rIxTd (w : World) : R2 := fun x y H Q => ∃ a v, x = .ref a ∧ TGet w H a y (some v) ∧ Q v H
theorem ix_td (hu : X.A.units + 9 < cLine) : IxR X (rIxTd X.w) := by
  intro value slice pins s σ H x y v u Q I rx ry h hs
  obtain ⟨a, z, rfl, g, q⟩ := h
  cases rx
  exact PyProof.Rows.tail_any (td_type I g.choose_spec.choose_spec.choose_spec.1) PySem.F.slot_dict_getitem.lookup (td_getItem hu I g ry fun w' s3 I3 rw' => ⟨z, H, I3, rw', q⟩) hs
def rInTd (w : World) (neg : Bool) : R2 := fun x y H Q => ∃ a o, y = .ref a ∧ TGet w H a x o ∧ Q (.bl (if neg then !o.isSome else o.isSome)) H
theorem op_inTd (hu : X.A.units + 9 < cLine) : OpR X (compareOp .In) (rInTd X.w false) := by
  intro pins s σ H x y v u Q I rx ry h
  obtain ⟨a, o, rfl, ⟨kvs, k, b, e, rfl, eb, l⟩, q⟩ := h
  cases (show v = Value.ref b from rx)
  cases (show u = Value.ref a from ry)
  obtain ⟨z, hd, xs, rel, dd⟩ := td_of I.hok e
  refine wpAny_in_heap (nk_room hu) (td_key I.hok eb) hd dd ?_
  have q2 := (rel.val k).isSome_eq
  rw [Option.isSome_map] at q2
  rw [← q2, ← l]
  exact ⟨.bl o.isSome, H, I.tok _, rfl, q⟩
theorem op_ntTd (hu : X.A.units + 9 < cLine) : OpR X (compareOp .NotIn) (rInTd X.w true) := by
  intro pins s σ H x y v u Q I rx ry h
  obtain ⟨a, o, rfl, ⟨kvs, k, b, e, rfl, eb, l⟩, q⟩ := h
  cases (show v = Value.ref b from rx)
  cases (show u = Value.ref a from ry)
  obtain ⟨z, hd, xs, rel, dd⟩ := td_of I.hok e
  refine wpAny_notIn_heap (nk_room hu) (td_key I.hok eb) hd dd ?_
  have q2 := (rel.val k).isSome_eq
  rw [Option.isSome_map] at q2
  rw [← q2, ← l]
  exact ⟨.bl (!o.isSome), H, I.tok _, rfl, q⟩
def rSetTd (w : World) : TSet := fun o i v H Q => ∃ a kvs k b, o = .ref a ∧ H a = some (TDo w a kvs) ∧ (∀ p ∈ kvs, NKat H p.1 p.2.1) ∧ i = .ref b ∧ NKat H k b ∧ kvs.length < sizeLine ∧ Q (upd H a (TDo w a (putN kvs k b v)))
theorem set_td (hu : X.A.units + 9 < cLine) : PSet X (rSetTd X.w) := by
  intro pins s σ H o i v ov iv u Q I ro ri rv h
  obtain ⟨a, kvs, k, b, rfl, e, ek, rfl, eb, hl, q⟩ := h
  cases (show ov = Value.ref a from ro)
  cases (show iv = Value.ref b from ri)
  obtain ⟨z, hd, xs, rel, dd⟩ := td_of I.hok (⟨.inl e, ek⟩ : TDat X.w H a kvs)
  have hz : xs.length ≤ sizeLine := by rw [← Paired.length rel]; exact z
  have hl2 : (putN kvs k b v).length ≤ sizeLine := by have := length_putN kvs k b v; omega
  refine wpAny_setItem_heap (hsz := hz) (nk_room hu) (td_key I.hok eb) dd fun h' dd' hs => ⟨_, ?_, q⟩
  have he : ∃ q, h'.get? a = some q := let ⟨q, _, _, hq, _⟩ := dd'; ⟨q, hq⟩
  exact d_write I (by rw [e]; exact True.intro) hs he (td_new hl2 hd (rel.put k b rv) dd')
end
def tTSetd (w : World) (td ty tx : TE) : TE := fun σ H Q => td σ H fun x H1 => ∃ a kvs0, x = .ref a ∧ TDat w H1 a kvs0 ∧ ty σ H1 fun y H2 => tx σ H2 fun z H3 => ∃ kvs k b, H3 a = some (TDo w a kvs) ∧ (∀ p ∈ kvs, NKat H3 p.1 p.2.1) ∧ y = .ref b ∧ NKat H3 k b ∧ kvs.length < sizeLine ∧
  (∀ v, atN kvs k = some v → Q v H3) ∧ (atN kvs k = none → Q z (upd H3 a (TDo w a (putN kvs k b z))))
def tTGet2 (w : World) (td ty tx : TE) : TE := fun σ H Q => td σ H fun x H1 => ∃ a kvs0, x = .ref a ∧ TDat w H1 a kvs0 ∧ ty σ H1 fun y H2 => tx σ H2 fun z H3 => ∃ o, TGet w H3 a y o ∧ Q (o.getD z) H3
def tTGet1 (w : World) (td ty : TE) : TE := fun σ H Q => td σ H fun x H1 => ∃ a kvs0, x = .ref a ∧ TDat w H1 a kvs0 ∧ ty σ H1 fun y H2 => ∃ o, TGet w H2 a y o ∧ Q (o.getD .non) H2
section
variable {X : Cx} {o e f : Expr} {td ty tx : TE} {apos cpos : Pos}
theorem td_noDict {pins : List (Addr × Obj)} {σ : St} {H : Hp} {s : Shared} {a : Addr} {kvs : NT} (I : Inv X pins σ H s) (e : TDat X.w H a kvs) : ∀ b, Value.ref a = .ref b → ∃ ob, s.heap.get? b = some ob ∧ ob.dict = none := by
  obtain ⟨_, _, _, _, o, _, _, h1, h2, _⟩ := td_phi I.hok e.1
  intro b q
  cases q
  exact ⟨o, h1, h2.2.1⟩
theorem pe_tsetd (hu : X.A.units + 9 < cLine) (ho : PE X o td) (he : PE X e ty) (hf : PE X f tx) (m : M2 X o "setdefault" apos e f cpos) : PE X (.Call (.Attribute o "setdefault" apos) [e, f] [] cpos) (tTSetd X.w td ty tx) := by
  refine ⟨fun pins s σ H Q I h => ?_⟩
  refine wpAny_Call_method m.base m.few m.line PySem.F.plainAttrs_dict PySem.F.slot_dict_setdefault PySem.F.type_dict_setdefault (thn (ho.run pins s σ H _ I h) fun u s1 ⟨x, H1, I1, rx, a, kvs0, ex, d, q1⟩ => ?_)
  subst ex
  obtain rfl : u = Value.ref a := rx
  refine ⟨td_type I1 d, td_noDict I1 d, ?_⟩
  rw [m.trees]
  refine Calls.callWith_builtin rfl (Calls.evalArgs_plain (Calls.spliced_cons (thn (he.run pins s1 σ H1 _ I1 q1) fun iv s2 ⟨y, H2, I2, ry, q2⟩ =>
    Calls.spliced_cons (thn (hf.run pins s2 σ H2 _ I2 q2) fun fv s3 ⟨z, H3, I3, rz, kvs, k, b, ea, ek, ey, eb, hl, q3, q4⟩ => Calls.spliced_nil ?_))))
  subst ey
  cases (show iv = Value.ref b from ry)
  obtain ⟨zz, hd, xs, rel, dd⟩ := td_of I3.hok (⟨.inl ea, ek⟩ : TDat X.w H3 a kvs)
  have hz : xs.length ≤ sizeLine := by rw [← Paired.length rel]; exact zz
  refine call_setdefault_heap (hsz := hz) (nk_room hu) (td_key I3.hok eb) hd dd (fun p hp => ?_) fun hn h' dd' hs => ?_
  · have q := rel.val k
    rw [hp] at q
    cases q0 : atN kvs k with
    | none => rw [q0] at q; exact (show False from q).elim
    | some v0 => rw [q0] at q; exact ⟨v0, H3, I3.tok _, q, q3 v0 q0⟩
  · have q := rel.val k
    rw [hn] at q
    cases q0 : atN kvs k with
    | some v0 => rw [q0] at q; exact (show False from q).elim
    | none =>
      have hl2 : (putN kvs k b z).length ≤ sizeLine := by have := length_putN kvs k b z; omega
      have he : ∃ q, h'.get? a = some q := let ⟨q, _, _, hq, _⟩ := dd'; ⟨q, hq⟩
      exact ⟨z, _, d_write I3 (by rw [ea]; exact True.intro) hs he (td_new hl2 hd (rel.put k b rz) dd'), rz, q4 q0⟩
theorem RelO.gd {v z : V} {o : Option V} {o' : Option Value} {z' : Value} (h : RelO o o') (hz : RelV z z') : RelV (o.getD z) (o'.getD z') := by
  cases o <;> cases o' <;> first | exact hz | exact h | exact (show False from h).elim
theorem pe_tget2 (hu : X.A.units + 9 < cLine) (ho : PE X o td) (he : PE X e ty) (hf : PE X f tx) (m : M2 X o "get" apos e f cpos) : PE X (.Call (.Attribute o "get" apos) [e, f] [] cpos) (tTGet2 X.w td ty tx) := by
  refine ⟨fun pins s σ H Q I h => ?_⟩
  refine wpAny_Call_method m.base m.few m.line PySem.F.plainAttrs_dict PySem.F.slot_dict_get PySem.F.type_dict_get (thn (ho.run pins s σ H _ I h) fun u s1 ⟨x, H1, I1, rx, a, kvs0, ex, d, q1⟩ => ?_)
  subst ex
  obtain rfl : u = Value.ref a := rx
  refine ⟨td_type I1 d, td_noDict I1 d, ?_⟩
  rw [m.trees]
  refine Calls.callWith_builtin rfl (Calls.evalArgs_plain (Calls.spliced_cons (thn (he.run pins s1 σ H1 _ I1 q1) fun iv s2 ⟨y, H2, I2, ry, q2⟩ =>
    Calls.spliced_cons (thn (hf.run pins s2 σ H2 _ I2 q2) fun fv s3 ⟨z, H3, I3, rz, ov, ⟨kvs, k, b, g, ey, eb, l⟩, q3⟩ => Calls.spliced_nil ?_))))
  subst ey
  cases (show iv = Value.ref b from ry)
  obtain ⟨zz, hd, xs, rel, dd⟩ := td_of I3.hok g
  refine call_meetsIn PySem.F.slot_dict_get dd.typeIs PySem.F.entry_dict_get (PySem.F.args_dict_get_3 _ _ _) (meetsH_dict_get_default (nestedKind X.prog X.w) a b hd fv) ⟨nk_room hu, k, xs, td_key I3.hok eb, dd, _, H3, I3.tok _, ?_, q3⟩
  rw [l]
  exact RelO.gd (v := .non) (rel.val k) rz
theorem pe_tget1 (hu : X.A.units + 9 < cLine) (ho : PE X o td) (he : PE X e ty) (m : M1 X o "get" apos e cpos) : PE X (.Call (.Attribute o "get" apos) [e] [] cpos) (tTGet1 X.w td ty) := by
  refine ⟨fun pins s σ H Q I h => ?_⟩
  refine wpAny_Call_method m.base m.few m.line PySem.F.plainAttrs_dict PySem.F.slot_dict_get PySem.F.type_dict_get (thn (ho.run pins s σ H _ I h) fun u s1 ⟨x, H1, I1, rx, a, kvs0, ex, d, q1⟩ => ?_)
  subst ex
  obtain rfl : u = Value.ref a := rx
  refine ⟨td_type I1 d, td_noDict I1 d, ?_⟩
  rw [m.trees]
  refine Calls.callWith_builtin rfl (Calls.evalArgs_plain (Calls.spliced_cons (thn (he.run pins s1 σ H1 _ I1 q1) fun iv s2 ⟨y, H2, I2, ry, ov, ⟨kvs, k, b, g, ey, eb, l⟩, q3⟩ => Calls.spliced_nil ?_)))
  subst ey
  cases (show iv = Value.ref b from ry)
  obtain ⟨zz, hd, xs, rel, dd⟩ := td_of I2.hok g
  refine call_meetsIn PySem.F.slot_dict_get dd.typeIs PySem.F.entry_dict_get (PySem.F.args_dict_get_2 _ _) (meetsH_dict_get (nestedKind X.prog X.w) a b hd) ⟨nk_room hu, k, xs, td_key I2.hok eb, dd, _, H2, I2.tok _, ?_, q3⟩
  rw [l]
  exact RelO.gd (v := .non) (rel.val k) rfl
end
def rLenTd (w : World) : List V → Hp → VK → Prop := fun xs H Q => ∃ (p : Addr) (kvs : NT), xs = [.ref p] ∧ TDat w H p kvs ∧ Q (.int ((kvs.length : Nat) : Int)) H
theorem call_len_td {X : Cx} : CallR X (.builtin "len") (rLenTd X.w) := by
  intro pins s σ H xs us Q I r h
  obtain ⟨p, kvs, rfl, hp, q⟩ := h
  obtain ⟨u, rfl, rx⟩ := vals1 r
  obtain rfl : u = .ref p := rx
  obtain ⟨z, hd, ys, rel, dd⟩ := td_of I.hok hp
  have hl : kvs.length = ys.length := Paired.length rel
  refine call_len_dictH hd dd (by rw [← hl]; rw [sizeLine_eq] at z; omega) ?_
  rw [← hl]
  exact ⟨.int ((kvs.length : Nat) : Int), H, I.tok _, ⟨_, rfl⟩, q⟩
def tTNew (w : World) : TE := fun _ H Q => ∀ p, H p = none → Q (.ref p) (upd H p (TDo w p []))
theorem pe_tnew {X : Cx} {pos : Pos} : PE X (.Dict [] [] pos) (tTNew X.w) := ⟨fun pins s σ H Q I h =>
  wpAny_Dict_empty ⟨.ref s.heap.objs.size, _, I.laid (a := s.heap.objs.size) (o := TDo X.w s.heap.objs.size []) (t' := s.toks) (fun _ _ q => Heap.get?_push_of_some _ q) (Nat.le_refl _)
    (td_new (Nat.zero_le _) (beq_eq_false_iff_ne.mpr (Ne.symm (Nat.ne_of_lt I.big))) .nil (Heap.DictOfH.new s.heap)), rfl, h _ (I.hok.fresh (Nat.le_refl _))⟩⟩
end L2
namespace L2
open PySem PySem.Spec PyProof.Rows
def tTDisp (w : World) (tk tv : TE) : TE := fun σ H Q => ∀ p, H p = none → tk σ (upd H p (TDo w p [])) fun x H1 => tv σ H1 fun y H2 => H2 p = some (TDo w p []) ∧ ∃ k b, x = .ref b ∧ NKat H2 k b ∧ Q (.ref p) (upd H2 p (TDo w p [(k, b, y)]))
theorem pe_tdisp {X : Cx} {pos : Pos} {ke ve : Expr} {tk tv : TE} (hu : X.A.units + 9 < cLine) (hk : PE X ke tk) (hv : PE X ve tv) : PE X (.Dict [some ke] [ve] pos) (tTDisp X.w tk tv) := by
  refine ⟨fun pins s σ H Q I q => ?_⟩
  have fresh := I.hok.fresh (Nat.le_refl s.heap.objs.size)
  have hne : (s.heap.objs.size == sysModules) = false := beq_eq_false_iff_ne.mpr (Ne.symm (Nat.ne_of_lt I.big))
  have I1 := I.laid (a := s.heap.objs.size) (o := TDo X.w s.heap.objs.size []) (h' := s.heap.push { cls := .type "dict", data := .dict #[] }) (t' := s.toks) (fun _ _ q => Heap.get?_push_of_some _ q) (Nat.le_refl _)
    (td_new (Nat.zero_le _) hne .nil (Heap.DictOfH.new s.heap))
  have hz := zip_pairTrees [some ke] [ve] X.env pos rfl rfl
  have hn := pairTrees_length [some ke] [ve] X.env pos rfl rfl
  rw [arm_eval_Dict, hz, dictDisplay_pairs (pairTrees [some ke] [ve] X.env pos) (fun e => by rw [e] at hn; cases hn) (by rw [hn]; show 1 < 17; decide)]
  refine wpAny_bind (wpAny_standAt (wpAny_bind (wpAny_subDictH (knd := nestedKind X.prog X.w) (by show _ + 8 < _; omega) (by rw [hn]; show 1 ≤ 15; decide) ?_)))
  refine pairTrees_cons_walk (thn (hk.run pins _ σ _ _ I1 (q _ fresh)) fun kw s1 ⟨x, H1, I2, rx, q1⟩ => thn (hv.run pins s1 σ H1 _ I2 q1) fun vw s2 ⟨y, H2, I3, ry, e, k, b, ex, kb, q2⟩ => pairTrees_nil_walk ?_)
  subst ex
  cases (show kw = Value.ref b from rx)
  obtain ⟨_, _, xs, r0, dd⟩ := td_of I3.hok (⟨.inl e, fun p hp => nomatch hp⟩ : TDat X.w H2 _ [])
  cases r0
  refine ⟨[(k, b, vw)], ⟨rfl, rfl, td_key I3.hok kb, trivial⟩, dd, fun h' tk2 dd' hs => wpAny_pure ⟨.ref s.heap.objs.size, _, ?_, rfl, q2⟩⟩
  have he : ∃ q, h'.get? s.heap.objs.size = some q := let ⟨q, _, _, hq, _⟩ := dd'; ⟨q, hq⟩
  exact d_write I3 (by rw [e]; exact True.intro) hs he (td_new (by show 1 ≤ sizeLine; rw [sizeLine_eq]; decide) hne (.cons ⟨rfl, rfl, ry⟩ .nil) dd')
def ItTd (w : World) (d : Addr) (o : Obj) (kvs : NT) : It :=
  ⟨fun i H => (H d = some (.frz o (TDo w d kvs)) ∧ ∀ p ∈ kvs, NKat H p.1 p.2.1) ∧ i < kvs.length, fun i H x H' => H' = H ∧ ∃ p, kvs[i]? = some p ∧ x = .ref p.2.1, fun i H => (H d = some (.frz o (TDo w d kvs)) ∧ ∀ p ∈ kvs, NKat H p.1 p.2.1) ∧ kvs.length ≤ i⟩
section
variable {X : Cx} {pins : List (Addr × Obj)} {σ : St} {H : Hp} {s : Shared} {d : Addr} {o : Obj} {kvs : NT}
theorem td_frz (I : Inv X pins σ H s) (h : H d = some (.frz o (TDo X.w d kvs))) : (d == sysModules) = false ∧ s.heap.get? d = some o ∧ o.ExactDict ∧ ∃ (es : Array DictEntry) (ep : Nat), o.data = .dict es ep ∧ es.size = kvs.length ∧
    ∀ (i : Nat) (p : NestedKey × Addr × V), kvs[i]? = some p → ∃ en : DictEntry, es[i]? = some en ∧ en.key = .ref p.2.1 := by
  obtain ⟨hd, _⟩ := (show ObjOk X.prog X.w H s.heap d (.frz o (TDo X.w d kvs)) from I.hok d _ h)
  obtain ⟨z, hs, xs, rel, o', es, ep, h1, h2, h3, h4, _⟩ := td_phi I.hok (.inr ⟨o, h⟩ : Rd H d (TDo X.w d kvs))
  have e : o = o' := Option.some.inj (hd.symm.trans h1)
  subst e
  have l1 : es.size = xs.length := by rw [← Array.length_toList, h4, List.length_map]
  refine ⟨hs, hd, h2, es, ep, h3, l1.trans (Paired.length rel).symm, fun i p hp => ?_⟩
  obtain ⟨q, hq, _, e2, _⟩ := paired_get rel hp
  refine ⟨⟨q.1.hash X.w, .ref q.2.1, q.2.2⟩, ?_, by rw [e2]⟩
  rw [← Array.getElem?_toList, h4, List.getElem?_map, hq]
  rfl
end
section
variable {P : Program} {w : World} {K : PySem.W.Frag} {tg : Expr} {d : Addr} {o : Obj} {es : Array DictEntry} {ep : Nat}
theorem turn_td {kvs : NT} (it : Addr) (hod : o.data = .dict es ep) : Turn P w K tg (ItTd w d o kvs) [it] it (fun i h => h.IsKeyIter it d i kvs.length ep) where
  mem := by simp
  obj := fun i h st b hb => by
    cases (show b = it by simpa using hb)
    obtain ⟨oi, e, c, dd⟩ := st
    exact ⟨oi, e, fun v z => by rw [dd] at z; cases z⟩
  keep := fun i h h' st k => st.at fun oi e => k it (by simp) oi e
  item := by
    intro X hP hw hK hc i pins s σ H E I hf st ⟨⟨hd, hk⟩, hi⟩
    subst hP hw hK
    obtain ⟨f0, f1, f2, f3, f4, f5⟩ := hf it (by simp)
    obtain ⟨hs, hgd, hx, es', ep', hdt, hsz, ent⟩ := td_frz I hd
    have ee := dict_ep hod hdt
    obtain ⟨e1, e2⟩ := ee
    subst e1 e2
    have hkv : kvs[i]? = some kvs[i] := List.getElem?_eq_getElem hi
    obtain ⟨en, hen, hkey⟩ := ent i _ hkv
    refine next_key_item st hgd hdt hsz hen fun h' st' sb => ?_
    have I1 : Inv X pins σ H { s with heap := h' } := I.turned (t' := s.toks) (fun b ob hb e => (sb.2 b hb).trans e) f0 f1 f3 f4 f5
    obtain ⟨oi, e, c, dd⟩ := id st'
    exact ⟨en.key, rfl, go_of (s := { s with heap := h' }) e c dd (by decide) ⟨.ref kvs[i].2.1, H, I1, hkey, ⟨rfl, _, hkv, rfl⟩, st', fun b hb => (hf b hb).1⟩⟩
  done := by
    intro X hP hw hK hc i pins s σ H E I hf st ⟨⟨hd, hk⟩, hi⟩
    subst hP hw hK
    obtain ⟨f0, f1, f2, f3, f4, f5⟩ := hf it (by simp)
    obtain ⟨hs, hgd, hx, es', ep', hdt, hsz, ent⟩ := td_frz I hd
    obtain ⟨e1, e2⟩ := dict_ep hod hdt
    subst e1 e2
    exact next_key_end (I.ok.hd hc) st hgd hdt hsz hi fun h' eb => ⟨rfl, I.turned (t' := s.toks) (fun b ob hb e => eb b ob hb e) f0 f1 f3 f4 f5⟩
  self := fun A i s Q E st h => by
    have z := turn_keysT (P := P) (w := w) (K := K) (tg := tg) (d := d) (o := o) (kvs := kvs.map fun p => ([], p.2.2)) it hod
    have y := z.self A i s Q E
    rw [List.length_map] at y
    exact y st h
end
def iKeysL (w : World) (td : TE) : TI := fun σ H R => td σ H fun x H1 => ∃ d, x = .ref d ∧ ((∃ kvs, H1 d = some (.dK kvs) ∧ ∀ od, R (Itk d od kvs) (upd H1 d (.frz od (.dK kvs)))) ∨
  ∃ kvs, H1 d = some (TDo w d kvs) ∧ (∀ p ∈ kvs, NKat H1 p.1 p.2.1) ∧ ∀ od, R (ItTd w d od kvs) (upd H1 d (.frz od (TDo w d kvs))))
theorem pi_keysL {X : Cx} {tg e : Expr} {td : TE} (he : PE X e td) : PI X tg e (iKeysL X.w td) := by
  refine ⟨fun pins s σ H R I h => thn (he.run pins s σ H _ I h) fun u s1 ⟨x, H1, I1, rx, d, ex, q⟩ => ?_⟩
  subst ex
  cases (show u = Value.ref d from rx)
  rcases q with ⟨kvs, hd, q⟩ | ⟨kvs, hd, hk, q⟩
  · obtain ⟨od, I2⟩ := I1.lock hd True.intro
    obtain ⟨hs, hgd, hx, es, ep, vs, hdt, hsz, kv, hm⟩ := I2.frzK upd_same
    refine iter_keys hs hgd hx hdt (pi_one (tk := s1.toks) I2 _ (turn_keys _ hdt) ⟨_, Heap.get?_push_size _ rfl, rfl, ?_⟩ (q od))
    rw [hsz] <;> rfl
  · obtain ⟨od, I2⟩ := I1.lock hd True.intro
    obtain ⟨hs, hgd, hx, es, ep, hdt, hsz, ent⟩ := td_frz I2 upd_same
    refine iter_keys hs hgd hx hdt (pi_one (tk := s1.toks) I2 _ (turn_td _ hdt) ⟨_, Heap.get?_push_size _ rfl, rfl, ?_⟩ (q od))
    rw [hsz] <;> rfl
end L2
namespace L2
open PySem PySem.Spec PyProof.Rows
section
variable {prog : Program} {w : World} {A : Around} {E : Value → Shared → Prop} {s : Shared}
theorem extend_rev {R : Result → Shared → Prop} {it l S : Addr} {items : Array Value} {c₀ : Nat} {res : Value} (hh : A.handled = none) (hit : s.heap.IsRevIter it l ((items.size : Int) - 1)) (hl : s.heap.IsList l items) (hne : l ≠ it) (hSi : S ≠ it) (hSl : S ≠ l) (hn : items.size ≤ sizeLine) (hS : s.heap.get? S = some { cls := .type "list", data := .seq #[] c₀ })
    (hR : ∀ h' tk acc' c', (∀ b o, b ≠ S → b ≠ it → s.heap.get? b = some o → h'.get? b = some o) → h'.get? S = some { cls := .type "list", dict := none, data := .seq acc' c', slots := #[] } → ItemsOf (fun i v => items[items.size - 1 - i]? = some v) acc' items.size → R (.ok (.ret res)) { s with heap := h', toks := tk }) :
    wpAny (model prog w) A.in1 (Builtin.List.listExtendWith (.ref S) (.ref it) res)
      (fun fin s' => match fin with | .done f => R (.ok f) s' | .again c' => c'.quiet = true ∧ codeAny (model prog w) A c' R s') (fun e s' => R (.error e) s') s := by
  have W := Walks.listRev (prog := prog) (w := w) (A := A.in1) hh it l hne items
  have hSf : S ∉ [it, l] := by simp only [List.mem_cons, List.not_mem_nil, or_false, not_or]; exact ⟨hSi, hSl⟩
  have hT : s.TypeIs (.ref it) "list_reverseiterator" := hit.typeIs
  unfold Builtin.List.listExtendWith
  refine wpAny_bind (wpAny_typeOf hT ?_)
  have h1 : Builtin.List.listSameRef (.ref S) (.ref it) = false := by simp [Builtin.List.listSameRef, hSi]
  rw [if_neg (by rw [h1]; decide)]
  refine wpAny_bind (wpAny_pyIter_revIter hit ?_)
  refine wpAny_bind (wpAny_holding ?_)
  unfold Builtin.List.listLengthHint
  refine wpAny_bind (wpAny_specialOf hT RT.nolen_lri ?_)
  show wpAny _ A.in1 (specialOf (Value.ref it) (Str.ofString "__length_hint__") >>= _) _ _ _
  refine wpAny_bind (wpAny_specialOf hT RT.hint_lri ?_)
  generalize hid : ("list_reverseiterator.__length_hint__" : String) = id0
  wp_delta
  rw [show splitId id0 = some ("list_reverseiterator", "__length_hint__") from by subst hid; decide +kernel]
  subst hid
  refine wpAny_bind (wpAny_isInstance (b := true) hT (by rw [isSubtype_type]; kernel_rfl) ?_)
  refine wpAny_pure ?_
  rw [if_neg (by decide)]
  have e0 : ((items.size : Nat) : Int) - 1 - ((0 : Nat) : Int) = (items.size : Int) - 1 := by omega
  refine wpAny_pure ⟨plainId_quiet PySem.F.plain_extend_loop _, codeAny_extend_loopS W.toS hn S hSf res items.size 0 _ #[] c₀ rfl (Nat.zero_le _) ⟨Nat.zero_le _, by rw [e0]; exact hit, hl⟩ hS (ItemsOf.nil _) fun s' acc' c' hm hS' hacc => ?_⟩
  rw [Moved.eq_with hm]
  refine hR s'.heap s'.toks acc' c' (fun b o hb hb2 e => hm.heap b o (fun hmem => ?_) e) hS' hacc
  rcases List.mem_cons.mp hmem with e' | hmem
  · exact hb e'
  · exact hb2 (List.mem_singleton.mp hmem)
theorem call_list_rev {it l : Addr} {items : Array Value} {Q : Value → Shared → Prop} (hh : A.handled = none) (hit : s.heap.IsRevIter it l ((items.size : Int) - 1)) (hl : s.heap.IsList l items) (hne : l ≠ it) (hn : items.size ≤ sizeLine)
    (hQ : ∀ h' tk acc' c', (∀ b o, b ≠ it → s.heap.get? b = some o → h'.get? b = some o) → h'.get? s.heap.objs.size = some { cls := .type "list", dict := none, data := .seq acc' c', slots := #[] } → ItemsOf (fun i v => items[items.size - 1 - i]? = some v) acc' items.size → Q (.ref s.heap.objs.size) { s with heap := h', toks := tk }) :
    wpAny (model prog w) A (call (.type "list") [.ref it]) Q E s := by
  refine callType_codes (Q₁ := fun obj s₁ => obj = .ref s.heap.objs.size ∧ s₁ = { s with heap := s.heap.push { cls := .type "list", data := .seq #[] } }) PySem.F.called_list (PySem.F.typeCall_list_1 _) PySem.F.entry_list_init
    (code_list_new _ ⟨rfl, rfl⟩) fun obj s₁ h₁ => ?_
  obtain ⟨e1, e2⟩ := h₁
  subst e1 e2
  have hS : (s.heap.push { cls := .type "list", data := .seq #[] }).get? s.heap.objs.size = some { cls := .type "list", data := .seq #[] } := Heap.get?_push_size _ rfl
  have li : it < s.heap.objs.size := by obtain ⟨o, e, _⟩ := id hit; exact Heap.lt_size e
  have ll : l < s.heap.objs.size := by obtain ⟨o, e, _⟩ := id hl; exact Heap.lt_size e
  refine ⟨⟨_, hS, rfl⟩, PySem.F.args_list_init_2 _ _, ?_⟩
  show wpAny _ _ (do let old ← Builtin.List.listItems (.ref s.heap.objs.size); Builtin.List.listUpdate (.ref s.heap.objs.size) (fun _ => #[]); letGo old.toList.reverse; Builtin.List.listExtendWith (.ref s.heap.objs.size) (.ref it) .none) _ _ _
  refine wpAny_bind ?_
  unfold Builtin.List.listItems
  refine wpAny_bind (wpAny_seqItems hS rfl (wpAny_pure ?_))
  show wpAny _ _ (updateSeq s.heap.objs.size (fun _ => #[]) >>= fun _ => letGo (#[] : Array Value).toList.reverse >>= fun _ => Builtin.List.listExtendWith (.ref s.heap.objs.size) (.ref it) .none) _ _ _
  refine wpAny_bind (wpAny_updateSeq hS rfl ?_)
  have hS₂ := Heap.get?_update_self (Obj.mapSeq (fun _ => (#[] : Array Value))) hS rfl
  have oth : ∀ b o, b ≠ s.heap.objs.size → s.heap.get? b = some o → ((s.heap.push { cls := .type "list", data := .seq #[] }).update s.heap.objs.size (Obj.mapSeq (fun _ => (#[] : Array Value)))).get? b = some o :=
    fun b o hb e => (Heap.get?_update_other _ _ (Ne.symm hb)).trans (Heap.get?_push_of_some _ e)
  refine wpAny_bind (wpAny_letGo ?_)
  refine extend_rev (A := A.in1) hh (hit.at fun o e => oth it o (Nat.ne_of_lt li) e) (hl.at fun o e => oth l o (Nat.ne_of_lt ll) e) hne (Nat.ne_of_gt li) (Nat.ne_of_gt ll) hn hS₂ (fun h' tk acc' c' hk hS' hacc => ?_)
  exact ⟨rfl, hQ h' tk acc' c' (fun b o hb e => hk b o (Nat.ne_of_lt (Heap.lt_size e)) hb (oth b o (Nat.ne_of_lt (Heap.lt_size e)) e)) hS' hacc⟩
end
def tLstRev (K : PySem.W.Frag) (te : TE) : TE := fun σ H Q => te σ H fun v H1 => ∃ (a : Addr) (xs : List V), v = .ref a ∧ SqL K H1 a xs ∧ ∀ q, H1 q = none → Q (.ref q) (upd H1 q (.lst xs.reverse))
theorem pe_lstRev {X : Cx} {e : Expr} {te : TE} {p p2 pos pos2 : Pos} (hc : X.calm = true) (hg : Gl X "list") (hm : X.mg "list" = none) (hg2 : Gl X "reversed") (hm2 : X.mg "reversed" = none) (he : PE X e te)
    (hs : starEach [e] X.env = (false, eval e X.env) :: starEach [] X.env)
    (hs2 : starEach [.Call (.Name "reversed" p2) [e] [] pos2] X.env = (false, eval (.Call (.Name "reversed" p2) [e] [] pos2) X.env) :: starEach [] X.env := by rfl) :
    PE X (.Call (.Name "list" p) [.Call (.Name "reversed" p2) [e] [] pos2] [] pos) (tLstRev X.K te) := by
  refine ⟨fun pins s σ H Q I h => ?_⟩
  refine Call_ (ld_blt I hg hm boot_list (PyProof.Rows.callWith_type1 (args_cons (Call_ (ld_blt I hg2 hm2 PyProof.Rows.boot_reversed (PyProof.Rows.callWith_type1 (args_cons (thn (he.run pins s σ H _ I h) fun u s1 ⟨v, H1, I1, r1, q1⟩ => args_nil ?_) hs) hs rfl))) hs2) hs2 rfl))
  obtain ⟨a, xs, ev, hq, q⟩ := q1
  subst ev
  obtain rfl : u = Value.ref a := r1
  obtain ⟨its, rv, p', hz⟩ := I1.list hq
  refine call_reversed_list p'.isList (args_nil ?_)
  have I2 : Inv X pins σ H1 { s1 with heap := s1.heap.push (revObj a ((its.toArray.size : Int) - 1)) } := I1.kept (t' := s1.toks) fun b o e => Heap.get?_push_of_some _ e
  obtain ⟨f0, f1, f2, f3, f4, f5⟩ := I1.fpOk (H' := H1) (b := s1.heap.objs.size) (Nat.le_refl _) (I1.hok.fresh (Nat.le_refl _))
  have hl := p'.isList
  obtain ⟨ol, hol, _⟩ := id hl
  have hne : a ≠ s1.heap.objs.size := Nat.ne_of_lt (Heap.lt_size hol)
  have hn : its.toArray.size ≤ sizeLine := by rw [List.size_toArray, ← rv.length]; exact hz
  refine call_list_rev (s := { s1 with heap := s1.heap.push (revObj a ((its.toArray.size : Int) - 1)) }) (I1.ok.hd hc) ⟨_, Heap.get?_push_size _ rfl, rfl, rfl⟩ (hl.push _) hne hn fun h' tk acc c' hk hS hi => ?_
  generalize hS0 : (s1.heap.push (revObj a ((its.toArray.size : Int) - 1))).objs.size = S at hS ⊢
  have hfr : H1 S = none := by rw [← hS0]; exact I2.hok.fresh (Nat.le_refl _)
  have I3 : Inv X pins σ H1 { s1 with heap := h', toks := tk } := I2.turned (t' := tk) (fun b o hb e => hk b o hb e) f0 f1 f3 f4 f5
  have hle : s1.heap.objs.size ≤ S := by rw [← hS0, Heap.size_push]; omega
  refine ⟨.ref S, upd H1 S (.lst xs.reverse), ?_, rfl, q S hfr⟩
  have new : ObjOk X.prog X.w (upd H1 S (.lst xs.reverse)) h' S (.lst xs.reverse) := ⟨by rw [List.length_reverse]; exact hz, acc.toList, c', RT.vals_rev rv hi, by rw [Array.toArray_toList]; exact hS⟩
  exact I2.turnedNew (t' := tk) (ch := [s1.heap.objs.size]) (fun b o hb e => hk b o (by simpa using hb) e) (fun b hb => by cases (show b = s1.heap.objs.size by simpa using hb); exact ⟨f0, f1, f2, f3, f4, f5⟩) (by rw [← hS0]; exact Nat.le_refl _) new
end L2
namespace L2
open PySem PySem.Spec
def XO (a : Addr) (cls : Value) (d : Option Addr) : HO := .ext fun h => ∃ (oe : Obj) (vs : Array Value), h.get? a = some oe ∧ Zc cls d oe ∧ oe.data = .fields vs
end L2
namespace Mp
open PySem L2
inductive Ow where
  | frz | lnt | slot (i : Nat) | mut (n : Nat) | res
  deriving DecidableEq
abbrev Wt := Addr → Option Ow
structure Tb where
  K : PySem.W.Frag
  cA : Nat → Addr
  aN : Nat → Str
  xA : Nat → Addr
  xN : Nat → List Str
  wd : World
def dK : Key → D
  | .inl i => .int i
  | .inr x => .str x
def ScrAt (T : Tb) (w : Wt) (H : Hp) (a : Addr) (ns : List Int) : Prop := (w a = some .frz ∧ Rd H a (.lst (ns.map V.int))) ∨ ∀ H', SqL T.K H' a (ns.map V.int)
theorem ScrAt.sq {T : Tb} {w : Wt} {H : Hp} {a : Addr} {ns : List Int} (h : ScrAt T w H a ns) : SqL T.K H a (ns.map V.int) := h.elim (fun h => .inl h.2) fun h => h H
mutual
def Val (T : Tb) (w : Wt) (H : Hp) : D → V → Prop
  | .non, v => v = .non
  | .bl b, v => v = .bl b
  | .int i, v => v = .int i
  | .str s, v => v = .str s
  | .tup xs, v => ∃ a vs, v = .ref a ∧ w a = some .frz ∧ H a = some (.tup vs) ∧ Vls T w H xs vs
  | .lst xs, v => ∃ a vs, v = .ref a ∧ w a = some .frz ∧ H a = some (.lst vs) ∧ Vls T w H xs vs
  | .scr ns, v => ∃ a, v = .ref a ∧ ScrAt T w H a ns
  | .rl xs, v => ∃ a vs, v = .ref a ∧ w a = some .lnt ∧ H a = some (.lst vs) ∧ Vls T w H xs vs
  | .xc c fs, v => ∃ a dx, v = .ref a ∧ w a = some .frz ∧ H a = some (XO a (.ref (T.xA c)) dx) ∧ ((fs = [] ∧ dx = none) ∨ ∃ dd gs, dx = some dd ∧ w dd = some .frz ∧ H dd = some (.xd gs) ∧ gs.map (·.1) = T.xN c ∧ Vls T w H fs (gs.map (·.2)))
  | .dct ks ds, v => ∃ a kvs, v = .ref a ∧ w a = some .frz ∧ Rd H a (.dK kvs) ∧ kvs.map (fun p => dK p.1) = ks ∧ Vls T w H ds (kvs.map (·.2))
  | .tdc ks ds, v => ∃ a kvs, v = .ref a ∧ w a = some .frz ∧ Rd H a (TDo T.wd a kvs) ∧ kvs.map (fun p => some p.1) = ks.map tkOf ∧ Vls T w H ks (kvs.map fun p => .ref p.2.1) ∧ Vls T w H ds (kvs.map (·.2.2))
  | .obj c ns ds, v => ∃ a dx fs, v = .ref a ∧ w a = some .frz ∧ H a = some (.ins (T.cA c) dx fs) ∧ fs.map (·.1) = ns.map T.aN ∧ Vls T w H ds (fs.map (·.2))
def Vls (T : Tb) (w : Wt) (H : Hp) : List D → List V → Prop
  | [], vs => vs = []
  | x :: xs, vs => ∃ v r, vs = v :: r ∧ Val T w H x v ∧ Vls T w H xs r
end
structure Ext (w : Wt) (H : Hp) (w' : Wt) (H' : Hp) : Prop where
  f : ∀ a, w a = some .frz → w' a = some .frz ∧ H' a = H a
  l : ∀ a, w a = some .lnt → w' a = some .lnt ∧ H' a = H a
instance {w : Wt} {H : Hp} {w' : Wt} {H' : Hp} : CoeFun (Ext w H w' H') (fun _ => ∀ a, w a = some .frz → w' a = some .frz ∧ H' a = H a) := ⟨Ext.f⟩
def KpA (w : Wt) (a : Addr) : Prop := w a = some .frz ∨ w a = some .lnt
instance {w : Wt} {a : Addr} : Decidable (KpA w a) := by unfold KpA; exact inferInstance
theorem Ext.of {w : Wt} {H : Hp} {w' : Wt} {H' : Hp} (k : ∀ a o, w a = some o → o = .frz ∨ o = .lnt → w' a = some o ∧ H' a = H a) : Ext w H w' H' := ⟨fun a h => k a _ h (.inl rfl), fun a h => k a _ h (.inr rfl)⟩
theorem Ext.k {w : Wt} {H : Hp} {w' : Wt} {H' : Hp} (x : Ext w H w' H') {a : Addr} {o : Ow} (h : w a = some o) (ho : o = .frz ∨ o = .lnt) : w' a = some o ∧ H' a = H a := by
  rcases ho with rfl | rfl
  · exact x.f a h
  · exact x.l a h
theorem Ext.refl {w : Wt} {H : Hp} : Ext w H w H := ⟨fun a h => ⟨h, rfl⟩, fun a h => ⟨h, rfl⟩⟩
theorem Ext.trans {w w1 w2 : Wt} {H H1 H2 : Hp} (a : Ext w H w1 H1) (b : Ext w1 H1 w2 H2) : Ext w H w2 H2 := ⟨fun c h =>
  ⟨(b c (a c h).1).1, (b c (a c h).1).2.trans (a c h).2⟩, fun c h => ⟨(b.l c (a.l c h).1).1, (b.l c (a.l c h).1).2.trans (a.l c h).2⟩⟩
section
variable {T : Tb} {w w' : Wt} {H H' : Hp}
mutual
theorem Val.mono (h : Ext w H w' H') : ∀ (d : D) (v : V), Val T w H d v → Val T w' H' d v
  | .non, _, x => x
  | .bl _, _, x => x
  | .int _, _, x => x
  | .str _, _, x => x
  | .tup xs, _, ⟨a, vs, e, h1, h2, h3⟩ => ⟨a, vs, e, (h a h1).1, by rw [(h a h1).2]; exact h2, Vls.mono h xs vs h3⟩
  | .lst xs, _, ⟨a, vs, e, h1, h2, h3⟩ => ⟨a, vs, e, (h a h1).1, by rw [(h a h1).2]; exact h2, Vls.mono h xs vs h3⟩
  | .rl xs, _, ⟨a, vs, e, h1, h2, h3⟩ => ⟨a, vs, e, (h.l a h1).1, by rw [(h.l a h1).2]; exact h2, Vls.mono h xs vs h3⟩
  | .scr ns, _, ⟨a, e, h2⟩ => ⟨a, e, h2.imp (fun ⟨h1, h2⟩ => ⟨(h a h1).1, by unfold Rd at *; rw [(h a h1).2]; exact h2⟩) id⟩
  | .xc c fs, _, ⟨a, dx, e, h1, h2, h3⟩ => ⟨a, dx, e, (h a h1).1, by rw [(h a h1).2]; exact h2, h3.imp id fun ⟨dd, gs, g1, g2, g3, g4, g5⟩ => ⟨dd, gs, g1, (h dd g2).1, (h dd g2).2.trans g3, g4, Vls.mono h fs _ g5⟩⟩
  | .dct ks ds, _, ⟨a, kvs, e, h1, h2, h4, h3⟩ => ⟨a, kvs, e, (h a h1).1, by unfold Rd at *; rw [(h a h1).2]; exact h2, h4, Vls.mono h ds _ h3⟩
  | .tdc ks ds, _, ⟨a, kvs, e, h1, h2, h4, h5, h3⟩ => ⟨a, kvs, e, (h a h1).1, by unfold Rd at *; rw [(h a h1).2]; exact h2, h4, Vls.mono h ks _ h5, Vls.mono h ds _ h3⟩
  | .obj c ns ds, _, ⟨a, dx, fs, e, h1, h2, h4, h3⟩ => ⟨a, dx, fs, e, (h a h1).1, by rw [(h a h1).2]; exact h2, h4, Vls.mono h ds _ h3⟩
theorem Vls.mono (h : Ext w H w' H') : ∀ (ds : List D) (vs : List V), Vls T w H ds vs → Vls T w' H' ds vs
  | [], _, x => x
  | x :: xs, _, ⟨v, r, e, h1, h2⟩ => ⟨v, r, e, Val.mono h x v h1, Vls.mono h xs r h2⟩
end
theorem Vls.length : ∀ {ds : List D} {vs : List V}, Vls T w H ds vs → ds.length = vs.length
  | [], _, rfl => rfl
  | x :: xs, _, ⟨v, r, e, _, h2⟩ => by subst e; simp [Vls.length h2]
theorem Vls.append : ∀ {ds es : List D} {vs us : List V}, Vls T w H ds vs → Vls T w H es us → Vls T w H (ds ++ es) (vs ++ us)
  | [], _, _, _, rfl, h => h
  | x :: xs, _, _, _, ⟨v, r, e, h1, h2⟩, h => by subst e; exact ⟨v, r ++ _, rfl, h1, Vls.append h2 h⟩
theorem Vls.get : ∀ {ds : List D} {vs : List V} {i : Nat} {d : D}, Vls T w H ds vs → ds[i]? = some d → ∃ v, vs[i]? = some v ∧ Val T w H d v
  | [], _, _, _, _, e => by simp at e
  | x :: xs, _, 0, d, ⟨v, r, e, h1, h2⟩, q => by subst e; simp at q; subst q; exact ⟨v, rfl, h1⟩
  | x :: xs, _, i + 1, d, ⟨v, r, e, h1, h2⟩, q => by
    subst e
    obtain ⟨u, h3, h4⟩ := Vls.get (i := i) h2 (by simpa using q)
    exact ⟨u, by simpa using h3, h4⟩
theorem Vls.set : ∀ {ds : List D} {vs : List V} {d : D} {v : V} (i : Nat), Vls T w H ds vs → Val T w H d v → Vls T w H (ds.set i d) (vs.set i v)
  | [], _, _, _, _, rfl, _ => rfl
  | x :: xs, _, _, _, 0, ⟨v, r, e, h1, h2⟩, h => by subst e; exact ⟨_, _, rfl, h, h2⟩
  | x :: xs, _, _, _, i + 1, ⟨v, r, e, h1, h2⟩, h => by subst e; exact ⟨_, _, rfl, h1, Vls.set i h2 h⟩
theorem Vls.drop : ∀ {ds : List D} {vs : List V} (n : Nat), Vls T w H ds vs → Vls T w H (ds.drop n) (vs.drop n)
  | _, _, 0, h => h
  | [], _, n + 1, rfl => rfl
  | x :: xs, _, n + 1, ⟨v, r, e, h1, h2⟩ => by subst e; exact Vls.drop n h2
theorem Vls.take : ∀ {ds : List D} {vs : List V} (n : Nat), Vls T w H ds vs → Vls T w H (ds.take n) (vs.take n)
  | _, _, 0, _ => rfl
  | [], _, n + 1, rfl => rfl
  | x :: xs, _, n + 1, ⟨v, r, e, h1, h2⟩ => by subst e; exact ⟨_, _, rfl, h1, Vls.take n h2⟩
end
def NdO (T : Tb) (w : Wt) (H : Hp) (a : Addr) : D → Prop
  | .lst xs => ∃ vs, H a = some (.lst vs) ∧ Vls T w H xs vs
  | .dct ks ds => ∃ kvs, H a = some (.dK kvs) ∧ kvs.map (fun p => dK p.1) = ks ∧ Vls T w H ds (kvs.map (·.2))
  | .tdc ks ds => ∃ kvs, H a = some (TDo T.wd a kvs) ∧ kvs.map (fun p => some p.1) = ks.map tkOf ∧ Vls T w H ks (kvs.map fun p => .ref p.2.1) ∧ Vls T w H ds (kvs.map (·.2.2))
  | _ => False
def Sn (T : Tb) (w : Wt) (H : Hp) : D → V → Prop
  | .lst xs, v => ∃ a vs, v = .ref a ∧ H a = some (.lst vs) ∧ Vls T w H xs vs
  | .dct ks ds, v => ∃ a kvs, v = .ref a ∧ Rd H a (.dK kvs) ∧ kvs.map (fun p => dK p.1) = ks ∧ Vls T w H ds (kvs.map (·.2))
  | .tdc ks ds, v => ∃ a kvs, v = .ref a ∧ Rd H a (TDo T.wd a kvs) ∧ kvs.map (fun p => some p.1) = ks.map tkOf ∧ Vls T w H ks (kvs.map fun p => .ref p.2.1) ∧ Vls T w H ds (kvs.map (·.2.2))
  | x, v => Val T w H x v
theorem Val.sn {T : Tb} {w : Wt} {H : Hp} : ∀ {x : D} {v : V}, Val T w H x v → Sn T w H x v
  | .lst _, _, ⟨a, vs, e, _, h⟩ => ⟨a, vs, e, h⟩
  | .dct _ _, _, ⟨a, vs, e, _, h⟩ => ⟨a, vs, e, h⟩
  | .tdc _ _, _, ⟨a, vs, e, _, h⟩ => ⟨a, vs, e, h⟩
  | .non, _, h => h
  | .bl _, _, h => h
  | .int _, _, h => h
  | .str _, _, h => h
  | .tup _, _, h => h
  | .obj _ _ _, _, h => h
  | .scr _, _, h => h
  | .rl _, _, h => h
  | .xc _ _, _, h => h
theorem NdO.sn {T : Tb} {w : Wt} {H : Hp} {a : Addr} : ∀ {x : D}, NdO T w H a x → Sn T w H x (.ref a)
  | .lst _, ⟨vs, h⟩ => ⟨a, vs, rfl, h⟩
  | .dct _ _, ⟨vs, h, h2⟩ => ⟨a, vs, rfl, .inl h, h2⟩
  | .tdc _ _, ⟨vs, h, h2⟩ => ⟨a, vs, rfl, .inl h, h2⟩
def Cv (T : Tb) (w : Wt) (al : List Addr) (H : Hp) : Rv → V → Prop
  | .d x, v => Val T w H x v
  | .m n, v => ∃ a, al[n]? = some a ∧ v = .ref a
  | .o _, _ => False
def Cvs (T : Tb) (w : Wt) (al : List Addr) (H : Hp) : List Rv → List V → Prop
  | [], vs => vs = []
  | x :: xs, vs => ∃ v r, vs = v :: r ∧ Cv T w al H x v ∧ Cvs T w al H xs r
def NdM (T : Tb) (w : Wt) (al : List Addr) (H : Hp) (a : Addr) : Nd → Prop
  | .lst xs => ∃ vs, H a = some (.lst vs) ∧ Cvs T w al H xs vs
  | .dct ks ds => ∃ kvs, H a = some (.dK kvs) ∧ kvs.map (fun p => dK p.1) = ks ∧ Cvs T w al H ds (kvs.map (·.2))
  | .tdc ks ds => ∃ kvs, H a = some (TDo T.wd a kvs) ∧ kvs.map (fun p => some p.1) = ks.map tkOf ∧ Vls T w H ks (kvs.map fun p => .ref p.2.1) ∧ Cvs T w al H ds (kvs.map (·.2.2))
  | .obj c ns ds => ∃ dx fs, H a = some (.ins (T.cA c) dx fs) ∧ fs.map (·.1) = ns.map T.aN ∧ Cvs T w al H ds (fs.map (·.2))
def Res (T : Tb) (w : Wt) (al : List Addr) (H : Hp) (ow : Ow) : Rv → V → Prop
  | .d x, v => Val T w H x v
  | .o x, v => ∃ a, v = .ref a ∧ w a = some ow ∧ NdO T w H a x
  | .m n, v => ∃ a, al[n]? = some a ∧ v = .ref a
structure Rp (T : Tb) (w : Wt) (al : List Addr) (sg : Sg) (σ : St) (H : Hp) : Prop where
  slots : ∀ i r, sg.st[i]? = some (some r) → ∃ v, σ[i]? = some (some v) ∧ Res T w al H (.slot i) r v
  muts : ∀ n d, sg.mu[n]? = some d → ∃ a, al[n]? = some a ∧ w a = some (.mut n) ∧ NdM T w al H a d
  trk : ∀ a o, w a = some o → ∃ u, H a = some u
  len : sg.st.length = σ.length
  alen : al.length = sg.mu.length
def Fr (w0 : Wt) (H0 : Hp) (w : Wt) (H : Hp) : Prop := ∀ a u, H0 a = some u → w0 a = none → w a = none ∧ H a = some u
section
variable {T : Tb} {w w' : Wt} {al al' : List Addr} {H H' : Hp} {σ : St} {sg : Sg} {w0 : Wt} {H0 : Hp}
theorem Vls.isCvs : ∀ {ds : List D} {vs : List V}, Vls T w H ds vs → Cvs T w al H (ds.map .d) vs
  | [], _, h => h
  | x :: xs, _, ⟨v, r, e, h1, h2⟩ => ⟨v, r, e, h1, Vls.isCvs h2⟩
theorem NdO.mono (h : Ext w H w' H') {a : Addr} (e : H' a = H a) : ∀ {d : D}, NdO T w H a d → NdO T w' H' a d
  | .lst xs, ⟨vs, h1, h2⟩ => ⟨vs, e.trans h1, Vls.mono h _ _ h2⟩
  | .dct ks ds, ⟨kvs, h1, h3, h2⟩ => ⟨kvs, e.trans h1, h3, Vls.mono h _ _ h2⟩
  | .tdc ks ds, ⟨kvs, h1, h3, h4, h2⟩ => ⟨kvs, e.trans h1, h3, Vls.mono h _ _ h4, Vls.mono h _ _ h2⟩
def AlX (al al' : List Addr) : Prop := ∃ r, al' = al ++ r
theorem AlX.refl {al : List Addr} : AlX al al := ⟨[], by simp⟩
theorem AlX.trans {a b c : List Addr} (x : AlX a b) (y : AlX b c) : AlX a c := by
  obtain ⟨r, rfl⟩ := x
  obtain ⟨q, rfl⟩ := y
  exact ⟨r ++ q, by simp⟩
theorem AlX.get {a b : List Addr} (x : AlX a b) {n : Nat} {p : Addr} (h : a[n]? = some p) : b[n]? = some p := by
  obtain ⟨r, rfl⟩ := x
  rw [List.getElem?_append_left (List.getElem?_eq_some_iff.mp h).1]
  exact h
theorem Cv.mono (h : Ext w H w' H') (x : AlX al al') : ∀ {r : Rv} {v : V}, Cv T w al H r v → Cv T w' al' H' r v
  | .d _, _, q => Val.mono h _ _ q
  | .m _, _, ⟨a, e, q⟩ => ⟨a, x.get e, q⟩
  | .o _, _, q => q.elim
theorem Cvs.mono (h : Ext w H w' H') (x : AlX al al') : ∀ {r : List Rv} {v : List V}, Cvs T w al H r v → Cvs T w' al' H' r v
  | [], _, q => q
  | _ :: _, _, ⟨v, r, e, h1, h2⟩ => ⟨v, r, e, Cv.mono h x h1, Cvs.mono h x h2⟩
theorem NdM.mono (h : Ext w H w' H') (x : AlX al al') {a : Addr} (e : H' a = H a) : ∀ {d : Nd}, NdM T w al H a d → NdM T w' al' H' a d
  | .lst xs, ⟨vs, h1, h2⟩ => ⟨vs, e.trans h1, Cvs.mono h x h2⟩
  | .dct ks ds, ⟨kvs, h1, h3, h2⟩ => ⟨kvs, e.trans h1, h3, Cvs.mono h x h2⟩
  | .tdc ks ds, ⟨kvs, h1, h3, h4, h2⟩ => ⟨kvs, e.trans h1, h3, Vls.mono h _ _ h4, Cvs.mono h x h2⟩
  | .obj _ _ _, ⟨dx, fs, h1, h3, h2⟩ => ⟨dx, fs, e.trans h1, h3, Cvs.mono h x h2⟩
theorem Res.mono {ow : Ow} (h : Ext w H w' H') (x : AlX al al') (k : ∀ a, w a = some ow → w' a = some ow ∧ H' a = H a) : ∀ {r : Rv} {v : V}, Res T w al H ow r v → Res T w' al' H' ow r v
  | .d _, _, q => Val.mono h _ _ q
  | .m _, _, ⟨a, e, q⟩ => ⟨a, x.get e, q⟩
  | .o _, _, ⟨a, e, q, n⟩ => ⟨a, e, (k a q).1, NdO.mono h (k a q).2 n⟩
theorem Rp.keep (R : Rp T w al sg σ H) (x : AlX al al) (h : Ext w H w' H') (hs : ∀ a i, w a = some (.slot i) → w' a = some (.slot i) ∧ H' a = H a) (hm : ∀ a n, w a = some (.mut n) → w' a = some (.mut n) ∧ H' a = H a)
    (ht : ∀ a o, w' a = some o → ∃ u, H' a = some u) : Rp T w' al sg σ H' where
  slots := fun i r e => by
    obtain ⟨v, h1, h2⟩ := R.slots i r e
    exact ⟨v, h1, h2.mono h x fun a q => hs a i q⟩
  muts := fun n d e => by
    obtain ⟨a, h1, h2, h3⟩ := R.muts n d e
    exact ⟨a, h1, (hm a n h2).1, h3.mono h x (hm a n h2).2⟩
  trk := ht
  len := R.len
  alen := R.alen
def setW (w : Wt) (a : Addr) (o : Ow) : Wt := fun b => if b = a then some o else w b
theorem setW_same {a : Addr} {o : Ow} : setW w a o a = some o := by simp [setW]
theorem setW_ne {a b : Addr} {o : Ow} (h : b ≠ a) : setW w a o b = w b := by simp [setW, h]
theorem Rp.free (R : Rp T w al sg σ H) {p : Addr} (hp : H p = none) : w p = none := by
  cases e : w p with
  | none => rfl
  | some o => obtain ⟨u, q⟩ := R.trk p o e; rw [hp] at q; cases q
theorem Ext.new (R : Rp T w al sg σ H) {p : Addr} {o : HO} {ow : Ow} (hp : H p = none) : Ext w H (setW w p ow) (upd H p o) := Ext.of fun a oo h _ => by
  have n : a ≠ p := fun e => by rw [e, R.free hp] at h; cases h
  exact ⟨by rw [setW_ne n]; exact h, upd_ne n⟩
theorem Rp.new (R : Rp T w al sg σ H) {p : Addr} {o : HO} {ow : Ow} (hp : H p = none) : Rp T (setW w p ow) al sg σ (upd H p o) := by
  have nw := R.free hp
  have k : ∀ a q, w a = some q → setW w p ow a = some q ∧ upd H p o a = H a := fun a q h => by
    have n : a ≠ p := fun e => by rw [e, nw] at h; cases h
    exact ⟨by rw [setW_ne n]; exact h, upd_ne n⟩
  refine R.keep AlX.refl (Ext.new R hp) (fun a i h => k a _ h) (fun a n h => k a _ h) fun a q h => ?_
  by_cases e : a = p
  · subst e; exact ⟨o, upd_same⟩
  · rw [setW_ne e] at h
    obtain ⟨u, z⟩ := R.trk a q h
    exact ⟨u, by rw [upd_ne e]; exact z⟩
theorem Fr.new (f : Fr w0 H0 w H) {p : Addr} {o : HO} {ow : Ow} (hp : H p = none) : Fr w0 H0 (setW w p ow) (upd H p o) := fun a u h1 h2 => by
  obtain ⟨h3, h4⟩ := f a u h1 h2
  have n : a ≠ p := fun e => by rw [e, hp] at h4; cases h4
  exact ⟨by rw [setW_ne n]; exact h3, by rw [upd_ne n]; exact h4⟩
theorem Rp.freeze (R : Rp T w al sg σ H) {p : Addr} (hp : w p = some .res) : Rp T (setW w p .frz) al sg σ H ∧ Ext w H (setW w p .frz) H := by
  have k : ∀ a q, w a = some q → q ≠ .res → setW w p .frz a = some q := fun a q h n => by
    have n : a ≠ p := fun e => by rw [e, hp] at h; exact n (Option.some.inj h).symm
    rw [setW_ne n]; exact h
  have x : Ext w H (setW w p .frz) H := Ext.of fun a oo h z => ⟨k a _ h (by rcases z with rfl | rfl <;> decide), rfl⟩
  refine ⟨R.keep AlX.refl x (fun a i h => ⟨k a _ h (by intro z; cases z), rfl⟩) (fun a n h => ⟨k a _ h (by intro z; cases z), rfl⟩) fun a q h => ?_, x⟩
  by_cases e : a = p
  · subst e; exact R.trk a _ hp
  · rw [setW_ne e] at h; exact R.trk a q h
theorem Fr.setW (f : Fr w0 H0 w H) {p : Addr} {q ow : Ow} (hp : w p = some q) : Fr w0 H0 (setW w p ow) H := fun a u h1 h2 => by
  obtain ⟨h3, h4⟩ := f a u h1 h2
  have n : a ≠ p := fun e => by rw [e, hp] at h3; cases h3
  exact ⟨by rw [setW_ne n]; exact h3, h4⟩
theorem NdO.val {a : Addr} (hw : w a = some .frz) : ∀ {d : D}, NdO T w H a d → Val T w H d (.ref a)
  | .lst xs, ⟨vs, h1, h2⟩ => ⟨a, vs, rfl, hw, h1, h2⟩
  | .dct ks ds, ⟨kvs, h1, h3, h2⟩ => ⟨a, kvs, rfl, hw, .inl h1, h3, h2⟩
  | .tdc ks ds, ⟨kvs, h1, h3, h4, h2⟩ => ⟨a, kvs, rfl, hw, .inl h1, h3, h4, h2⟩
theorem Rp.resD (R : Rp T w al sg σ H) (f : Fr w0 H0 w H) {r : Rv} {x : D} {v : V} (h : Res T w al H .res r v) (e : r = .d x ∨ r = .o x) : ∃ w', Rp T w' al sg σ H ∧ Ext w H w' H ∧ Fr w0 H0 w' H ∧ Val T w' H x v := by
  rcases e with rfl | rfl
  · exact ⟨w, R, Ext.refl, f, h⟩
  · obtain ⟨a, rfl, hw, n⟩ := h
    obtain ⟨R', X⟩ := R.freeze hw
    exact ⟨_, R', X, f.setW hw, NdO.val setW_same (n.mono X rfl)⟩
end
end Mp
namespace Mp
open PySem L2
structure Fx where
  T : Tb
  G : Tab
  rc : Rec
  w0 : Wt
  H0 : Hp
def Pt (X : Fx) (σ : St) (sg : Sg) (w : Wt) (al : List Addr) (H : Hp) : Prop := Rp X.T w al sg σ H ∧ Fr X.w0 X.H0 w H
def Le (w : Wt) (al : List Addr) (H : Hp) (w' : Wt) (al' : List Addr) (H' : Hp) : Prop := AlX al al' ∧ Ext w H w' H'
theorem Le.refl {w : Wt} {al : List Addr} {H : Hp} : Le w al H w al H := ⟨AlX.refl, Ext.refl⟩
theorem Le.trans {w w1 w2 : Wt} {al al1 al2 : List Addr} {H H1 H2 : Hp} (a : Le w al H w1 al1 H1) (b : Le w1 al1 H1 w2 al2 H2) : Le w al H w2 al2 H2 := ⟨a.1.trans b.1, a.2.trans b.2⟩
def ExR (T : Tb) (w : Wt) (H : Hp) (c : Nat) (fs : List D) (cls : Value) (d : Option Addr) : Prop :=
  cls = .ref (T.xA c) ∧ ((fs = [] ∧ d = none) ∨ ∃ dd gs, d = some dd ∧ w dd = some .frz ∧ H dd = some (.xd gs) ∧ gs.map (·.1) = T.xN c ∧ Vls T w H fs (gs.map (·.2)))
def OkG (X : Fx) (W : WX) (σ : St) (w : Wt) (al : List Addr) (H : Hp) (F : List Rv → Sg → Wt → List Addr → Hp → Prop) : Out Sg (List Rv) → Prop
  | .ok rs s' => ∀ w' al' H', Pt X σ s' w' al' H' → Le w al H w' al' H' → F rs s' w' al' H'
  | .exc c fs s' => ∀ cls d w' al' H', Pt X σ s' w' al' H' → Le w al H w' al' H' → ExR X.T w' H' c fs cls d → W cls d σ H'
  | .stuck => False
def FE (X : Fx) (Q : VK) : List Rv → Sg → Wt → List Addr → Hp → Prop := fun rs _ w al H => match rs with
  | [r] => ∀ v, Res X.T w al H .res r v → Q v H
  | _ => False
def FA (X : Fx) (Q : List V → Hp → Prop) : List Rv → Sg → Wt → List Addr → Hp → Prop := fun rs _ w al H => ∀ vs, Cvs X.T w al H rs vs → Q vs H
def FT (Q : Bool → Hp → Prop) : List Rv → Sg → Wt → List Addr → Hp → Prop := fun rs _ _ _ H => match rs with
  | [.d (.bl b)] => Q b H
  | _ => False
structure ItOk (T : Tb) (w : Wt) (H : Hp) (J : It) (ds : List D) : Prop where
  go : ∀ w' H' i, Ext w H w' H' → i < ds.length → J.go i H'
  stop : ∀ w' H' i, Ext w H w' H' → ds.length ≤ i → J.stop i H'
  yld : ∀ w' H' i d v H'', Ext w H w' H' → (∀ a o, w' a = some o → ∃ u, H' a = some u) → ds[i]? = some d → J.yld i H' v H'' → (H'' = H' ∧ Val T w' H' d v) ∨ ∃ p o, H' p = none ∧ H'' = upd H' p o ∧ Val T (setW w' p .frz) H'' d v
def FI (X : Fx) (R : It → Hp → Prop) : List Rv → Sg → Wt → List Addr → Hp → Prop := fun rs _ w al H => ∃ ds : List D, rs = ds.map .d ∧ ∀ J, ItOk X.T w H J ds → R J H
def tE (X : Fx) (W : WX) (e : E) : TE := fun σ H Q => ∃ w al sg, Pt X σ sg w al H ∧ OkG X W σ w al H (FE X Q) (ev X.G X.rc e sg)
def tA (X : Fx) (W : WX) (e : E) : TA := fun σ H Q => ∃ w al sg, Pt X σ sg w al H ∧ OkG X W σ w al H (FA X Q) (ev X.G X.rc e sg)
def tT (X : Fx) (W : WX) (e : E) : TT := fun σ H Q => ∃ w al sg, Pt X σ sg w al H ∧ OkG X W σ w al H (FT Q) (ev X.G X.rc e sg)
def tI (X : Fx) (W : WX) (e : E) : TI := fun σ H R => ∃ w al sg, Pt X σ sg w al H ∧ OkG X W σ w al H (FI X R) (ev X.G X.rc e sg)
section
variable {X : Fx} {W : WX} {σ : St} {w w1 : Wt} {al al1 : List Addr} {H H1 : Hp} {sg : Sg} {F : List Rv → Sg → Wt → List Addr → Hp → Prop} {a : E}
theorem OkG.rebase {o : Out Sg (List Rv)} (h : OkG X W σ w al H F o) (l : Le w al H w1 al1 H1) : OkG X W σ w1 al1 H1 F o := by
  cases o with
  | ok rs s => exact fun w' al' H' P L => h w' al' H' P (l.trans L)
  | exc c fs s => exact fun cls d w' al' H' P L x => h cls d w' al' H' P (l.trans L) x
  | stuck => exact h
theorem OkG.imp {F' : List Rv → Sg → Wt → List Addr → Hp → Prop} {o : Out Sg (List Rv)} (h : OkG X W σ w al H F o) (k : ∀ rs s w' al' H', Pt X σ s w' al' H' → F rs s w' al' H' → F' rs s w' al' H') : OkG X W σ w al H F' o := by
  cases o with
  | ok rs s => exact fun w' al' H' P L => k rs s w' al' H' P (h w' al' H' P L)
  | exc c fs s => exact h
  | stuck => exact h
theorem OkG.here {rs : List Rv} (P : Pt X σ sg w al H) (h : OkG X W σ w al H F (.ok rs sg)) : F rs sg w al H := h w al H P Le.refl
theorem one_ok {k : D → Sg → Out Sg (List Rv)} {Q1 : VK} (P : Pt X σ sg w al H) (h : OkG X W σ w al H F (oneD (ev X.G X.rc a sg) k))
    (hk : ∀ x v s1 w1 al1 H1, Pt X σ s1 w1 al1 H1 → Le w al H w1 al1 H1 → Val X.T w1 H1 x v → OkG X W σ w1 al1 H1 F (k x s1) → Q1 v H1) : tE X W a σ H Q1 := by
  refine ⟨w, al, sg, P, ?_⟩
  cases e : ev X.G X.rc a sg with
  | stuck => rw [e] at h; exact h
  | exc c fs s => rw [e] at h; exact h
  | ok rs s =>
    rw [e] at h
    intro w' al' H' P' L'
    match rs, h with
    | [.d x], h => exact fun v hv => hk x v s w' al' H' P' L' hv (OkG.rebase h L')
    | [.o x], h =>
      intro v hv
      obtain ⟨w2, R2, E2, f2, hv2⟩ := P'.1.resD P'.2 hv (.inr rfl)
      have L2 : Le w' al' H' w2 al' H' := ⟨AlX.refl, E2⟩
      exact hk x v s w2 al' H' ⟨R2, f2⟩ (L'.trans L2) hv2 (OkG.rebase h (L'.trans L2))
    | [.m n], h => exact (show False from h).elim
    | [], h => exact (show False from h).elim
    | r1 :: r2 :: r3, h =>
      exact (show False from by cases r1 with
        | d x => cases x <;> exact h
        | o x => exact h
        | m x => exact h).elim
theorem oneB_ok {k : Bool → Sg → Out Sg (List Rv)} {Q1 : VK} (P : Pt X σ sg w al H) (h : OkG X W σ w al H F (oneB (ev X.G X.rc a sg) k))
    (hk : ∀ b s1 w1 al1 H1, Pt X σ s1 w1 al1 H1 → Le w al H w1 al1 H1 → OkG X W σ w1 al1 H1 F (k b s1) → Q1 (.bl b) H1) : tE X W a σ H Q1 := by
  refine ⟨w, al, sg, P, ?_⟩
  cases e : ev X.G X.rc a sg with
  | stuck => rw [e] at h; exact h
  | exc c fs s => rw [e] at h; exact h
  | ok rs s =>
    rw [e] at h
    intro w' al' H' P' L'
    match rs, h with
    | [.d (.bl b)], h => exact fun v hv => by cases (show v = .bl b from hv); exact hk b s w' al' H' P' L' (OkG.rebase h L')
    | [.d .non], h => exact (show False from h).elim
    | [.d (.int _)], h => exact (show False from h).elim
    | [.d (.str _)], h => exact (show False from h).elim
    | [.d (.tup _)], h => exact (show False from h).elim
    | [.d (.lst _)], h => exact (show False from h).elim
    | [.d (.dct _ _)], h => exact (show False from h).elim
    | [.d (.obj _ _ _)], h => exact (show False from h).elim
    | [.d (.scr _)], h => exact (show False from h).elim
    | [.d (.rl _)], h => exact (show False from h).elim
    | [.d (.xc _ _)], h => exact (show False from h).elim
    | [.d (.tdc _ _)], h => exact (show False from h).elim
    | [.o x], h => exact (show False from h).elim
    | [.m n], h => exact (show False from h).elim
    | [], h => exact (show False from h).elim
    | r1 :: r2 :: r3, h =>
      exact (show False from by cases r1 with
        | d x => cases x <;> exact h
        | o x => exact h
        | m x => exact h).elim
theorem oneT_ok {k : Bool → Sg → Out Sg (List Rv)} {Q1 : Bool → Hp → Prop} (P : Pt X σ sg w al H) (h : OkG X W σ w al H F (oneB (ev X.G X.rc a sg) k))
    (hk : ∀ b s1 w1 al1 H1, Pt X σ s1 w1 al1 H1 → Le w al H w1 al1 H1 → OkG X W σ w1 al1 H1 F (k b s1) → Q1 b H1) : tT X W a σ H Q1 := by
  refine ⟨w, al, sg, P, ?_⟩
  cases e : ev X.G X.rc a sg with
  | stuck => rw [e] at h; exact h
  | exc c fs s => rw [e] at h; exact h
  | ok rs s =>
    rw [e] at h
    intro w' al' H' P' L'
    match rs, h with
    | [.d (.bl b)], h => exact hk b s w' al' H' P' L' (OkG.rebase h L')
    | [.d .non], h => exact (show False from h).elim
    | [.d (.int _)], h => exact (show False from h).elim
    | [.d (.str _)], h => exact (show False from h).elim
    | [.d (.tup _)], h => exact (show False from h).elim
    | [.d (.lst _)], h => exact (show False from h).elim
    | [.d (.dct _ _)], h => exact (show False from h).elim
    | [.d (.obj _ _ _)], h => exact (show False from h).elim
    | [.d (.scr _)], h => exact (show False from h).elim
    | [.d (.rl _)], h => exact (show False from h).elim
    | [.d (.xc _ _)], h => exact (show False from h).elim
    | [.d (.tdc _ _)], h => exact (show False from h).elim
    | [.o x], h => exact (show False from h).elim
    | [.m n], h => exact (show False from h).elim
    | [], h => exact (show False from h).elim
    | r1 :: r2 :: r3, h =>
      exact (show False from by cases r1 with
        | d x => cases x <;> exact h
        | o x => exact h
        | m x => exact h).elim
theorem Cvs.ds {T : Tb} {w : Wt} {al : List Addr} {H : Hp} : ∀ {rs : List Rv} {ds : List D} {vs : List V}, getDs rs = some ds → Cvs T w al H rs vs → Vls T w H ds vs
  | [], ds, vs, e, h => by cases e; exact h
  | .d x :: r, ds, vs, e, ⟨v, q, e2, h1, h2⟩ => by
    simp only [getDs] at e
    cases z : getDs r with
    | none => rw [z] at e; cases e
    | some ys => rw [z] at e; cases e; exact ⟨v, q, e2, h1, Cvs.ds z h2⟩
  | .o _ :: _, _, _, e, _ => by cases e
  | .m _ :: _, _, _, e, _ => by cases e
theorem many_ok {k : List D → Sg → Out Sg (List Rv)} {Q1 : List V → Hp → Prop} (P : Pt X σ sg w al H) (h : OkG X W σ w al H F (manyD (ev X.G X.rc a sg) k))
    (hk : ∀ ds vs s1 w1 al1 H1, Pt X σ s1 w1 al1 H1 → Le w al H w1 al1 H1 → Vls X.T w1 H1 ds vs → OkG X W σ w1 al1 H1 F (k ds s1) → Q1 vs H1) : tA X W a σ H Q1 := by
  refine ⟨w, al, sg, P, ?_⟩
  cases e : ev X.G X.rc a sg with
  | stuck => rw [e] at h; exact h
  | exc c fs s => rw [e] at h; exact h
  | ok rs s =>
    rw [e] at h
    intro w' al' H' P' L' vs hv
    simp only [manyD, Out.bind] at h
    cases z : getDs rs with
    | none => rw [z] at h; exact h.elim
    | some ds => rw [z] at h; exact hk ds vs s w' al' H' P' L' (Cvs.ds z hv) (OkG.rebase h L')
theorem fin_d {x : D} {v : V} {Q : VK} (P : Pt X σ sg w al H) (h : OkG X W σ w al H (FE X Q) (.ok [.d x] sg)) (hv : Val X.T w H x v) : Q v H := h.here P v hv
theorem Pt.new {p : Addr} {o : HO} {ow : Ow} (P : Pt X σ sg w al H) (hp : H p = none) : Pt X σ sg (setW w p ow) al (upd H p o) := ⟨P.1.new hp, P.2.new hp⟩
theorem Pt.le {p : Addr} {o : HO} {ow : Ow} (P : Pt X σ sg w al H) (hp : H p = none) : Le w al H (setW w p ow) al (upd H p o) := ⟨AlX.refl, Ext.new P.1 hp⟩
theorem fin_o {x : D} {p : Addr} {o : HO} {Q : VK} (P : Pt X σ sg w al H) (h : OkG X W σ w al H (FE X Q) (.ok [.o x] sg)) (hp : H p = none) (hn : NdO X.T (setW w p .res) (upd H p o) p x) : Q (.ref p) (upd H p o) :=
  h _ _ _ (P.new (ow := .res) hp) (P.le hp) (.ref p) ⟨p, rfl, setW_same, hn⟩
theorem fin_n {x : D} {p : Addr} {o : HO} {Q : VK} (P : Pt X σ sg w al H) (h : OkG X W σ w al H (FE X Q) (.ok [.d x] sg)) (hp : H p = none) (hn : Val X.T (setW w p .frz) (upd H p o) x (.ref p)) : Q (.ref p) (upd H p o) :=
  h _ _ _ (P.new (ow := .frz) hp) (P.le hp) (.ref p) hn
theorem OkG.some {o : Option Rv} {Q : VK} (h : OkG X W σ w al H (FE X Q) (ofO o sg)) : ∃ r, o = some r ∧ OkG X W σ w al H (FE X Q) (.ok [r] sg) := by
  cases o with
  | none => exact (show False from h).elim
  | some r => exact ⟨r, rfl, h⟩
end
end Mp
namespace L2
open PySem PySem.Spec PyProof.Rows
section
variable {X : Cx} {pins : List (Addr × Obj)} {σ : St} {H : Hp} {s : Shared} {l b : Addr} {xs ys zs : List V}
def rInD (neg : Bool) : R2 := fun x y H Q => ∃ a o, y = .ref a ∧ DGet H a x o ∧ Q (.bl (if neg then !o.isSome else o.isSome)) H
theorem op_inD (hu : X.A.units + 1 < cLine) : OpR X (compareOp .In) (rInD false) := by
  intro pins s σ H x y v u Q I rx ry h
  obtain ⟨a, o, rfl, g, q⟩ := h
  cases ry
  exact d_in hu I g rx fun s3 I3 => ⟨.bl o.isSome, H, I3, rfl, q⟩
theorem op_ntinD (hu : X.A.units + 1 < cLine) : OpR X (compareOp .NotIn) (rInD true) := by
  intro pins s σ H x y v u Q I rx ry h
  obtain ⟨a, o, rfl, g, q⟩ := h
  cases ry
  exact d_notIn hu I g rx fun s3 I3 => ⟨.bl (!o.isSome), H, I3, rfl, q⟩
end
end L2
namespace Mp
open PySem L2
section
variable {X : Fx} {W : WX} {σ : St} {w w1 : Wt} {al al1 : List Addr} {H H1 : Hp} {sg : Sg} {Q : VK} {Y : Cx}
def O2R (X : Fx) (W : WX) (o : O2) (r : R2) : Prop := ∀ (σ : St) (w : Wt) (al : List Addr) (H : Hp) (sg : Sg) (Q : VK) (x y : D) (v u : V), Pt X σ sg w al H → Val X.T w H x v → Val X.T w H y u → OkG X W σ w al H (FE X Q) (ofO (o2F o x y) sg) → r v u H Q
abbrev rAddM : R2 := fun x y H Q => ((∃ i j, x = .int i ∧ y = .int j ∧ Q (.int (i + j)) H) ∨ (∃ i j, x = .str i ∧ y = .str j ∧ i.length + j.length ≤ sizeLine ∧ Q (.str (i ++ j)) H)) ∨ rCat x y H Q
theorem op_addM : OpR Y (binaryOp .Add) rAddM := (op_add.or op_add_str).or op_cat
theorem o2_add : O2R X W .add rAddM := by
  intro σ w al H sg Q x y v u P hx hy h
  match x, y, h with
  | .int i, .int j, h => cases (show v = _ from hx); cases (show u = _ from hy); exact .inl (.inl ⟨i, j, rfl, rfl, fin_d P h rfl⟩)
  | .str i, .str j, h =>
    cases (show v = _ from hx); cases (show u = _ from hy)
    by_cases c : i.length + j.length ≤ sizeLine
    · rw [show o2F .add (.str i) (.str j) = some (.d (.str (i ++ j))) from if_pos c] at h
      exact .inl (.inr ⟨i, j, rfl, rfl, c, fin_d P h rfl⟩)
    · rw [show o2F .add (.str i) (.str j) = none from if_neg c] at h
      exact h.elim
  | .lst xs, .lst ys, h =>
    obtain ⟨a, vs, rfl, ha, hl, hv⟩ := hx
    obtain ⟨b, us, rfl, hb, hk, hu⟩ := hy
    by_cases c : xs.length + ys.length ≤ sizeLine
    · rw [show o2F .add (.lst xs) (.lst ys) = some (.o (.lst (xs ++ ys))) from if_pos c] at h
      exact .inr ⟨a, b, vs, us, rfl, rfl, hl, hk, by rw [← hv.length, ← hu.length]; exact c, fun p hp => fin_o P h hp ⟨_, upd_same, Vls.mono (Ext.new P.1 hp) _ _ (hv.append hu)⟩⟩
    · rw [show o2F .add (.lst xs) (.lst ys) = none from if_neg c] at h
      exact h.elim
theorem o2_sub : O2R X W .sub (rI0 fun i j => .int (i - j)) := by
  intro σ w al H sg Q x y v u P hx hy h
  match x, y, h with
  | .int i, .int j, h => cases (show v = _ from hx); cases (show u = _ from hy); exact ⟨i, j, rfl, rfl, fin_d P h rfl⟩
theorem o2_lt : O2R X W .lt (rI0 fun i j => .bl (decide (i < j))) := by
  intro σ w al H sg Q x y v u P hx hy h
  match x, y, h with
  | .int i, .int j, h => cases (show v = _ from hx); cases (show u = _ from hy); exact ⟨i, j, rfl, rfl, fin_d P h rfl⟩
theorem o2_le : O2R X W .le (rI0 fun i j => .bl (decide (i ≤ j))) := by
  intro σ w al H sg Q x y v u P hx hy h
  match x, y, h with
  | .int i, .int j, h => cases (show v = _ from hx); cases (show u = _ from hy); exact ⟨i, j, rfl, rfl, fin_d P h rfl⟩
theorem o2_gt : O2R X W .gt (rI0 fun i j => .bl (decide (j < i))) := by
  intro σ w al H sg Q x y v u P hx hy h
  match x, y, h with
  | .int i, .int j, h => cases (show v = _ from hx); cases (show u = _ from hy); exact ⟨i, j, rfl, rfl, fin_d P h rfl⟩
theorem o2_ge : O2R X W .ge (rI0 fun i j => .bl (decide (j ≤ i))) := by
  intro σ w al H sg Q x y v u P hx hy h
  match x, y, h with
  | .int i, .int j, h => cases (show v = _ from hx); cases (show u = _ from hy); exact ⟨i, j, rfl, rfl, fin_d P h rfl⟩
theorem fold_size (a : Array Nat) : ∀ (n : Nat) (b : Array Nat), ((List.replicate n a).foldl (· ++ ·) b).size = b.size + n * a.size
  | 0, b => by simp
  | n + 1, b => by rw [List.replicate_succ, List.foldl_cons, fold_size a n, Array.size_append, Nat.succ_mul]; omega
def rMulS : R2 := fun x y H Q => ∃ (z : Str) (k : Int), x = .str z ∧ y = .int k ∧ (0 ≤ k ∧ k ≤ 1000 ∧ z.length ≤ 1000) ∧ Q (.str (mulS z k)) H
theorem op_mulS : OpR Y (binaryOp .Mult) rMulS := by
  intro pins s σ H x y v u Q I r1 r2 h
  obtain ⟨z, k, rfl, rfl, ⟨c1, c2, c3⟩, q⟩ := h
  obtain ⟨t, rfl⟩ := r1
  obtain ⟨t2, rfl⟩ := r2
  have hm : z.length * k.toNat ≤ 1000 * 1000 := Nat.mul_le_mul c3 (by omega)
  refine PySem.P.mul_str (by rw [decide_eq_false (by omega), decide_eq_false (by omega)] <;> rfl) (fun h1 h2 => ?_) (fun h1 h2 => ?_) ?_
  · have : (1000 : Int) ≤ (2 ^ 63 - 1) / k := by
      rw [Int.le_ediv_iff_mul_le (by omega)]; omega
    omega
  · show decide (_ > sizeLine) = false
    rw [sizeLine_eq]
    exact decide_eq_false (by omega)
  · unfold mulS at q
    by_cases h1 : k < 1
    · rw [if_pos h1] at q ⊢; exact ⟨by rw [sizeLine_eq]; decide, .str _, H, I.tok _, ⟨_, rfl⟩, q⟩
    · rw [if_neg h1] at q ⊢
      by_cases h2 : (k == 1 || z.length == 0) = true
      · rw [if_pos h2] at q ⊢; exact ⟨.str _, H, I, ⟨_, rfl⟩, q⟩
      · rw [if_neg h2] at q ⊢
        refine ⟨?_, .str _, H, I.tok _, ⟨_, rfl⟩, q⟩
        show ((List.replicate k.toNat z.cps).foldl (· ++ ·) #[]).size ≤ sizeLine
        rw [fold_size, sizeLine_eq, Nat.mul_comm]
        show 0 + z.length * k.toNat ≤ _
        omega
abbrev rMulM : R2 := fun x y H Q => ((∃ i j, x = .int i ∧ y = .int j ∧ CMul i j ∧ Q (.int (i * j)) H) ∨ rRep x y H Q) ∨ rMulS x y H Q
theorem op_mulM : OpR Y (binaryOp .Mult) rMulM := (op_mul.or op_rep).or op_mulS
theorem Vls.flat {T : Tb} {w : Wt} {H : Hp} {ds : List D} {vs : List V} (h : Vls T w H ds vs) : ∀ k, Vls T w H (List.replicate k ds).flatten (List.replicate k vs).flatten
  | 0 => rfl
  | k + 1 => by
    rw [List.replicate_succ, List.replicate_succ, List.flatten_cons, List.flatten_cons]
    exact Vls.append h (Vls.flat h k)
theorem o2_mul : O2R X W .mul rMulM := by
  intro σ w al H sg Q x y v u P hx hy h
  match x, y, h with
  | .int i, .int j, h =>
    cases (show v = _ from hx); cases (show u = _ from hy)
    by_cases c : mulOk i j = true
    · rw [show o2F .mul (.int i) (.int j) = some (.d (.int (i * j))) from if_pos c] at h
      refine .inl (.inl ⟨i, j, rfl, rfl, ?_, fin_d P h rfl⟩)
      unfold mulOk at c
      rcases (Bool.or_eq_true _ _).mp c with q | q
      · exact .inl (by have := small_to q; omega)
      · exact .inr (by have := small_to q; omega)
    · rw [show o2F .mul (.int i) (.int j) = none from if_neg c] at h
      exact h.elim
  | .lst xs, .int k, h =>
    obtain ⟨a, vs, rfl, ha, hl, hv⟩ := hx
    cases (show u = _ from hy)
    by_cases c : smallB k 9223372036854775807 = true ∧ xs.length * k.toNat ≤ sizeLine
    · rw [show o2F .mul (.lst xs) (.int k) = some (.o (.lst (List.replicate k.toNat xs).flatten)) from if_pos c] at h
      exact .inl (.inr ⟨a, k, vs, rfl, rfl, hl, (by have := small_to c.1; omega), (by have := small_to c.1; omega), by rw [← hv.length]; exact c.2, fun p hp => fin_o P h hp ⟨_, upd_same, Vls.mono (Ext.new P.1 hp) _ _ (hv.flat _)⟩⟩)
    · rw [show o2F .mul (.lst xs) (.int k) = none from if_neg c] at h
      exact h.elim
  | .str z, .int k, h =>
    cases (show v = V.str z from hx)
    cases (show u = V.int k from hy)
    by_cases c : 0 ≤ k ∧ k ≤ 1000 ∧ z.length ≤ 1000
    · rw [show o2F .mul (.str z) (.int k) = some (.d (.str (mulS z k))) from if_pos c] at h
      exact .inr ⟨z, k, rfl, rfl, c, fin_d P h rfl⟩
    · rw [show o2F .mul (.str z) (.int k) = none from if_neg c] at h
      exact h.elim
theorem o2_fdiv : O2R X W .fdiv (rI CDivN fun i j => .int (i.fdiv j)) := by
  intro σ w al H sg Q x y v u P hx hy h
  match x, y, h with
  | .int i, .int j, h =>
    cases (show v = _ from hx); cases (show u = _ from hy)
    by_cases c : j ≠ 0 ∧ j.natAbs < 1073741824
    · rw [show o2F .fdiv (.int i) (.int j) = some (.d (.int (i.fdiv j))) from if_pos c] at h
      exact ⟨i, j, rfl, rfl, c, fin_d P h rfl⟩
    · rw [show o2F .fdiv (.int i) (.int j) = none from if_neg c] at h
      exact h.elim
theorem o2_mod : O2R X W .mod (rI (fun _ j => j ≠ 0) fun i j => .int (i.fmod j)) := by
  intro σ w al H sg Q x y v u P hx hy h
  match x, y, h with
  | .int i, .int j, h =>
    cases (show v = _ from hx); cases (show u = _ from hy)
    by_cases c : j ≠ 0
    · rw [show o2F .mod (.int i) (.int j) = some (.d (.int (i.fmod j))) from if_pos c] at h
      exact ⟨i, j, rfl, rfl, c, fin_d P h rfl⟩
    · rw [show o2F .mod (.int i) (.int j) = none from if_neg c] at h
      exact h.elim
theorem o2_pow : O2R X W .pow (rI CPow fun i j => .int (i ^ j.toNat)) := by
  intro σ w al H sg Q x y v u P hx hy h
  match x, y, h with
  | .int i, .int j, h =>
    cases (show v = _ from hx); cases (show u = _ from hy)
    by_cases c : 0 ≤ j ∧ j ≤ 1000000 ∧ i.natAbs < 2 ^ 64
    · rw [show o2F .pow (.int i) (.int j) = some (.d (.int (i ^ j.toNat))) from if_pos c] at h
      exact ⟨i, j, rfl, rfl, c, fin_d P h rfl⟩
    · rw [show o2F .pow (.int i) (.int j) = none from if_neg c] at h
      exact h.elim
mutual
theorem toPd_ok {T : Tb} {w : Wt} {H : Hp} : ∀ (n : Nat) (x : D), okN n x = true → ∃ p, toPd x = some p ∧ p.canLay0 = true ∧ p.depth ≤ n ∧ ∀ v, Val T w H x v → Dp T.K H v p
  | n, .non, _ => ⟨.none, rfl, by simp [PyData.canLay0], by simp [PyData.depth], fun v h => by cases (show v = _ from h); exact .non⟩
  | n, .bl b, _ => ⟨.bool b, rfl, by simp [PyData.canLay0], by simp [PyData.depth], fun v h => by cases (show v = _ from h); exact .bl b⟩
  | n, .int b, _ => ⟨.int b, rfl, by simp [PyData.canLay0], by simp [PyData.depth], fun v h => by cases (show v = _ from h); exact .int b⟩
  | n, .str b, c => ⟨.str b, rfl, by simp only [PyData.canLay0]; unfold okN at c; exact c, by simp [PyData.depth], fun v h => by cases (show v = _ from h); exact .str b⟩
  | n + 1, .tup xs, c => by
    obtain ⟨ps, h1, h2, h3, h4⟩ := toPds_ok (T := T) (w := w) (H := H) n xs (by unfold okN at c; exact c)
    refine ⟨.tuple ps, by simp [toPd, h1], by simpa [PyData.canLay0] using h2, by simp [PyData.depth]; omega, fun v ⟨a, vs, e, _, ha, hv⟩ => ?_⟩
    subst e
    exact .tup (.inl (.inl ha)) (h4 vs hv)
  | n + 1, .lst xs, c => by
    obtain ⟨ps, h1, h2, h3, h4⟩ := toPds_ok (T := T) (w := w) (H := H) n xs (by unfold okN at c; exact c)
    refine ⟨.list ps, by simp [toPd, h1], by simpa [PyData.canLay0] using h2, by simp [PyData.depth]; omega, fun v ⟨a, vs, e, _, ha, hv⟩ => ?_⟩
    subst e
    exact .lst (.inl (.inl ha)) (h4 vs hv)
  | 0, .tup xs, c => by simp [okN] at c
  | 0, .lst xs, c => by simp [okN] at c
  | n, .dct _ _, c => by cases n <;> simp [okN] at c
  | n, .obj _ _ _, c => by cases n <;> simp [okN] at c
  | n, .scr _, c => by cases n <;> simp [okN] at c
  | n, .rl _, c => by cases n <;> simp [okN] at c
  | n, .xc _ _, c => by cases n <;> simp [okN] at c
  | n, .tdc _ _, c => by cases n <;> simp [okN] at c
theorem toPds_ok {T : Tb} {w : Wt} {H : Hp} : ∀ (n : Nat) (xs : List D), xs.all (okN n) = true → ∃ ps, toPds xs = some ps ∧ PyData.canLayAll0 ps = true ∧ PyData.depthAll ps ≤ n ∧ ∀ vs, Vls T w H xs vs → DpAll T.K H vs ps
  | n, [], _ => ⟨[], rfl, by simp [PyData.canLayAll0], by simp [PyData.depthAll], fun vs h => by cases (show vs = [] from h); exact .nil⟩
  | n, x :: xs, c => by
    rw [List.all_cons, Bool.and_eq_true] at c
    obtain ⟨p, h1, h2, h3, h4⟩ := toPd_ok (T := T) (w := w) (H := H) n x c.1
    obtain ⟨ps, g1, g2, g3, g4⟩ := toPds_ok (T := T) (w := w) (H := H) n xs c.2
    refine ⟨p :: ps, by simp [toPds, h1, g1], by simp [PyData.canLayAll0, h2, g2], by simp [PyData.depthAll]; omega, fun vs ⟨v, r, e, hv, hr⟩ => ?_⟩
    subst e
    exact .cons (h4 v hv) (g4 r hr)
end
mutual
theorem eqB_ok : ∀ (x y : D) (p q : PyData), toPd x = some p → toPd y = some q → PyData.eqv p q = eqB x y
  | .non, y, p, q, e1, e2 => by cases e1; cases y <;> simp [toPd] at e2 <;> (first | subst e2 | (obtain ⟨_, _, rfl⟩ := e2)) <;> simp [PyData.eqv, eqB]
  | .bl b, y, p, q, e1, e2 => by cases e1; cases y <;> simp [toPd] at e2 <;> (first | subst e2 | (obtain ⟨_, _, rfl⟩ := e2)) <;> simp [PyData.eqv, eqB]
  | .int b, y, p, q, e1, e2 => by cases e1; cases y <;> simp [toPd] at e2 <;> (first | subst e2 | (obtain ⟨_, _, rfl⟩ := e2)) <;> simp [PyData.eqv, eqB]
  | .str b, y, p, q, e1, e2 => by cases e1; cases y <;> simp [toPd] at e2 <;> (first | subst e2 | (obtain ⟨_, _, rfl⟩ := e2)) <;> simp [PyData.eqv, eqB]
  | .tup xs, y, p, q, e1, e2 => by
    simp [toPd] at e1
    obtain ⟨ps, h1, rfl⟩ := e1
    cases y <;> simp [toPd] at e2 <;> (first | subst e2 | (obtain ⟨qs, h2, rfl⟩ := e2)) <;> simp [PyData.eqv, eqB]
    exact eqBs_ok xs _ ps _ h1 (by assumption)
  | .lst xs, y, p, q, e1, e2 => by
    simp [toPd] at e1
    obtain ⟨ps, h1, rfl⟩ := e1
    cases y <;> simp [toPd] at e2 <;> (first | subst e2 | (obtain ⟨qs, h2, rfl⟩ := e2)) <;> simp [PyData.eqv, eqB]
    exact eqBs_ok xs _ ps _ h1 (by assumption)
  | .dct _ _, _, _, _, e1, _ => by simp [toPd] at e1
  | .obj _ _ _, _, _, _, e1, _ => by simp [toPd] at e1
  | .scr _, _, _, _, e1, _ => by simp [toPd] at e1
  | .rl _, _, _, _, e1, _ => by simp [toPd] at e1
  | .xc _ _, _, _, _, e1, _ => by simp [toPd] at e1
  | .tdc _ _, _, _, _, e1, _ => by simp [toPd] at e1
theorem eqBs_ok : ∀ (x y : List D) (p q : List PyData), toPds x = some p → toPds y = some q → PyData.eqvAll p q = eqBs x y
  | [], y, p, q, e1, e2 => by
    cases e1
    cases y with
    | nil => cases e2; simp [PyData.eqvAll, eqBs]
    | cons y ys =>
      simp only [toPds] at e2
      cases h1 : toPd y with
      | none => rw [h1] at e2; cases e2
      | some b => cases h2 : toPds ys with
        | none => rw [h1, h2] at e2; cases e2
        | some bs => rw [h1, h2] at e2; cases e2; simp [PyData.eqvAll, eqBs]
  | x :: xs, y, p, q, e1, e2 => by
    simp only [toPds] at e1
    cases g1 : toPd x with
    | none => rw [g1] at e1; cases e1
    | some a => cases g2 : toPds xs with
      | none => rw [g1, g2] at e1; cases e1
      | some as =>
        rw [g1, g2] at e1; cases e1
        cases y with
        | nil => cases e2; simp [PyData.eqvAll, eqBs]
        | cons y ys =>
          simp only [toPds] at e2
          cases h1 : toPd y with
          | none => rw [h1] at e2; cases e2
          | some b => cases h2 : toPds ys with
            | none => rw [h1, h2] at e2; cases e2
            | some bs =>
              rw [h1, h2] at e2; cases e2
              simp only [PyData.eqvAll, eqBs]
              rw [eqB_ok x y a b g1 h1, eqBs_ok xs ys as bs g2 h2]
end
theorem eq_read {x y : D} {v u : V} {b : Bool} (hx : Val X.T w H x v) (hy : Val X.T w H y u) (e : eqF x y = some b) : ∃ d f, Dp X.T.K H v d ∧ Dp X.T.K H u f ∧ SeqAt.shaped d = true ∧ SeqAt.shaped f = true ∧ PyData.eqv d f = b := by
  unfold eqF at e
  split at e
  · rename_i c
    rw [Bool.and_eq_true] at c
    obtain ⟨p, h1, h2, h3, h4⟩ := toPd_ok (T := X.T) (w := w) (H := H) 8 x c.1
    obtain ⟨q, g1, g2, g3, g4⟩ := toPd_ok (T := X.T) (w := w) (H := H) 8 y c.2
    refine ⟨p, q, h4 v hx, g4 u hy, ?_, ?_, ?_⟩
    · unfold SeqAt.shaped; rw [h2, Bool.true_and]; exact decide_eq_true (by omega)
    · unfold SeqAt.shaped; rw [g2, Bool.true_and]; exact decide_eq_true (by omega)
    · rw [eqB_ok x y p q h1 g1]; exact Option.some.inj e
  · cases e
theorem sn_dp {x : D} {v : V} (hx : Sn X.T w H x v) (c : okN 8 x = true) : ∃ p, toPd x = some p ∧ p.canLay0 = true ∧ p.depth ≤ 8 ∧ Dp X.T.K H v p := by
  cases x with
  | lst xs =>
    obtain ⟨ps, h1, h2, h3, h4⟩ := toPds_ok (T := X.T) (w := w) (H := H) 7 xs (by unfold okN at c; exact c)
    obtain ⟨a, vs, rfl, ha, hv⟩ := hx
    exact ⟨.list ps, by simp [toPd, h1], by simpa [PyData.canLay0] using h2, by simp [PyData.depth]; omega, .lst (.inl (.inl ha)) (h4 vs hv)⟩
  | dct _ _ => simp [okN] at c
  | tdc _ _ => simp [okN] at c
  | obj _ _ _ => simp [okN] at c
  | scr _ => simp [okN] at c
  | rl _ => simp [okN] at c
  | xc _ _ => simp [okN] at c
  | non => obtain ⟨p, h1, h2, h3, h4⟩ := toPd_ok (T := X.T) (w := w) (H := H) 8 _ c; exact ⟨p, h1, h2, h3, h4 v hx⟩
  | bl b => obtain ⟨p, h1, h2, h3, h4⟩ := toPd_ok (T := X.T) (w := w) (H := H) 8 _ c; exact ⟨p, h1, h2, h3, h4 v hx⟩
  | int b => obtain ⟨p, h1, h2, h3, h4⟩ := toPd_ok (T := X.T) (w := w) (H := H) 8 _ c; exact ⟨p, h1, h2, h3, h4 v hx⟩
  | str b => obtain ⟨p, h1, h2, h3, h4⟩ := toPd_ok (T := X.T) (w := w) (H := H) 8 _ c; exact ⟨p, h1, h2, h3, h4 v hx⟩
  | tup b => obtain ⟨p, h1, h2, h3, h4⟩ := toPd_ok (T := X.T) (w := w) (H := H) 8 _ c; exact ⟨p, h1, h2, h3, h4 v hx⟩
theorem eq_readS {x y : D} {v u : V} {b : Bool} (hx : Sn X.T w H x v) (hy : Sn X.T w H y u) (e : eqF x y = some b) : ∃ d f, Dp X.T.K H v d ∧ Dp X.T.K H u f ∧ SeqAt.shaped d = true ∧ SeqAt.shaped f = true ∧ PyData.eqv d f = b := by
  unfold eqF at e
  split at e
  · rename_i c
    rw [Bool.and_eq_true] at c
    obtain ⟨p, h1, h2, h3, h4⟩ := sn_dp hx c.1
    obtain ⟨q, g1, g2, g3, g4⟩ := sn_dp hy c.2
    refine ⟨p, q, h4, g4, ?_, ?_, ?_⟩
    · unfold SeqAt.shaped; rw [h2, Bool.true_and]; exact decide_eq_true (by omega)
    · unfold SeqAt.shaped; rw [g2, Bool.true_and]; exact decide_eq_true (by omega)
    · rw [eqB_ok x y p q h1 g1]; exact Option.some.inj e
  · cases e
theorem o2_eq : O2R X W .eq (rEqD X.T.K) := by
  intro σ w al H sg Q x y v u P hx hy h
  have e0 : o2F .eq x y = (eqF x y).map fun b => .d (.bl b) := by cases x <;> rfl
  rw [e0] at h
  cases e : eqF x y with
  | none => rw [e] at h; exact h.elim
  | some b =>
    rw [e] at h
    obtain ⟨d, f, h1, h2, h3, h4, h5⟩ := eq_read hx hy e
    exact ⟨d, f, h1, h2, h3, h4, by rw [h5]; exact fin_d P h rfl⟩
theorem o2_ne : O2R X W .ne (rNeD X.T.K) := by
  intro σ w al H sg Q x y v u P hx hy h
  have e0 : o2F .ne x y = (eqF x y).map fun b => .d (.bl (!b)) := by cases x <;> rfl
  rw [e0] at h
  cases e : eqF x y with
  | none => rw [e] at h; exact h.elim
  | some b =>
    rw [e] at h
    obtain ⟨d, f, h1, h2, h3, h4, h5⟩ := eq_read hx hy e
    exact ⟨d, f, h1, h2, h3, h4, by rw [h5]; exact fin_d P h rfl⟩
end
end Mp
namespace Mp
open PySem L2
section
variable {X : Fx} {W : WX} {σ : St} {w w1 : Wt} {al al1 : List Addr} {H H1 : Hp} {sg : Sg} {Q : VK} {Y : Cx}
theorem Val.flat {T : Tb} : ∀ {x : D} {v : V}, Val T w H x v → flatD x = true → flatV v = true
  | .non, _, h, _ => by cases (show _ = V.non from h); rfl
  | .bl _, _, h, _ => by cases (show _ = V.bl _ from h); rfl
  | .int _, _, h, _ => by cases (show _ = V.int _ from h); rfl
  | .str _, _, h, _ => by cases (show _ = V.str _ from h); rfl
  | .tup _, _, _, e => by simp [flatD] at e
  | .lst _, _, _, e => by simp [flatD] at e
  | .dct _ _, _, _, e => by simp [flatD] at e
  | .obj _ _ _, _, _, e => by simp [flatD] at e
  | .scr _, _, _, e => by simp [flatD] at e
  | .rl _, _, _, e => by simp [flatD] at e
  | .xc _ _, _, _, e => by simp [flatD] at e
  | .tdc _ _, _, _, e => by simp [flatD] at e
theorem Val.eqV {T : Tb} {x y : D} {v u : V} (hx : Val T w H x v) (hy : Val T w H y u) (fx : flatD x = true) (fy : flatD y = true) : L2.eqV v u = eqB x y := by
  cases x <;> simp [flatD] at fx <;> cases y <;> simp [flatD] at fy <;>
    (first | cases (show v = V.non from hx) | cases (show v = V.bl _ from hx) | cases (show v = V.int _ from hx) | cases (show v = V.str _ from hx)) <;>
    (first | cases (show u = V.non from hy) | cases (show u = V.bl _ from hy) | cases (show u = V.int _ from hy) | cases (show u = V.str _ from hy)) <;> simp [L2.eqV, eqB]
theorem Vls.flat1 {T : Tb} : ∀ {xs : List D} {vs : List V}, Vls T w H xs vs → xs.all flatD = true → vs.all flatV = true
  | [], _, h, _ => by cases (show _ = [] from h); rfl
  | x :: xs, _, ⟨v, r, e, h1, h2⟩, c => by
    subst e
    rw [List.all_cons, Bool.and_eq_true] at c ⊢
    exact ⟨h1.flat c.1, Vls.flat1 h2 c.2⟩
theorem Vls.inV {T : Tb} {x : D} {v : V} (hx : Val T w H x v) (fx : flatD x = true) : ∀ {ys : List D} {us : List V}, Vls T w H ys us → ys.all flatD = true → L2.inV v us = ys.any fun y => eqB y x
  | [], _, h, _ => by cases (show _ = [] from h); rfl
  | y :: ys, _, ⟨u, r, e, h1, h2⟩, c => by
    subst e
    rw [List.all_cons, Bool.and_eq_true] at c
    have ih := Vls.inV hx fx h2 c.2
    unfold L2.inV at ih ⊢
    rw [List.any_cons, List.any_cons, ih, h1.eqV hx c.1 fx]
theorem keyD_ok {T : Tb} {x : D} {v : V} (hx : Val T w H x v) (k : keyD x = true) : ∃ q : Key, v = kV q ∧ x = dK q := by
  cases x <;> simp [keyD] at k
  · cases (show v = V.int _ from hx); exact ⟨.inl _, rfl, rfl⟩
  · cases (show v = V.str _ from hx); exact ⟨.inr _, rfl, rfl⟩
theorem keyEq_dK (a b : Key) : keyEq (dK a) (dK b) = decide (a = b) := by
  cases a <;> cases b <;> simp [keyEq, dK]
theorem dget_ok {T : Tb} {q : Key} : ∀ {ds : List D} (kvs : List (Key × V)), Vls T w H ds (kvs.map (·.2)) → (∀ d, dget (dK q) (kvs.map fun p => dK p.1) ds = some d → ∃ v, valV kvs q = some v ∧ Val T w H d v) ∧ (dget (dK q) (kvs.map fun p => dK p.1) ds = none → valV kvs q = none)
  | ds, [], h => by
    have e := h.length
    cases ds with
    | nil => exact ⟨fun d e => by simp [dget] at e, fun _ => rfl⟩
    | cons _ _ => simp at e
  | [], p :: r, h => by simp [Vls] at h
  | d :: ds, p :: r, ⟨v, us, e, h1, h2⟩ => by
    rw [List.map_cons] at e
    cases e
    have ih := dget_ok (q := q) r h2
    rw [List.map_cons]
    simp only [dget, keyEq_dK]
    by_cases c : p.1 = q
    · rw [if_pos (by simp [c]), valV_pos c]
      exact ⟨fun d' e => by cases e; exact ⟨_, rfl, h1⟩, fun e => by cases e⟩
    · rw [if_neg (by simp [c]), valV_neg c]
      exact ih
theorem dget_some {T : Tb} {q : Key} {ds : List D} {kvs : List (Key × V)} (h : Vls T w H ds (kvs.map (·.2))) : (dget (dK q) (kvs.map fun p => dK p.1) ds).isSome = (valV kvs q).isSome := by
  obtain ⟨h1, h2⟩ := dget_ok (q := q) kvs h
  cases e : dget (dK q) (kvs.map fun p => dK p.1) ds with
  | none => rw [h2 e] <;> rfl
  | some d => obtain ⟨v, e2, _⟩ := h1 d e; rw [e2] <;> rfl
mutual
theorem nk_val {T : Tb} {w : Wt} {H : Hp} : ∀ (x : D) (k : NestedKey) (v : V), Val T w H x v → nkOf x = some k → NKv H k v
  | .non, k, v, h, e => by cases e; exact h
  | .bl b, k, v, h, e => by cases e; exact .inr ⟨b, h, rfl⟩
  | .int i, k, v, h, e => by cases e; exact .inl h
  | .str z, k, v, h, e => by cases e; exact h
  | .tup xs, k, v, ⟨a, vs, e0, _, h2, h3⟩, e => by
    simp only [nkOf, Option.map_eq_some_iff] at e
    obtain ⟨ks, e1, rfl⟩ := e
    exact ⟨a, vs, e0, h2, nks_val xs ks vs h3 e1⟩
  | .lst _, _, _, _, e => by simp [nkOf] at e
  | .dct _ _, _, _, _, e => by simp [nkOf] at e
  | .obj _ _ _, _, _, _, e => by simp [nkOf] at e
  | .scr _, _, _, _, e => by simp [nkOf] at e
  | .rl _, _, _, _, e => by simp [nkOf] at e
  | .xc _ _, _, _, _, e => by simp [nkOf] at e
  | .tdc _ _, _, _, _, e => by simp [nkOf] at e
theorem nks_val {T : Tb} {w : Wt} {H : Hp} : ∀ (xs : List D) (ks : List NestedKey) (vs : List V), Vls T w H xs vs → nksOf xs = some ks → NKvs H ks vs
  | [], ks, vs, h, e => by cases e; exact h
  | x :: xs, ks, vs, ⟨v, r, e0, h1, h2⟩, e => by
    simp only [nksOf] at e
    cases z1 : nkOf x with
    | none => rw [z1] at e; cases e
    | some k =>
      cases z2 : nksOf xs with
      | none => rw [z1, z2] at e; cases e
      | some r2 =>
        rw [z1, z2] at e
        cases e
        exact ⟨v, r, e0, nk_val x k v h1 z1, nks_val xs r2 r h2 z2⟩
end
theorem tk_val {T : Tb} {w : Wt} {H : Hp} {x : D} {q : NestedKey} {v : V} (h : Val T w H x v) (e : tkOf x = some q) : ∃ b, v = .ref b ∧ NKat H q b := by
  cases x with
  | tup xs =>
    obtain ⟨a, vs, rfl, g⟩ := id h
    refine ⟨a, rfl, ?_⟩
    have e : (match nkOf (.tup xs) with
      | some k => if k.depth ≤ 8 then some k else none
      | none => none) = some q := e
    cases z : nkOf (.tup xs) with
    | none => rw [z] at e; cases e
    | some k =>
      rw [z] at e
      by_cases c : k.depth ≤ 8
      · simp only [if_pos c] at e
        cases e
        exact ⟨nk_val _ _ _ h z, c⟩
      · simp only [if_neg c] at e; cases e
  | _ => cases e
theorem tk_all {T : Tb} {w : Wt} {H : Hp} : ∀ {kvs : NT} {ks : List D}, kvs.map (fun p => some p.1) = ks.map tkOf → Vls T w H ks (kvs.map fun p => .ref p.2.1) → ∀ p ∈ kvs, NKat H p.1 p.2.1
  | [], _, _, _, p, hp => nomatch hp
  | q :: kvs, [], e, _, p, hp => by simp at e
  | q :: kvs, k :: ks, e, ⟨v, r, e0, h1, h2⟩, p, hp => by
    simp only [List.map_cons, List.cons.injEq] at e e0
    obtain ⟨rfl, rfl⟩ := e0
    rcases List.mem_cons.mp hp with rfl | hp
    · obtain ⟨b, e1, g⟩ := tk_val h1 e.1.symm
      cases e1
      exact g
    · exact tk_all e.2 h2 p hp
theorem tget_ok {T : Tb} {w : Wt} {H : Hp} {q : NestedKey} : ∀ {ks ds : List D} (kvs : NT), kvs.map (fun p => some p.1) = ks.map tkOf → Vls T w H ds (kvs.map (·.2.2)) → (tget q ks ds).isSome = (atN kvs q).isSome ∧ ∀ d, tget q ks ds = some d → ∃ v, atN kvs q = some v ∧ Val T w H d v
  | [], ds, [], e, h => by cases ds <;> exact ⟨rfl, fun d e => by simp [tget] at e⟩
  | k :: ks, ds, [], e, h => by simp at e
  | [], ds, _ :: _, e, h => by simp at e
  | k :: ks, [], p :: r, e, h => by simp [Vls] at h
  | k :: ks, d :: ds, p :: r, e, ⟨v, us, e0, h1, h2⟩ => by
    simp only [List.map_cons, List.cons.injEq] at e e0
    obtain ⟨rfl, rfl⟩ := e0
    have ih := tget_ok (q := q) r e.2 h2
    simp only [tget]
    by_cases c : p.1 = q
    · rw [if_pos (by rw [← e.1, c]), atN_pos c]
      exact ⟨rfl, fun d' e => by cases e; exact ⟨_, rfl, h1⟩⟩
    · rw [if_neg (by rw [← e.1]; intro z; exact c (Option.some.inj z)), atN_neg c]
      exact ih
abbrev rInM (K : PySem.W.Frag) (wd : World) (neg : Bool) : R2 := fun x y H Q => ((rIn K neg x y H Q ∨ (∃ i j, x = .str i ∧ y = .str j ∧ Q (.bl (if neg then (!(!(Builtin.Str.occurrences j i 0 j.length 1).isEmpty)) else !(Builtin.Str.occurrences j i 0 j.length 1).isEmpty)) H)) ∨ rInD neg x y H Q) ∨ rInTd wd neg x y H Q
theorem op_inM (hu : Y.A.units + 9 < cLine) : OpR Y (compareOp .In) (rInM Y.K Y.w false) := ((op_in_seq.or op_in_str).or (op_inD (by omega))).or (op_inTd hu)
theorem op_ntinM (hu : Y.A.units + 9 < cLine) : OpR Y (compareOp .NotIn) (rInM Y.K Y.w true) := ((op_notIn_seq.or op_notin_str).or (op_ntinD (by omega))).or (op_ntTd hu)
def inO (neg : Bool) : O2 := match neg with
  | true => .ntin
  | false => .isin
theorem o2_inL {neg : Bool} {x : D} {ys : List D} {v u : V} {a : Addr} {us : List V} (P : Pt X σ sg w al H) (hx : Val X.T w H x v) (eu : u = .ref a) (hl : SqL X.T.K H a us ∨ SqT X.T.K H a us) (hv : Vls X.T w H ys us)
    (h : OkG X W σ w al H (FE X Q) (ofO ((inF x ys).map fun b => .d (.bl (if neg then !b else b))) sg)) : rIn X.T.K neg v u H Q := by
  by_cases c : (flatD x && ys.all flatD) = true
  · rw [show inF x ys = some (ys.any fun y => eqB y x) from if_pos c] at h
    rw [Bool.and_eq_true] at c
    refine ⟨a, us, eu, hl, hx.flat c.1, hv.flat1 c.2, ?_⟩
    rw [Vls.inV hx c.1 hv c.2]
    exact fin_d P h rfl
  · rw [show inF x ys = none from if_neg c] at h
    exact (show False from h).elim
theorem o2_inS (neg : Bool) {x y : D} {v u : V} (P : Pt X σ sg w al H) (hx : Val X.T w H x v) (hy : Sn X.T w H y u) (h : OkG X W σ w al H (FE X Q) (ofO (o2F (inO neg) x y) sg)) : rInM X.T.K X.T.wd neg v u H Q := by
  match y, hy, h with
  | .lst ys, ⟨a, us, e, hl, hv⟩, h =>
    have e0 : o2F (inO neg) x (.lst ys) = (inF x ys).map fun b => .d (.bl (if neg then !b else b)) := by cases neg <;> cases x <;> rfl
    rw [e0] at h
    exact .inl (.inl (.inl (o2_inL P hx e (.inl (.inl (.inl hl))) hv h)))
  | .tup ys, ⟨a, us, e, _, hl, hv⟩, h =>
    have e0 : o2F (inO neg) x (.tup ys) = (inF x ys).map fun b => .d (.bl (if neg then !b else b)) := by cases neg <;> cases x <;> rfl
    rw [e0] at h
    exact .inl (.inl (.inl (o2_inL P hx e (.inr (.inl (.inl hl))) hv h)))
  | .str j, hy, h =>
    cases (show u = V.str j from hy)
    cases neg with
    | false =>
      cases x <;> first
        | exact (show False from h).elim
        | (cases (show v = V.str _ from hx); exact .inl (.inl (.inr ⟨_, _, rfl, rfl, fin_d P h rfl⟩)))
    | true =>
      cases x <;> first
        | exact (show False from h).elim
        | (cases (show v = V.str _ from hx); exact .inl (.inl (.inr ⟨_, _, rfl, rfl, fin_d P h rfl⟩)))
  | .dct ks ds, ⟨a, kvs, e, hd, hk, hv⟩, h =>
    have e0 : o2F (inO neg) x (.dct ks ds) = if keyD x then some (.d (.bl (if neg then !(dget x ks ds).isSome else (dget x ks ds).isSome))) else none := by cases neg <;> cases x <;> rfl
    rw [e0] at h
    split at h
    · rename_i c
      obtain ⟨q, e1, e2⟩ := keyD_ok hx c
      subst e1 e2 hk e
      refine .inl (.inr ⟨a, _, rfl, .inl ⟨kvs, q, hd, rfl, rfl⟩, ?_⟩)
      rw [dget_some hv] at h
      exact fin_d P h rfl
    · exact h.elim
  | .non, hy, h => cases neg <;> cases x <;> exact (show False from h).elim
  | .bl _, hy, h => cases neg <;> cases x <;> exact (show False from h).elim
  | .int _, hy, h => cases neg <;> cases x <;> exact (show False from h).elim
  | .obj _ _ _, hy, h => cases neg <;> cases x <;> exact (show False from h).elim
  | .scr _, hy, h => cases neg <;> cases x <;> exact (show False from h).elim
  | .rl _, hy, h => cases neg <;> cases x <;> exact (show False from h).elim
  | .xc _ _, hy, h => cases neg <;> cases x <;> exact (show False from h).elim
  | .tdc ks ds, ⟨a, kvs, e, hd, hk, hk2, hv⟩, h =>
    have e0 : o2F (inO neg) x (.tdc ks ds) = (tkOf x).map fun q => .d (.bl (if neg then !(tget q ks ds).isSome else (tget q ks ds).isSome)) := by cases neg <;> cases x <;> rfl
    rw [e0] at h
    cases z : tkOf x with
    | none => rw [z] at h; exact (show False from h).elim
    | some q =>
      rw [z] at h
      obtain ⟨b, rfl, hb⟩ := tk_val hx z
      refine .inr ⟨a, _, e, ⟨kvs, q, b, ⟨hd, tk_all hk hk2⟩, rfl, hb, rfl⟩, ?_⟩
      rw [← (tget_ok (q := q) kvs hk hv).1]
      exact fin_d P h rfl
theorem o2_in (neg : Bool) : O2R X W (inO neg) (rInM X.T.K X.T.wd neg) := fun _ _ _ _ _ _ _ _ _ _ P hx hy h => o2_inS neg P hx hy.sn h
theorem atI_get' {α : Type} {xs : List α} {i : Int} {d : α} (h : atI xs i = some d) : ∃ j, ixN xs.length i = some j ∧ xs[j]? = some d := by
  unfold atI at h
  cases e : ixN xs.length i with
  | none => rw [e] at h; cases h
  | some j => rw [e] at h; exact ⟨j, rfl, h⟩
theorem Vls.at {T : Tb} {ds : List D} {vs : List V} {i : Int} {d : D} (h : Vls T w H ds vs) (e : atI ds i = some d) : ∃ v, atI vs i = some v ∧ Val T w H d v := by
  obtain ⟨j, h1, h2⟩ := atI_get' e
  obtain ⟨v, h3, h4⟩ := h.get h2
  refine ⟨v, ?_, h4⟩
  unfold atI
  rw [← h.length, h1]
  exact h3
def rIxM (K : PySem.W.Frag) : R2 := fun x y H Q => rIxL K x y H Q ∨ rIxT K x y H Q ∨ rIxS x y H Q
def rIxDk : R2 := fun x y H Q => ∃ a v, x = .ref a ∧ DGet H a y (some v) ∧ Q v H
theorem ix_dk (hu : Y.A.units + 1 < cLine) : IxR Y rIxDk := by
  intro value slice pins s σ H x y v u Q I rx ry h hs
  obtain ⟨a, z, rfl, g, q⟩ := h
  cases rx
  exact PyProof.Rows.tail_any (dict_typeIs I g) PySem.F.slot_dict_getitem.lookup (d_getItem hu I g ry fun w' s3 I3 rw' => ⟨z, H, I3, rw', q⟩) hs
abbrev rIxA (K : PySem.W.Frag) (wd : World) : R2 := fun x y H Q => (rIx K x y H Q ∨ rIxDk x y H Q) ∨ rIxTd wd x y H Q
theorem ix_all (hu : Y.A.units + 9 < cLine) : IxR Y (rIxA Y.K Y.w) := (ix_seq.or (ix_dk (by omega))).or (ix_td hu)
theorem sub_ok {x y : D} {v u : V} (P : Pt X σ sg w al H) (hx : Sn X.T w H x v) (hy : Val X.T w H y u) (h : OkG X W σ w al H (FE X Q) (ofO ((subF x y).map .d) sg)) : rIxA X.T.K X.T.wd v u H Q := by
  cases x with
  | non => exact (show False from h).elim
  | bl _ => exact (show False from h).elim
  | int _ => exact (show False from h).elim
  | obj _ _ _ => exact (show False from h).elim
  | rl _ => exact (show False from h).elim
  | xc _ _ => exact (show False from h).elim
  | tdc ks ds =>
    obtain ⟨a, kvs, e, hd, hk, hk2, hv⟩ := hx
    have e0 : subF (.tdc ks ds) y = (tkOf y).bind fun q => tget q ks ds := by cases y <;> rfl
    rw [e0] at h
    cases z : tkOf y with
    | none => rw [z] at h; exact (show False from h).elim
    | some q =>
      rw [z] at h
      simp only [Option.bind_some] at h
      cases z2 : tget q ks ds with
      | none => rw [z2] at h; exact (show False from h).elim
      | some d =>
        rw [z2] at h
        obtain ⟨b, rfl, hb⟩ := tk_val hy z
        obtain ⟨r, h3, h4⟩ := (tget_ok (q := q) kvs hk hv).2 d z2
        exact .inr ⟨a, r, e, ⟨kvs, q, b, ⟨hd, tk_all hk hk2⟩, rfl, hb, h3.symm⟩, fin_d P h h4⟩
  | lst xs =>
    obtain ⟨a, vs, e, hl, hv⟩ := hx
    cases y with
    | non => exact (show False from h).elim
    | bl _ => exact (show False from h).elim
    | str _ => exact (show False from h).elim
    | tup _ => exact (show False from h).elim
    | lst _ => exact (show False from h).elim
    | dct _ _ => exact (show False from h).elim
    | obj _ _ _ => exact (show False from h).elim
    | scr _ => exact (show False from h).elim
    | rl _ => exact (show False from h).elim
    | xc _ _ => exact (show False from h).elim
    | tdc _ _ => exact (show False from h).elim
    | int i =>
      cases (show u = V.int i from hy)
      cases z : atI xs i with
      | none => rw [show subF (.lst xs) (.int i) = none from z] at h; exact (show False from h).elim
      | some d =>
        rw [show subF (.lst xs) (.int i) = some d from z] at h
        obtain ⟨q, h1, h2⟩ := hv.at z
        exact .inl (.inl (.inl ⟨a, vs, i, q, e, rfl, .inl (.inl hl), h1, fin_d P h h2⟩))
  | tup xs =>
    obtain ⟨a, vs, e, _, hl, hv⟩ := hx
    cases y with
    | non => exact (show False from h).elim
    | bl _ => exact (show False from h).elim
    | str _ => exact (show False from h).elim
    | tup _ => exact (show False from h).elim
    | lst _ => exact (show False from h).elim
    | dct _ _ => exact (show False from h).elim
    | obj _ _ _ => exact (show False from h).elim
    | scr _ => exact (show False from h).elim
    | rl _ => exact (show False from h).elim
    | xc _ _ => exact (show False from h).elim
    | tdc _ _ => exact (show False from h).elim
    | int i =>
      cases (show u = V.int i from hy)
      cases z : atI xs i with
      | none => rw [show subF (.tup xs) (.int i) = none from z] at h; exact (show False from h).elim
      | some d =>
        rw [show subF (.tup xs) (.int i) = some d from z] at h
        obtain ⟨q, h1, h2⟩ := hv.at z
        exact .inl (.inl (.inr (.inl ⟨a, vs, i, q, e, rfl, .inl (.inl hl), h1, fin_d P h h2⟩)))
  | scr xs =>
    obtain ⟨a, e, hl⟩ := hx
    cases y with
    | non => exact (show False from h).elim
    | bl _ => exact (show False from h).elim
    | str _ => exact (show False from h).elim
    | tup _ => exact (show False from h).elim
    | lst _ => exact (show False from h).elim
    | dct _ _ => exact (show False from h).elim
    | obj _ _ _ => exact (show False from h).elim
    | scr _ => exact (show False from h).elim
    | rl _ => exact (show False from h).elim
    | xc _ _ => exact (show False from h).elim
    | tdc _ _ => exact (show False from h).elim
    | int i =>
      cases (show u = V.int i from hy)
      cases z : atI xs i with
      | none => rw [show subF (.scr xs) (.int i) = (atI xs i).map .int from rfl, z] at h; exact (show False from h).elim
      | some d =>
        rw [show subF (.scr xs) (.int i) = (atI xs i).map .int from rfl, z] at h
        refine .inl (.inl (.inl ⟨a, _, i, .int d, e, rfl, hl.sq, ?_, fin_d P h rfl⟩))
        unfold atI at z ⊢
        rw [List.length_map]
        cases q : ixN xs.length i with
        | none => rw [q] at z; cases z
        | some j =>
          rw [q] at z
          show (xs.map V.int)[j]? = _
          rw [List.getElem?_map, show xs[j]? = some d from z] <;> rfl
  | str s =>
    cases y with
    | non => exact (show False from h).elim
    | bl _ => exact (show False from h).elim
    | str _ => exact (show False from h).elim
    | tup _ => exact (show False from h).elim
    | lst _ => exact (show False from h).elim
    | dct _ _ => exact (show False from h).elim
    | obj _ _ _ => exact (show False from h).elim
    | scr _ => exact (show False from h).elim
    | rl _ => exact (show False from h).elim
    | xc _ _ => exact (show False from h).elim
    | tdc _ _ => exact (show False from h).elim
    | int i =>
      cases (show u = V.int i from hy)
      cases (show v = V.str s from hx)
      by_cases c : s.length ≤ sizeLine
      · rw [show subF (.str s) (.int i) = (atI s.cps.toList i).map fun c => .str ⟨#[c]⟩ from if_pos c] at h
        cases z : atI s.cps.toList i with
        | none => rw [z] at h; exact (show False from h).elim
        | some d => rw [z] at h; exact .inl (.inl (.inr (.inr ⟨s, i, d, rfl, rfl, c, z, fin_d P h rfl⟩)))
      · rw [show subF (.str s) (.int i) = none from if_neg c] at h; exact (show False from h).elim
  | dct ks ds =>
    obtain ⟨a, kvs, e, hd, hk, hv⟩ := hx
    have e0 : subF (.dct ks ds) y = if keyD y then dget y ks ds else none := by cases y <;> rfl
    rw [e0] at h
    by_cases c : keyD y = true
    · rw [if_pos c] at h
      obtain ⟨q, e1, e2⟩ := keyD_ok hy c
      subst e1 e2 hk e
      obtain ⟨h1, h2⟩ := dget_ok (q := q) kvs hv
      cases z : dget (dK q) (kvs.map fun p => dK p.1) ds with
      | none => rw [z] at h; exact (show False from h).elim
      | some d =>
        rw [z] at h
        obtain ⟨r, h3, h4⟩ := h1 d z
        exact .inl (.inr ⟨a, r, rfl, .inl ⟨kvs, q, hd, rfl, h3.symm⟩, fin_d P h h4⟩)
    · rw [if_neg c] at h; exact (show False from h).elim
theorem Vls.ints {T : Tb} {w : Wt} {H : Hp} : ∀ ns : List Int, Vls T w H (ns.map .int) (ns.map V.int)
  | [] => rfl
  | n :: r => ⟨_, _, rfl, rfl, Vls.ints r⟩
theorem sl_or {r r' : V → Option Int → Option Int → Hp → VK → Prop} (h : SlR Y r) (h' : SlR Y r') : SlR Y (fun x l u H Q => r x l u H Q ∨ r' x l u H Q) := by
  intro pins s σ H x v vl vu lo hi sl Q I rx hs pl pu q
  rcases q with q | q
  · exact h pins s σ H x v vl vu lo hi sl _ I rx hs pl pu q
  · exact h' pins s σ H x v vl vu lo hi sl _ I rx hs pl pu q
abbrev rSlA (K : PySem.W.Frag) : V → Option Int → Option Int → Hp → VK → Prop := fun x l u H Q => rSlL K x l u H Q ∨ rSlS x l u H Q
theorem sl_all : SlR Y (rSlA Y.K) := sl_or sl_list sl_str
theorem slc_ok {x : D} {lo hi : Option Int} {v : V} (P : Pt X σ sg w al H) (hx : Sn X.T w H x v) (h : OkG X W σ w al H (FE X Q) (ofO (slcF lo hi x) sg)) : rSlA X.T.K v lo hi H Q := by
  cases x with
  | lst xs =>
    obtain ⟨a, vs, e, hl, hv⟩ := hx
    refine .inl ⟨a, vs, e, .inl (.inl hl), fun p hp => fin_o P h hp ⟨_, upd_same, Vls.mono (Ext.new P.1 hp) _ _ ?_⟩⟩
    unfold cutD cutV
    rw [hv.length]
    exact (hv.drop _).take _
  | scr xs =>
    obtain ⟨a, e, hl⟩ := hx
    refine .inl ⟨a, _, e, hl.sq, fun p hp => fin_o P h hp ⟨_, upd_same, ?_⟩⟩
    have e2 : cutV (xs.map V.int) lo hi = (cutD xs lo hi).map V.int := by unfold cutV cutD; rw [List.length_map, List.map_take, List.map_drop]
    rw [e2]
    exact Vls.ints _
  | str z =>
    cases (show v = V.str z from hx)
    by_cases c : z.length ≤ sizeLine
    · rw [show slcF lo hi (.str z) = some (.d (.str (cutS z lo hi))) from if_pos c] at h
      exact .inr ⟨z, rfl, c, fin_d P h rfl⟩
    · rw [show slcF lo hi (.str z) = none from if_neg c] at h
      exact (show False from h).elim
  | _ => exact (show False from h).elim
end
end Mp
namespace Mp
open PySem L2
section
variable {X : Fx} {W : WX} {σ : St} {w w1 : Wt} {al al1 : List Addr} {H H1 : Hp} {sg : Sg} {Q : VK} {Y : Cx}
abbrev RC := List V → Hp → VK → Prop
theorem CallR.or {f : Value} {r r' : RC} (h : CallR Y f r) (h' : CallR Y f r') : CallR Y f (fun xs H Q => r xs H Q ∨ r' xs H Q) := by
  intro pins s σ H xs us Q I rx q
  rcases q with q | q
  · exact h pins s σ H xs us Q I rx q
  · exact h' pins s σ H xs us Q I rx q
def Sns (T : Tb) (w : Wt) (H : Hp) : List D → List V → Prop
  | [], vs => vs = []
  | x :: xs, vs => ∃ v r, vs = v :: r ∧ Sn T w H x v ∧ Sns T w H xs r
theorem Vls.sn {T : Tb} : ∀ {xs : List D} {vs : List V}, Vls T w H xs vs → Sns T w H xs vs
  | [], _, h => h
  | _ :: _, _, ⟨v, r, e, h1, h2⟩ => ⟨v, r, e, h1.sn, Vls.sn h2⟩
def BiR (X : Fx) (W : WX) (b : Bi) (r : RC) : Prop := ∀ (σ : St) (w : Wt) (al : List Addr) (H : Hp) (sg : Sg) (Q : VK) (ds : List D) (vs : List V), Pt X σ sg w al H → Sns X.T w H ds vs → OkG X W σ w al H (FE X Q) (ofO (biF b ds) sg) → r vs H Q
def rLenDk : RC := fun xs H Q => ∃ a kvs, xs = [V.ref a] ∧ Rd H a (.dK kvs) ∧ Q (.int kvs.length) H
theorem call_lenDk : CallR Y (.builtin "len") rLenDk := by
  intro pins s σ H xs us Q I r ⟨a, kvs, e, hd, q⟩
  subst e
  obtain ⟨u, rfl, rx⟩ := vals1 r
  cases (show u = .ref a from rx)
  exact d_len I hd fun t s2 I2 => ⟨.int kvs.length, H, I2, ⟨t, rfl⟩, q⟩
abbrev rLenM (K : PySem.W.Frag) (wd : World) : RC := fun xs H Q => ((∃ x n, xs = [x] ∧ LenV K x H n ∧ Q (.int n) H) ∨ rLenDk xs H Q) ∨ rLenTd wd xs H Q
theorem cr_lenM : CallR Y (.builtin "len") (rLenM Y.K Y.w) := CallR.or (CallR.or call_len call_lenDk) call_len_td
theorem dK_len {kvs : List (Key × V)} {ks : List D} (h : kvs.map (fun p => dK p.1) = ks) : ks.length = kvs.length := by rw [← h]; simp
theorem bools_ok {T : Tb} : ∀ {xs : List D} {bs : List Bool} {vs : List V}, bools xs = some bs → Vls T w H xs vs → vs = bs.map V.bl
  | [], bs, _, e, h => by cases e; exact h
  | .bl b :: r, bs, _, e, ⟨v, q, e1, e2, h⟩ => by
    simp only [bools] at e
    cases z : bools r with
    | none => rw [z] at e; cases e
    | some cs => rw [z] at e; cases e; cases (show v = V.bl b from e2); rw [e1, bools_ok z h] <;> rfl
  | .non :: _, _, _, e, _ => by cases e
  | .int _ :: _, _, _, e, _ => by cases e
  | .str _ :: _, _, _, e, _ => by cases e
  | .tup _ :: _, _, _, e, _ => by cases e
  | .lst _ :: _, _, _, e, _ => by cases e
  | .dct _ _ :: _, _, _, e, _ => by cases e
  | .obj _ _ _ :: _, _, _, e, _ => by cases e
  | .scr _ :: _, _, _, e, _ => by cases e
  | .rl _ :: _, _, _, e, _ => by cases e
  | .xc _ _ :: _, _, _, e, _ => by cases e
  | .tdc _ _ :: _, _, _, e, _ => by cases e
theorem bi1 {b : Bi} {r : RC} (h0 : biF b [] = none) (h2 : ∀ d1 d2 q, biF b (d1 :: d2 :: q) = none)
    (k : ∀ (σ : St) (w : Wt) (al : List Addr) (H : Hp) (sg : Sg) (Q : VK) (d : D) (v : V), Pt X σ sg w al H → Sn X.T w H d v → OkG X W σ w al H (FE X Q) (ofO (biF b [d]) sg) → r [v] H Q) : BiR X W b r := by
  intro σ w al H sg Q ds vs P hv h
  cases ds with
  | nil => rw [h0] at h; exact (show False from h).elim
  | cons d q =>
    cases q with
    | cons d2 q => rw [h2] at h; exact (show False from h).elim
    | nil =>
      obtain ⟨v, r, e, h1, e3⟩ := hv
      cases (show r = [] from e3)
      subst e
      exact k σ w al H sg Q d v P h1 h
theorem bi_len : BiR X W .len (rLenM X.T.K X.T.wd) := by
  refine bi1 rfl (fun d1 _ _ => by cases d1 <;> rfl) fun σ w al H sg Q d v P hd h => ?_
  cases d with
  | lst xs => obtain ⟨a, us, e1, h1, h2⟩ := hd; subst e1; exact .inl (.inl ⟨_, xs.length, rfl, .inl ⟨us, .inl (.inl h1), h2.length⟩, fin_d P h rfl⟩)
  | tup xs => obtain ⟨a, us, e1, _, h1, h2⟩ := hd; subst e1; exact .inl (.inl ⟨_, xs.length, rfl, .inr ⟨us, .inl (.inl h1), h2.length⟩, fin_d P h rfl⟩)
  | rl xs => obtain ⟨a, us, e1, _, h1, h2⟩ := hd; subst e1; exact .inl (.inl ⟨_, xs.length, rfl, .inl ⟨us, .inl (.inl h1), h2.length⟩, fin_d P h rfl⟩)
  | scr xs => obtain ⟨a, e1, h1⟩ := hd; subst e1; exact .inl (.inl ⟨_, xs.length, rfl, .inl ⟨_, h1.sq, by rw [List.length_map]⟩, fin_d P h rfl⟩)
  | dct ks xs =>
    obtain ⟨a, kvs, e1, h1, h2, h4⟩ := hd
    subst e1
    refine .inl (.inr ⟨a, kvs, rfl, h1, ?_⟩)
    rw [← dK_len h2]
    exact fin_d P h rfl
  | tdc ks xs =>
    obtain ⟨a, kvs, e1, h1, h2, h3, h4⟩ := hd
    subst e1
    refine .inr ⟨a, kvs, rfl, ⟨h1, tk_all h2 h3⟩, ?_⟩
    have e : ks.length = kvs.length := by have := congrArg List.length h2; simpa using this.symm
    rw [show biF .len [.tdc ks xs] = some (.d (.int ks.length)) from rfl, e] at h
    exact fin_d P h rfl
  | str x =>
    cases (show v = V.str x from hd)
    by_cases c : x.length ≤ sizeLine
    · rw [show biF .len [.str x] = some (.d (.int x.length)) from if_pos c] at h
      exact .inl (.inl ⟨_, x.length, rfl, ⟨c, rfl⟩, fin_d P h rfl⟩)
    · rw [show biF .len [.str x] = none from if_neg c] at h
      exact (show False from h).elim
  | _ => exact (show False from h).elim
theorem bi_int : BiR X W .int (fun xs H Q => (∃ i, xs = [.int i] ∧ Q (.int i) H) ∨ ∃ k, xs = [.bl k] ∧ Q (.int (if k then 1 else 0)) H) := by
  refine bi1 rfl (fun d1 _ _ => by cases d1 <;> rfl) fun σ w al H sg Q d v P hd h => ?_
  cases d with
  | int i => cases (show v = V.int i from hd); exact .inl ⟨i, rfl, fin_d P h rfl⟩
  | bl i => cases (show v = V.bl i from hd); exact .inr ⟨i, rfl, fin_d P h rfl⟩
  | _ => exact (show False from h).elim
theorem bi_list : BiR X W .list (fun xs H Q => ∃ p ys, xs = [.ref p] ∧ (SqL X.T.K H p ys ∨ SqT X.T.K H p ys) ∧ ∀ l, H l = none → Q (.ref l) (upd H l (.lst ys))) := by
  refine bi1 rfl (fun d1 _ _ => by cases d1 <;> rfl) fun σ w al H sg Q d v P hd h => ?_
  cases d with
  | lst xs => obtain ⟨a, us, e1, h1, h2⟩ := hd; subst e1; exact ⟨a, us, rfl, .inl (.inl (.inl h1)), fun p hp => fin_o P h hp ⟨_, upd_same, Vls.mono (Ext.new P.1 hp) _ _ h2⟩⟩
  | rl xs => obtain ⟨a, us, e1, _, h1, h2⟩ := hd; subst e1; exact ⟨a, us, rfl, .inl (.inl (.inl h1)), fun p hp => fin_o P h hp ⟨_, upd_same, Vls.mono (Ext.new P.1 hp) _ _ h2⟩⟩
  | tup xs => obtain ⟨a, us, e1, _, h1, h2⟩ := hd; subst e1; exact ⟨a, us, rfl, .inr (.inl (.inl h1)), fun p hp => fin_o P h hp ⟨_, upd_same, Vls.mono (Ext.new P.1 hp) _ _ h2⟩⟩
  | _ => exact (show False from h).elim
theorem bi_tuple : BiR X W .tuple (fun xs H Q => ∃ p ys, xs = [.ref p] ∧ ((SqL X.T.K H p ys ∧ ∀ l, H l = none → Q (.ref l) (upd H l (.tup ys))) ∨ (SqT X.T.K H p ys ∧ Q (.ref p) H))) := by
  refine bi1 rfl (fun d1 _ _ => by cases d1 <;> rfl) fun σ w al H sg Q d v P hd h => ?_
  cases d with
  | lst xs => obtain ⟨a, us, e1, h1, h2⟩ := hd; subst e1; exact ⟨a, us, rfl, .inl ⟨.inl (.inl h1), fun p hp => fin_n P h hp ⟨p, us, rfl, setW_same, upd_same, Vls.mono (Ext.new P.1 hp) _ _ h2⟩⟩⟩
  | _ => exact (show False from h).elim
theorem bi_all : BiR X W .all (rAll X.T.K) := by
  refine bi1 rfl (fun d1 _ _ => by cases d1 <;> rfl) fun σ w al H sg Q d v P hd h => ?_
  cases d with
  | lst xs =>
    obtain ⟨a, us, e1, h1, h2⟩ := hd
    subst e1
    rw [show biF .all [.lst xs] = (bools xs).map fun bs => .d (.bl (bs.all id)) from rfl] at h
    cases z : bools xs with
    | none => rw [z] at h; exact (show False from h).elim
    | some bs => rw [z] at h; rw [bools_ok z h2] at h1; exact ⟨a, bs, rfl, .inl (.inl h1), fin_d P h rfl⟩
  | _ => exact (show False from h).elim
theorem bi_any : BiR X W .any (rAny X.T.K) := by
  refine bi1 rfl (fun d1 _ _ => by cases d1 <;> rfl) fun σ w al H sg Q d v P hd h => ?_
  cases d with
  | lst xs =>
    obtain ⟨a, us, e1, h1, h2⟩ := hd
    subst e1
    rw [show biF .any [.lst xs] = (bools xs).map fun bs => .d (.bl (bs.any id)) from rfl] at h
    cases z : bools xs with
    | none => rw [z] at h; exact (show False from h).elim
    | some bs => rw [z] at h; rw [bools_ok z h2] at h1; exact ⟨a, bs, rfl, .inl (.inl h1), fin_d P h rfl⟩
  | _ => exact (show False from h).elim
theorem bi_str : BiR X W .str (fun xs H Q => ∃ i, xs = [.int i] ∧ i.natAbs.log2 < 1920 ∧ Q (.str (toString i)) H) := by
  refine bi1 rfl (fun d1 _ _ => by cases d1 <;> rfl) fun σ w al H sg Q d v P hd h => ?_
  cases d with
  | int i =>
    cases (show v = V.int i from hd)
    by_cases c : i.natAbs.log2 < 1920
    · rw [show biF .str [.int i] = some (.d (.str (toString i))) from if_pos c] at h
      exact ⟨i, rfl, c, fin_d P h rfl⟩
    · rw [show biF .str [.int i] = none from if_neg c] at h
      exact (show False from h).elim
  | _ => exact (show False from h).elim
theorem bi2 {b : Bi} {r : RC} (h0 : biF b [] = none) (h1 : ∀ d, biF b [d] = none) (h2 : ∀ d1 d2 d3 q, biF b (d1 :: d2 :: d3 :: q) = none)
    (k : ∀ (σ : St) (w : Wt) (al : List Addr) (H : Hp) (sg : Sg) (Q : VK) (d e : D) (v u : V), Pt X σ sg w al H → Sn X.T w H d v → Sn X.T w H e u → OkG X W σ w al H (FE X Q) (ofO (biF b [d, e]) sg) → r [v, u] H Q) : BiR X W b r := by
  intro σ w al H sg Q ds vs P hv h
  cases ds with
  | nil => rw [h0] at h; exact (show False from h).elim
  | cons d q =>
    cases q with
    | nil => rw [h1] at h; exact (show False from h).elim
    | cons d2 q =>
      cases q with
      | cons d3 q => rw [h2] at h; exact (show False from h).elim
      | nil =>
        obtain ⟨v, r, e, g1, u, r2, e3, g2, e4⟩ := hv
        cases (show r2 = [] from e4)
        subst e e3
        exact k σ w al H sg Q d d2 v u P g1 g2 h
theorem bi_max2 : BiR X W .max2 (fun xs H Q => ∃ i j, xs = [.int i, .int j] ∧ Q (.int (if j > i then j else i)) H) := by
  refine bi2 rfl (fun d => by cases d <;> rfl) (fun d1 d2 _ _ => by cases d1 <;> cases d2 <;> rfl) fun σ w al H sg Q d e v u P hd he h => ?_
  cases d with
  | int i =>
    cases e with
    | int j => cases (show v = V.int i from hd); cases (show u = V.int j from he); exact ⟨i, j, rfl, fin_d P h rfl⟩
    | _ => exact (show False from h).elim
  | _ => exact (show False from by cases e <;> exact h).elim
theorem bi_min2 : BiR X W .min2 (fun xs H Q => ∃ i j, xs = [.int i, .int j] ∧ Q (.int (if j < i then j else i)) H) := by
  refine bi2 rfl (fun d => by cases d <;> rfl) (fun d1 d2 _ _ => by cases d1 <;> cases d2 <;> rfl) fun σ w al H sg Q d e v u P hd he h => ?_
  cases d with
  | int i =>
    cases e with
    | int j => cases (show v = V.int i from hd); cases (show u = V.int j from he); exact ⟨i, j, rfl, fin_d P h rfl⟩
    | _ => exact (show False from h).elim
  | _ => exact (show False from by cases e <;> exact h).elim
end
end Mp
namespace L2
open PySem PySem.Spec PyProof.Rows
theorem PE.imp {X : Cx} {e : Expr} {t t' : TE} (h : PE X e t) (k : ∀ σ H Q, t' σ H Q → t σ H Q) : PE X e t' := ⟨fun pins s σ H Q I q => h.run pins s σ H Q I (k σ H Q q)⟩
theorem PT.imp {X : Cx} {e : Expr} {t t' : TT} (h : PT X e t) (k : ∀ σ H Q, t' σ H Q → t σ H Q) : PT X e t' := ⟨fun pins s σ H Q I q => h.run pins s σ H Q I (k σ H Q q)⟩
theorem PW.imp {X : Cx} {e : Expr} {t t' : TT} (h : PW X e t) (k : ∀ σ H Q, t' σ H Q → t σ H Q) : PW X e t' := ⟨fun wh pins s σ H Q I q => h.run wh pins s σ H Q I (k σ H Q q)⟩
theorem PA.imp {X : Cx} {e : List Expr} {t t' : TA} (h : PA X e t) (k : ∀ σ H Q, t' σ H Q → t σ H Q) : PA X e t' := ⟨fun pos pins s σ H Q I q => h.run pos pins s σ H Q I (k σ H Q q)⟩
theorem PS.imp {X : Cx} {e : Stmt} {t t' : TS} (h : PS X e t) (k : ∀ D σ H, t' D σ H → t D σ H) : PS X e t' := ⟨fun pins s σ H D I q => h.run pins s σ H D I (k D σ H q)⟩
theorem PSs.imp {X : Cx} {e : List Stmt} {t t' : TS} (h : PSs X e t) (k : ∀ D σ H, t' D σ H → t D σ H) : PSs X e t' := ⟨fun pins s σ H D I q => h.run pins s σ H D I (k D σ H q)⟩
theorem PI.imp {X : Cx} {g e : Expr} {t t' : TI} (h : PI X g e t) (k : ∀ σ H Q, t' σ H Q → t σ H Q) : PI X g e t' := ⟨fun pins s σ H Q I q => h.run pins s σ H Q I (k σ H Q q)⟩
end L2
namespace Mp
open PySem L2
section
variable {X : Fx} {W : WX} {σ : St} {w w1 : Wt} {al al1 : List Addr} {H H1 : Hp} {sg : Sg} {Q : VK} {Y : Cx} {pos : Pos}
theorem Pt.frzSlot {i : Nat} {x : D} (P : Pt X σ sg w al H) (e : sg.st[i]? = some (some (.o x))) : ∃ v w', σ[i]? = some (some v) ∧ Pt X σ { sg with st := setS sg.st i (.d x) } w' al H ∧ Le w al H w' al H ∧ Val X.T w' H x v := by
  obtain ⟨v, h1, a, h2, h3, h4⟩ := P.1.slots i _ e
  subst h2
  have k : ∀ b q, w b = some q → q ≠ .slot i → setW w a .frz b = some q := fun b q h n => by
    have ne : b ≠ a := fun z => by rw [z, h3] at h; exact n (Option.some.inj h).symm
    rw [setW_ne ne]; exact h
  have x1 : Ext w H (setW w a .frz) H := Ext.of fun b oo h z0 => ⟨k b _ h (by intro z; subst z; rcases z0 with z0 | z0 <;> cases z0), rfl⟩
  have hv : Val X.T (setW w a .frz) H x (.ref a) := NdO.val setW_same (h4.mono x1 rfl)
  refine ⟨_, setW w a .frz, h1, ⟨⟨fun j r ej => ?_, fun n d ed => ?_, fun b o hb => ?_, ?_, P.1.alen⟩, P.2.setW h3⟩, ⟨AlX.refl, x1⟩, hv⟩
  · by_cases c : j = i
    · subst c
      have hl : j < sg.st.length := (List.getElem?_eq_some_iff.mp e).1
      simp only [setS, List.getElem?_set_self hl] at ej
      cases ej
      exact ⟨_, h1, hv⟩
    · simp only [setS, List.getElem?_set_ne (Ne.symm c)] at ej
      obtain ⟨v2, g1, g2⟩ := P.1.slots j r ej
      exact ⟨v2, g1, g2.mono x1 AlX.refl fun b hb => ⟨k b _ hb (by intro z; cases z; exact c rfl), rfl⟩⟩
  · obtain ⟨b, g1, g2, g3⟩ := P.1.muts n d ed
    exact ⟨b, g1, k b _ g2 (by intro z; cases z), g3.mono x1 AlX.refl rfl⟩
  · by_cases c : b = a
    · subst c; exact P.1.trk b _ h3
    · rw [setW_ne c] at hb; exact P.1.trk b o hb
  · simp only [setS, List.length_set]; exact P.1.len
theorem re_nm {i : Nat} {x : Str} (hN : Y.N[i]? = some x) (hv : Vis Y.env.scope x) (hd : (x == ("__debug__" : Str)) = false) (hcd : (x == ("__classdict__" : Str)) = false) : PE Y (.Name x pos) (tE X W (.nm i)) := by
  refine (pe_var hN hv hd hcd).imp fun σ H Q ⟨w, al, sg, P, h⟩ => ?_
  simp only [ev] at h
  cases e : sg.st[i]? with
  | none => rw [e] at h; exact (show False from h).elim
  | some o =>
    cases o with
    | none => rw [e] at h; exact (show False from h).elim
    | some r =>
      cases r with
      | d z =>
        rw [e] at h
        obtain ⟨v, h1, h2⟩ := P.1.slots i _ e
        exact ⟨v, h1, fin_d P h h2⟩
      | o z =>
        rw [e] at h
        obtain ⟨v, w', h1, P', L', h2⟩ := P.frzSlot e
        exact ⟨v, h1, h _ _ _ P' L' v h2⟩
      | m n =>
        rw [e] at h
        obtain ⟨v, h1, h2⟩ := P.1.slots i _ e
        exact ⟨v, h1, h.here P v h2⟩
theorem re_c {v : V} {x : D} {m : E} {e : Expr} (h : PE Y e (tC v)) (hm : ∀ s, ev X.G X.rc m s = .ok [.d x] s) (hv : ∀ T w H, Val T w H x v) : PE Y e (tE X W m) :=
  h.imp fun σ H Q ⟨w, al, sg, P, q⟩ => by rw [hm] at q; exact fin_d P q (hv _ _ _)
theorem re_int {i : Int} {j : Nat} : PE Y (.Constant (.int i) j pos) (tE X W (.int i)) := re_c pe_int (fun _ => rfl) fun _ _ _ => rfl
theorem re_bl {b : Bool} {j : Nat} : PE Y (.Constant (.bool b) j pos) (tE X W (.bl b)) := re_c pe_bl (fun _ => rfl) fun _ _ _ => rfl
theorem re_non {j : Nat} : PE Y (.Constant .none j pos) (tE X W .non) := re_c pe_non (fun _ => rfl) fun _ _ _ => rfl
theorem re_str {x : Str} {j : Nat} : PE Y (.Constant (.str x) j pos) (tE X W (.str x)) := re_c pe_str (fun _ => rfl) fun _ _ _ => rfl
variable {a b c : Expr} {a' b' c' : E}
theorem rd_o2 {o : O2} {r : R2} (hr : O2R X W o r) (h : tE X W (.o2 o a' b') σ H Q) : tOp r (tE X W a') (tE X W b') σ H Q := by
  obtain ⟨w, al, sg, P, h⟩ := h
  refine one_ok P h fun x v s1 w1 al1 H1 P1 L1 hx h1 => ?_
  refine one_ok P1 h1 fun y u s2 w2 al2 H2 P2 L2 hy h2 => ?_
  exact hr _ _ _ _ _ _ _ _ _ _ P2 (hx.mono L2.2) hy h2
theorem re_bin {op : Operator} {o : O2} {r : R2} (hop : OpR Y (binaryOp op) r) (hr : O2R X W o r) (ha : PE Y a (tE X W a')) (hb : PE Y b (tE X W b')) : PE Y (.BinOp a op b pos) (tE X W (.o2 o a' b')) :=
  (pe_op hop ha hb).imp fun _ _ _ h => rd_o2 hr h
theorem re_cmp {op : CmpOp} {o : O2} {r : R2} (hop : OpR Y (compareOp op) r) (hr : O2R X W o r) (ha : PE Y a (tE X W a')) (hb : PE Y b (tE X W b')) (hm : behindInMarks op b = false) : PE Y (.Compare a [op] [b] pos) (tE X W (.o2 o a' b')) :=
  (pe_cmpR hop ha hb hm).imp fun _ _ _ h => rd_o2 hr h
end
end Mp
namespace L2
open PySem PySem.Spec PyProof.Rows
section
variable {X : Cx} {W : WX} {k : Nat} {f C : Addr} {fd : FuncData} {ps : List Str} {sp : Sp} {x m : Str} {p pos apos : Pos} {e o : Expr} {es : List Expr} {ta : TE} {t : TA}
theorem pe_callV0 (F : FnOk X.prog X.w X.K X.mg X.base (L2.CX X.prog X.w) k f fd ps sp) (hr : Room k X.A) (hg : Gl X x) (hm : X.mg x = some (.ref f)) (hk : PySem.W.keepIn X.K (.ref f) = true) (hb : Binds X.K fd ps []) (tk : Takes X W)
    (hdb : (x == ("__debug__" : Str)) = false) : PE X (.Call (.Name x p) [] [] pos) (fun σ H Q => sp [] H Q (WE W σ)) :=
  ⟨fun pins s σ H Q I h => wpAny_Call_Name_kw (ld_glob I hg hm (PySem.W.callWith_K0 I.kIn hk (run_fnS (us := []) (E := WE W) F hr hb (passAt tk σ) I .nil h)) hdb)⟩
theorem run_makeV {pins : List (Addr × Obj)} {σ : St} {H : Hp} {s : Shared} {Q : VK} {us : List Value} {vs : List V} (M : Mk X.K C f) (F : FnOk X.prog X.w X.K X.mg X.base (L2.CX X.prog X.w) k f fd ps sp) (hr : Room (k + 1) X.A) (hb : Binds X.K fd ps [])
    (tk : Takes X W) (I : Inv X pins σ H s) (r : Vals vs us)
    (h : ∀ x dx, H x = none → H dx = none → dx ≠ x → sp (.ref x :: vs) (upd (upd H dx (.own x)) x (.ins C dx [])) (fun v H2 => v = .non ∧ Q (.ref x) H2) (WE W σ)) :
    wpAny (model X.prog X.w) X.A (call (.ref C) us) (EP X pins σ Q) X.xe s := by
  have n1 : H (s.heap.objs.size + 1) = none := I.hok.fresh (Nat.le_succ _)
  have hq := h (s.heap.objs.size + 1) s.heap.objs.size n1 (I.hok.fresh (Nat.le_refl _)) (Nat.ne_of_lt (Nat.lt_succ_self _))
  have J := Inv.made (C := C) I
  have r2 : Vals (V.ref (s.heap.objs.size + 1) :: vs) (Value.ref (s.heap.objs.size + 1) :: us) := .cons rfl r
  have hl : ((Value.ref (s.heap.objs.size + 1) :: us) ++ []).length = ps.length := by
    rw [List.append_nil, ← r2.length]
    exact F.len _ _ _ _ hq
  have b := hb _ (Value.ref (s.heap.objs.size + 1) :: us) J.kIn hl
  rw [List.append_nil] at b
  have go := F.run _ X.stack _ _ _ _ _ _ _ (hr.make C us []) (J.env0.make C us []) b r2 hq
  refine wpAny_call (make_map (f := f) I.kIn M.makes M.init (beq_iff_eq.mp M.fn) (codeAny_mono go fun out s' z => ?_))
  match out, z with
  | .error er, z => exact passAt tk σ pins _ _ er s' J z
  | .ok (.ret u), z =>
    obtain ⟨v, H', J3, rv, ev, q3⟩ := J.after z
    cases ev
    exact ⟨rv, V.ref (s.heap.objs.size + 1), H', J3, rfl, q3⟩
theorem pe_makeV (M : Mk X.K C f) (F : FnOk X.prog X.w X.K X.mg X.base (L2.CX X.prog X.w) k f fd ps sp) (hr : Room (k + 1) X.A) (hg : Gl X x) (hm : X.mg x = some (.ref C)) (hb : Binds X.K fd ps []) (tk : Takes X W)
    (ha : PA X (e :: es) t) (hdb : (x == ("__debug__" : Str)) = false) (he : starEach (e :: es) X.env = (false, eval e X.env) :: starEach es X.env) (hpl : (backTo pos (starEach es X.env)).any (·.1) = false) :
    PE X (.Call (.Name x p) (e :: es) [] pos) (fun σ H Q => t σ H fun vs H1 => ∀ x dx, H1 x = none → H1 dx = none → dx ≠ x → sp (.ref x :: vs) (upd (upd H1 dx (.own x)) x (.ins C dx [])) (fun v H2 => v = .non ∧ Q (.ref x) H2) (WE W σ)) :=
  ⟨fun pins s σ H Q I h => wpAny_Call_Name_kw (ld_glob I hg hm (PySem.W.callWith_K (h₀ := X.base) I.ok.mod.kin M.kp (thn (ha.run pos pins s σ H _ I h) fun us s1 ⟨vs, H1, I1, r, q⟩ => ⟨I1.kIn, run_makeV M F hr hb tk I1 r q⟩) he hpl) hdb)⟩
theorem pe_makeV0 (M : Mk X.K C f) (F : FnOk X.prog X.w X.K X.mg X.base (L2.CX X.prog X.w) k f fd ps sp) (hr : Room (k + 1) X.A) (hg : Gl X x) (hm : X.mg x = some (.ref C)) (hb : Binds X.K fd ps []) (tk : Takes X W)
    (hdb : (x == ("__debug__" : Str)) = false) :
    PE X (.Call (.Name x p) [] [] pos) (fun σ H Q => ∀ x dx, H x = none → H dx = none → dx ≠ x → sp [.ref x] (upd (upd H dx (.own x)) x (.ins C dx [])) (fun v H2 => v = .non ∧ Q (.ref x) H2) (WE W σ)) :=
  ⟨fun pins s σ H Q I h => wpAny_Call_Name_kw (ld_glob I hg hm (PySem.W.callWith_K0 I.kIn M.kp (run_makeV (us := []) (vs := []) M F hr hb tk I .nil h)) hdb)⟩
structure MDsp (X : Cx) (m : Str) (k : Nat) (C : Addr) (sp : Sp) : Prop where
  cl : Cls X.K C
  ex : ∃ (f : Addr) (fd : FuncData) (ps : List Str), Meth X.K C m f ∧ FnOk X.prog X.w X.K X.mg X.base (L2.CX X.prog X.w) k f fd ps sp ∧ Binds X.K fd ps []
theorem pe_methV {pl : Sem Bool} {G : Addr → Sp → Prop} (hG : ∀ C sp, G C sp → MDsp X m k C sp) (he : PE X o ta) (hr : Room k X.A) (tk : Takes X W) (ha : PA X (e :: es) t)
    (hst : starEach (e :: es) X.env = (false, eval e X.env) :: starEach es X.env) (hpl : (backTo pos (starEach es X.env)).any (·.1) = false)
    (ht : eval (.Call (.Attribute o m apos) (e :: es) [] pos) X.env = (do
      let ov ← eval o X.env
      standAt apos.atName
      let (f, first) ← holding [ov] (getMethod ov m pl)
      callWith pos f first (backTo pos (starEach (e :: es) X.env)) (backToKw pos (keywordEach [] X.env)))) :
    PE X (.Call (.Attribute o m apos) (e :: es) [] pos) (fun σ H Q => ta σ H fun x H1 => ∃ a C dx fs sp, G C sp ∧ x = .ref a ∧ H1 a = some (.ins C dx fs) ∧ fs.lookup m = none ∧ t σ H1 fun vs H2 => sp (x :: vs) H2 Q (WE W σ)) := by
  refine ⟨fun pins s σ H Q I h => PySem.W.methodCall_KW (pl := pl) (thn (he.run pins s σ H _ I h) fun u s1 ⟨x, H1, I1, rx, a, C, dx, fs, sp, g, ex, ea, l, q⟩ => ?_) ht⟩
  subst ex
  cases rx
  obtain ⟨cl, f, fd, ps, hm, F, hb⟩ := hG C sp g
  exact getmeth_ok I1 ea cl hm l (PySem.W.callWith_K (first := [.ref a]) (h₀ := X.base) I.ok.mod.kin hm.kp (thn (ha.run pos pins s1 σ H1 _ I1 q) fun us s2 ⟨vs, H2, I2, r, q2⟩ => ⟨I2.kIn, run_fnS (us := .ref a :: us) (vs := .ref a :: vs) (E := WE W) F hr hb (passAt tk σ) I2 (.cons rfl r) q2⟩) hst hpl)
theorem pe_methV0 {pl : Sem Bool} {G : Addr → Sp → Prop} (hG : ∀ C sp, G C sp → MDsp X m k C sp) (he : PE X o ta) (hr : Room k X.A) (tk : Takes X W)
    (ht : eval (.Call (.Attribute o m apos) [] [] pos) X.env = (do
      let ov ← eval o X.env
      standAt apos.atName
      let (f, first) ← holding [ov] (getMethod ov m pl)
      callWith pos f first (backTo pos (starEach [] X.env)) (backToKw pos (keywordEach [] X.env)))) :
    PE X (.Call (.Attribute o m apos) [] [] pos) (fun σ H Q => ta σ H fun x H1 => ∃ a C dx fs sp, G C sp ∧ x = .ref a ∧ H1 a = some (.ins C dx fs) ∧ fs.lookup m = none ∧ sp [x] H1 Q (WE W σ)) := by
  refine ⟨fun pins s σ H Q I h => PySem.W.methodCall_KW (pl := pl) (thn (he.run pins s σ H _ I h) fun u s1 ⟨x, H1, I1, rx, a, C, dx, fs, sp, g, ex, ea, l, q⟩ => ?_) ht⟩
  subst ex
  cases rx
  obtain ⟨cl, f, fd, ps, hm, F, hb⟩ := hG C sp g
  exact getmeth_ok I1 ea cl hm l (PySem.W.callWith_K0 (first := [.ref a]) I1.kIn hm.kp (run_fnS (us := [.ref a]) (vs := [.ref a]) (E := WE W) F hr hb (passAt tk σ) I1 (.cons rfl .nil) q))
end
end L2
namespace L2
open PySem PySem.Spec PyProof.Rows
section
variable {X : Cx} {pins : List (Addr × Obj)} {σ : St} {H : Hp} {s : Shared}
theorem xo_ok {P : Program} {w : World} {H : Hp} {h : Heap} {a : Addr} {cls : Value} {d : Option Addr} {oe : Obj} {vs : Array Value} (e : h.get? a = some oe) (z : Zc cls d oe) (q : oe.data = .fields vs) : ObjOk P w H h a (XO a cls d) :=
  ⟨⟨oe, vs, e, z, q⟩, ⟨oe, e⟩, fun _ _ ⟨o, v, e1, r⟩ k => ⟨o, v, k o e1, r⟩⟩
theorem xo_at {P : Program} {w : World} {H : Hp} {h : Heap} {a : Addr} {cls : Value} {d : Option Addr} (x : HOk P w H h) (e : H a = some (XO a cls d)) : ∃ (oe : Obj) (vs : Array Value), h.get? a = some oe ∧ Zc cls d oe ∧ oe.data = .fields vs := by
  have q : ObjOk P w H h a (.ext fun h => ∃ (oe : Obj) (vs : Array Value), h.get? a = some oe ∧ Zc cls d oe ∧ oe.data = .fields vs) := x a _ e
  exact q.1
theorem Inv.track {a : Addr} {oe : Obj} {vs : Array Value} {cls : Value} {d : Option Addr} (I : Inv X pins σ H s) (he : s.heap.get? a = some oe) (hz : Zc cls d oe) (hd : oe.data = .fields vs) (na : H a = none) (n0 : X.s_0.heap.get? a = none) (nL : a ≠ X.env.locals)
    (np : ∀ p ∈ X.pn ++ pins, p.1 ≠ a) : Inv X pins σ (upd H a (XO a cls d)) s where
  ok := I.ok
  os := I.os
  bare := I.bare
  base := ⟨I.base.keep, I.base.slot, fun b o e n hx => by rw [upd_ne fun z => by rw [z, n0] at e; cases e]; exact I.base.free b o e n hx, I.base.there,
    fun b xs e => by have q := I.base.tups b xs e; rw [upd_ne (ne_of_none q na)]; exact q,
    fun b o u e => by have q := I.base.frzs b o u e; rw [upd_ne (ne_of_none q na)]; exact q,
    fun b ps e => by obtain ⟨m, q⟩ := I.base.tbls b ps e; exact ⟨m, by rw [upd_ne (ne_of_none q na)]; exact q⟩⟩
  loc := I.loc
  cell := I.cell
  free := by rw [upd_ne (Ne.symm nL)]; exact I.free
  freeC := fun x c e => by
    obtain ⟨v, o, e1, e2⟩ := I.cell x c e
    rw [upd_ne fun z => by rw [z, he] at e1; cases e1; rw [hd] at e2; cases e2]
    exact I.freeC x c e
  pin := fun p hp => by
    obtain ⟨e, n, r⟩ := I.pin p hp
    exact ⟨e, by rw [upd_ne (np p hp)]; exact n, r⟩
  hok := fun b o e => by
    by_cases c : b = a
    · subst c; rw [upd_same] at e; cases e; exact xo_ok he hz hd
    · rw [upd_ne c] at e
      exact (I.hok b o e).stay (fun _ _ _ q => q) (fun c q => by rw [upd_ne (ne_of_none q na)]; exact q) fun c xs q => by rw [upd_ne (ne_of_none q na)]; exact q
  len := I.len
theorem Inv.inSuite (I : Inv X pins σ H s) (a : Addr) : Inv (X.suite a (X.pn ++ pins)) [] σ H s :=
  ⟨I.ok.suite _ _, I.os, I.bare, I.base, I.loc, I.cell, I.free, I.freeC, fun p hp => I.pin p (by rw [List.append_nil] at hp; exact hp), I.hok, I.len⟩
theorem Inv.outSuite {a : Addr} {pn' : List (Addr × Obj)} (I : Inv (X.suite a (X.pn ++ pins)) pn' σ H s) (ok : X.Ok) : Inv X pins σ H s :=
  ⟨ok, I.os, I.bare, I.base, I.loc, I.cell, I.free, I.freeC, fun p hp => I.pin p (List.mem_append_left _ hp), I.hok, I.len⟩
def wKeep (K : PySem.W.Frag) (c : Value) (i : Nat) (ts : TS) (Wo : WX) (D : Ends) : WX := fun cls d σ H =>
  ∃ b, PySem.W.exmOne K cls c = some b ∧ (b = false → Wo cls d σ H) ∧
    (b = true → ∀ a, H a = none → ts { nx := fun σ1 H1 => D.nx (σ1.set i none) H1, rt := D.rt, bk := fun σ1 H1 => D.bk (σ1.set i none) H1, ct := fun σ1 H1 => D.ct (σ1.set i none) H1 } (σ.set i (some (.ref a))) (upd H a (XO a cls d)))
end
section
variable {X : Cx} {x n : Str} {c : Value} {i : Nat} {body suite : List Stmt} {b1 : Stmt} {np pos pos' : Pos} {tb : WX → TS} {ts : TS} {Wo : WX}
theorem ps_keep (hs : X.stack = X.env :: X.outer) (hf : X.env.frame = some X.env.locals) (hex : X.ex = []) (hN : X.N.Nodup) (hi : X.N[i]? = some n) (hln : X.env.kindOf n = some .local) (hc : Names X x c) (tk : Takes X Wo)
    (hb : ∀ (W : WX) (pn : List (Addr × Obj)) (xe : Value → Shared → Prop), Takes (X.tr pn xe) W → PassesOwn (model X.prog X.w) X.A X.env xe → PSs (X.tr pn xe) body (tb W))
    (hsu : ∀ (a : Addr) (pn : List (Addr × Obj)), PSs (X.suite a pn) (b1 :: suite) ts) :
    PS X (.Try body [.ExceptHandler (some (.Name x np)) (some n) (b1 :: suite) pos'] [] [] pos) (fun D σ H => tb (wKeep X.K c i ts Wo D) D σ H) := by
  refine ⟨fun pins s σ H D I h => ?_⟩
  have okX := I.ok
  have frX : X.A.frames = some (X.env :: X.outer) := by rw [okX.frames, hs]
  have body_ := hb (wKeep X.K c i ts Wo D) (X.pn ++ pins) (fun e s₁ => wpAny (model X.prog X.w) X.A (noteFrame e X.env) (fun _ s₂ => wpAny (model X.prog X.w) X.A (setFlight e none) (fun _ s₃ =>
    wpAny (model X.prog X.w) X.A (handleBy e X.env [.ExceptHandler (some (.Name x np)) (some n) (b1 :: suite) pos']) (SP X pins D) X.xe s₃) X.xe s₂) X.xe s₁) (fun u s' xx => ?_) PassesOwn.looking
  · refine wpAny_Try_except (wpAny_mono (body_.run [] s σ H D (I.toTry _) h) (fun f s1 hsp => ?_) fun e s1 he => he)
    cases f with
    | next => obtain ⟨σ1, H1, J1, q⟩ := hsp; exact wpAny_execs_nil ⟨σ1, H1, J1.ofTry okX, q⟩
    | brk => obtain ⟨σ1, H1, J1, q⟩ := hsp; exact ⟨σ1, H1, J1.ofTry okX, q⟩
    | cont => obtain ⟨σ1, H1, J1, q⟩ := hsp; exact ⟨σ1, H1, J1.ofTry okX, q⟩
    | ret u => obtain ⟨v, σ1, H1, J1, r, q⟩ := hsp; exact ⟨v, σ1, H1, J1.ofTry okX, r, q⟩
  · obtain ⟨a, B, sI, pins', σ1, H1, cls, d, rfl, J0, nb, up, sky, na, os, ag, b, hb1, hno, hyes⟩ := xx
    have J : Inv X pins σ1 H1 sI := J0.ofTry okX
    have sky2 : Sky B (X.env :: X.outer) a (Zc cls d) X.env.locals s'.heap := by rw [← hs]; exact sky
    show wpAny (model X.prog X.w) X.A (noteFrame (.ref a) X.env) _ _ _
    refine Sky.land Zc.steady frX hf sky2 fun h3 fl3 up3 => ?_
    have J3 : Inv X pins σ1 H1 { s' with heap := h3 } := J.landed nb fl3.1 (up.trans up3) os ag
    obtain ⟨oe3, vs3, he3, hz3, hd3⟩ := fl3.there
    have nfr : a ∉ frs (X.env :: X.outer) := fun hm => by
      obtain ⟨_, o2, e2, hnf⟩ := fl3.2.2.1.mem hm
      rw [he3] at e2; cases e2
      exact hnf _ hd3
    have nL : a ≠ X.env.locals := fun z => nfr (List.mem_filterMap.mpr ⟨X.env, List.mem_cons_self, by rw [hf, z]⟩)
    have nI : ∀ o, sI.heap.get? a ≠ some o := fun o e => by
      have q := nb a o e (by rw [hs]; exact nfr)
      rw [fl3.2.1] at q; cases q
    have n0 : X.s_0.heap.get? a = none := by
      cases e : X.s_0.heap.get? a with
      | none => rfl
      | some o =>
        obtain ⟨o2, q⟩ := J.base.there a o e (by rw [hex]; exact fun z => nomatch z)
        exact (nI o2 q).elim
    have npn : ∀ p ∈ X.pn ++ pins, p.1 ≠ a := fun p hp z => nI p.2 (by rw [← z]; exact (J.pin p hp).1)
    have S3 := (J3.track he3 hz3 hd3 na n0 nL npn).inSuite a
    refine wpAny_handleBy_cons (codeAny_handlers_test ?_) (by intro q; cases q)
    have LT : PySem.W.Looks (model X.prog X.w) h3 (typeOf (.ref a)) cls := fun A Q E s k q => wpAny_typeOf_ref (k _ _ he3) (by rw [hz3.1]; exact q)
    have LM := PySem.W.exm_one (M := model X.prog X.w) (J3.kIn) LT hb1
    have test : ∀ {Q E : Value → Shared → Prop}, Q c { s' with heap := h3 } → wpAny (model X.prog X.w) (X.A.mark (some (.ref a))) (eval (.Name x np) X.env) Q E { s' with heap := h3 } := fun {Q E} q => by
      rcases hc with ⟨hg, hdbg, hm | ⟨hm, hv, hnn⟩⟩
      · exact ld_glob (X := X.suite a (X.pn ++ pins)) S3 hg hm q hdbg
      · exact ld_blt (X := X.suite a (X.pn ++ pins)) S3 hg hm hv q hnn hdbg
    refine test (LM.here ?_)
    cases b with
    | false =>
      show wpAny _ X.A (handleBy (.ref a) X.env []) _ _ _
      refine wpAny_handleBy_nil ?_
      obtain ⟨k1, k2, k3, oe, vs, T, oT, ts', he, hz, hd, h1, hr⟩ := id fl3
      unfold PySem.passOn
      refine wpAny_bind (wpAny_field he hd h1 ?_)
      rw [if_neg (show ¬ ((Value.ref T == Value.none) = true) from by simp)]
      have fin : wpAny (model X.prog X.w) X.A (setFlight (.ref a) X.env.frame) (fun _ s4 => wpAny (model X.prog X.w) X.A (throw (.ref a) : Sem Flow) (SP X pins D) X.xe s4) X.xe { s' with heap := h3 } := by
        rw [hf]
        refine HandSPX.setFlight_upZ fl3 fun h4 hh4 up4 => wpAny_throw (tk _ _ ⟨a, B, sI, pins, σ1, H1, cls, d, rfl, J, nb, (up.trans up3).trans up4, .inr (.inr (by rw [hs]; exact hh4)), na, os, ag, hno rfl⟩)
      first
        | exact wpAny_bind (wpAny_pure (wpAny_bind fin))
        | exact wpAny_bind fin
    | true =>
      refine codeAny_handlers_suite_as (HandSPX.lands_againZ fl3 fun h4 fl4 up4 => ?_)
      have J4 : Inv X pins σ1 H1 { s' with heap := h4 } := J.landed nb fl4.1 ((up.trans up3).trans up4) os ag
      obtain ⟨oe4, vs4, he4, hz4, hd4⟩ := fl4.there
      have S4 := (J4.track he4 hz4 hd4 na n0 nL npn).inSuite a
      refine store_ok (X := X.suite a (X.pn ++ pins)) (v := .ref a) S4 hN hi (.inl hln : Loc X.env.scope n) rfl (fun s5 S5 => ?_) (.inr hln)
      refine wpAny_mono ((hsu a (X.pn ++ pins)).run [] s5 _ _ _ S5 (hyes rfl a na)) (fun f s6 hsp => ?_) (fun _ _ z => False.elim z)
      have off : ∀ {σ6 : St} {H6 : Hp} {Q : Shared → Prop}, Inv (X.suite a (X.pn ++ pins)) [] σ6 H6 s6 → (∀ s7, Inv X pins (σ6.set i none) H6 s7 → Q s7) →
          wpAny (model X.prog X.w) X.A (do bindName X.env n .none; unbindBehindTheSuite X.env n pos') (fun _ s7 => Q s7) X.xe s6 := fun {σ6 H6 Q} S6 hq => gone_ok (S6.outSuite okX) hN hi hln hq
      cases f with
      | next => obtain ⟨σ6, H6, S6, q6⟩ := hsp; exact off S6 fun s7 J7 => ⟨_, _, J7, q6⟩
      | brk => obtain ⟨σ6, H6, S6, q6⟩ := hsp; exact off S6 fun s7 J7 => ⟨_, _, J7, q6⟩
      | cont => obtain ⟨σ6, H6, S6, q6⟩ := hsp; exact off S6 fun s7 J7 => ⟨_, _, J7, q6⟩
      | ret u => obtain ⟨v6, σ6, H6, S6, r6, q6⟩ := hsp; exact off S6 fun s7 J7 => ⟨_, _, _, J7, r6, q6⟩
end
end L2
namespace PySem.W
open PySem PySem.Spec PySem.Calls PyProof.Rows
section
variable {prog : Program} {w : World} {A : Around} {E : Value → Shared → Prop} {s : Shared} {K : Frag} {x D : Addr} {ox : Obj} {od : Option Obj}
theorem findObj_dsc {C : Addr} {name : Str} {av gv : Value} (hc : (clsIn K C).isSome = true) (ha : findIn K (.ref C) name = some (some av)) (hg : specialIn K av "__get__" = some (some gv)) (ht : takesIn K av = some true) : findObj K C od name = some (.bind gv av) := by
  obtain ⟨cd, hc⟩ := Option.isSome_iff_exists.mp hc
  unfold findObj
  rw [hc, Option.bind_some, ha, Option.bind_some]
  simp [hg, ht]
theorem exc_cls (hga : findIn K (.ref D) "__getattribute__" = some (some (.builtin "BaseException.__getattribute__"))) (hgt : findIn K (.ref D) "__getattr__" = some none) (hsub : subIn K (.ref D) (.type "BaseException") = some true) (hdct : hasDictIn K D = true)
    (ha : findIn K (.ref D) "__class__" = some (some (.builtin "object.__class__"))) (hn : specialIn K (.builtin "object.__class__") "__get__" = some (some (.builtin "getset_descriptor.__get__"))) (htk : takesIn K (.builtin "object.__class__") = some true) (hm : mroIn K D (.type "object") = some true)
    {Q : Option Value → Shared → Prop} (KI : K.In s.heap) (I : InstAt s.heap x ox D od) (h : Q (some (.ref D)) { s with toks := s.toks + 1 }) : wpAny (model prog w) A (getAttr? (.ref x) "__class__") Q E s := by
  have hf : findObj K D od "__class__" = some (.bind (.builtin "getset_descriptor.__get__") (.builtin "object.__class__")) := findObj_dsc (by obtain ⟨cd, hc, _⟩ := any_some hdct; rw [hc]; rfl) ha hn htk
  obtain ⟨hp, g, dr, tk, os⟩ := s
  have T0 := I.type (M := model prog w)
  have T1 := looks_findIn (M := model prog w) KI hga
  have T2 := looks_findIn (M := model prog w) KI hgt
  have T3 := looks_find (M := model prog w) KI I hf
  have tsub : Looks (model prog w) hp (isInstance (.ref x) (.type "BaseException")) true := T0.andThen (looks_subIn KI hsub)
  have n1 : (false && onTheHeap (Value.builtin "BaseException.__getattribute__")) = false := rfl
  have n2 : (onTheHeap (Value.ref D) && Value.builtin "BaseException.__getattribute__" == Value.builtin "object.__getattribute__") = false := by
    rw [show (Value.builtin "BaseException.__getattribute__" == Value.builtin "object.__getattribute__") = false from by decide +kernel] <;> rfl
  unfold getAttr? getAttrBy? getAttrBy
  refine wpAny_bind (wpAny_mkText (wpAny_bind (wpAny_attempt (wpAny_holding (wpAny_bind (T0.at (wpAny_bind (T1.at ?_))))))))
  show wpAny _ _ (if (onTheHeap (Value.ref D) && Value.builtin "BaseException.__getattribute__" == Value.builtin "object.__getattribute__") = true then _ else _) _ _ _
  rw [n2, if_neg Bool.false_ne_true]
  unfold getAttrByItsOwn hookBefore
  refine wpAny_bind ?_
  rw [if_pos (show onTheHeap (Value.ref D) = true from rfl)]
  refine T2.at (wpAny_bind (wpAny_attempt (wpAny_holding ?_)))
  unfold callGetattribute
  rw [n1, if_neg Bool.false_ne_true]
  unfold boundAndCalled
  rw [PySem.F.excAttr_ValueError.ga.bind (.ref x)]
  refine wpAny_bind (wpAny_pure ?_)
  show wpAny _ _ (call (.builtin "BaseException.__getattribute__") [.ref x, .str "__class__" tk]) _ _ _
  refine wpAny_call (codeAny_call_builtin PySem.F.excAttr_ValueError.ga.plain PySem.F.entry_bexc_ga (@check_slot (model prog w) _ _ ⟨hp, g, dr, tk + 1, os⟩ "BaseException.__getattribute__" "BaseException" "__getattribute__" (.ref x) [.str "__class__" tk] [] _ (by decide +kernel) (by decide +kernel) tsub (PySem.F.args_bexc_ga (.ref x) (.str "__class__" tk)) ?_))
  unfold Builtin.«object.__getattribute__»
  refine wpAny_bind (wpAny_of_eq (a := ((Value.ref x : Value), [Value.str "__class__" tk])) (by first | rfl | (simp only [slotArgs]; rfl)) ?_)
  refine wpAny_bind (wpAny_pure (wpAny_bind (T0.at (wpAny_bind (T3.at ?_)))))
  show wpAny _ _ (holding [Value.builtin "object.__class__"] (call (.builtin "getset_descriptor.__get__") [.builtin "object.__class__", .ref x, .ref D]) >>= ret) _ _ _
  refine wpAny_bind (wpAny_holding (wpAny_call (class_get (s := ⟨hp, g, dr, tk + 1, os⟩) (ox := ox) (od := od) KI I hm ?_)))
  refine wpAny_pure ?_
  show wpAny _ _ (handedOut (.ref D)) _ _ _
  rw [handedOut_of (v := .ref D) rfl]
  first
    | exact wpAny_pure (wpAny_pure h)
    | exact wpAny_pure h
    | exact wpAny_pure (wpAny_bind (wpAny_pure (wpAny_pure h)))
theorem kitx_exc (hga : findIn K (.ref D) "__getattribute__" = some (some (.builtin "BaseException.__getattribute__"))) (hgt : findIn K (.ref D) "__getattr__" = some none) (hsub : subIn K (.ref D) (.type "BaseException") = some true) (hdct : hasDictIn K D = true)
    (ha : findIn K (.ref D) "__class__" = some (some (.builtin "object.__class__"))) (hn : specialIn K (.builtin "object.__class__") "__get__" = some (some (.builtin "getset_descriptor.__get__"))) (htk : takesIn K (.builtin "object.__class__") = some true) (hm : mroIn K D (.type "object") = some true) :
    KitX K (.ref x) (.ref D) (fun h => InstAt h x ox D od) := by
  obtain ⟨cdD, hcD, _⟩ := any_some hdct
  have hl : ∃ (c' : Value) (d' : Option Addr) (cd' : ClassData) (sl' : Array (Option Value)), K.lookup D = some ⟨c', d', .cls cd', sl'⟩ := by
    unfold clsIn at hcD
    split at hcD
    · rename_i c' d' cd' sl' ho; exact ⟨c', d', cd', sl', ho⟩
    · cases hcD
  obtain ⟨c', d', cd', sl', ho⟩ := hl
  refine ⟨fun _ _ _ I => I.type, fun _ _ KI _ A' Q' E' s' k q => ?_, fun h tp dd its n sl KI htp => Bool.eq_false_iff.mpr fun q => ?_, fun KI I k => exc_cls hga hgt hsub hdct ha hn htk hm KI I k⟩
  · unfold isType loadHead
    exact wpAny_bind (wpAny_loadPart (k _ _ (KI _ _ ho)) (wpAny_pure q))
  · have e : D = tp := Value.ref.inj (beq_iff_eq.mp q)
    subst e
    cases (KI _ _ ho).symm.trans htp
end
end PySem.W
namespace L2
open PySem PySem.Spec PyProof.Rows
section
variable {X : Cx} {pins : List (Addr × Obj)} {σ : St} {H : Hp} {s : Shared}
theorem xo_inst {a C : Addr} {dx : Option Addr} (I : Inv X pins σ H s) (ea : H a = some (XO a (.ref C) dx)) (hd : dx = none ∨ ∃ dd gs, dx = some dd ∧ H dd = some (.xd gs)) : ∃ (oe : Obj) (od : Option Obj), PySem.W.InstAt s.heap a oe C od ∧
    ((dx = none ∧ od = none) ∨ ∃ (dd : Addr) (gs : List (Str × V)) (o : Obj) (mA : Str → Option Value), dx = some dd ∧ H dd = some (.xd gs) ∧ od = some o ∧ (∀ name, PySem.W.lookIn name o = some (mA name)) ∧ ∀ f, RelO (gs.lookup f) (mA f)) := by
  obtain ⟨oe, vs, he, hz, hf⟩ := xo_at I.hok ea
  rcases hd with rfl | ⟨dd, gs, rfl, ed⟩
  · exact ⟨oe, none, ⟨he, hz.1, by unfold PySem.W.notCls; rw [hf] <;> rfl, by rw [hz.2]; trivial⟩, .inl ⟨rfl, rfl⟩⟩
  · obtain ⟨mA, hns, hr⟩ := (show ∃ mA, s.heap.Ns1 dd mA ∧ ∀ f, RelO (gs.lookup f) (mA f) from I.hok dd _ ed)
    obtain ⟨od, ho, hl⟩ := lookIn_ns hns
    exact ⟨oe, some od, ⟨he, hz.1, by unfold PySem.W.notCls; rw [hf] <;> rfl, by rw [hz.2]; exact ho⟩, .inr ⟨dd, gs, od, mA, rfl, ed, rfl, hl, hr⟩⟩
def rIsX (K : PySem.W.Frag) : List V → Hp → VK → Prop := fun xs H Q => ∃ (a D : Addr) (dx : Option Addr) (c : V) (cv : Value) (b : Bool), xs = [.ref a, c] ∧ ExcC K D ∧ ClsV c cv ∧ H a = some (XO a (.ref D) dx) ∧ (dx = none ∨ ∃ dd gs, dx = some dd ∧ H dd = some (.xd gs)) ∧ PySem.W.kitOne K (.ref D) cv = some b ∧ Q (.bl b) H
theorem call_isX : CallR X (.builtin "isinstance") (rIsX X.K) := by
  intro pins s σ H xs us Q I r h
  obtain ⟨a, D, dx, c, cv, b, rfl, C, k, ea, hd, e, q⟩ := h
  obtain ⟨u1, u2, rfl, r1, r2⟩ := vals2 r
  have e2 := k.eq r2
  subst e2
  cases (show u1 = Value.ref a from r1)
  obtain ⟨oe, od, J, _⟩ := xo_inst I ea hd
  exact PySem.W.kia_one (PySem.W.kitx_exc C.hg C.hk C.hs C.hd C.ha C.hn C.ht C.hm) I.kIn J e (fun z => nomatch z) fun tk => ⟨.bl b, H, I.tok tk, rfl, q⟩
theorem pe_xt {e : Expr} {te : TE} {pos : Pos} {n : Str} (he : PE X e te) (hb : attributeBase e n X.env (eval e X.env) = eval e X.env) :
    PE X (.Attribute e n pos) (fun σ H Q => te σ H fun x H1 => ∃ (a C dd : Addr) (gs : List (Str × V)) (v : V), x = .ref a ∧ XfC X.K C ∧ PySem.W.findIn X.K (.ref C) n = some none ∧ H1 a = some (XO a (.ref C) (some dd)) ∧ H1 dd = some (.xd gs) ∧ gs.lookup n = some v ∧ Q v H1) := by
  refine ⟨fun pins s σ H Q I h => attr_of hb (thn (he.run pins s σ H _ I h) fun u s1 hh => ?_)⟩
  obtain ⟨x, H1, I1, rx, a, C, dd, gs, v, rfl, T, hno, ea, ed, l, q⟩ := hh
  obtain rfl : u = Value.ref a := rx
  obtain ⟨oe, od, J, z⟩ := xo_inst I1 ea (.inr ⟨dd, gs, rfl, ed⟩)
  rcases z with ⟨z, _⟩ | ⟨dd2, gs2, o, mA, z, ed2, rfl, hl, hr⟩
  · cases z
  · cases z
    rw [ed] at ed2; cases ed2
    obtain ⟨u, hu, ru⟩ := RelO.some_of (v := v) (o := mA n) (by rw [← l]; exact hr n)
    exact HandSPX.exc_get I1.kIn J T.ga T.gg T.exC (PySem.W.findObj_own T.hdC hno rfl (by rw [hl, hu])) (handed_of ru) ⟨v, H1, I1.tok _, ru, q⟩
theorem pe_oinit {C0 : Addr} {o e : Expr} {es : List Expr} {ta : TA} {apos pos : Pos} {pl : Sem Bool} (ho : PE X o (tC (.ref C0))) (r : ClX.CRead X.K C0 (.type "type")) (at_ : PySem.W.findCls X.K (.ref C0) (.type "type") "__init__" = some (.val (.builtin "ValueError.__init__"))) (ha : PA X (e :: es) ta)
    (hst : starEach (e :: es) X.env = (false, eval e X.env) :: starEach es X.env) (hpl : (backTo pos (starEach es X.env)).any (·.1) = false)
    (ht : eval (.Call (.Attribute o "__init__" apos) (e :: es) [] pos) X.env = (do
      let ov ← eval o X.env
      standAt apos.atName
      let (f, first) ← holding [ov] (getMethod ov "__init__" pl)
      callWith pos f first (backTo pos (starEach (e :: es) X.env)) (backToKw pos (keywordEach [] X.env)))) :
    PE X (.Call (.Attribute o "__init__" apos) (e :: es) [] pos) (tVeI X.K ta) := by
  refine ⟨fun pins s σ H Q I h => PySem.W.methodCall_KW (pl := pl) (thn (ho.run pins s σ H (fun x H1 => x = .ref C0 ∧ H = H1) I ⟨rfl, rfl⟩) fun u s1 ⟨x, H1, I1, rx, ex, eH⟩ => ?_) ht⟩
  subst ex eH
  obtain rfl : u = Value.ref C0 := rx
  refine PySem.W.method_cls I1.kIn r.ga (PySem.W.cls_value I1.kIn r.rd at_ (by decide) ?_)
  refine PyProof.Rows.callWith_method1 (thn (ha.run pos pins _ σ H _ (I1.tok _) h) fun us s2 ⟨vs, H2, I2, r2, a, C, ws, ev, hl, T, ea, q⟩ => ?_) hst hpl
  subst ev
  cases r2 with
  | @cons _ u0 _ ur ra rw2 =>
    obtain rfl : u0 = Value.ref a := ra
    exact oinit_ok T I2 ea (by rw [← Paired.length rw2, sizeLine_eq]; omega) fun s3 J => ⟨.non, H2, J, rfl, q⟩
end
end L2
namespace Mp
open PySem L2
def tame : Expr → Bool
  | .Starred _ _ => false
  | .Set _ _ _ => false
  | .Slice _ _ _ _ => false
  | .SetComp _ _ _ _ => false
  | .DictComp _ _ _ _ _ => false
  | .GeneratorExp _ _ _ _ => false
  | _ => true
def notSup : Expr → Bool
  | .Call (.Name id _) [] [] _ => id != ("super" : Str)
  | _ => true
def notLc : Expr → Bool
  | .ListComp _ _ _ _ => false
  | _ => true
theorem star_ok {e : Expr} {es : List Expr} {env : Env} (h : tame e = true) : starEach (e :: es) env = (false, eval e env) :: starEach es env := by
  cases e <;> first | rfl | (simp [tame] at h)
theorem plain_ok {env : Env} {pos : Pos} : ∀ {es : List Expr}, es.all tame = true → (backTo pos (starEach es env)).any (·.1) = false
  | [], _ => rfl
  | e :: es, h => by
    rw [List.all_cons, Bool.and_eq_true] at h
    rw [star_ok h.1]
    have ih := plain_ok (env := env) (pos := pos) h.2
    unfold backTo at ih ⊢
    rw [List.map_cons, List.any_cons, ih] <;> rfl
theorem ab_ok {o : Expr} {m : Str} {env : Env} {wh : Sem Value} (h : notSup o = true) : attributeBase o m env wh = wh := by
  unfold attributeBase
  split
  · rename_i id p pos
    simp only [notSup] at h
    simp only [h, Bool.true_or, if_true, bind_pure]
  · rfl
theorem few_ok {env : Env} {pos : Pos} {es : List Expr} {n : Nat} (h : es.all tame = true) (hn : n < 30) : methodCallForm n (backTo pos (starEach es env)) (backToKw pos (keywordEach [] env)) = true := by
  have a : (backTo pos (starEach es env)).all (!·.1) = true := by
    have b := plain_ok (env := env) (pos := pos) h
    rw [List.any_eq_false] at b
    rw [List.all_eq_true]
    intro x hx
    have := b x hx
    simpa using this
  unfold methodCallForm
  rw [a]
  simp [keywordEach, backToKw, hn]
theorem meth_ok {o : Expr} {m : Str} {apos pos : Pos} {es : List Expr} {env : Env} (h : notSup o = true) (ht : es.all tame = true) (hn : es.length < 30) (hl : (apos.endLine == pos.line) = true) :
    eval (.Call (.Attribute o m apos) es [] pos) env = (do
      let ov ← eval o env
      standAt apos.atName
      let (f, first) ← holding [ov] (getMethod ov m (do return (← importBound o env).getD true))
      callWith pos f first (backTo pos (starEach es env)) (backToKw pos (keywordEach [] env))) := by
  have e1 : eval (.Call (.Attribute o m apos) es [] pos) env = (do
      let ov ← attributeBase o m env (eval o env)
      standAt apos.atName
      methodCall o m apos pos env ov (es.length + ([] : List Keyword).length) (backTo pos (starEach es env)) (backToKw pos (keywordEach [] env))) := rfl
  have e2 := few_ok (env := env) (pos := pos) (n := es.length + ([] : List Keyword).length) ht hn
  rw [e1, ab_ok h]
  unfold methodCall calleeOf methodCallPos
  rw [e2]
  simp only [hl, if_true, Bool.not_true, Bool.false_or, pure_bind]
theorem px_ok {b : Expr} (h : tame b = true) : PlainIx b := by
  intro o i
  cases b <;> first | rfl | (simp [tame] at h)
theorem sw_ok {e : Expr} {t : Option Expr} {l : Nat} {env : Env} (h : tame e = true) (h2 : notLc e = true) : swapsWith e t l env = pure false := by
  cases e <;> first | rfl | (simp [tame] at h; done) | (simp [notLc] at h2; done)
theorem sw_at {e o : Expr} {f : Str} {p : Pos} {l : Nat} {env : Env} (h : tame e = true) : swapsWith e (some (.Attribute o f p)) l env = pure false := by
  cases e <;> first | rfl | (simp [tame] at h; done)
theorem sw_sb {e o i : Expr} {p : Pos} {l : Nat} {env : Env} (h : tame e = true) : swapsWithSole [.Subscript o i p] e l env = pure false := by
  cases e <;> first | rfl | (simp [tame] at h; done)
theorem sws_ok {e t : Expr} {l : Nat} {env : Env} (h : tame e = true) (h2 : notLc e = true) : swapsWithSole [t] e l env = pure false := sw_ok h h2
theorem fs_ok {e : Expr} {env : Env} (h : tame e = true) (x : Value) : foldedSetIterable e env x = pure x := by
  cases e <;> first | rfl | (simp [tame] at h; done)
theorem bm_ok {op : CmpOp} {e : Expr} (h : tame e = true) : behindInMarks op e = false := by
  cases e <;> first | rfl | (simp [tame] at h; done)
def notTup : Expr → Bool
  | .Tuple _ _ _ => false
  | _ => true
theorem ss_ok {t : Expr} {e : Expr} {env : Env} (h : notTup e = true) : swappedStores [t] e env = pure none := by
  cases e <;> first | (simp [notTup] at h; done) | (unfold swappedStores; cases t <;> rfl)
def plainT : Expr → Bool
  | .UnaryOp .Not _ _ => false
  | .BoolOp _ _ _ => false
  | .IfExp _ _ _ _ => false
  | .Compare _ _ _ _ => false
  | _ => true
theorem it_ok {e : Expr} {env : Env} (h : plainT e = true) (wh : Sem Value) : isTrue e env wh = (do let v ← wh; standAt e.pos; holding [v] (truthy v)) := by
  cases e with
  | UnaryOp op x p => cases op <;> first | rfl | (simp [plainT] at h; done)
  | _ => first | rfl | (simp [plainT] at h; done)
theorem lm_ok {o o' : CmpOp} {b c : Expr} (h : tame c = true) : lastMarks [o, o'] [b, c] = false := by
  show behindInMarks o' c = false
  exact bm_ok h
end Mp
namespace Mp
open PySem L2
def MuR (T : Tb) (w : Wt) (al : List Addr) (mu : List Nd) (H : Hp) : Prop := al.length = mu.length ∧ ∀ n d, mu[n]? = some d → ∃ a, al[n]? = some a ∧ w a = some (.mut n) ∧ NdM T w al H a d
def Trk (w : Wt) (H : Hp) : Prop := ∀ a o, w a = some o → ∃ u, H a = some u
def Lent (w : Wt) : Prop := ∀ a o, w a = some o → o = .frz ∨ o = .lnt ∨ ∃ n, o = .mut n
def OkR (T : Tb) (w : Wt) (al : List Addr) (H : Hp) (Q : VK) (E : XK) : Out (List Nd) Rv → Prop
  | .ok r mu' => ∀ v w' al' H', MuR T w' al' mu' H' → AlX al al' → Ext w H w' H' → Fr w H w' H' → Trk w' H' → (∃ ow, (ow = .res ∨ ∃ i, ow = .slot i) ∧ Res T w' al' H' ow r v) → Q v H'
  | .exc c fs mu' => ∀ cls d w' al' H', MuR T w' al' mu' H' → AlX al al' → Ext w H w' H' → Fr w H w' H' → Trk w' H' → ExR T w' H' c fs cls d → E cls d H'
  | .stuck => False
def spG (T : Tb) (rc : Rec) (np f : Nat) : Sp := fun vs H Q E => ∃ w al mu rs, Cvs T w al H rs vs ∧ MuR T w al mu H ∧ Lent w ∧ Trk w H ∧ rs.length = np ∧ OkR T w al H Q E (rc f rs mu)
theorem Cvs.length {T : Tb} {w : Wt} {al : List Addr} {H : Hp} : ∀ {rs : List Rv} {vs : List V}, Cvs T w al H rs vs → rs.length = vs.length
  | [], _, h => by cases (show _ = [] from h); rfl
  | _ :: _, _, ⟨v, r, e, _, h⟩ => by subst e; simp [Cvs.length h]
section
variable {X : Fx} {W : WX} {σ : St} {w w1 w' : Wt} {al al1 al' : List Addr} {H H1 H' : Hp} {sg : Sg} {Q : VK} {Y : Cx} {pos : Pos}
def frzW (w : Wt) : Wt := fun a => match w a with
  | some .frz => some .frz
  | some .lnt => some .lnt
  | _ => none
theorem frzW_frz {a : Addr} : frzW w a = some .frz ↔ w a = some .frz := by
  unfold frzW
  cases e : w a with
  | none => simp
  | some o => cases o <;> simp
theorem frzW_lnt {a : Addr} : frzW w a = some .lnt ↔ w a = some .lnt := by
  unfold frzW
  cases e : w a with
  | none => simp
  | some o => cases o <;> simp
theorem frzW_none {a : Addr} (h : ¬ KpA w a) : frzW w a = none := by
  unfold frzW
  cases e : w a with
  | none => rfl
  | some o => cases o <;> first | rfl | exact absurd (Or.inl e) h | exact absurd (Or.inr e) h
theorem frzW_some {a : Addr} {o : Ow} (h : frzW w a = some o) : w a = some o ∧ (o = .frz ∨ o = .lnt) := by
  unfold frzW at h
  cases e : w a with
  | none => rw [e] at h; cases h
  | some q => rw [e] at h; cases q <;> first | (cases h; done) | (cases h; exact ⟨rfl, .inl rfl⟩) | (cases h; exact ⟨rfl, .inr rfl⟩)
theorem frzW_ext : Ext w H (frzW w) H := ⟨fun a h => ⟨frzW_frz.mpr h, rfl⟩, fun a h => ⟨frzW_lnt.mpr h, rfl⟩⟩
theorem frzW_lent : Lent (frzW w) := fun a o h => (frzW_some h).2.imp id .inl
def mrg (H : Hp) (w w' : Wt) (cv : Ow → Option Ow) : Wt := fun a => if (H a).isSome = true ∧ ¬ KpA w a then w a else (w' a).bind cv
def FrC (H : Hp) (w w' : Wt) (H' : Hp) : Prop := ∀ a u, H a = some u → ¬ KpA w a → w' a = none ∧ H' a = some u
section
variable {cv : Ow → Option Ow} (f : FrC H w w' H')
theorem mrg_old {a : Addr} {u : HO} (h : H a = some u) (n : ¬ KpA w a) : mrg H w w' cv a = w a := by
  unfold mrg; rw [if_pos ⟨by rw [h]; rfl, n⟩]
include f in
theorem mrg_new {a : Addr} {o : Ow} (h : w' a = some o) : mrg H w w' cv a = cv o := by
  unfold mrg
  by_cases c : (H a).isSome = true ∧ ¬ KpA w a
  · obtain ⟨u, hu⟩ := Option.isSome_iff_exists.mp c.1
    have := (f a u hu c.2).1
    rw [h] at this; cases this
  · rw [if_neg c, h] <;> rfl
include f in
theorem mrg_ext (hc : cv .frz = some .frz ∧ cv .lnt = some .lnt) : Ext w' H' (mrg H w w' cv) H' := ⟨fun a h => ⟨(mrg_new f h).trans hc.1, rfl⟩, fun a h => ⟨(mrg_new f h).trans hc.2, rfl⟩⟩
include f in
theorem mrg_up (hc : cv .frz = some .frz ∧ cv .lnt = some .lnt) (x : Ext w H w' H') : Ext w H (mrg H w w' cv) H' := ⟨fun a h =>
  ⟨(mrg_new f (x a h).1).trans hc.1, (x a h).2⟩, fun a h => ⟨(mrg_new f (x.l a h).1).trans hc.2, (x.l a h).2⟩⟩
theorem Pt.mrg (P : Pt X σ sg w al H) (f : FrC H w w' H') (hc : cv .frz = some .frz ∧ cv .lnt = some .lnt) (x : Ext w H w' H') (t : Trk w' H') : Pt X σ sg (mrg H w w' cv) al H' := by
  have own : ∀ a o, w a = some o → o ≠ .frz → o ≠ .lnt → Mp.mrg H w w' cv a = some o ∧ H' a = H a := fun a o h n n2 => by
    obtain ⟨u, hu⟩ := P.1.trk a o h
    have ne : ¬ KpA w a := by rintro (z | z) <;> rw [h] at z <;> first | exact n (Option.some.inj z) | exact n2 (Option.some.inj z)
    exact ⟨(mrg_old hu ne).trans h, (f a u hu ne).2.trans hu.symm⟩
  refine ⟨P.1.keep AlX.refl (mrg_up f hc x) (fun a i h => own a _ h (by intro z; cases z) (by intro z; cases z)) (fun a n h => own a _ h (by intro z; cases z) (by intro z; cases z)) fun a o h => ?_, fun a u h1 h2 => ?_⟩
  · by_cases c : (H a).isSome = true ∧ ¬ KpA w a
    · obtain ⟨u, hu⟩ := Option.isSome_iff_exists.mp c.1
      exact ⟨u, (f a u hu c.2).2⟩
    · unfold Mp.mrg at h
      rw [if_neg c] at h
      cases e : w' a with
      | none => rw [e] at h; cases h
      | some o' => exact t a o' e
  · obtain ⟨h3, h4⟩ := P.2 a u h1 h2
    have ne : ¬ KpA w a := by rintro (z | z) <;> rw [h3] at z <;> cases z
    exact ⟨(mrg_old h4 ne).trans h3, (f a u h4 ne).2⟩
end
theorem trk_frzW (t : Trk w H) : Trk (frzW w) H := fun a o h => t a _ (frzW_some h).1
theorem frC_of (f : Fr (frzW w) H w' H') : FrC H w w' H' := fun a u h n => f a u h (frzW_none n)
theorem exC_of (x : Ext (frzW w) H w' H') : Ext w H w' H' := ⟨fun a h => x a (frzW_frz.mpr h), fun a h => x.l a (frzW_lnt.mpr h)⟩
def cvQ (q : Ow) : Ow → Option Ow := fun o => match o with
  | .frz => some .frz
  | .lnt => some .lnt
  | o => if o = q then some .res else none
theorem cvQ_q {q : Ow} (h : q ≠ .frz) (h2 : q ≠ .lnt) : cvQ q q = some .res := by cases q <;> simp_all [cvQ]
theorem ExR.mono {T : Tb} {c : Nat} {fs : List D} {cls : Value} {d : Option Addr} (x : Ext w H w' H') (h : ExR T w H c fs cls d) : ExR T w' H' c fs cls d := by
  obtain ⟨e1, e2⟩ := h
  exact ⟨e1, e2.imp id fun ⟨dd, gs, g1, g2, g3, g4, g5⟩ => ⟨dd, gs, g1, (x dd g2).1, (x dd g2).2.trans g3, g4, g5.mono x⟩⟩
theorem dfzs_ok {T : Tb} {wf : Wt} {f : Rv → Option D} (hf : ∀ (r : Rv) (x : D) (v : V), f r = some x → Cv T w al H r v → Val T wf H x v) : ∀ (rs : List Rv) (xs : List D) (vs : List V), dfzs f rs = some xs → Cvs T w al H rs vs → Vls T wf H xs vs
  | [], xs, vs, e, h => by cases e; exact h
  | r :: rs, xs, vs, e, ⟨v, q, e2, h1, h2⟩ => by
    subst e2
    simp only [dfzs] at e
    cases z1 : f r with
    | none => rw [z1] at e; cases e
    | some y =>
      cases z2 : dfzs f rs with
      | none => rw [z1, z2] at e; cases e
      | some ys =>
        rw [z1, z2] at e; cases e
        exact ⟨v, q, rfl, hf r y v z1 h1, dfzs_ok hf rs ys q z2 h2⟩
theorem dfz_ok {T : Tb} {mu : List Nd} (wf : Wt) (hm : MuR T w al mu H) (hw : ∀ a, (w a = some .frz ∨ ∃ n, w a = some (.mut n)) → wf a = some .frz) (hl : ∀ a, w a = some .lnt → wf a = some .lnt) : ∀ (k : Nat) (r : Rv) (x : D) (v : V), dfz mu k r = some x → Cv T w al H r v → Val T wf H x v
  | k, .d y, x, v, e, h => by
    have : y = x := by cases k <;> (simp only [dfz] at e; exact Option.some.inj e)
    subst this
    exact Val.mono ⟨fun a z => ⟨hw a (.inl z), rfl⟩, fun a z => ⟨hl a z, rfl⟩⟩ _ _ h
  | k, .o y, x, v, e, h => h.elim
  | 0, .m n, x, v, e, h => by simp [dfz] at e
  | k + 1, .m n, x, v, e, ⟨a, ha, hv⟩ => by
    subst hv
    simp only [dfz] at e
    cases z : mu[n]? with
    | none => rw [z] at e; cases e
    | some d =>
      rw [z] at e
      obtain ⟨b, hb, hwb, hd⟩ := hm.2 n d z
      rw [ha] at hb; cases hb
      have wa := hw a (.inr ⟨n, hwb⟩)
      cases d with
      | lst xs =>
        simp only [Option.map_eq_some_iff] at e
        obtain ⟨ys, e1, rfl⟩ := e
        obtain ⟨vs, g1, g2⟩ := hd
        exact ⟨a, vs, rfl, wa, g1, dfzs_ok (dfz_ok wf hm hw hl k) xs ys vs e1 g2⟩
      | dct ks xs =>
        simp only [Option.map_eq_some_iff] at e
        obtain ⟨ys, e1, rfl⟩ := e
        obtain ⟨kvs, g1, g3, g2⟩ := hd
        exact ⟨a, kvs, rfl, wa, .inl g1, g3, dfzs_ok (dfz_ok wf hm hw hl k) xs ys _ e1 g2⟩
      | tdc ks xs =>
        simp only [Option.map_eq_some_iff] at e
        obtain ⟨ys, e1, rfl⟩ := e
        obtain ⟨kvs, g1, g3, g4, g2⟩ := hd
        exact ⟨a, kvs, rfl, wa, .inl g1, g3, Vls.mono ⟨fun a z => ⟨hw a (.inl z), rfl⟩, fun a z => ⟨hl a z, rfl⟩⟩ _ _ g4, dfzs_ok (dfz_ok wf hm hw hl k) xs ys _ e1 g2⟩
      | obj c ns xs =>
        simp only [Option.map_eq_some_iff] at e
        obtain ⟨ys, e1, rfl⟩ := e
        obtain ⟨dx, fs, g1, g3, g2⟩ := hd
        exact ⟨a, dx, fs, rfl, wa, g1, g3, dfzs_ok (dfz_ok wf hm hw hl k) xs ys _ e1 g2⟩
def cvN : Ow → Option Ow := fun o => match o with
  | .frz => some .frz
  | .lnt => some .lnt
  | .mut _ => some .frz
  | _ => none
theorem rd_callD {f np : Nat} {ds : List D} {vs : List V} (P : Pt X σ sg w al H) (hv : Vls X.T w H ds vs) (hl : ds.length = np) (h : OkG X W σ w al H (FE X Q) (callD X.rc f ds sg)) : spG X.T X.rc np f vs H Q (WE W σ) := by
  refine ⟨frzW w, [], [], ds.map .d, Vls.isCvs (hv.mono frzW_ext), ⟨rfl, fun n d e => by simp at e⟩, frzW_lent, trk_frzW P.1.trk, by simpa using hl, ?_⟩
  unfold callD at h
  cases e : X.rc f (ds.map .d) [] with
  | stuck => rw [e] at h; exact h
  | exc c fs mu =>
    rw [e] at h
    intro cls d w' al' H' _ _ x' f' t' xr
    have f2 := frC_of f'
    exact h cls d _ al H' (P.mrg (cv := cvQ .res) f2 ⟨rfl, rfl⟩ (exC_of x') t') ⟨AlX.refl, mrg_up f2 ⟨rfl, rfl⟩ (exC_of x')⟩ (xr.mono (mrg_ext f2 ⟨rfl, rfl⟩))
  | ok r mu =>
    rw [e] at h
    cases r with
    | d x =>
      intro v w' al' H' _ _ x' f' t' ⟨ow, _, hr⟩
      have f2 := frC_of f'
      exact h _ al H' (P.mrg (cv := cvQ .res) f2 ⟨rfl, rfl⟩ (exC_of x') t') ⟨AlX.refl, mrg_up f2 ⟨rfl, rfl⟩ (exC_of x')⟩ v ((show Val X.T w' H' x v from hr).mono (mrg_ext (cv := cvQ .res) f2 ⟨rfl, rfl⟩))
    | o x =>
      intro v w' al' H' _ _ x' f' t' ⟨ow, ho, a, e1, e2, e3⟩
      have f2 := frC_of f'
      have nf : ow ≠ .frz := by rcases ho with rfl | ⟨i, rfl⟩ <;> (intro z; cases z)
      have nl : ow ≠ .lnt := by rcases ho with rfl | ⟨i, rfl⟩ <;> (intro z; cases z)
      exact h _ al H' (P.mrg (cv := cvQ ow) f2 ⟨rfl, rfl⟩ (exC_of x') t') ⟨AlX.refl, mrg_up f2 ⟨rfl, rfl⟩ (exC_of x')⟩ v ⟨a, e1, (mrg_new f2 e2).trans (cvQ_q nf nl), e3.mono (mrg_ext (cv := cvQ ow) f2 ⟨rfl, rfl⟩) rfl⟩
    | m n =>
      simp only at h
      intro v w' al' H' mr _ x' f' t' hr
      have f2 := frC_of f'
      cases z : dfz mu 8 (.m n) with
      | none => rw [z] at h; exact (show False from h).elim
      | some y =>
        rw [z] at h
        obtain ⟨ow, _, hv2⟩ := hr
        refine h _ al H' (P.mrg (cv := cvN) f2 ⟨rfl, rfl⟩ (exC_of x') t') ⟨AlX.refl, mrg_up f2 ⟨rfl, rfl⟩ (exC_of x')⟩ v ?_
        refine dfz_ok (Mp.mrg H w w' cvN) mr (fun a q => ?_) (fun a q => (mrg_new (cv := cvN) f2 q).trans rfl) 8 (.m n) y v z hv2
        rcases q with q | ⟨n, q⟩ <;> exact mrg_new f2 q
def cvI (o : Nat) : Ow → Option Ow := fun q => match q with
  | .frz => some .frz
  | .lnt => some .lnt
  | .mut n => some (.mut (n + o))
  | _ => none
theorem Pt.more {mu2 : List Nd} {al2 : List Addr} (P : Pt X σ sg w al H) (hl : al2.length = mu2.length) (hm : ∀ n d, mu2[n]? = some d → ∃ a, al2[n]? = some a ∧ w a = some (.mut (n + sg.mu.length)) ∧ NdM X.T w (al ++ al2) H a d) :
    Pt X σ { sg with mu := sg.mu ++ mu2 } w (al ++ al2) H := by
  have ax : AlX al (al ++ al2) := ⟨al2, rfl⟩
  refine ⟨⟨fun i r e => ?_, fun n d e => ?_, P.1.trk, P.1.len, by simp [hl, P.1.alen]⟩, P.2⟩
  · obtain ⟨v, g1, g2⟩ := P.1.slots i r e
    exact ⟨v, g1, g2.mono Ext.refl ax fun a q => ⟨q, rfl⟩⟩
  · have e : (sg.mu ++ mu2)[n]? = some d := e
    by_cases c : n < sg.mu.length
    · rw [List.getElem?_append_left c] at e
      obtain ⟨b, g1, g2, g3⟩ := P.1.muts n d e
      exact ⟨b, ax.get g1, g2, g3.mono Ext.refl ax rfl⟩
    · rw [List.getElem?_append_right (by omega)] at e
      obtain ⟨a, g1, g2, g3⟩ := hm (n - sg.mu.length) d e
      refine ⟨a, ?_, by rw [g2]; congr 2; omega, g3⟩
      rw [List.getElem?_append_right (by rw [P.1.alen]; omega), P.1.alen]
      exact g1
theorem Cvs.sh {T : Tb} {al1 al' : List Addr} {o : Nat} (x : Ext w H w' H') (ho : o = al1.length) : ∀ {rs : List Rv} {vs : List V}, Cvs T w al' H rs vs → Cvs T w' (al1 ++ al') H' (rs.map (shR o)) vs
  | [], _, h => h
  | .d y :: rs, _, ⟨v, r, e, h1, h2⟩ => ⟨v, r, e, (show Val T w' H' y v from Val.mono x _ _ h1), Cvs.sh x ho h2⟩
  | .m n :: rs, _, ⟨v, r, e, ⟨a, h1, h3⟩, h2⟩ => ⟨v, r, e, ⟨a, by rw [ho, List.getElem?_append_right (by omega), Nat.add_sub_cancel]; exact h1, h3⟩, Cvs.sh x ho h2⟩
  | .o _ :: _, _, ⟨v, r, e, h1, h2⟩ => h1.elim
theorem NdM.sh {T : Tb} {al1 al' : List Addr} {o : Nat} {a : Addr} (x : Ext w H w' H) (ho : o = al1.length) : ∀ {d : Nd}, NdM T w al' H a d → NdM T w' (al1 ++ al') H a (shN o d)
  | .lst _, ⟨vs, h1, h2⟩ => ⟨vs, h1, Cvs.sh x ho h2⟩
  | .dct _ _, ⟨kvs, h1, h3, h2⟩ => ⟨kvs, h1, h3, Cvs.sh x ho h2⟩
  | .tdc _ _, ⟨kvs, h1, h3, h4, h2⟩ => ⟨kvs, h1, h3, Vls.mono x _ _ h4, Cvs.sh x ho h2⟩
  | .obj _ _ _, ⟨dx, fs, h1, h3, h2⟩ => ⟨dx, fs, h1, h3, Cvs.sh x ho h2⟩
theorem rd_callI {f np : Nat} {ds : List D} {vs : List V} (P : Pt X σ sg w al H) (hv : Vls X.T w H ds vs) (hl : ds.length = np) (h : OkG X W σ w al H (FE X Q) (callI X.rc f ds sg)) : spG X.T X.rc np f vs H Q (WE W σ) := by
  refine ⟨frzW w, [], [], ds.map .d, Vls.isCvs (hv.mono frzW_ext), ⟨rfl, fun n d e => by simp at e⟩, frzW_lent, trk_frzW P.1.trk, by simpa using hl, ?_⟩
  unfold callI at h
  cases e : X.rc f (ds.map .d) [] with
  | stuck => rw [e] at h; exact h
  | exc c fs mu => rw [e] at h; exact (show False from h).elim
  | ok r mu =>
    rw [e] at h
    cases r with
    | d x => exact (show False from h).elim
    | o x => exact (show False from h).elim
    | m n =>
      intro v w' al' H' mr _ x' f' t' ⟨ow, _, a, hr1, hr2⟩
      have f2 := frC_of f'
      have P2 := P.mrg (cv := cvI sg.mu.length) f2 ⟨rfl, rfl⟩ (exC_of x') t'
      have P3 := P2.more (mu2 := mu.map (shN sg.mu.length)) (al2 := al') (by simp [mr.1]) (fun k d e => by
        rw [List.getElem?_map, Option.map_eq_some_iff] at e
        obtain ⟨d0, e0, rfl⟩ := e
        obtain ⟨b, g1, g2, g3⟩ := mr.2 k d0 e0
        exact ⟨b, g1, (mrg_new (cv := cvI sg.mu.length) f2 g2).trans rfl, g3.sh (mrg_ext (cv := cvI sg.mu.length) f2 ⟨rfl, rfl⟩) P.1.alen.symm⟩)
      refine h _ (al ++ al') H' P3 ⟨⟨al', rfl⟩, mrg_up f2 ⟨rfl, rfl⟩ (exC_of x')⟩ v ⟨a, ?_, hr2⟩
      rw [← P.1.alen, List.getElem?_append_right (by omega), Nat.add_sub_cancel]
      exact hr1
theorem rd_new {c : Nat} {F : Fn} {k : Cl} {ds : List D} {vs : List V} (P : Pt X σ sg w al H) (hk : X.G.cls[c]? = some k) (hF : X.G.fns[k.ini]? = some F) (hv : Vls X.T w H ds vs) (h : OkG X W σ w al H (FE X Q) (newD X.G X.rc c ds sg)) {x dx : Addr} (hx : H x = none) (hd : H dx = none) (ne : dx ≠ x) :
    spG X.T X.rc F.ps.length k.ini (.ref x :: vs) (upd (upd H dx (.own x)) x (.ins (X.T.cA c) dx [])) (fun v H2 => v = .non ∧ Q (.ref x) H2) (WE W σ) := by
  unfold newD at h
  rw [hk] at h
  simp only [arOk, hF] at h
  by_cases hl : ds.length + 1 = F.ps.length
  case neg => rw [decide_eq_false hl] at h; exact (show False from h).elim
  rw [decide_eq_true hl] at h
  have nx : w x = none := P.1.free hx
  have old : ∀ a u, H a = some u → upd (upd H dx (.own x)) x (.ins (X.T.cA c) dx []) a = some u := fun a u z => by
    rw [upd_ne (ne_of_none z hx), upd_ne (ne_of_none z hd)]; exact z
  have wold : ∀ a, a ≠ x → setW (frzW w) x (.mut 0) a = frzW w a := fun a n => setW_ne n
  have x0 : Ext w H (setW (frzW w) x (.mut 0)) (upd (upd H dx (.own x)) x (.ins (X.T.cA c) dx [])) := Ext.of fun a oo z zz => by
    obtain ⟨u, hu⟩ := P.1.trk a _ z
    have n : a ≠ x := ne_of_none hu hx
    exact ⟨by rw [wold a n]; rcases zz with rfl | rfl; exact frzW_frz.mpr z; exact frzW_lnt.mpr z, (old a u hu).trans hu.symm⟩
  refine ⟨setW (frzW w) x (.mut 0), [x], [.obj c [] []], .m 0 :: ds.map .d, ⟨_, _, rfl, ⟨x, rfl, rfl⟩, Vls.isCvs (hv.mono x0)⟩, ⟨rfl, fun n d e => ?_⟩, fun a o z => ?_, fun a o z => ?_, by simpa using hl, ?_⟩
  · match n, e with
    | 0, e =>
      cases e
      exact ⟨x, rfl, setW_same, dx, [], upd_same, rfl, rfl⟩
    | n + 1, e => simp at e
  · by_cases n : a = x
    · subst n; rw [setW_same] at z; exact .inr (.inr ⟨0, (Option.some.inj z).symm⟩)
    · rw [wold a n] at z; exact frzW_lent a o z
  · by_cases n : a = x
    · subst n; exact ⟨_, upd_same⟩
    · rw [wold a n] at z
      obtain ⟨u, hu⟩ := trk_frzW P.1.trk a o z
      exact ⟨u, old a u hu⟩
  · have frc : ∀ {w' : Wt} {H' : Hp}, Fr (setW (frzW w) x (.mut 0)) (upd (upd H dx (.own x)) x (.ins (X.T.cA c) dx [])) w' H' → FrC H w w' H' := fun {w' H'} f' a u z n => by
      refine f' a u (old a u z) ?_
      rw [wold a (ne_of_none z hx)]
      exact frzW_none n
    cases e : X.rc k.ini (.m 0 :: ds.map .d) [.obj c [] []] with
    | stuck => rw [e] at h; exact h
    | exc cc fs mu =>
      rw [e] at h
      intro cls d w' al' H' _ _ x' f' t' xr
      have f2 := frc f'
      exact h cls d _ al H' (P.mrg (cv := cvN) f2 ⟨rfl, rfl⟩ (x0.trans x') t') ⟨AlX.refl, mrg_up f2 ⟨rfl, rfl⟩ (x0.trans x')⟩ (xr.mono (mrg_ext f2 ⟨rfl, rfl⟩))
    | ok r mu =>
      rw [e] at h
      intro v w' al' H' mr ax x' f' t' hr
      have f2 := frc f'
      match r, h, hr with
      | .d .non, h, ⟨ow, _, hr⟩ =>
        cases (show v = V.non from hr)
        refine ⟨rfl, ?_⟩
        simp only at h
        cases z : dfz mu 8 (.m 0) with
        | none => rw [z] at h; exact (show False from h).elim
        | some y =>
          rw [z] at h
          refine h _ al H' (P.mrg (cv := cvN) f2 ⟨rfl, rfl⟩ (x0.trans x') t') ⟨AlX.refl, mrg_up f2 ⟨rfl, rfl⟩ (x0.trans x')⟩ _ ?_
          refine dfz_ok (Mp.mrg H w w' cvN) mr (fun a q => ?_) (fun a q => (mrg_new (cv := cvN) f2 q).trans rfl) 8 (.m 0) y (.ref x) z ⟨x, ax.get rfl, rfl⟩
          rcases q with q | ⟨n, q⟩ <;> exact mrg_new f2 q
      | .d (.bl _), h, _ => exact (show False from h).elim
      | .d (.int _), h, _ => exact (show False from h).elim
      | .d (.str _), h, _ => exact (show False from h).elim
      | .d (.tup _), h, _ => exact (show False from h).elim
      | .d (.lst _), h, _ => exact (show False from h).elim
      | .d (.dct _ _), h, _ => exact (show False from h).elim
      | .d (.obj _ _ _), h, _ => exact (show False from h).elim
      | .d (.scr _), h, _ => exact (show False from h).elim
      | .d (.rl _), h, _ => exact (show False from h).elim
      | .d (.xc _ _), h, _ => exact (show False from h).elim
      | .d (.tdc _ _), h, _ => exact (show False from h).elim
      | .o _, h, _ => exact (show False from h).elim
      | .m _, h, _ => exact (show False from h).elim
def lendW (w : Wt) : Wt := fun a => match w a with
  | some .frz => some .frz
  | some .lnt => some .lnt
  | some (.mut n) => some (.mut n)
  | _ => none
theorem lendW_or (a : Addr) : lendW w a = w a ∨ lendW w a = none := by
  unfold lendW
  cases e : w a with
  | none => exact .inr rfl
  | some o => cases o <;> simp
theorem lendW_frz {a : Addr} (h : w a = some .frz) : lendW w a = some .frz := by unfold lendW; rw [h]
theorem lendW_lnt {a : Addr} (h : w a = some .lnt) : lendW w a = some .lnt := by unfold lendW; rw [h]
theorem lendW_mut {a : Addr} {n : Nat} (h : w a = some (.mut n)) : lendW w a = some (.mut n) := by unfold lendW; rw [h]
theorem lendW_lent : Lent (lendW w) := fun a o h => by
  unfold lendW at h
  cases e : w a with
  | none => rw [e] at h; cases h
  | some q =>
    rw [e] at h
    cases q with
    | frz => cases h; exact .inl rfl
    | lnt => cases h; exact .inr (.inl rfl)
    | «mut» n => cases h; exact .inr (.inr ⟨n, rfl⟩)
    | slot i => cases h
    | res => cases h
def mrgM (H : Hp) (w w' : Wt) (cv : Ow → Option Ow) : Wt := fun a => if (H a).isSome = true ∧ lendW w a = none then w a else (w' a).bind cv
section
variable {cv : Ow → Option Ow} (f : Fr (lendW w) H w' H')
theorem mrgM_old {a : Addr} {u : HO} (h : H a = some u) (n : lendW w a = none) : mrgM H w w' cv a = w a := by
  unfold mrgM; rw [if_pos ⟨by rw [h]; rfl, n⟩]
include f in
theorem mrgM_new {a : Addr} {o : Ow} (h : w' a = some o) : mrgM H w w' cv a = cv o := by
  unfold mrgM
  by_cases c : (H a).isSome = true ∧ lendW w a = none
  · obtain ⟨u, hu⟩ := Option.isSome_iff_exists.mp c.1
    have := (f a u hu c.2).1
    rw [h] at this; cases this
  · rw [if_neg c, h] <;> rfl
include f in
theorem mrgM_ext (hc : cv .frz = some .frz ∧ cv .lnt = some .lnt) : Ext w' H' (mrgM H w w' cv) H' := ⟨fun a h => ⟨(mrgM_new f h).trans hc.1, rfl⟩, fun a h => ⟨(mrgM_new f h).trans hc.2, rfl⟩⟩
theorem ext_lendW (x : Ext (lendW w) H w' H') : Ext w H w' H' := ⟨fun a h => x a (lendW_frz h), fun a h => x.l a (lendW_lnt h)⟩
include f in
theorem mrgM_up (hc : cv .frz = some .frz ∧ cv .lnt = some .lnt) (x : Ext (lendW w) H w' H') : Ext w H (mrgM H w w' cv) H' := ⟨fun a h =>
  ⟨(mrgM_new f (x a (lendW_frz h)).1).trans hc.1, (x a (lendW_frz h)).2⟩, fun a h => ⟨(mrgM_new f (x.l a (lendW_lnt h)).1).trans hc.2, (x.l a (lendW_lnt h)).2⟩⟩
theorem Pt.mrgM {mu' : List Nd} (P : Pt X σ sg w al H) (f : Fr (lendW w) H w' H') (hc : cv .frz = some .frz ∧ cv .lnt = some .lnt) (hm : ∀ n, cv (.mut n) = some (.mut n)) (x : Ext (lendW w) H w' H') (t : Trk w' H') (m : MuR X.T w' al' mu' H') (ax : AlX al al') : Pt X σ { sg with mu := mu' } (mrgM H w w' cv) al' H' := by
  have own : ∀ a o, w a = some o → lendW w a = none → Mp.mrgM H w w' cv a = some o ∧ H' a = H a := fun a o h n => by
    obtain ⟨u, hu⟩ := P.1.trk a o h
    exact ⟨(mrgM_old hu n).trans h, (f a u hu n).2.trans hu.symm⟩
  refine ⟨⟨fun i r e => ?_, fun n d e => ?_, fun a o h => ?_, P.1.len, m.1⟩, fun a u h1 h2 => ?_⟩
  · obtain ⟨v, g1, g2⟩ := P.1.slots i r e
    exact ⟨v, g1, g2.mono (mrgM_up f hc x) ax fun a q => own a _ q (by unfold lendW; rw [q])⟩
  · obtain ⟨a, g1, g2, g3⟩ := m.2 n d e
    exact ⟨a, g1, (mrgM_new f g2).trans (hm n), g3.mono (mrgM_ext f hc) AlX.refl rfl⟩
  · by_cases c : (H a).isSome = true ∧ lendW w a = none
    · obtain ⟨u, hu⟩ := Option.isSome_iff_exists.mp c.1
      exact ⟨u, (f a u hu c.2).2⟩
    · unfold Mp.mrgM at h
      rw [if_neg c] at h
      cases e : w' a with
      | none => rw [e] at h; cases h
      | some o' => exact t a o' e
  · obtain ⟨h3, h4⟩ := P.2 a u h1 h2
    have n : lendW w a = none := by unfold lendW; rw [h3]
    exact ⟨(mrgM_old h4 n).trans h3, (f a u h4 n).2⟩
end
def cvM (q : Ow) : Ow → Option Ow := fun o => match o with
  | .frz => some .frz
  | .lnt => some .lnt
  | .mut n => some (.mut n)
  | o => if o = q then some .res else none
theorem cvM_q {ow : Ow} (ho : ow = .res ∨ ∃ i, ow = .slot i) : cvM ow ow = some .res := by
  rcases ho with rfl | ⟨i, rfl⟩ <;> simp [cvM]
theorem rd_callM {f np : Nat} {rs : List Rv} {vs : List V} (P : Pt X σ sg w al H) (hv : Cvs X.T w al H rs vs) (hl : rs.length = np) (h : OkG X W σ w al H (FE X Q) (callM X.rc f rs sg)) : spG X.T X.rc np f vs H Q (WE W σ) := by
  have x0 : Ext w H (lendW w) H := ⟨fun a h => ⟨lendW_frz h, rfl⟩, fun a h => ⟨lendW_lnt h, rfl⟩⟩
  refine ⟨lendW w, al, sg.mu, rs, hv.mono x0 AlX.refl, ⟨P.1.alen, fun n d e => ?_⟩, lendW_lent, fun a o e => ?_, hl, ?_⟩
  · obtain ⟨a, g1, g2, g3⟩ := P.1.muts n d e
    exact ⟨a, g1, lendW_mut g2, g3.mono x0 AlX.refl rfl⟩
  · rcases lendW_or (w := w) a with z | z
    · rw [z] at e; exact P.1.trk a o e
    · rw [z] at e; cases e
  unfold callM at h
  cases e : X.rc f rs sg.mu with
  | stuck => rw [e] at h; exact h
  | exc c fs mu =>
    rw [e] at h
    intro cls d w' al' H' m' ax x' f' t' xr
    exact h cls d _ al' H' (P.mrgM (cv := cvM .res) f' ⟨rfl, rfl⟩ (fun _ => rfl) x' t' m' ax) ⟨ax, mrgM_up f' ⟨rfl, rfl⟩ x'⟩ (xr.mono (mrgM_ext f' ⟨rfl, rfl⟩))
  | ok r mu =>
    rw [e] at h
    intro v w' al' H' m' ax x' f' t' ⟨ow, ho, hr⟩
    refine h _ al' H' (P.mrgM (cv := cvM ow) f' ⟨rfl, rfl⟩ (fun _ => rfl) x' t' m' ax) ⟨ax, mrgM_up f' ⟨rfl, rfl⟩ x'⟩ v ?_
    cases r with
    | d x => exact (show Val X.T w' H' x v from hr).mono (mrgM_ext (cv := cvM ow) f' ⟨rfl, rfl⟩)
    | m n => exact hr
    | o x =>
      obtain ⟨a, e1, e2, e3⟩ := hr
      exact ⟨a, e1, (mrgM_new f' e2).trans (cvM_q ho), e3.mono (mrgM_ext (cv := cvM ow) f' ⟨rfl, rfl⟩) rfl⟩
theorem rd_callG {f : Nat} {F : Fn} {rs : List Rv} {vs : List V} (P : Pt X σ sg w al H) (hF : X.G.fns[f]? = some F) (hv : Cvs X.T w al H rs vs) (h : OkG X W σ w al H (FE X Q) (callG X.G X.rc f rs sg)) : spG X.T X.rc F.ps.length f vs H Q (WE W σ) := by
  unfold callG at h
  simp only [arOk, hF] at h
  by_cases hl : rs.length = F.ps.length
  · rw [decide_eq_true hl] at h
    cases z : getDs rs with
    | none => simp only [z] at h; exact rd_callM P hv hl h
    | some ds =>
      simp only [z] at h
      have hd := Cvs.ds z hv
      exact rd_callD P hd (by rw [← hl, hd.length, hv.length]) h
  · rw [decide_eq_false hl] at h; exact (show False from h).elim
end
end Mp
namespace L2
open PySem PySem.Spec PyProof.Rows
def spI (C : Addr) (fs : List Str) : Sp := fun vs H Q _ => ∃ (a : Addr) (ws : List V), vs = .ref a :: ws ∧ ws.length = fs.length ∧ H a = some (exo a C none) ∧
  ∀ (dx : Addr) (H' : Hp), H dx = none → dx ≠ a → (∀ b, b ≠ a → b ≠ dx → H' b = H b) → H' a = some (exo a C (some dx)) → H' dx = some (exd dx ((fs.zip ws).reverse)) → Q .non H'
def tFl (K : PySem.W.Frag) : Nat → List Str → TS
  | _, [] => tNext
  | k, f :: fs => tSeq (tOst K f (tVar 0) (tVar k)) (tFl K (k + 1) fs)
section
variable {K : PySem.W.Frag} {C a : Addr} {D : Ends} {σ : St}
theorem tFl_on (T : OexC K C) (h0 : σ[0]? = some (some (.ref a))) : ∀ (fs : List Str) (k : Nat) (ws : List V) (gs : List (Str × V)) (dx : Addr) (H : Hp), (∀ f ∈ fs, PySem.W.findIn K (.ref C) f = some none) → ws.length = fs.length → (∀ (i : Nat) (y : V), ws[i]? = some y → σ[k + i]? = some (some y)) → gs.length + fs.length ≤ 900 →
    H a = some (exo a C (some dx)) → H dx = some (exd dx gs) → dx ≠ a → (∀ H', (∀ b, b ≠ dx → H' b = H b) → H' dx = some (exd dx ((fs.zip ws).reverse ++ gs)) → D.nx σ H') → tFl K k fs D σ H
  | [], _, ws, gs, dx, H, _, _, _, _, _, ed, _, h => h H (fun _ _ => rfl) (by simpa using ed)
  | f :: fs, k, [], gs, dx, H, _, hl, _, _, _, _, _, _ => by simp at hl
  | f :: fs, k, y :: ws, gs, dx, H, hn, hl, hs, hz, ea, ed, ne, h => by
    refine ⟨y, hs 0 y rfl, .ref a, h0, a, C, rfl, T, hn f (List.mem_cons_self ..), .inr ⟨dx, gs, ea, ed, by simp at hz; omega, ?_⟩⟩
    refine tFl_on T h0 fs (k + 1) ws ((f, y) :: gs) dx _ (fun g hg => hn g (List.mem_cons_of_mem _ hg)) (by simpa using hl) (fun i z e => by rw [Nat.add_right_comm]; exact hs (i + 1) z e) (by simp at hz ⊢; omega) (by rw [upd_ne (Ne.symm ne)]; exact ea) upd_same ne fun H2 e1 e2 => ?_
    refine h H2 (fun b hb => (e1 b hb).trans (upd_ne hb)) ?_
    rw [e2]; simp
theorem tFl_ok (T : OexC K C) (h0 : σ[0]? = some (some (.ref a))) {fs : List Str} {ws : List V} {H : Hp} {Q : VK} (hn : ∀ f ∈ fs, PySem.W.findIn K (.ref C) f = some none) (hp : fs ≠ []) (hl : ws.length = fs.length) (hs : ∀ (i : Nat) (y : V), ws[i]? = some y → σ[1 + i]? = some (some y)) (hz : fs.length ≤ 900)
    (ea : H a = some (exo a C none)) (h : ∀ (dx : Addr) (H' : Hp), H dx = none → dx ≠ a → (∀ b, b ≠ a → b ≠ dx → H' b = H b) → H' a = some (exo a C (some dx)) → H' dx = some (exd dx ((fs.zip ws).reverse)) → D.nx σ H') : tFl K 1 fs D σ H := by
  cases fs with
  | nil => exact (hp rfl).elim
  | cons f fs =>
    cases ws with
    | nil => simp at hl
    | cons y ws =>
      refine ⟨y, hs 0 y rfl, .ref a, h0, a, C, rfl, T, hn f (List.mem_cons_self ..), .inl ⟨ea, fun dx hdx ne => ?_⟩⟩
      refine tFl_on T h0 fs 2 ws [(f, y)] dx _ (fun g hg => hn g (List.mem_cons_of_mem _ hg)) (by simpa using hl) (fun i z e => by rw [show 2 + i = 1 + (i + 1) by omega]; exact hs (i + 1) z e) (by simp at hz ⊢; omega) upd_same (by rw [upd_ne ne]; exact upd_same) ne fun H2 e1 e2 => ?_
      refine h dx H2 hdx ne (fun b hb hb2 => (e1 b hb2).trans (by rw [upd_ne hb, upd_ne hb2])) ((e1 a (Ne.symm ne)).trans upd_same) ?_
      rw [e2]; simp
end
end L2
namespace Mp
open PySem L2
structure XlOk (T : Tb) (G : Tab) (P : Program) (w : World) (mg : Str → Option Value) (base : Heap) (m : Nat) (c : Nat) (k : Xl) : Prop where
  glo : mg k.nm = some (.ref (T.xA c))
  kp : PySem.W.keepIn T.K (.ref (T.xA c)) = true
  be : PySem.W.subIn T.K (.ref (T.xA c)) (.type "BaseException") = some true
  ty : PySem.W.typeIn T.K (.ref (T.xA c)) = some (.type "type")
  exm : ∀ c' k', G.xs[c']? = some k' → PySem.W.exmOne T.K (.ref (T.xA c)) (.ref (T.xA c')) = some (k.sup.contains c')
  kit : ∀ c' k', G.xs[c']? = some k' → PySem.W.kitOne T.K (.ref (T.xA c)) (.ref (T.xA c')) = some (k.sup.contains c')
  kiV : PySem.W.kitOne T.K (.ref (T.xA c)) (.type "ValueError") = some true
  kiN : PySem.W.kitOne T.K (.type "NoneType") (.ref (T.xA c)) = some false
  ec : ExcC T.K (T.xA c)
  xf : XfC T.K (T.xA c)
  na : ∀ f ∈ k.fs, PySem.W.findIn T.K (.ref (T.xA c)) f = some none
  nm : T.xN c = k.fs
  own : match k.ini with
    | none => PySem.W.excIn T.K (T.xA c) He.veBase "ValueError.__new__" = true
    | some _ => OexC T.K (T.xA c) ∧ ∃ (fI : Addr) (fd : FuncData) (ps : List Str), PySem.W.findIn T.K (.ref (T.xA c)) "__init__" = some (some (.ref fI)) ∧ PySem.W.typeIn T.K (.ref fI) = some (.type "function") ∧ FnOk P w T.K mg base (L2.CX P w) m fI fd ps (spI (T.xA c) k.fs.reverse) ∧ Binds T.K fd ps [] ∧ k.fs.length ≤ 900
end Mp
namespace Mp
open PySem L2
def tyS : Ty → String
  | .int => "int"
  | .bool => "bool"
  | .str => "str"
  | .list => "list"
  | .tuple => "tuple"
  | .cls _ => "object"
structure GF (X : Fx) (n : Nat) (P : Program) (w : World) (mg : Str → Option Value) (base : Heap) (fA : Nat → Addr) (fre : List Str) : Prop where
  fns : ∀ f F, X.G.fns[f]? = some F → ∃ fd, FnOk P w X.T.K mg base (L2.CX P w) (2 * n + 2) (fA f) fd F.ps (spG X.T X.rc F.ps.length f) ∧ Binds X.T.K fd F.ps [] ∧ PySem.W.keepIn X.T.K (.ref (fA f)) = true
  glo : ∀ f F, X.G.fns[f]? = some F → F.cl = none → mg F.nm = some (.ref (fA f))
  cls : ∀ c k, X.G.cls[c]? = some k → Cls X.T.K (X.T.cA c)
  mth : ∀ c k m f, X.G.cls[c]? = some k → k.meths.lookup m = some f → Meth X.T.K (X.T.cA c) (X.T.aN m) (fA f) ∧ ∃ F, X.G.fns[f]? = some F
  mks : ∀ c k, X.G.cls[c]? = some k → Mk X.T.K (X.T.cA c) (fA k.ini) ∧ (∃ F, X.G.fns[k.ini]? = some F) ∧ mg k.nm = some (.ref (X.T.cA c))
  clr : ∀ (c : Nat) (k : Cl), X.G.cls[c]? = some k → k.cms ≠ [] → ClX.CRead X.T.K (X.T.cA c) (.type "type")
  cmt : ∀ (c : Nat) (k : Cl) (m f : Nat), X.G.cls[c]? = some k → k.cms.contains m = true → k.meths.lookup m = some f → PySem.W.findCls X.T.K (.ref (X.T.cA c)) (.type "type") (X.T.aN m) = some (.val (.ref (fA f)))
  noat : ∀ c k a, X.G.cls[c]? = some k → a ∈ k.atts → NoAttr X.T.K (X.T.cA c) (X.T.aN a)
  inj : ∀ i j, X.T.aN i = X.T.aN j → i = j
  cn : ∀ (k : Nat) (x : Str) (d : D), X.G.cn[k]? = some (x, d) → ∃ u v, mg x = some u ∧ RelV v u ∧ ∀ w H, Val X.T w H d v
  fre : ∀ x ∈ fre, mg x = none
  kit : ∀ c k c', X.G.cls[c]? = some k → (∃ k', X.G.cls[c']? = some k') → PySem.W.kitOne X.T.K (.ref (X.T.cA c)) (.ref (X.T.cA c')) = some (k.sup.contains c')
  kiB : ∀ c k, X.G.cls[c]? = some k → ∀ t ∈ ["NoneType", "bool", "int", "str", "list", "tuple", "dict"], PySem.W.kitOne X.T.K (.type t) (.ref (X.T.cA c)) = some false ∧ PySem.W.kitOne X.T.K (.ref (X.T.cA c)) (.type t) = some false
  kiO : ∀ c k, X.G.cls[c]? = some k → PySem.W.findIn X.T.K (.ref (X.T.cA c)) "__class__" = some (some (.builtin "object.__class__")) ∧ PySem.W.mroIn X.T.K (X.T.cA c) (.type "object") = some true
  kiG : PySem.W.specialIn X.T.K (.builtin "object.__class__") "__get__" = some (some (.builtin "getset_descriptor.__get__")) ∧ PySem.W.takesIn X.T.K (.builtin "object.__class__") = some true
  xs : ∀ c k, X.G.xs[c]? = some k → XlOk X.T X.G P w mg base (2 * n + 2) c k
structure Cc (X : Fx) (n : Nat) (fA : Nat → Addr) (fre : List Str) (cf : Str → Bool) (sc : Scope) (Nm : List Str) (W : WX) (Y : Cx) : Prop where
  K : Y.K = X.T.K
  wd : Y.w = X.T.wd
  gf : GF X n Y.prog Y.w Y.mg Y.base fA fre
  N : Y.N = Nm
  nd : Nm.Nodup
  scp : Y.env.scope = sc
  calm : Y.calm = true
  room : Room (2 * n + 3) Y.A
  tk : Takes Y W
  fn : ∀ x, cf x = true → Y.fn x = true
section
variable {X : Fx} {n : Nat} {fA : Nat → Addr} {fre : List Str} {cf : Str → Bool} {sc : Scope} {Nm : List Str} {W : WX} {Y : Cx} {pos apos p p2 p3 : Pos} {a b c : Expr} {a' b' c' : E} {es : List Expr} {es' : E} {σ : St} {Q : VK} {H : Hp}
theorem Cc.hu9 (C : Cc X n fA fre cf sc Nm W Y) : Y.A.units + 9 < cLine := by have := C.room.units; omega
theorem Cc.hu (C : Cc X n fA fre cf sc Nm W Y) : Y.A.units + 1 < cLine := hu_of C.room
theorem Cc.gl (C : Cc X n fA fre cf sc Nm W Y) {x : Str} (h : sc.names.lookup x = some .globalImplicit) : Gl Y x := by
  show Y.env.scope.names.lookup x = _
  rw [C.scp]; exact h
theorem rd_T (h : tT X W a' σ H Q') : tE X W a' σ H (fun x H1 => ∃ k, x = .bl k ∧ Q' k H1) := by
  obtain ⟨w, al, sg, P, h⟩ := h
  refine ⟨w, al, sg, P, ?_⟩
  cases e : ev X.G X.rc a' sg with
  | stuck => rw [e] at h; exact h
  | exc c fs s => rw [e] at h; exact h
  | ok rs s =>
    rw [e] at h
    intro w' al' H' P' L'
    have q := h w' al' H' P' L'
    match rs, q with
    | [.d (.bl b)], q => exact fun v hv => ⟨b, hv, q⟩
theorem rt_val (ha : PE Y a (tE X W a')) (h : plainT a = true) : PT Y a (tT X W a') :=
  (pt_val ha (it_ok h)).imp fun _ _ _ q => rd_T q
theorem rt_cmp {op : CmpOp} {o : O2} {r : R2} (hop : OpR Y (compareOp op) r) (hr : O2R X W o r) (ha : PE Y a (tE X W a')) (hb : PE Y b (tE X W b')) (hm : behindInMarks op b = false) : PT Y (.Compare a [op] [b] pos) (tT X W (.o2 o a' b')) :=
  (pt_cmpR hop ha hb hm).imp fun _ _ _ h => rd_o2 hr (rd_T h)
theorem rd_ch {o o' : O2} {r r' : R2} (hr : O2R X W o r) (hr' : O2R X W o' r') (h : tE X W (.ch o o' a' b' c') σ H Q) : tChain r r' (tE X W a') (tE X W b') (tE X W c') σ H Q := by
  obtain ⟨w, al, sg, P, h⟩ := h
  refine one_ok P h fun x v s1 w1 al1 H1 P1 L1 hx h1 => ?_
  refine one_ok P1 h1 fun y u s2 w2 al2 H2 P2 L2 hy h2 => ?_
  have hx2 := hx.mono L2.2
  cases e : o2F o x y with
  | none => rw [e] at h2; exact (show False from h2).elim
  | some q =>
    rw [e] at h2
    have go : ∀ bb, q = .d (.bl bb) → OkG X W σ w2 al2 H2 (FE X fun z H3 => ∃ k, z = .bl k ∧ if k = true then tE X W c' σ H3 fun w' H4 => r' u w' H4 Q else Q (.bl false) H3) (ofO (o2F o x y) s2) := by
      intro bb eb
      subst eb
      rw [e]
      intro w3 al3 H3 P3 L3 z hz
      cases (show z = V.bl bb from hz)
      refine ⟨bb, rfl, ?_⟩
      cases bb with
      | false =>
        rw [if_neg Bool.false_ne_true]
        exact h2 w3 al3 H3 P3 L3 _ rfl
      | true =>
        rw [if_pos rfl]
        refine one_ok P3 (OkG.rebase h2 L3) fun z' v3 s4 w4 al4 H4 P4 L4 hz4 h4 => ?_
        exact hr' _ _ _ _ _ _ _ _ _ _ P4 (hy.mono (L3.trans L4).2) hz4 h4
    match q, h2, go with
    | .d (.bl true), h2, go => exact hr _ _ _ _ _ _ _ _ _ _ P2 hx2 hy (go true rfl)
    | .d (.bl false), h2, go => exact hr _ _ _ _ _ _ _ _ _ _ P2 hx2 hy (go false rfl)
    | .d .non, h2, _ => exact (show False from h2).elim
    | .d (.int _), h2, _ => exact (show False from h2).elim
    | .d (.str _), h2, _ => exact (show False from h2).elim
    | .d (.tup _), h2, _ => exact (show False from h2).elim
    | .d (.lst _), h2, _ => exact (show False from h2).elim
    | .d (.dct _ _), h2, _ => exact (show False from h2).elim
    | .d (.obj _ _ _), h2, _ => exact (show False from h2).elim
    | .d (.scr _), h2, _ => exact (show False from h2).elim
    | .d (.rl _), h2, _ => exact (show False from h2).elim
    | .d (.xc _ _), h2, _ => exact (show False from h2).elim
    | .d (.tdc _ _), h2, _ => exact (show False from h2).elim
    | .o _, h2, _ => exact (show False from h2).elim
    | .m _, h2, _ => exact (show False from h2).elim
theorem re_ch {op op' : CmpOp} {o o' : O2} {r r' : R2} (hop : OpR Y (compareOp op) r) (hop' : OpR Y (compareOp op') r') (hr : O2R X W o r) (hr' : O2R X W o' r') (ha : PE Y a (tE X W a')) (hb : PE Y b (tE X W b')) (hc : PE Y c (tE X W c')) (ht : tame c = true) :
    PE Y (.Compare a [op, op'] [b, c] pos) (tE X W (.ch o o' a' b' c')) := (pe_chain hop hop' ha hb hc (lm_ok ht)).imp fun _ _ _ h => rd_ch hr hr' h
theorem rt_ch {op op' : CmpOp} {o o' : O2} {r r' : R2} (hop : OpR Y (compareOp op) r) (hop' : OpR Y (compareOp op') r') (hr : O2R X W o r) (hr' : O2R X W o' r') (ha : PE Y a (tE X W a')) (hb : PE Y b (tE X W b')) (hc : PE Y c (tE X W c')) (ht : tame c = true) :
    PT Y (.Compare a [op, op'] [b, c] pos) (tT X W (.ch o o' a' b' c')) := (pt_chain hop hop' ha hb hc (lm_ok ht)).imp fun _ _ _ h => rd_ch hr hr' (rd_T h)
theorem re_no (ha : PE Y a (tE X W a')) : PE Y (.UnaryOp .Not a pos) (tE X W (.no a')) := (pe_not ha).imp fun σ H Q ⟨w, al, sg, P, h⟩ =>
  oneB_ok P h fun b s1 w1 al1 H1 P1 L1 h1 => ⟨b, rfl, fin_d P1 h1 rfl⟩
theorem rt_no (ha : PT Y a (tT X W a')) : PT Y (.UnaryOp .Not a pos) (tT X W (.no a')) := (pt_not ha).imp fun σ H Q ⟨w, al, sg, P, h⟩ =>
  oneT_ok P h fun b s1 w1 al1 H1 P1 L1 h1 => h1.here P1
theorem re_la {op : BoolOp} (ha : PE Y a (tE X W a')) : PE Y (.BoolOp op [a] pos) (tE X W (.la a')) := (pe_one ha).imp fun _ _ _ h => h
theorem re_an (ha : PE Y a (tE X W a')) (hb : PE Y (.BoolOp .And (b :: es) pos) (tE X W b')) : PE Y (.BoolOp .And (a :: b :: es) pos) (tE X W (.an a' b')) := (pe_and ha hb).imp fun σ H Q ⟨w, al, sg, P, h⟩ =>
  oneB_ok P h fun bb s1 w1 al1 H1 P1 L1 h1 => ⟨bb, rfl, by
    cases bb with
    | true => rw [if_pos rfl]; exact ⟨w1, al1, s1, P1, h1⟩
    | false => rw [if_neg Bool.false_ne_true]; exact fin_d P1 h1 rfl⟩
theorem re_or (ha : PE Y a (tE X W a')) (hb : PE Y (.BoolOp .Or (b :: es) pos) (tE X W b')) : PE Y (.BoolOp .Or (a :: b :: es) pos) (tE X W (.or a' b')) := (pe_or ha hb).imp fun σ H Q ⟨w, al, sg, P, h⟩ =>
  oneB_ok P h fun bb s1 w1 al1 H1 P1 L1 h1 => ⟨bb, rfl, by
    cases bb with
    | true => rw [if_pos rfl]; exact fin_d P1 h1 rfl
    | false => rw [if_neg Bool.false_ne_true]; exact ⟨w1, al1, s1, P1, h1⟩⟩
theorem rw_la {op : BoolOp} (ha : PT Y a (tT X W a')) : PW Y (.BoolOp op [a] pos) (tT X W (.la a')) := by
  cases op with
  | And => exact (pw_and1 ha).imp fun _ _ _ h => h
  | Or => exact (pw_or1 ha).imp fun _ _ _ h => h
theorem rw_an (ha : PT Y a (tT X W a')) (hb : PW Y (.BoolOp .And (b :: es) pos) (tT X W b')) : PW Y (.BoolOp .And (a :: b :: es) pos) (tT X W (.an a' b')) := (pw_and ha hb).imp fun σ H Q ⟨w, al, sg, P, h⟩ =>
  oneT_ok P h fun bb s1 w1 al1 H1 P1 L1 h1 => by
    cases bb with
    | true => rw [if_pos rfl]; exact ⟨w1, al1, s1, P1, h1⟩
    | false => rw [if_neg Bool.false_ne_true]; exact h1.here P1
theorem rw_or (ha : PT Y a (tT X W a')) (hb : PW Y (.BoolOp .Or (b :: es) pos) (tT X W b')) : PW Y (.BoolOp .Or (a :: b :: es) pos) (tT X W (.or a' b')) := (pw_or ha hb).imp fun σ H Q ⟨w, al, sg, P, h⟩ =>
  oneT_ok P h fun bb s1 w1 al1 H1 P1 L1 h1 => by
    cases bb with
    | true => rw [if_pos rfl]; exact h1.here P1
    | false => rw [if_neg Bool.false_ne_true]; exact ⟨w1, al1, s1, P1, h1⟩
theorem re_ie (hc : PT Y c (tT X W c')) (ha : PE Y a (tE X W a')) (hb : PE Y b (tE X W b')) : PE Y (.IfExp c a b pos) (tE X W (.ie c' a' b')) := (pe_ifExp hc ha hb).imp fun σ H Q ⟨w, al, sg, P, h⟩ =>
  oneT_ok P h fun bb s1 w1 al1 H1 P1 L1 h1 => by
    cases bb with
    | true => rw [if_pos rfl]; exact ⟨w1, al1, s1, P1, h1⟩
    | false => rw [if_neg Bool.false_ne_true]; exact ⟨w1, al1, s1, P1, h1⟩
theorem re_neg (ha : PE Y a (tE X W a')) : PE Y (.UnaryOp .USub a pos) (tE X W (.neg a')) := (pe_un un_neg ha).imp fun σ H Q ⟨w, al, sg, P, h⟩ =>
  one_ok P h fun x v s1 w1 al1 H1 P1 L1 hx h1 => by
    cases x with
    | int i => cases (show v = V.int i from hx); exact ⟨i, rfl, fin_d P1 h1 rfl⟩
    | _ => exact (show False from h1).elim
theorem val_non {w : Wt} {x : D} {v : V} (h : Val X.T w H x v) : decide (v = .non) = (match x with | .non => true | _ => false) := by
  cases x with
  | non => cases (show v = V.non from h); rfl
  | bl _ => cases (show v = V.bl _ from h); rfl
  | int _ => cases (show v = V.int _ from h); rfl
  | str _ => cases (show v = V.str _ from h); rfl
  | tup _ => obtain ⟨a, vs, e, _⟩ := h; subst e; rfl
  | lst _ => obtain ⟨a, vs, e, _⟩ := h; subst e; rfl
  | dct _ _ => obtain ⟨a, vs, e, _⟩ := h; subst e; rfl
  | obj _ _ _ => obtain ⟨a, dx, fs, e, _⟩ := h; subst e; rfl
  | scr _ => obtain ⟨a, e, _⟩ := h; subst e; rfl
  | rl _ => obtain ⟨a, vs, e, _⟩ := h; subst e; rfl
  | xc _ _ => obtain ⟨a, vs, e, _⟩ := h; subst e; rfl
  | tdc _ _ => obtain ⟨a, vs, e, _⟩ := h; subst e; rfl
theorem rd_isN {j : Nat} (h : tE X W (.isN a') σ H Q) : tIsN (tE X W a') σ H Q := by
  obtain ⟨w, al, sg, P, h⟩ := h
  refine one_ok P h fun x v s1 w1 al1 H1 P1 L1 hx h1 => ?_
  rw [val_non hx]
  cases x <;> exact fin_d P1 h1 rfl
theorem rd_ntN {j : Nat} (h : tE X W (.ntN a') σ H Q) : tNotN (tE X W a') σ H Q := by
  obtain ⟨w, al, sg, P, h⟩ := h
  refine one_ok P h fun x v s1 w1 al1 H1 P1 L1 hx h1 => ?_
  rw [val_non hx]
  cases x <;> exact fin_d P1 h1 rfl
theorem re_isN {j : Nat} (ha : PE Y a (tE X W a')) : PE Y (.Compare a [.Is] [.Constant .none j p] pos) (tE X W (.isN a')) := (pe_cmp (pc_isN ha) rfl).imp fun _ _ _ h => rd_isN (j := j) h
theorem re_ntN {j : Nat} (ha : PE Y a (tE X W a')) : PE Y (.Compare a [.IsNot] [.Constant .none j p] pos) (tE X W (.ntN a')) := (pe_cmp (pc_notN ha) rfl).imp fun _ _ _ h => rd_ntN (j := j) h
theorem rt_isN {j : Nat} (ha : PE Y a (tE X W a')) : PT Y (.Compare a [.Is] [.Constant .none j p] pos) (tT X W (.isN a')) := (pt_cmp (pc_isN ha) rfl).imp fun _ _ _ h => rd_isN (j := j) (rd_T h)
theorem rt_ntN {j : Nat} (ha : PE Y a (tE X W a')) : PT Y (.Compare a [.IsNot] [.Constant .none j p] pos) (tT X W (.ntN a')) := (pt_cmp (pc_notN ha) rfl).imp fun _ _ _ h => rd_ntN (j := j) (rd_T h)
theorem ra_nil : PA Y [] (tA X W .nil) := pa_nil.imp fun σ H Q ⟨w, al, sg, P, h⟩ => h.here P [] rfl
theorem Cv.sh {T : Tb} {w : Wt} {al : List Addr} {r : Rv} {v : V} (h : Cv T w al H r v) : Cv T w al H r.sh v := by
  cases r <;> first | exact h | exact h.elim
theorem Cvs.cons {T : Tb} {w : Wt} {al : List Addr} {r : Rv} {v : V} {rs : List Rv} {vs : List V} (h : Cv T w al H r v) (hs : Cvs T w al H rs vs) : Cvs T w al H (r :: rs) (v :: vs) := ⟨v, vs, rfl, h, hs⟩
theorem ra_cons (ha : PE Y a (tE X W a')) (hs : PA Y es (tA X W es')) (ht : tame a = true) : PA Y (a :: es) (tA X W (.cons a' es')) := by
  refine (pa_cons ha hs (star_ok ht)).imp fun σ H Q ⟨w, al, sg, P, h⟩ => ?_
  refine ⟨w, al, sg, P, ?_⟩
  simp only [ev] at h
  cases e : ev X.G X.rc a' sg with
  | stuck => rw [e] at h; exact h
  | exc c fs s => rw [e] at h; exact h
  | ok rs s =>
    rw [e] at h
    intro w' al' H' P' L'
    have hr : ∃ r, rs = [r] := by
      cases rs with
      | nil => exact (show False from h).elim
      | cons r t => cases t with
        | nil => exact ⟨r, rfl⟩
        | cons _ _ => exact (show False from h).elim
    obtain ⟨r, rfl⟩ := hr
    intro v hv
    have go : ∀ w2, Pt X σ s w2 al' H' → Le w al H w2 al' H' → Cv X.T w2 al' H' r.sh v → tA X W es' σ H' fun vs H2 => Q (v :: vs) H2 := by
      intro w2 P2 L2 hv2
      refine ⟨w2, al', s, P2, ?_⟩
      have h := OkG.rebase h L2
      simp only [Out.bind] at h
      cases e2 : ev X.G X.rc es' s with
      | stuck => rw [e2] at h; exact h
      | exc c fs s => rw [e2] at h; exact h
      | ok rb s2 =>
        rw [e2] at h
        intro w3 al3 H3 P3 L3 vs hvs
        exact h w3 al3 H3 P3 L3 (v :: vs) (Cvs.cons (hv2.mono L3.2 L3.1) hvs)
    cases r with
    | d x => exact go w' P' L' hv
    | m k => exact go w' P' L' hv
    | o x =>
      obtain ⟨w2, R2, E2, f2, hv2⟩ := P'.1.resD P'.2 hv (.inr rfl)
      exact go w2 ⟨R2, f2⟩ (L'.trans ⟨AlX.refl, E2⟩) hv2
theorem re_tup {k : Nat} (hs : PA Y es (tA X W es')) : PE Y (.Tuple es k pos) (tE X W (.tup es')) := (pe_tup hs).imp fun σ H Q ⟨w, al, sg, P, h⟩ =>
  many_ok P h fun ds vs s1 w1 al1 H1 P1 L1 hv h1 => by
    by_cases c : ds.length ≤ sizeLine
    · rw [if_pos c] at h1
      exact ⟨by rw [← hv.length]; exact c, fun p hp => fin_n P1 h1 hp ⟨p, vs, rfl, setW_same, upd_same, Vls.mono (Ext.new P1.1 hp) _ _ hv⟩⟩
    · rw [if_neg c] at h1; exact (show False from h1).elim
theorem re_lst (hs : PA Y es (tA X W es')) : PE Y (.List es pos) (tE X W (.lst es')) := (pe_lst hs).imp fun σ H Q ⟨w, al, sg, P, h⟩ =>
  many_ok P h fun ds vs s1 w1 al1 H1 P1 L1 hv h1 => by
    by_cases c : ds.length ≤ sizeLine
    · rw [if_pos c] at h1
      exact ⟨by rw [← hv.length]; exact c, fun p hp => fin_o P1 h1 hp ⟨vs, upd_same, Vls.mono (Ext.new P1.1 hp) _ _ hv⟩⟩
    · rw [if_neg c] at h1; exact (show False from h1).elim
theorem re_dnew : PE Y (.Dict [] [] pos) (tE X W .dnew) := pe_dnewK.imp fun σ H Q ⟨w, al, sg, P, h⟩ p hp => fin_o P h hp ⟨[], upd_same, rfl, rfl⟩
theorem re_sub (C : Cc X n fA fre cf sc Nm W Y) (ha : PE Y a (tE X W a')) (hb : PE Y b (tE X W b')) (ht : tame b = true) : PE Y (.Subscript a b pos) (tE X W (.sub a' b')) := (pe_ix (ix_all C.hu9) ha hb (px_ok ht)).imp fun σ H Q ⟨w, al, sg, P, h⟩ => by
  refine one_ok P h fun x v s1 w1 al1 H1 P1 L1 hx h1 => ?_
  refine one_ok P1 h1 fun y u s2 w2 al2 H2 P2 L2 hy h2 => ?_
  rw [C.K, C.wd]
  exact sub_ok P2 (hx.mono L2.2).sn hy h2
def FO (Q : Option Int → Hp → Prop) : List Rv → Sg → Wt → List Addr → Hp → Prop := fun rs _ _ _ H => match (getDs rs).bind partL with
  | some o => Q o H
  | none => False
def tO (X : Fx) (W : WX) (e : E) : TO := fun σ H Q => ∃ w al sg, Pt X σ sg w al H ∧ OkG X W σ w al H (FO Q) (ev X.G X.rc e sg)
theorem ro_none : PO Y none (tO X W .nil) := ⟨fun pins s σ H Q I ⟨w, al, sg, P, h⟩ => po_none.run pins s σ H Q I (h.here P)⟩
theorem ro_some (ha : PE Y a (tE X W a')) : PO Y (some a) (tO X W (.cons a' .nil)) := ⟨fun pins s σ H Q I ⟨w, al, sg, P, h⟩ => (po_some ha).run pins s σ H Q I (by
  refine ⟨w, al, sg, P, ?_⟩
  simp only [ev] at h
  cases e : ev X.G X.rc a' sg with
  | stuck => rw [e] at h; exact h
  | exc c fs s => rw [e] at h; exact h
  | ok rs s =>
    rw [e] at h
    intro w' al' H' P' L'
    cases rs with
    | nil => exact (show False from h).elim
    | cons r t => cases t with
      | cons _ _ => exact (show False from h).elim
      | nil =>
        have q := h w' al' H' P' L'
        cases r with
        | m _ => exact (show False from q).elim
        | o x => cases x with
          | int i => exact fun v ⟨a, h1, h2, h3⟩ => (show False from h3).elim
          | _ => exact (show False from q).elim
        | d x => cases x with
          | int i => exact fun v hv => ⟨i, hv, q⟩
          | _ => exact (show False from q).elim)⟩
theorem po_ok {F : List Rv → Sg → Wt → List Addr → Hp → Prop} {w : Wt} {al : List Addr} {sg : Sg} {k : Option Int → Sg → Out Sg (List Rv)} {Q1 : Option Int → Hp → Prop} (P : Pt X σ sg w al H) (h : OkG X W σ w al H F (manyD (ev X.G X.rc a' sg) fun y s => match partL y with
    | some lo => k lo s
    | none => .stuck))
    (hk : ∀ o s1 w1 al1 H1, Pt X σ s1 w1 al1 H1 → Le w al H w1 al1 H1 → OkG X W σ w1 al1 H1 F (k o s1) → Q1 o H1) : tO X W a' σ H Q1 := by
  refine ⟨w, al, sg, P, ?_⟩
  cases e : ev X.G X.rc a' sg with
  | stuck => rw [e] at h; exact h
  | exc c fs s => rw [e] at h; exact h
  | ok rs s =>
    rw [e] at h
    intro w' al' H' P' L'
    simp only [manyD, Out.bind] at h
    cases z : getDs rs with
    | none => simp only [z] at h; exact (show False from h).elim
    | some ds =>
      cases z2 : partL ds with
      | none => simp only [z, z2] at h; exact (show False from h).elim
      | some o =>
        simp only [z, z2] at h
        simp only [FO, z, z2, Option.bind_some]
        exact hk o s w' al' H' P' L' (OkG.rebase h L')
end
end Mp
namespace L2
open PySem PySem.Spec PyProof.Rows
section
variable {X : Cx} {W : WX} {k : Nat} {f C : Addr} {fd : FuncData} {ps : List Str} {sp : Sp} {m : Str} {pos apos : Pos} {e o : Expr} {es : List Expr} {ta : TE} {t : TA} {mc : Value}
theorem pe_clsF {pl : Sem Bool} (he : PE X o ta) (r : ClX.CRead X.K C mc) (at_ : PySem.W.findCls X.K (.ref C) mc m = some (.val (.ref f))) (kp : PySem.W.keepIn X.K (.ref f) = true) (F : FnOk X.prog X.w X.K X.mg X.base (L2.CX X.prog X.w) k f fd ps sp) (hr : Room k X.A) (hb : Binds X.K fd ps [])
    (tk : Takes X W) (ha : PA X (e :: es) t) (hst : starEach (e :: es) X.env = (false, eval e X.env) :: starEach es X.env) (hpl : (backTo pos (starEach es X.env)).any (·.1) = false)
    (ht : eval (.Call (.Attribute o m apos) (e :: es) [] pos) X.env = (do
      let ov ← eval o X.env
      standAt apos.atName
      let (f, first) ← holding [ov] (getMethod ov m pl)
      callWith pos f first (backTo pos (starEach (e :: es) X.env)) (backToKw pos (keywordEach [] X.env)))) :
    PE X (.Call (.Attribute o m apos) (e :: es) [] pos) (fun σ H Q => ta σ H fun x H1 => x = .ref C ∧ t σ H1 fun vs H2 => sp vs H2 Q (WE W σ)) := by
  refine ⟨fun pins s σ H Q I h => PySem.W.methodCall_KW (pl := pl) (thn (he.run pins s σ H _ I h) fun u s1 ⟨x, H1, I1, rx, ex, q⟩ => ?_) ht⟩
  subst ex
  obtain rfl : u = Value.ref C := rx
  refine PySem.W.method_cls I1.kIn r.ga (ClX.getcval_ok (v := V.ref f) I1 r ⟨at_, rfl⟩ fun s2 I2 => ?_)
  exact PySem.W.callWith_K (first := []) (h₀ := X.base) I.ok.mod.kin kp (thn (ha.run pos pins s2 σ H1 _ I2 q) fun us s3 ⟨vs, H2, I3, rv, q2⟩ => ⟨I3.kIn, run_fnS (us := us) (vs := vs) (E := WE W) F hr hb (passAt tk σ) I3 rv q2⟩) hst hpl
end
end L2
namespace Mp
open PySem L2
section
variable {X : Fx} {n : Nat} {fA : Nat → Addr} {fre : List Str} {cf : Str → Bool} {sc : Scope} {Nm : List Str} {W : WX} {Y : Cx} {pos apos p p2 p3 : Pos} {a b c e : Expr} {a' b' c' : E} {es : List Expr} {es' : E} {σ : St} {Q : VK} {H H1 : Hp} {w : Wt} {al : List Addr} {sg : Sg} {F : List Rv → Sg → Wt → List Addr → Hp → Prop}
theorem Pt.peek (P : Pt X σ sg w al H) {i : Nat} {x : D} (e : peek sg i = some x) : ∃ v, σ[i]? = some (some v) ∧ Sn X.T w H x v := by
  unfold Mp.peek at e
  cases z : sg.st[i]? with
  | none => rw [z] at e; cases e
  | some o =>
    cases o with
    | none => rw [z] at e; cases e
    | some r =>
      cases r with
      | d y => rw [z] at e; cases e; obtain ⟨v, h1, h2⟩ := P.1.slots i _ z; exact ⟨v, h1, Val.sn h2⟩
      | o y => rw [z] at e; cases e; obtain ⟨v, h1, a, rfl, h3, h4⟩ := P.1.slots i _ z; exact ⟨_, h1, h4.sn⟩
      | m k => rw [z] at e; cases e
theorem re_slc {lo hi : Option Expr} {lo' hi' : E} (C : Cc X n fA fre cf sc Nm W Y) (ha : PE Y a (tE X W a')) (hl : PO Y lo (tO X W lo')) (hh : PO Y hi (tO X W hi')) : PE Y (.Subscript a (.Slice lo hi none p2) pos) (tE X W (.slc a' lo' hi')) := (pe_slice sl_all ha hl hh).imp fun σ H Q ⟨w, al, sg, P, h⟩ => by
  refine one_ok P h fun x v s1 w1 al1 H1 P1 L1 hx h1 => ?_
  refine po_ok P1 h1 fun lo s2 w2 al2 H2 P2 L2 h2 => ?_
  refine po_ok P2 h2 fun hi s3 w3 al3 H3 P3 L3 h3 => ?_
  rw [C.K]
  exact slc_ok P3 (hx.mono (L2.trans L3).2).sn h3
theorem re_subs {i : Nat} {x : Str} (C : Cc X n fA fre cf sc Nm W Y) (hN : Y.N[i]? = some x) (hv : Vis Y.env.scope x) (hd : (x == ("__debug__" : Str)) = false) (hcd : (x == ("__classdict__" : Str)) = false) (hb : PE Y b (tE X W b')) (ht : tame b = true) : PE Y (.Subscript (.Name x p) b pos) (tE X W (.subs i b')) :=
  (pe_ix (ix_all C.hu9) (pe_var hN hv hd hcd) hb (px_ok ht)).imp fun σ H Q ⟨w, al, sg, P, h⟩ => by
  simp only [ev] at h
  cases z : peek sg i with
  | none => rw [z] at h; exact (show False from h).elim
  | some x0 =>
    simp only [z] at h
    obtain ⟨v, e1, _⟩ := P.peek z
    refine ⟨v, e1, one_ok P h fun y u s2 w2 al2 H2 P2 L2 hy h2 => ?_⟩
    cases z2 : peek s2 i with
    | none => rw [z2] at h2; exact (show False from h2).elim
    | some x1 =>
      simp only [z2] at h2
      obtain ⟨v2, e2, hs⟩ := P2.peek z2
      rw [e1] at e2; cases e2
      rw [C.K, C.wd]
      exact sub_ok P2 hs hy h2
theorem rd_ins {neg : Bool} {i : Nat} (h : tE X W (.ins neg a' i) σ H Q) : tOp (rInM X.T.K X.T.wd neg) (tE X W a') (tVar i) σ H Q := by
  obtain ⟨w, al, sg, P, h⟩ := h
  refine one_ok P h fun x v s1 w1 al1 H1 P1 L1 hx h1 => ?_
  cases z : peek s1 i with
  | none => rw [z] at h1; exact (show False from h1).elim
  | some y =>
    simp only [z] at h1
    obtain ⟨u, e1, hs⟩ := P1.peek z
    refine ⟨u, e1, o2_inS (W := W) neg P1 hx hs ?_⟩
    cases neg <;> exact h1
theorem re_ins {i : Nat} {x : Str} {neg : Bool} {op : CmpOp} (C : Cc X n fA fre cf sc Nm W Y) (hop : op = if neg then .NotIn else .In) (ha : PE Y a (tE X W a')) (hN : Y.N[i]? = some x) (hv : Vis Y.env.scope x) (hd : (x == ("__debug__" : Str)) = false) (hcd : (x == ("__classdict__" : Str)) = false) :
    PE Y (.Compare a [op] [.Name x p] pos) (tE X W (.ins neg a' i)) ∧ PT Y (.Compare a [op] [.Name x p] pos) (tT X W (.ins neg a' i)) := by
  subst hop
  have hr : OpR Y (compareOp (if neg then .NotIn else .In)) (rInM X.T.K X.T.wd neg) := by
    rw [← C.K, ← C.wd]
    cases neg
    · exact op_inM C.hu9
    · exact op_ntinM C.hu9
  exact ⟨(pe_cmpR hr ha (pe_var hN hv hd hcd) (bm_ok rfl)).imp fun _ _ _ h => rd_ins h, (pt_cmpR hr ha (pe_var hN hv hd hcd) (bm_ok rfl)).imp fun _ _ _ h => rd_ins (rd_T h)⟩
theorem re_gl {k : Nat} {x : Str} {d : D} (C : Cc X n fA fre cf sc Nm W Y) (hk : X.G.cn[k]? = some (x, d)) (hs : sc.names.lookup x = some .globalImplicit) (hd : (x == ("__debug__" : Str)) = false) : PE Y (.Name x pos) (tE X W (.gl k)) := by
  obtain ⟨u, v, h1, h2, h3⟩ := C.gf.cn k x d hk
  refine (pe_glob (C.gl hs) h1 h2 hd).imp fun σ H Q ⟨w, al, sg, P, h⟩ => ?_
  simp only [ev, hk] at h
  exact fin_d P h (h3 _ _)
theorem one_r {k : Rv → Sg → Out Sg (List Rv)} {Q1 : VK} (P : Pt X σ sg w al H) (h : OkG X W σ w al H F (oneR (ev X.G X.rc a' sg) k))
    (hk : ∀ r v s1 w1 al1 H1, Pt X σ s1 w1 al1 H1 → Le w al H w1 al1 H1 → Cv X.T w1 al1 H1 r v → OkG X W σ w1 al1 H1 F (k r s1) → Q1 v H1) : tE X W a' σ H Q1 := by
  refine ⟨w, al, sg, P, ?_⟩
  cases e : ev X.G X.rc a' sg with
  | stuck => rw [e] at h; exact h
  | exc c fs s => rw [e] at h; exact h
  | ok rs s =>
    rw [e] at h
    intro w' al' H' P' L'
    cases rs with
    | nil => exact (show False from h).elim
    | cons r t => cases t with
      | cons _ _ => exact (show False from h).elim
      | nil =>
        cases r with
        | d x => exact fun v hv => hk (.d x) v s w' al' H' P' L' hv (OkG.rebase h L')
        | m x => exact fun v hv => hk (.m x) v s w' al' H' P' L' hv (OkG.rebase h L')
        | o x =>
          intro v hv
          obtain ⟨w2, R2, E2, f2, hv2⟩ := P'.1.resD P'.2 hv (.inr rfl)
          have L2 : Le w' al' H' w2 al' H' := ⟨AlX.refl, E2⟩
          exact hk (.d x) v s w2 al' H' ⟨R2, f2⟩ (L'.trans L2) hv2 (OkG.rebase h (L'.trans L2))
theorem args_ok {k : List Rv → Sg → Out Sg (List Rv)} {Q1 : List V → Hp → Prop} (P : Pt X σ sg w al H) (h : OkG X W σ w al H F ((ev X.G X.rc es' sg).bind k))
    (hk : ∀ rs vs s1 w1 al1 H1, Pt X σ s1 w1 al1 H1 → Le w al H w1 al1 H1 → Cvs X.T w1 al1 H1 rs vs → OkG X W σ w1 al1 H1 F (k rs s1) → Q1 vs H1) : tA X W es' σ H Q1 := by
  refine ⟨w, al, sg, P, ?_⟩
  cases e : ev X.G X.rc es' sg with
  | stuck => rw [e] at h; exact h
  | exc c fs s => rw [e] at h; exact h
  | ok rs s =>
    rw [e] at h
    intro w' al' H' P' L' vs hv
    exact hk rs vs s w' al' H' P' L' hv (OkG.rebase h L')
theorem lk_cons {x y : Str} {v : V} {fs : List (Str × V)} : ((x, v) :: fs).lookup y = if y = x then some v else fs.lookup y := by
  rw [List.lookup_cons]
  by_cases h : y = x
  · rw [if_pos h, beq_iff_eq.mpr h] <;> rfl
  · rw [if_neg h, beq_eq_false_iff_ne.mpr h] <;> rfl
theorem attM_ok {T : Tb} (inj : ∀ i j, T.aN i = T.aN j → i = j) {k : Nat} {q : Rv} : ∀ {ns : List Nat} {fs : List (Str × V)} {vs : List Rv}, fs.map (·.1) = ns.map T.aN → Cvs T w al H vs (fs.map (·.2)) → attM k ns vs = some q → ∃ v, fs.lookup (T.aN k) = some v ∧ Cv T w al H q v
  | [], _, _, _, _, e => by cases e
  | _ :: _, _, [], _, _, e => by cases e
  | i :: ns, [], _ :: _, e1, _, _ => by cases e1
  | i :: ns, (x, u) :: fs, r :: vs, e1, ⟨v, t, e2, h1, h2⟩, e => by
    simp only [List.map_cons, List.cons.injEq] at e1 e2
    obtain ⟨e1, e1'⟩ := e1
    obtain ⟨e2, e2'⟩ := e2
    subst e2 e2'
    rw [lk_cons]
    by_cases c : i = k
    · simp only [attM, if_pos c] at e
      cases e
      exact ⟨u, by rw [if_pos (by rw [e1, c])], h1⟩
    · simp only [attM, if_neg c] at e
      rw [if_neg (fun z => c (inj _ _ (e1.symm.trans z.symm)))]
      exact attM_ok inj e1' h2 e
theorem attF_M {k : Nat} : ∀ {ns : List Nat} {vs : List D}, attM k ns (vs.map .d) = (attF k ns vs).map .d
  | [], _ => rfl
  | _ :: _, [] => rfl
  | i :: ns, v :: vs => by
    simp only [List.map_cons, attM, attF]
    by_cases c : i = k
    · rw [if_pos c, if_pos c] <;> rfl
    · rw [if_neg c, if_neg c]; exact attF_M
theorem no_at {T : Tb} (inj : ∀ i j, T.aN i = T.aN j → i = j) {k : Nat} : ∀ {ns : List Nat} {fs : List (Str × V)}, fs.map (·.1) = ns.map T.aN → ns.contains k = false → fs.lookup (T.aN k) = none
  | _, [], _, _ => rfl
  | [], _ :: _, e, _ => by cases e
  | i :: ns, (x, u) :: fs, e, h => by
    simp only [List.map_cons, List.cons.injEq] at e
    rw [List.contains_cons, Bool.or_eq_false_iff] at h
    rw [lk_cons, if_neg (fun z => by have := inj _ _ (z.trans e.1); rw [this] at h; simp at h)]
    exact no_at inj e.2 h.2
theorem recv_ok {P0 : Program} {w0 : World} {mg : Str → Option Value} {base : Heap} (G : GF X n P0 w0 mg base fA fre) (P : Pt X σ sg w al H) {r : Rv} {v : V} {c : Nat} {ns : List Nat} (hv : Cv X.T w al H r v) (e : recvOf sg r = some (c, ns)) :
    ∃ ad dx fs, v = .ref ad ∧ H ad = some (.ins (X.T.cA c) dx fs) ∧ fs.map (·.1) = ns.map X.T.aN := by
  cases r with
  | o x => exact hv.elim
  | d x => cases x with
    | obj c2 ns2 vs2 => cases e; obtain ⟨a, dx, fs, e1, _, h2, h3, _⟩ := hv; exact ⟨a, dx, fs, e1, h2, h3⟩
    | _ => cases e
  | m k =>
    obtain ⟨ad, h1, h2⟩ := hv
    simp only [recvOf] at e
    cases z : sg.mu[k]? with
    | none => rw [z] at e; cases e
    | some d =>
      rw [z] at e
      obtain ⟨ad2, g1, g2, g3⟩ := P.1.muts k d z
      rw [h1] at g1; cases g1
      cases d with
      | obj c2 ns2 vs2 => cases e; obtain ⟨dx, fs, q1, q2, _⟩ := g3; exact ⟨ad, dx, fs, h2, q1, q2⟩
      | _ => cases e
theorem fld_ok {P0 : Program} {w0 : World} {mg : Str → Option Value} {base : Heap} (G : GF X n P0 w0 mg base fA fre) (P : Pt X σ sg w al H) {r q : Rv} {v : V} {k : Nat} (hv : Cv X.T w al H r v) (e : fldOf X.G sg k r = some q) :
    ∃ ad C dx fs u, v = .ref ad ∧ H ad = some (.ins C dx fs) ∧ Cls X.T.K C ∧ NoAttr X.T.K C (X.T.aN k) ∧ fs.lookup (X.T.aN k) = some u ∧ Cv X.T w al H q u := by
  have fin : ∀ (ad : Addr) (c : Nat) (dx : Addr) (fs : List (Str × V)) (ns : List Nat) (rs : List Rv), v = .ref ad → H ad = some (.ins (X.T.cA c) dx fs) → fs.map (·.1) = ns.map X.T.aN → Cvs X.T w al H rs (fs.map (·.2)) → (if attOk X.G c k then attM k ns rs else none) = some q →
      ∃ ad C dx fs u, v = .ref ad ∧ H ad = some (.ins C dx fs) ∧ Cls X.T.K C ∧ NoAttr X.T.K C (X.T.aN k) ∧ fs.lookup (X.T.aN k) = some u ∧ Cv X.T w al H q u := by
    intro ad c dx fs ns rs e1 h1 h2 h3 h4
    by_cases c2 : attOk X.G c k = true
    · rw [if_pos c2] at h4
      unfold attOk at c2
      cases z : X.G.cls[c]? with
      | none => rw [z] at c2; cases c2
      | some kk =>
        rw [z] at c2
        obtain ⟨u, g1, g2⟩ := attM_ok G.inj h2 h3 h4
        exact ⟨ad, _, dx, fs, u, e1, h1, G.cls c kk z, G.noat c kk k z (by simpa using c2), g1, g2⟩
    · rw [if_neg c2] at h4; cases h4
  cases r with
  | o x => exact hv.elim
  | d x => cases x with
    | obj c2 ns2 vs2 =>
      obtain ⟨ad, dx, fs, e1, _, h2, h3, h4⟩ := hv
      refine fin ad c2 dx fs ns2 (vs2.map .d) e1 h2 h3 (Vls.isCvs h4) ?_
      rw [attF_M]
      exact e
    | _ => cases e
  | m j =>
    obtain ⟨ad, h1, h2⟩ := hv
    simp only [fldOf] at e
    cases z : sg.mu[j]? with
    | none => rw [z] at e; cases e
    | some d =>
      rw [z] at e
      obtain ⟨ad2, g1, g2, g3⟩ := P.1.muts j d z
      rw [h1] at g1; cases g1
      cases d with
      | obj c2 ns2 vs2 => obtain ⟨dx, fs, q1, q2, q3⟩ := g3; exact fin ad c2 dx fs ns2 vs2 h2 q1 q2 q3 e
      | _ => cases e
theorem re_attr {k : Nat} {x : Str} (C : Cc X n fA fre cf sc Nm W Y) (hx : X.T.aN k = x) (ha : PE Y a (tE X W a')) (hs : notSup a = true) : PE Y (.Attribute a x pos) (tE X W (.attr a' k)) := (pe_fld ha (ab_ok hs)).imp fun σ H Q ⟨w, al, sg, P, h⟩ => by
  refine one_r P h fun r v s1 w1 al1 H1 P1 L1 hv h1 => ?_
  obtain ⟨q, e, h2⟩ := h1.some
  obtain ⟨ad, Cc, dx, fs, u, g1, g2, g3, g4, g5, g6⟩ := fld_ok C.gf P1 hv e
  rw [C.K]
  subst hx
  refine ⟨ad, Cc, dx, fs, u, g1, g2, g3, g4, g5, h2.here P1 u ?_⟩
  cases q with
  | d x => exact g6
  | m x => exact g6
  | o x => exact g6.elim
theorem re_call {f : Nat} {F : Fn} (C : Cc X n fA fre cf sc Nm W Y) (hF : X.G.fns[f]? = some F) (hcl : F.cl = none) (hs : sc.names.lookup F.nm = some .globalImplicit) (hd : (F.nm == ("__debug__" : Str)) = false) (ha : PA Y es (tA X W es')) (ht : es.all tame = true) (h0 : es = [] → es' = .nil) :
    PE Y (.Call (.Name F.nm p) es [] pos) (tE X W (.call f es')) := by
  obtain ⟨fd, ok, hb, kp⟩ := C.gf.fns f F hF
  rw [← C.K] at ok hb kp
  have hg := C.gl hs
  have hm := C.gf.glo f F hF hcl
  have hr : Room (2 * n + 2) Y.A := C.room.mono (Nat.le_succ _)
  cases es with
  | nil =>
    cases h0 rfl
    refine (pe_callV0 ok hr hg hm kp hb C.tk hd).imp fun σ H Q ⟨w, al, sg, P, h⟩ => ?_
    exact rd_callG (rs := []) P hF rfl h
  | cons e es =>
    simp only [List.all_cons, Bool.and_eq_true] at ht
    refine (pe_callS ok hr hg hm kp hb (fun σ => passAt C.tk σ) ha hd (star_ok ht.1) (plain_ok ht.2)).imp fun σ H Q ⟨w, al, sg, P, h⟩ => ?_
    exact args_ok P h fun rs vs s1 w1 al1 H1 P1 L1 hv h1 => rd_callG P1 hF hv h1
theorem re_new {c : Nat} {k : Cl} (C : Cc X n fA fre cf sc Nm W Y) (hk : X.G.cls[c]? = some k) (hs : sc.names.lookup k.nm = some .globalImplicit) (hd : (k.nm == ("__debug__" : Str)) = false) (ha : PA Y es (tA X W es')) (ht : es.all tame = true) (h0 : es = [] → es' = .nil) :
    PE Y (.Call (.Name k.nm p) es [] pos) (tE X W (.new c es')) := by
  obtain ⟨M, ⟨F, hF⟩, hm⟩ := C.gf.mks c k hk
  obtain ⟨fd, ok, hb, kp⟩ := C.gf.fns _ F hF
  rw [← C.K] at ok hb M
  have hg := C.gl hs
  have hr : Room (2 * n + 3) Y.A := C.room
  cases es with
  | nil =>
    cases h0 rfl
    refine (pe_makeV0 M ok hr hg hm hb C.tk hd).imp fun σ H Q ⟨w, al, sg, P, h⟩ x dx hx hdx ne => ?_
    exact rd_new (ds := []) P hk hF rfl h hx hdx ne
  | cons e es =>
    simp only [List.all_cons, Bool.and_eq_true] at ht
    refine (pe_makeV M ok hr hg hm hb C.tk ha hd (star_ok ht.1) (plain_ok ht.2)).imp fun σ H Q ⟨w, al, sg, P, h⟩ => ?_
    exact many_ok P h fun ds vs s1 w1 al1 H1 P1 L1 hv h1 x dx hx hdx ne => rd_new P1 hk hF hv h1 hx hdx ne
theorem re_meth {k : Nat} {x : Str} (C : Cc X n fA fre cf sc Nm W Y) (hx : X.T.aN k = x) (ha : PE Y a (tE X W a')) (hes : PA Y es (tA X W es')) (hsu : notSup a = true) (ht : es.all tame = true) (hn : es.length < 30) (hl : (apos.endLine == pos.line) = true) (h0 : es = [] → es' = .nil) :
    PE Y (.Call (.Attribute a x apos) es [] pos) (tE X W (.meth a' k es')) := by
  subst hx
  have hr : Room (2 * n + 2) Y.A := C.room.mono (Nat.le_succ _)
  have hG : ∀ (D : Addr) (sp : Sp), (∃ c kk f F, X.G.cls[c]? = some kk ∧ kk.meths.lookup k = some f ∧ X.G.fns[f]? = some F ∧ D = X.T.cA c ∧ sp = spG X.T X.rc F.ps.length f) → MDsp Y (X.T.aN k) (2 * n + 2) D sp := by
    rintro D sp ⟨c, kk, f, F, h1, h2, h3, rfl, rfl⟩
    obtain ⟨fd, ok, hb, kp⟩ := C.gf.fns f F h3
    obtain ⟨hm, _⟩ := C.gf.mth c kk k f h1 h2
    rw [← C.K] at ok hb hm
    exact ⟨by rw [C.K]; exact C.gf.cls c kk h1, fA f, fd, F.ps, hm, ok, hb⟩
  have key : ∀ {σ : St} {H : Hp} {Q : VK} {w al sg}, Pt X σ sg w al H → OkG X W σ w al H (FE X Q) (ev X.G X.rc (.meth a' k es') sg) → tE X W a' σ H fun x H1 => ∃ ad D dx fs sp, (∃ c kk f F, X.G.cls[c]? = some kk ∧ kk.meths.lookup k = some f ∧ X.G.fns[f]? = some F ∧ D = X.T.cA c ∧ sp = spG X.T X.rc F.ps.length f) ∧ x = .ref ad ∧ H1 ad = some (.ins D dx fs) ∧ fs.lookup (X.T.aN k) = none ∧
      tA X W es' σ H1 fun vs H2 => sp (x :: vs) H2 Q (WE W σ) := by
    intro σ H Q w al sg P h
    refine one_r P h fun r v s1 w1 al1 H1 P1 L1 hv h1 => ?_
    cases z : recvOf s1 r with
    | none => rw [z] at h1; exact (show False from h1).elim
    | some q =>
      obtain ⟨c, ns⟩ := q
      simp only [z] at h1
      cases z2 : methOf X.G c k with
      | none => simp only [z2] at h1; exact (show False from h1).elim
      | some f =>
        cases z3 : ns.contains k with
        | true => simp only [z2, z3] at h1; exact (show False from h1).elim
        | false =>
          simp only [z2, z3] at h1
          obtain ⟨ad, dx, fs, e1, e2, e3⟩ := recv_ok C.gf P1 hv z
          unfold methOf at z2
          cases z4 : X.G.cls[c]? with
          | none => rw [z4] at z2; cases z2
          | some kk =>
            rw [z4] at z2
            obtain ⟨_, F, hF⟩ := C.gf.mth c kk k f z4 z2
            refine ⟨ad, _, dx, fs, _, ⟨c, kk, f, F, z4, z2, hF, rfl, rfl⟩, e1, e2, no_at C.gf.inj e3 z3, ?_⟩
            exact args_ok P1 h1 fun rs vs s2 w2 al2 H2 P2 L2 hvs h2 => rd_callG P2 hF (Cvs.cons (hv.mono L2.2 L2.1) hvs) h2
  cases es with
  | nil =>
    cases h0 rfl
    refine (pe_methV0 hG ha hr C.tk (meth_ok hsu rfl hn hl)).imp fun σ H Q ⟨w, al, sg, P, h⟩ => ?_
    obtain ⟨w0, al0, sg0, P0, q⟩ := key P h
    refine ⟨w0, al0, sg0, P0, ?_⟩
    refine OkG.imp q fun rs s w' al' H' P' g => ?_
    cases rs with
    | nil => exact g
    | cons r t => cases t with
      | cons _ _ => exact g
      | nil =>
        intro v hv
        obtain ⟨ad, D, dx, fs, sp, g1, g2, g3, g4, w2, al2, s2, P2, g5⟩ := g v hv
        exact ⟨ad, D, dx, fs, sp, g1, g2, g3, g4, g5.here P2 [] rfl⟩
  | cons e es =>
    have ht2 := ht
    simp only [List.all_cons, Bool.and_eq_true] at ht
    exact (pe_methV hG ha hr C.tk hes (star_ok ht.1) (plain_ok ht.2) (meth_ok hsu ht2 hn hl)).imp fun σ H Q ⟨w, al, sg, P, h⟩ => key P h
end
end Mp
namespace Mp
open PySem L2
section
variable {X : Fx} {n : Nat} {fA : Nat → Addr} {fre : List Str} {cf : Str → Bool} {sc : Scope} {Nm : List Str} {W : WX} {Y : Cx} {pos apos p p2 p3 : Pos} {a b c e : Expr} {a' b' c' : E} {es : List Expr} {es' : E} {σ : St} {Q : VK} {H H1 : Hp} {w : Wt} {al : List Addr} {sg : Sg} {F : List Rv → Sg → Wt → List Addr → Hp → Prop}
theorem re_clm {c k : Nat} {x : Str} {kk : Cl} (C : Cc X n fA fre cf sc Nm W Y) (hk : X.G.cls[c]? = some kk) (hs : sc.names.lookup kk.nm = some .globalImplicit) (hd : (kk.nm == ("__debug__" : Str)) = false) (hx : X.T.aN k = x) (hes : PA Y (e :: es) (tA X W es')) (hsu : notSup (.Name kk.nm p) = true) (ht : (e :: es).all tame = true) (hn : (e :: es).length < 30) (hl : (apos.endLine == pos.line) = true) :
    PE Y (.Call (.Attribute (.Name kk.nm p) x apos) (e :: es) [] pos) (tE X W (.clm c k es')) := by
  subst hx
  have hr : Room (2 * n + 2) Y.A := C.room.mono (Nat.le_succ _)
  have ht2 := ht
  simp only [List.all_cons, Bool.and_eq_true] at ht
  obtain ⟨_, _, hm⟩ := C.gf.mks c kk hk
  cases z : cmOf X.G c k with
  | none =>
    refine ⟨fun pins s σ H Q I ⟨w, al, sg, P, h⟩ => ?_⟩
    simp only [ev, z] at h
    exact (show False from h).elim
  | some f =>
    have z2 := z
    unfold cmOf at z2
    rw [hk] at z2
    simp only [Option.bind_some] at z2
    by_cases q : kk.cms.contains k = true
    · rw [if_pos q] at z2
      obtain ⟨_, F, hF⟩ := C.gf.mth c kk k f hk z2
      obtain ⟨fd, ok, hb, kp⟩ := C.gf.fns f F hF
      have h1 := C.gf.clr c kk hk (fun z => by rw [z] at q; cases q)
      have h2 := C.gf.cmt c kk k f hk q z2
      rw [← C.K] at ok hb h1 h2 kp
      refine (pe_clsF (pe_glob (v := V.ref (X.T.cA c)) (C.gl hs) hm rfl hd) h1 h2 kp ok hr hb C.tk hes (star_ok ht.1) (plain_ok ht.2) (meth_ok hsu ht2 hn hl)).imp fun σ H Q ⟨w, al, sg, P, h⟩ => ?_
      simp only [ev, z] at h
      exact ⟨rfl, args_ok P h fun rs vs s1 w1 al1 H1 P1 L1 hv h1 => rd_callG P1 hF hv h1⟩
    · rw [if_neg q] at z2; cases z2
theorem Cc.free (C : Cc X n fA fre cf sc Nm W Y) {x : Str} (h : x ∈ fre) : Y.mg x = none := C.gf.fre x h
theorem re_biB {bi : Bi} {x : Str} {id : String} {r : RC} (C : Cc X n fA fre cf sc Nm W Y) (hr : BiR X W bi r) (hc : CallR Y (.builtin id) r) (hx : x ∈ fre) (hs : sc.names.lookup x = some .globalImplicit) (hv : bootBuiltins x = some (.builtin id)) (hn : x ≠ "__name__") (hdb : (x == ("__debug__" : Str)) = false) (ha : PA Y (e :: es) (tA X W es')) (ht : (e :: es).all tame = true) :
    PE Y (.Call (.Name x p) (e :: es) [] pos) (tE X W (.bi bi es')) := by
  simp only [List.all_cons, Bool.and_eq_true] at ht
  exact (pe_callB hc (C.gl hs) (C.free hx) hv ha hn hdb (star_ok ht.1) (plain_ok ht.2)).imp fun σ H Q ⟨w, al, sg, P, h⟩ =>
    many_ok P h fun ds vs s1 w1 al1 H1 P1 L1 hv h1 => hr _ _ _ _ _ _ _ _ P1 hv.sn h1
theorem re_biT {bi : Bi} {x : Str} {id : String} {r : RC} (C : Cc X n fA fre cf sc Nm W Y) (hr : BiR X W bi r) (hc : CallR Y (.type id) r) (hx : x ∈ fre) (hs : sc.names.lookup x = some .globalImplicit) (hv : bootBuiltins x = some (.type id)) (hn : x ≠ "__name__") (hdb : (x == ("__debug__" : Str)) = false) (ha : PA Y (e :: es) (tA X W es')) (ht : (e :: es).all tame = true) :
    PE Y (.Call (.Name x p) (e :: es) [] pos) (tE X W (.bi bi es')) := by
  simp only [List.all_cons, Bool.and_eq_true] at ht
  exact (pe_callTy hc (C.gl hs) (C.free hx) hv ha hn hdb (star_ok ht.1) (plain_ok ht.2)).imp fun σ H Q ⟨w, al, sg, P, h⟩ =>
    many_ok P h fun ds vs s1 w1 al1 H1 P1 L1 hv h1 => hr _ _ _ _ _ _ _ _ P1 hv.sn h1
theorem rd_bis {bi : Bi} {r : RC} {i : Nat} (hr : BiR X W bi r) (h : tE X W (.bis bi i) σ H Q) : tCB r (tCons (tVar i) tNil) σ H Q := by
  obtain ⟨w, al, sg, P, h⟩ := h
  simp only [ev] at h
  cases z : peek sg i with
  | none => rw [z] at h; exact (show False from h).elim
  | some x =>
    simp only [z] at h
    obtain ⟨v, e1, hs⟩ := P.peek z
    exact ⟨v, e1, hr σ w al H sg Q [x] [v] P ⟨v, [], rfl, hs, rfl⟩ h⟩
theorem re_bisB {bi : Bi} {x y : Str} {i : Nat} {id : String} {r : RC} (C : Cc X n fA fre cf sc Nm W Y) (hr : BiR X W bi r) (hc : CallR Y (.builtin id) r) (hx : x ∈ fre) (hs : sc.names.lookup x = some .globalImplicit) (hv : bootBuiltins x = some (.builtin id)) (hn : x ≠ "__name__") (hdb : (x == ("__debug__" : Str)) = false)
    (hN : Y.N[i]? = some y) (hvy : Vis Y.env.scope y) (hd : (y == ("__debug__" : Str)) = false) (hcd : (y == ("__classdict__" : Str)) = false) :
    PE Y (.Call (.Name x p) [.Name y p2] [] pos) (tE X W (.bis bi i)) :=
  (pe_callB hc (C.gl hs) (C.free hx) hv (pa_cons (pe_var hN hvy hd hcd) pa_nil) hn hdb).imp fun σ H Q h => rd_bis hr h
theorem re_bisT {bi : Bi} {x y : Str} {i : Nat} {id : String} {r : RC} (C : Cc X n fA fre cf sc Nm W Y) (hr : BiR X W bi r) (hc : CallR Y (.type id) r) (hx : x ∈ fre) (hs : sc.names.lookup x = some .globalImplicit) (hv : bootBuiltins x = some (.type id)) (hn : x ≠ "__name__") (hdb : (x == ("__debug__" : Str)) = false)
    (hN : Y.N[i]? = some y) (hvy : Vis Y.env.scope y) (hd : (y == ("__debug__" : Str)) = false) (hcd : (y == ("__classdict__" : Str)) = false) :
    PE Y (.Call (.Name x p) [.Name y p2] [] pos) (tE X W (.bis bi i)) :=
  (pe_callTy hc (C.gl hs) (C.free hx) hv (pa_cons (pe_var hN hvy hd hcd) pa_nil) hn hdb).imp fun σ H Q h => rd_bis hr h
theorem Pt.wr {i : Nat} {x : D} {ad : Addr} {o : HO} (P : Pt X σ sg w al H) (hw : w ad = some (.slot i)) (hi : ∃ y, sg.st[i]? = some (some (.o y))) (hs : σ[i]? = some (some (.ref ad))) (hn : NdO X.T w (upd H ad o) ad x) :
    Pt X σ { sg with st := setS sg.st i (.o x) } w al (upd H ad o) ∧ Le w al H w al (upd H ad o) := by
  have x1 : Ext w H w (upd H ad o) := Ext.of fun b oo hb z0 => ⟨hb, upd_ne fun z => by rw [z, hw] at hb; cases hb; rcases z0 with z0 | z0 <;> cases z0⟩
  obtain ⟨y, hy⟩ := hi
  have hlen : i < sg.st.length := (List.getElem?_eq_some_iff.mp hy).1
  refine ⟨⟨⟨fun j r ej => ?_, fun k d ed => ?_, fun b q hb => ?_, ?_, P.1.alen⟩, fun b u h1 h2 => ?_⟩, AlX.refl, x1⟩
  · by_cases c : j = i
    · subst c
      simp only [setS, List.getElem?_set_self hlen] at ej
      cases ej
      exact ⟨_, hs, ad, rfl, hw, hn⟩
    · simp only [setS, List.getElem?_set_ne (Ne.symm c)] at ej
      obtain ⟨v, g1, g2⟩ := P.1.slots j r ej
      exact ⟨v, g1, g2.mono x1 AlX.refl fun b hb => ⟨hb, upd_ne fun z => by rw [z, hw] at hb; cases hb; exact c rfl⟩⟩
  · obtain ⟨b, g1, g2, g3⟩ := P.1.muts k d ed
    exact ⟨b, g1, g2, g3.mono x1 AlX.refl (upd_ne fun z => by rw [z, hw] at g2; cases g2)⟩
  · by_cases c : b = ad
    · subst c; exact ⟨o, upd_same⟩
    · obtain ⟨u, g⟩ := P.1.trk b q hb
      exact ⟨u, by rw [upd_ne c]; exact g⟩
  · simp only [setS, List.length_set]; exact P.1.len
  · obtain ⟨g1, g2⟩ := P.2 b u h1 h2
    exact ⟨g1, by rw [upd_ne fun z => by rw [z, hw] at g1; cases g1]; exact g2⟩
theorem Pt.wrM {k : Nat} {d0 d : Nd} {ad : Addr} {o : HO} (P : Pt X σ sg w al H) (hw : w ad = some (.mut k)) (hk : sg.mu[k]? = some d0) (ha : al[k]? = some ad) (hn : NdM X.T w al (upd H ad o) ad d) :
    Pt X σ { sg with mu := sg.mu.set k d } w al (upd H ad o) ∧ Le w al H w al (upd H ad o) := by
  have x1 : Ext w H w (upd H ad o) := Ext.of fun b oo hb z0 => ⟨hb, upd_ne fun z => by rw [z, hw] at hb; cases hb; rcases z0 with z0 | z0 <;> cases z0⟩
  have hlen : k < sg.mu.length := (List.getElem?_eq_some_iff.mp hk).1
  refine ⟨⟨⟨fun j r ej => ?_, fun j d2 ed => ?_, fun b q hb => ?_, P.1.len, by rw [List.length_set]; exact P.1.alen⟩, fun b u h1 h2 => ?_⟩, AlX.refl, x1⟩
  · obtain ⟨v, g1, g2⟩ := P.1.slots j r ej
    exact ⟨v, g1, g2.mono x1 AlX.refl fun b hb => ⟨hb, upd_ne fun z => by rw [z, hw] at hb; cases hb⟩⟩
  · by_cases c : j = k
    · subst c
      simp only [List.getElem?_set_self hlen] at ed
      cases ed
      exact ⟨ad, ha, hw, hn⟩
    · simp only [List.getElem?_set_ne (Ne.symm c)] at ed
      obtain ⟨b, g1, g2, g3⟩ := P.1.muts j d2 ed
      exact ⟨b, g1, g2, g3.mono x1 AlX.refl (upd_ne fun z => by rw [z, hw] at g2; cases g2; exact c rfl)⟩
  · by_cases c : b = ad
    · subst c; exact ⟨o, upd_same⟩
    · obtain ⟨u, g⟩ := P.1.trk b q hb
      exact ⟨u, by rw [upd_ne c]; exact g⟩
  · obtain ⟨g1, g2⟩ := P.2 b u h1 h2
    exact ⟨g1, by rw [upd_ne fun z => by rw [z, hw] at g1; cases g1]; exact g2⟩
theorem Sn.tyL {K : PySem.W.Frag} {ad : Addr} {vs : List V} (h : H ad = some (.lst vs)) : tyV K "list" (.ref ad) H := .inl ⟨rfl, vs, .inl (.inl h)⟩
theorem Vls.one {T : Tb} : ∀ {ds : List D} {vs : List V} {y : D}, Vls T w H ds vs → ds = [y] → ∃ u, vs = [u] ∧ Val T w H y u := by
  intro ds vs y h e
  subst e
  obtain ⟨v, r, e1, h1, h2⟩ := h
  cases (show r = [] from h2)
  exact ⟨v, e1, h1⟩
theorem rd_bms {i : Nat} (h : tE X W (.bms .append i es') σ H Q) : tBM X.T.K "list" rAppend (tVar i) (tA X W es') σ H Q := by
  obtain ⟨w, al, sg, P, h⟩ := h
  simp only [ev] at h
  cases z : sg.st[i]? with
  | none => rw [z] at h; exact (show False from h).elim
  | some q =>
    cases q with
    | none => rw [z] at h; exact (show False from h).elim
    | some r =>
      cases r with
      | d _ => rw [z] at h; exact (show False from h).elim
      | m _ => rw [z] at h; exact (show False from h).elim
      | o x =>
        cases x with
        | lst xs =>
          simp only [z] at h
          obtain ⟨v, e1, ad, rfl, h3, us, h4, h5⟩ := P.1.slots i _ z
          refine ⟨_, e1, Sn.tyL h4, many_ok P h fun ds vs s2 w2 al2 H2 P2 L2 hv h2 => ?_⟩
          cases z2 : s2.st[i]? with
          | none => rw [z2] at h2; exact (show False from h2).elim
          | some q2 =>
            cases q2 with
            | none => rw [z2] at h2; exact (show False from h2).elim
            | some r2 =>
              cases r2 with
              | d _ => rw [z2] at h2; exact (show False from h2).elim
              | m _ => rw [z2] at h2; exact (show False from h2).elim
              | o y =>
                simp only [z2] at h2
                cases y with
                | lst ys =>
                  cases ds with
                  | nil => exact (show False from h2).elim
                  | cons y ds => cases ds with
                    | cons _ _ => exact (show False from h2).elim
                    | nil =>
                      obtain ⟨u, rfl, hu⟩ := hv.one rfl
                      obtain ⟨v2, e2, ad2, rfl, g3, us2, g4, g5⟩ := P2.1.slots i _ z2
                      rw [e1] at e2; cases e2
                      by_cases cl : ys.length < sizeLine
                      · simp only [bmF, if_pos cl] at h2
                        refine ⟨ad, us2, u, rfl, rfl, g4, by rw [← g5.length]; exact cl, ?_⟩
                        have x1 : Ext w2 H2 w2 (upd H2 ad (.lst (us2 ++ [u]))) := Ext.of fun b oo hb z0 => ⟨hb, upd_ne fun z => by rw [z, g3] at hb; cases hb; rcases z0 with z0 | z0 <;> cases z0⟩
                        obtain ⟨P3, L3⟩ := P2.wr (x := .lst (ys ++ [y])) g3 ⟨_, z2⟩ e1 ⟨_, upd_same, (Vls.mono x1 _ _ g5).append ⟨u, [], rfl, Val.mono x1 _ _ hu, rfl⟩⟩
                        exact h2 _ _ _ P3 L3 V.non rfl
                      · simp only [bmF, if_neg cl] at h2; exact (show False from h2).elim
                | _ => exact (show False from h2).elim
        | _ => simp only [z] at h; exact (show False from h).elim
theorem few_all {env : Env} {cpos : Pos} {es : List Expr} (ht : es.all tame = true) (hn : es.length < 30) : ((backTo cpos (starEach es env)).all (fun x => !x.1) && (backToKw cpos (keywordEach [] env)).all (fun x => x.1.isSome)
      && decide (es.length + ([] : List Keyword).length + (if ([] : List Keyword).isEmpty then 0 else 1) < 30)) = true := by
  have a : (backTo cpos (starEach es env)).all (fun x => !x.1) = true := by
    have b := plain_ok (env := env) (pos := cpos) ht
    rw [List.any_eq_false] at b
    rw [List.all_eq_true]
    intro x hx
    have := b x hx
    simpa using this
  rw [a]
  simp [keywordEach, backToKw, hn]
theorem re_bms {i : Nat} {x : Str} (C : Cc X n fA fre cf sc Nm W Y) (hN : Y.N[i]? = some x) (hv : Vis Y.env.scope x) (hd : (x == ("__debug__" : Str)) = false) (hcd : (x == ("__classdict__" : Str)) = false) (hsu : notSup (.Name x p) = true) (ha : PA Y [e] (tA X W es')) (ht : tame e = true) (hl : (apos.endLine == pos.line) = true) :
    PE Y (.Call (.Attribute (.Name x p) "append" apos) [e] [] pos) (tE X W (.bms .append i es')) := by
  have ht' : [e].all tame = true := by simp [ht]
  refine (pe_bm PySem.F.plainAttrs_list PySem.F.slot_list_append PySem.F.type_list_append mt_append (pe_var hN hv hd hcd) ha (ab_ok hsu) (few_all ht' (show 1 < 30 by decide)) hl (star_ok ht) (plain_ok rfl)).imp fun σ H Q h => ?_
  rw [C.K]
  exact rd_bms h
theorem Cvs.length' {T : Tb} : ∀ {rs : List Rv} {vs : List V}, Cvs T w al H rs vs → rs.length = vs.length := Cvs.length
theorem Cvs.append {T : Tb} : ∀ {rs qs : List Rv} {vs us : List V}, Cvs T w al H rs vs → Cvs T w al H qs us → Cvs T w al H (rs ++ qs) (vs ++ us)
  | [], _, _, _, h, k => by cases (show _ = [] from h); exact k
  | _ :: _, _, _, _, ⟨v, r, e, h1, h2⟩, k => by subst e; exact ⟨v, r ++ _, rfl, h1, Cvs.append h2 k⟩
theorem rd_bm (h : tE X W (.bm .append a' es') σ H Q) : tBM X.T.K "list" rAppend (tE X W a') (tA X W es') σ H Q := by
  obtain ⟨w, al, sg, P, h⟩ := h
  refine one_r P h fun r v s1 w1 al1 H1 P1 L1 hv h1 => ?_
  cases r with
  | d _ => exact (show False from h1).elim
  | o _ => exact (show False from h1).elim
  | m k =>
    simp only at h1
    obtain ⟨ad, ha, rfl⟩ := hv
    cases z : s1.mu[k]? with
    | none => rw [z] at h1; exact (show False from h1).elim
    | some d =>
      cases d with
      | dct _ _ => rw [z] at h1; exact (show False from h1).elim
      | tdc _ _ => rw [z] at h1; exact (show False from h1).elim
      | obj _ _ _ => rw [z] at h1; exact (show False from h1).elim
      | lst xs =>
        simp only [z] at h1
        obtain ⟨ad0, g1, g2, us, g3, g4⟩ := P1.1.muts k _ z
        rw [ha] at g1; cases g1
        refine ⟨Sn.tyL g3, many_ok P1 h1 fun ds vs s2 w2 al2 H2 P2 L2 hv h2 => ?_⟩
        cases z2 : s2.mu[k]? with
        | none => simp only [z2] at h2; exact (show False from h2).elim
        | some d2 =>
          cases d2 with
          | dct _ _ => simp only [z2] at h2; exact (show False from h2).elim
          | tdc _ _ => simp only [z2] at h2; exact (show False from h2).elim
          | obj _ _ _ => simp only [z2] at h2; exact (show False from h2).elim
          | lst ys =>
            simp only [z2] at h2
            cases ds with
            | nil => exact (show False from h2).elim
            | cons y ds => cases ds with
              | cons _ _ => exact (show False from h2).elim
              | nil =>
                obtain ⟨u, rfl, hu⟩ := hv.one rfl
                obtain ⟨ad2, q1, q2, us2, q3, q4⟩ := P2.1.muts k _ z2
                rw [L2.1.get ha] at q1; cases q1
                by_cases cl : ys.length < sizeLine
                · simp only [if_pos cl] at h2
                  refine ⟨ad, us2, u, rfl, rfl, q3, by rw [← q4.length]; exact cl, ?_⟩
                  have x1 : Ext w2 H2 w2 (upd H2 ad (.lst (us2 ++ [u]))) := Ext.of fun b oo hb z0 => ⟨hb, upd_ne fun z => by rw [z, q2] at hb; cases hb; rcases z0 with z0 | z0 <;> cases z0⟩
                  obtain ⟨P3, L3⟩ := P2.wrM (d := .lst (ys ++ [.d y])) q2 z2 (L2.1.get ha) ⟨_, upd_same, (q4.mono x1 AlX.refl).append ⟨u, [], rfl, (show Cv X.T w2 al2 _ (.d y) u from Val.mono x1 _ _ hu), rfl⟩⟩
                  exact h2 _ _ _ P3 L3 V.non rfl
                · simp only [if_neg cl] at h2; exact (show False from h2).elim
theorem re_bm (C : Cc X n fA fre cf sc Nm W Y) (ho : PE Y a (tE X W a')) (hsu : notSup a = true) (ha : PA Y [e] (tA X W es')) (ht : tame e = true) (hl : (apos.endLine == pos.line) = true) :
    PE Y (.Call (.Attribute a "append" apos) [e] [] pos) (tE X W (.bm .append a' es')) := by
  have ht' : [e].all tame = true := by simp [ht]
  refine (pe_bm PySem.F.plainAttrs_list PySem.F.slot_list_append PySem.F.type_list_append mt_append ho ha (ab_ok hsu) (few_all ht' (show 1 < 30 by decide)) hl (star_ok ht) (plain_ok rfl)).imp fun σ H Q h => ?_
  rw [C.K]
  exact rd_bm h
def tyN : D → Option String
  | .non => some "NoneType"
  | .bl _ => some "bool"
  | .int _ => some "int"
  | .str _ => some "str"
  | .tup _ => some "tuple"
  | .lst _ => some "list"
  | .rl _ => some "list"
  | .dct _ _ => some "dict"
  | _ => none
def TyG (K : PySem.W.Frag) (H : Hp) (v : V) (t : Value) : Prop := TyX K H v t ∨ (t = .type "dict" ∧ ∃ a kvs, v = .ref a ∧ Rd H a (.dK kvs))
def rIsiG (K : PySem.W.Frag) : RC := fun xs H Q => ∃ (x c : V) (t u : Value) (b : Bool), xs = [x, c] ∧ ClsV c u ∧ TyG K H x t ∧ PySem.W.kitOne K t u = some b ∧ Q (.bl b) H
theorem call_isiG {Y : Cx} : CallR Y (.builtin "isinstance") (rIsiG Y.K) := by
  intro pins s σ H xs us Q I r ⟨x, c, t, u, b, exs, k, ty, e, q⟩
  rcases ty with ty | ⟨et, a, kvs, ex, hd⟩
  · exact call_isi pins s σ H xs us Q I r ⟨x, c, t, u, b, exs, k, ty, e, q⟩
  · subst exs et ex
    obtain ⟨u1, u2, rfl, r1, r2⟩ := vals2 r
    cases (show u1 = .ref a from r1)
    have e2 := k.eq r2
    subst e2
    obtain ⟨_, _, _, _, o, es, ep, h1, h2, _⟩ := dk_rd I.hok hd
    exact PySem.W.kia_one PySem.W.kitx_dict I.kIn ⟨o, h1, h2.1⟩ e (fun z => nomatch z) fun tk => ⟨.bl b, H, I.tok tk, rfl, q⟩
theorem ty_of {T : Tb} {x : D} {v : V} {t : String} (hv : Val T w H x v) (e : tyN x = some t) : TyG T.K H v (.type t) := by
  cases x with
  | non => cases e; cases (show v = V.non from hv); exact .inl (.base .non)
  | bl b => cases e; cases (show v = V.bl b from hv); exact .inl (.base (.bl b))
  | int i => cases e; cases (show v = V.int i from hv); exact .inl (.base (.int i))
  | str i => cases e; cases (show v = V.str i from hv); exact .inl (.base (.str i))
  | tup xs => cases e; obtain ⟨a, vs, e, _, h, _⟩ := hv; subst e; exact .inl (.base (.tup h))
  | lst xs => cases e; obtain ⟨a, vs, e, _, h, _⟩ := hv; subst e; exact .inl (.base (.lst h))
  | rl xs => cases e; obtain ⟨a, vs, e, _, h, _⟩ := hv; subst e; exact .inl (.base (.lst h))
  | dct ks xs => cases e; obtain ⟨a, vs, e, _, h, _⟩ := hv; exact .inr ⟨rfl, a, vs, e, h⟩
  | _ => cases e
theorem ty_sn {T : Tb} {x : D} {v : V} {t : String} (hv : Sn T w H x v) (e : tyN x = some t) : TyG T.K H v (.type t) := by
  cases x with
  | lst xs => cases e; obtain ⟨a, vs, e, h, _⟩ := hv; subst e; exact .inl (.base (.lst h))
  | dct ks xs => cases e; obtain ⟨a, vs, e, h, _⟩ := hv; exact .inr ⟨rfl, a, vs, e, h⟩
  | tdc ks xs => cases e
  | non => exact ty_of (w := w) (x := .non) hv e
  | bl b => exact ty_of (w := w) (x := .bl b) hv e
  | int i => exact ty_of (w := w) (x := .int i) hv e
  | str i => exact ty_of (w := w) (x := .str i) hv e
  | tup xs => exact ty_of (w := w) (x := .tup xs) hv e
  | rl xs => exact ty_of (w := w) (x := .rl xs) hv e
  | _ => cases e
theorem ty_obj {P0 : Program} {w0 : World} {mg : Str → Option Value} {base : Heap} (G : GF X n P0 w0 mg base fA fre) {c : Nat} {k : Cl} {ns : List Nat} {ds : List D} {v : V} (hk : X.G.cls[c]? = some k) (hv : Val X.T w H (.obj c ns ds) v) : TyX X.T.K H v (.ref (X.T.cA c)) := by
  obtain ⟨a, dx, fs, e, _, h, _⟩ := hv
  subst e
  obtain ⟨g1, g2⟩ := G.kiO c k hk
  exact .base (.ins h (G.cls c k hk) g1 G.kiG.1 G.kiG.2 g2)
def tyB : Ty → Option String
  | .int => some "int"
  | .bool => some "bool"
  | .str => some "str"
  | .list => some "list"
  | .tuple => some "tuple"
  | .cls _ => none
theorem isi_at {t : Ty} {x : D} {v : V} {s1 : Sg} {w1 : Wt} {al1 : List Addr} {cv : V} {u : Value} {P0 : Program} {w0 : World} {mg : Str → Option Value} {base : Heap} (G : GF X n P0 w0 mg base fA fre) (hc : ClsV cv u) (hu : match tyB t with
    | some z => u = .type z
    | none => ∃ c k, t = .cls c ∧ X.G.cls[c]? = some k ∧ u = .ref (X.T.cA c)) (P1 : Pt X σ s1 w1 al1 H1) (hx : Sn X.T w1 H1 x v) (h1 : OkG X W σ w1 al1 H1 (FE X Q) (ofO ((isiF X.G t x).map fun b => .d (.bl b)) s1)) : tCons (tC cv) tNil σ H1 (fun xs H2 => rIsiG X.T.K (v :: xs) H2 Q) := by
  have fin : ∀ (tv : Value) (b : Bool), TyG X.T.K H1 v tv → PySem.W.kitOne X.T.K tv u = some b → OkG X W σ w1 al1 H1 (FE X Q) (.ok [.d (.bl b)] s1) → tCons (tC cv) tNil σ H1 (fun xs H2 => rIsiG X.T.K (v :: xs) H2 Q) := fun tv b h1 h2 h3 =>
    ⟨v, cv, tv, u, b, rfl, hc, h1, h2, fin_d P1 h3 rfl⟩
  cases q : tyN x with
  | some tn =>
    have tyx := ty_sn hx q
    cases z : tyB t with
    | some z' =>
      rw [z] at hu
      subst hu
      have key : ∃ b, isiF X.G t x = some b ∧ kitB tn z' = some b := by
        cases x <;> first | (cases q; done) | (cases q; cases t <;> first | (cases z; done) | (cases z; first | exact ⟨true, rfl, by decide +kernel⟩ | exact ⟨false, rfl, by decide +kernel⟩))
      obtain ⟨b, e1, e2⟩ := key
      rw [e1] at h1
      exact fin _ b tyx (kit_ty e2) h1
    | none =>
      rw [z] at hu
      obtain ⟨c, k, rfl, hk, rfl⟩ := hu
      have e1 : isiF X.G (.cls c) x = some false := by
        cases x <;> first | (cases q; done) | (simp only [isiF, hk] <;> rfl)
      rw [e1] at h1
      refine fin _ false tyx (G.kiB c k hk tn ?_).1 h1
      cases x <;> first | (cases q; done) | (cases q; decide)
  | none =>
    cases x with
    | scr _ => exact (show False from by cases t <;> exact h1).elim
    | xc _ _ => exact (show False from by cases t <;> exact h1).elim
    | tdc _ _ => exact (show False from by cases t <;> exact h1).elim
    | obj c0 ns ds =>
      cases z0 : X.G.cls[c0]? with
      | none =>
        simp only [isiF, z0] at h1
        exact (show False from h1).elim
      | some k0 =>
        have tyx : TyG X.T.K H1 v (.ref (X.T.cA c0)) := .inl (ty_obj G z0 hx)
        cases z : tyB t with
        | some z' =>
          rw [z] at hu
          subst hu
          have key : isiF X.G t (.obj c0 ns ds) = some false := by
            cases t <;> first | (cases z; done) | (simp only [isiF, z0] <;> rfl)
          simp only [key] at h1
          refine fin _ false tyx (G.kiB c0 k0 z0 z' ?_).2 h1
          cases t <;> first | (cases z; done) | (cases z; decide)
        | none =>
          rw [z] at hu
          obtain ⟨c, k, rfl, hk, rfl⟩ := hu
          have e1 : isiF X.G (.cls c) (.obj c0 ns ds) = some (k0.sup.contains c) := by simp only [isiF, hk, z0] <;> rfl
          simp only [e1] at h1
          exact fin _ _ tyx (G.kit c0 k0 c z0 ⟨k, hk⟩) h1
    | _ => cases q
theorem rd_isi {t : Ty} {cv : V} {u : Value} {P0 : Program} {w0 : World} {mg : Str → Option Value} {base : Heap} (G : GF X n P0 w0 mg base fA fre) (hc : ClsV cv u) (hu : match tyB t with
    | some z => u = .type z
    | none => ∃ c k, t = .cls c ∧ X.G.cls[c]? = some k ∧ u = .ref (X.T.cA c)) (h : tE X W (.isi a' t) σ H Q) : tCB (rIsiG X.T.K) (tCons (tE X W a') (tCons (tC cv) tNil)) σ H Q := by
  obtain ⟨w, al, sg, P, h⟩ := h
  exact one_ok P h fun x v s1 w1 al1 H1 P1 L1 hx h1 => isi_at G hc hu P1 hx.sn h1
theorem re_isi {t : Ty} {x : Str} {cv : V} {u : Value} {b : Expr} (C : Cc X n fA fre cf sc Nm W Y) (hx : x = "isinstance") (hf : x ∈ fre) (hs : sc.names.lookup x = some .globalImplicit) (hc : ClsV cv u) (hu : match tyB t with
    | some z => u = .type z
    | none => ∃ c k, t = .cls c ∧ X.G.cls[c]? = some k ∧ u = .ref (X.T.cA c)) (hb : PE Y b (tC cv)) (ha : PE Y a (tE X W a')) (ht : tame a = true) (htb : tame b = true) :
    PE Y (.Call (.Name x p) [a, b] [] pos) (tE X W (.isi a' t)) := by
  subst hx
  have hpl : [b].all tame = true := by simp [htb]
  refine (pe_callB call_isiG (C.gl hs) (C.free hf) PyProof.Rows.boot_isinstance (pa_cons ha (pa_cons hb pa_nil (star_ok htb)) (star_ok ht)) (by decide) (by decide) (star_ok ht) (plain_ok hpl)).imp fun σ H Q h => ?_
  rw [C.K]
  exact rd_isi C.gf hc hu h
theorem rd_isis {i : Nat} {t : Ty} {cv : V} {u : Value} {P0 : Program} {w0 : World} {mg : Str → Option Value} {base : Heap} (G : GF X n P0 w0 mg base fA fre) (hc : ClsV cv u) (hu : match tyB t with
    | some z => u = .type z
    | none => ∃ c k, t = .cls c ∧ X.G.cls[c]? = some k ∧ u = .ref (X.T.cA c)) (h : tE X W (.isis i t) σ H Q) : tCB (rIsiG X.T.K) (tCons (tVar i) (tCons (tC cv) tNil)) σ H Q := by
  obtain ⟨w, al, sg, P, h⟩ := h
  simp only [ev] at h
  cases z : peek sg i with
  | none => rw [z] at h; exact (show False from h).elim
  | some x =>
    simp only [z] at h
    obtain ⟨v, e1, hs⟩ := P.peek z
    exact ⟨v, e1, isi_at (W := W) G hc hu P hs h⟩
theorem re_isis {i : Nat} {y : Str} {t : Ty} {x : Str} {cv : V} {u : Value} {b : Expr} (C : Cc X n fA fre cf sc Nm W Y) (hx : x = "isinstance") (hf : x ∈ fre) (hs : sc.names.lookup x = some .globalImplicit) (hc : ClsV cv u) (hu : match tyB t with
    | some z => u = .type z
    | none => ∃ c k, t = .cls c ∧ X.G.cls[c]? = some k ∧ u = .ref (X.T.cA c)) (hb : PE Y b (tC cv)) (hN : Y.N[i]? = some y) (hv : Vis Y.env.scope y) (hd : (y == ("__debug__" : Str)) = false) (hcd : (y == ("__classdict__" : Str)) = false) (htb : tame b = true) :
    PE Y (.Call (.Name x p) [.Name y p2, b] [] pos) (tE X W (.isis i t)) := by
  subst hx
  have hpl : [b].all tame = true := by simp [htb]
  refine (pe_callB call_isiG (C.gl hs) (C.free hf) PyProof.Rows.boot_isinstance (pa_cons (pe_var hN hv hd hcd) (pa_cons hb pa_nil (star_ok htb)) (star_ok rfl)) (by decide) (by decide) (star_ok rfl) (plain_ok hpl)).imp fun σ H Q h => ?_
  rw [C.K]
  exact rd_isis C.gf hc hu h
theorem rd_isNs {i : Nat} {neg : Bool} (h : tE X W (.isNs neg i) σ H Q) : (match neg with | true => tNotN (tVar i) | false => tIsN (tVar i)) σ H Q := by
  obtain ⟨w, al, sg, P, h⟩ := h
  simp only [ev] at h
  cases z : peek sg i with
  | none => rw [z] at h; exact (show False from h).elim
  | some x =>
    obtain ⟨v, e1, hs⟩ := P.peek z
    have key : decide (v = V.non) = (match x with
      | .non => true
      | _ => false) := by
      cases x with
      | lst _ => obtain ⟨a, vs, e, _⟩ := hs; subst e; rfl
      | dct _ _ => obtain ⟨a, vs, e, _⟩ := hs; subst e; rfl
      | tdc _ _ => obtain ⟨a, vs, e, _⟩ := hs; subst e; rfl
      | non => exact val_non (X := X) (H := H) (x := .non) (w := w) hs
      | bl b => exact val_non (X := X) (H := H) (x := .bl b) (w := w) hs
      | int b => exact val_non (X := X) (H := H) (x := .int b) (w := w) hs
      | str b => exact val_non (X := X) (H := H) (x := .str b) (w := w) hs
      | tup b => exact val_non (X := X) (H := H) (x := .tup b) (w := w) hs
      | rl b => exact val_non (X := X) (H := H) (x := .rl b) (w := w) hs
      | scr b => exact val_non (X := X) (H := H) (x := .scr b) (w := w) hs
      | xc b q => exact val_non (X := X) (H := H) (x := .xc b q) (w := w) hs
      | obj b q r => exact val_non (X := X) (H := H) (x := .obj b q r) (w := w) hs
    cases neg with
    | true =>
      refine ⟨v, e1, (?_ : Q (V.bl (!decide (v = V.non))) H)⟩
      rw [key]
      cases x <;> (simp only [z] at h; exact fin_d P h rfl)
    | false =>
      refine ⟨v, e1, (?_ : Q (V.bl (decide (v = V.non))) H)⟩
      rw [key]
      cases x <;> (simp only [z] at h; exact fin_d P h rfl)
theorem re_isNs {i j : Nat} {y : Str} {neg : Bool} {op : CmpOp} (hop : op = if neg then .IsNot else .Is) (hN : Y.N[i]? = some y) (hv : Vis Y.env.scope y) (hd : (y == ("__debug__" : Str)) = false) (hcd : (y == ("__classdict__" : Str)) = false) :
    PE Y (.Compare (.Name y p2) [op] [.Constant .none j p] pos) (tE X W (.isNs neg i)) ∧ PT Y (.Compare (.Name y p2) [op] [.Constant .none j p] pos) (tT X W (.isNs neg i)) := by
  subst hop
  cases neg with
  | true => exact ⟨(pe_cmp (pc_notN (pe_var hN hv hd hcd)) rfl).imp fun _ _ _ h => rd_isNs (neg := true) h, (pt_cmp (pc_notN (pe_var hN hv hd hcd)) rfl).imp fun _ _ _ h => rd_isNs (neg := true) (rd_T h)⟩
  | false => exact ⟨(pe_cmp (pc_isN (pe_var hN hv hd hcd)) rfl).imp fun _ _ _ h => rd_isNs (neg := false) h, (pt_cmp (pc_isN (pe_var hN hv hd hcd)) rfl).imp fun _ _ _ h => rd_isNs (neg := false) (rd_T h)⟩
end
end Mp
namespace Mp
open PySem L2
section
variable {X : Fx} {n : Nat} {fA : Nat → Addr} {fre : List Str} {cf : Str → Bool} {sc : Scope} {Nm : List Str} {W : WX} {Y : Cx} {pos apos p p2 p3 : Pos} {a b c e tgE : Expr} {a' b' c' : E} {es : List Expr} {es' : E} {σ : St} {Q : VK} {H H1 : Hp} {w : Wt} {al : List Addr} {sg : Sg} {F : List Rv → Sg → Wt → List Addr → Hp → Prop}
theorem map_d_inj : ∀ {xs ys : List D}, xs.map Rv.d = ys.map Rv.d → xs = ys
  | [], [], _ => rfl
  | [], _ :: _, e => by cases e
  | _ :: _, [], e => by cases e
  | x :: xs, y :: ys, e => by
    simp only [List.map_cons, List.cons.injEq] at e
    obtain ⟨e1, e2⟩ := e
    cases e1
    rw [map_d_inj e2]
theorem FI.get {R : It → Hp → Prop} {ds : List D} (h : FI X R (ds.map .d) sg w al H) : ∀ J, ItOk X.T w H J ds → R J H := by
  obtain ⟨es, e, h⟩ := h
  rw [map_d_inj e]
  exact h
theorem it_rng {T : Tb} {lo : Int} {k : Nat} : ItOk T w H (Itr lo k) (dints k lo) where
  go := fun w' H' i _ h => show i < k by simpa [dints] using h
  stop := fun w' H' i _ h => show k ≤ i by simpa [dints] using h
  yld := fun w' H' i d v H'' _ _ e y => .inl ⟨y.1, by
    obtain ⟨y1, y2⟩ := y
    subst y2
    have hi : i < k := by
      have := (List.getElem?_eq_some_iff.mp e).1
      simpa [dints] using this
    simp [dints, hi] at e
    subst e
    rfl⟩
theorem rng_ok {j : Int} (h : rngOk j = true) : -(2 ^ 62) ≤ j ∧ j < 2 ^ 62 := by have := small_to h; omega
theorem ri_rng1 (C : Cc X n fA fre cf sc Nm W Y) (hf : ("range" : Str) ∈ fre) (hs : sc.names.lookup ("range" : Str) = some .globalImplicit) (ht : tame a = true) (ha : PA Y [a] (tA X W es')) : PI Y tgE (.Call (.Name "range" p) [a] [] pos) (tI X W (.rng es')) :=
  (pi_range1 (C.gl hs) (C.free hf) ha (star_ok ht)).imp fun σ H R ⟨w, al, sg, P, h⟩ => by
  refine many_ok P h fun ds vs s1 w1 al1 H1 P1 L1 hv h1 => ?_
  cases ds with
  | nil => exact (show False from h1).elim
  | cons d ds => cases ds with
    | nil =>
      obtain ⟨u, rfl, hu⟩ := hv.one rfl
      cases d with
      | int j =>
        cases (show u = V.int j from hu)
        by_cases c : rngOk j = true
        · simp only [if_pos c] at h1
          obtain ⟨b1, b2⟩ := rng_ok c
          exact ⟨j, rfl, b1, b2, FI.get (h1.here P1) _ it_rng⟩
        · simp only [if_neg c] at h1; exact (show False from h1).elim
      | _ => exact (show False from h1).elim
    | cons d2 ds => exact (show False from by cases d <;> exact h1).elim
theorem ri_rng2 (C : Cc X n fA fre cf sc Nm W Y) (hf : ("range" : Str) ∈ fre) (hs : sc.names.lookup ("range" : Str) = some .globalImplicit) (ht : tame a = true) (htb : tame b = true) (ha : PA Y [a, b] (tA X W es')) : PI Y tgE (.Call (.Name "range" p) [a, b] [] pos) (tI X W (.rng2 es')) :=
  (pi_range2 (C.gl hs) (C.free hf) ha (by rw [star_ok ht, star_ok htb] <;> rfl) (star_ok htb)).imp fun σ H R ⟨w, al, sg, P, h⟩ => by
  refine many_ok P h fun ds vs s1 w1 al1 H1 P1 L1 hv h1 => ?_
  cases ds with
  | nil => exact (show False from h1).elim
  | cons d ds => cases ds with
    | nil => exact (show False from by cases d <;> exact h1).elim
    | cons d2 ds => cases ds with
      | cons _ _ => exact (show False from by cases d <;> first | exact h1 | (cases d2 <;> exact h1)).elim
      | nil =>
        obtain ⟨v1, r1, rfl, g1, v2, r2, rfl, g2, g3⟩ := hv
        cases (show r2 = [] from g3)
        cases d with
        | int i => cases d2 with
          | int j =>
            cases (show v1 = V.int i from g1)
            cases (show v2 = V.int j from g2)
            by_cases c : (rngOk i && rngOk j) = true
            · simp only [if_pos c] at h1
              simp only [Bool.and_eq_true] at c
              exact ⟨i, j, rfl, ⟨(rng_ok c.1).1, (rng_ok c.1).2, (rng_ok c.2).1, (rng_ok c.2).2⟩, FI.get (h1.here P1) _ it_rng⟩
            · simp only [if_neg c] at h1; exact (show False from h1).elim
          | _ => exact (show False from h1).elim
        | _ => exact (show False from by cases d2 <;> exact h1).elim
theorem it_lst {T : Tb} {ad : Addr} {vs : List V} {ds : List D} (hw : KpA w ad) (hH : Rd H ad (.lst vs)) (hv : Vls T w H ds vs) : ItOk T w H (Itl T.K ad) ds := by
  have key : ∀ {w' : Wt} {H' : Hp}, Ext w H w' H' → SqL T.K H' ad vs := fun {w' H'} x => by
    refine .inl ?_
    unfold Rd at hH ⊢
    rw [show H' ad = H ad from hw.elim (fun z => (x ad z).2) fun z => (x.l ad z).2]; exact hH
  refine ⟨fun w' H' i x h => ?_, fun w' H' i x h => ⟨vs, key x, by rw [← hv.length]; exact h⟩, fun w' H' i d v H'' x _ e y => .inl ⟨y.1, ?_⟩⟩
  · rw [hv.length] at h
    exact ⟨vs, vs[i], key x, List.getElem?_eq_getElem h⟩
  · obtain ⟨u, h1, h2⟩ := (hv.mono x).get e
    have := y.2 vs (key x)
    rw [h1] at this; cases this
    exact h2
theorem it_scr {T : Tb} {ad : Addr} {ns : List Int} (hw : ScrAt T w H ad ns) : ItOk T w H (Itl T.K ad) (ns.map .int) := by
  have key : ∀ {w' : Wt} {H' : Hp}, Ext w H w' H' → SqL T.K H' ad (ns.map V.int) := fun {w' H'} x => by
    rcases hw with ⟨h1, h2⟩ | h
    · refine .inl ?_
      unfold Rd at h2 ⊢
      rw [(x ad h1).2]; exact h2
    · exact h H'
  have hv : Vls T w H (ns.map .int) (ns.map V.int) := Vls.ints ns
  refine ⟨fun w' H' i x h => ?_, fun w' H' i x h => ⟨_, key x, by rw [← hv.length]; exact h⟩, fun w' H' i d v H'' x _ e y => .inl ⟨y.1, ?_⟩⟩
  · rw [hv.length] at h
    exact ⟨_, (ns.map V.int)[i], key x, List.getElem?_eq_getElem h⟩
  · obtain ⟨u, h1, h2⟩ := (hv.mono x).get e
    have := y.2 _ (key x)
    rw [h1] at this; cases this
    exact h2
theorem ri_pl (C : Cc X n fA fre cf sc Nm W Y) (ha : PE Y a (tE X W a')) : PI Y tgE a (tI X W (.pl a')) :=
  (pi_list ha).imp fun σ H R ⟨w, al, sg, P, h⟩ => by
  refine one_ok P h fun x v s1 w1 al1 H1 P1 L1 hx h1 => ?_
  rw [C.K]
  cases x with
  | lst xs =>
    obtain ⟨ad, vs, e, h2, h3, h4⟩ := hx
    subst e
    exact ⟨ad, rfl, ⟨vs, .inl (.inl h3)⟩, FI.get (h1.here P1) _ (it_lst (.inl h2) (.inl h3) h4)⟩
  | rl xs =>
    obtain ⟨ad, vs, e, h2, h3, h4⟩ := hx
    subst e
    exact ⟨ad, rfl, ⟨vs, .inl (.inl h3)⟩, FI.get (h1.here P1) _ (it_lst (.inr h2) (.inl h3) h4)⟩
  | scr xs =>
    obtain ⟨ad, e, h2⟩ := hx
    subst e
    exact ⟨ad, rfl, ⟨_, h2.sq⟩, FI.get (h1.here P1) _ (it_scr h2)⟩
  | _ => exact (show False from h1).elim
theorem it_tup {T : Tb} {ad : Addr} {vs : List V} {ds : List D} (hw : w ad = some .frz) (hH : Rd H ad (.tup vs)) (hv : Vls T w H ds vs) : ItOk T w H (Itt T.K ad) ds := by
  have key : ∀ {w' : Wt} {H' : Hp}, Ext w H w' H' → SqT T.K H' ad vs := fun {w' H'} x => by
    refine .inl ?_
    unfold Rd at hH ⊢
    rw [(x ad hw).2]; exact hH
  refine ⟨fun w' H' i x h => ?_, fun w' H' i x h => ⟨vs, key x, by rw [← hv.length]; exact h⟩, fun w' H' i d v H'' x _ e y => .inl ⟨y.1, ?_⟩⟩
  · rw [hv.length] at h
    exact ⟨vs, vs[i], key x, List.getElem?_eq_getElem h⟩
  · obtain ⟨u, h1, h2⟩ := (hv.mono x).get e
    have := y.2 vs (key x)
    rw [h1] at this; cases this
    exact h2
theorem ri_pt (C : Cc X n fA fre cf sc Nm W Y) (ha : PE Y a (tE X W a')) : PI Y tgE a (tI X W (.pt a')) :=
  (pi_tup ha).imp fun σ H R ⟨w, al, sg, P, h⟩ => by
  refine one_ok P h fun x v s1 w1 al1 H1 P1 L1 hx h1 => ?_
  rw [C.K]
  cases x with
  | tup xs =>
    obtain ⟨ad, vs, e, h2, h3, h4⟩ := hx
    subst e
    exact ⟨ad, rfl, ⟨vs, .inl (.inl h3)⟩, FI.get (h1.here P1) _ (it_tup h2 (.inl h3) h4)⟩
  | _ => exact (show False from h1).elim
theorem it_str {T : Tb} {z : Str} : ItOk T w H (Its z) (z.cps.toList.map fun c => D.str ⟨#[c]⟩) where
  go := fun w' H' i _ h => show i < z.cps.size by simpa using h
  stop := fun w' H' i _ h => show z.cps.size ≤ i by simpa using h
  yld := fun w' H' i d v H'' _ _ e y => .inl ⟨y.1, by
    obtain ⟨y1, c, hc, rfl⟩ := y
    rw [List.getElem?_map, Array.getElem?_toList, hc] at e
    cases e
    rfl⟩
theorem ri_ps (C : Cc X n fA fre cf sc Nm W Y) (ha : PE Y a (tE X W a')) : PI Y tgE a (tI X W (.ps a')) :=
  (pi_str ha).imp fun σ H R ⟨w, al, sg, P, h⟩ => by
  refine one_ok P h fun x v s1 w1 al1 H1 P1 L1 hx h1 => ?_
  cases x with
  | str z =>
    cases (show v = V.str z from hx)
    exact ⟨z, rfl, FI.get (h1.here P1) _ it_str⟩
  | _ => exact (show False from h1).elim
theorem enumD_get : ∀ {xs : List D} {k i : Nat} {d : D}, (enumD k xs)[i]? = some d → ∃ x, xs[i]? = some x ∧ d = .tup [.int ((k + i : Nat) : Int), x]
  | [], _, _, _, e => by simp [enumD] at e
  | x :: xs, k, 0, d, e => by simp [enumD] at e; subst e; exact ⟨x, rfl, rfl⟩
  | x :: xs, k, i + 1, d, e => by
    have e : (enumD (k + 1) xs)[i]? = some d := e
    obtain ⟨y, h1, h2⟩ := enumD_get e
    exact ⟨y, h1, by rw [h2]; congr 3; omega⟩
theorem enumD_len : ∀ {xs : List D} {k : Nat}, (enumD k xs).length = xs.length
  | [], _ => rfl
  | x :: xs, k => by simp [enumD, enumD_len]
theorem it_enu {T : Tb} {ad : Addr} {vs : List V} {ds : List D} (hw : KpA w ad) (hH : Rd H ad (.lst vs)) (hv : Vls T w H ds vs) : ItOk T w H (Ite T.K ad) (enumD 0 ds) := by
  have key : ∀ {w' : Wt} {H' : Hp}, Ext w H w' H' → SqL T.K H' ad vs := fun {w' H'} x => by
    refine .inl ?_
    unfold Rd at hH ⊢
    rw [show H' ad = H ad from hw.elim (fun z => (x ad z).2) fun z => (x.l ad z).2]; exact hH
  refine ⟨fun w' H' i x h => ?_, fun w' H' i x h => ⟨vs, key x, by rw [← hv.length]; rw [enumD_len] at h; exact h⟩, fun w' H' i d v H'' x tk e y => .inr ?_⟩
  · rw [enumD_len, hv.length] at h
    exact ⟨vs, vs[i], key x, List.getElem?_eq_getElem h⟩
  · obtain ⟨xd, e1, e2⟩ := enumD_get e
    obtain ⟨u, h1, h2⟩ := (hv.mono x).get e1
    obtain ⟨T1, x1, rfl, hT, rfl, hx⟩ := y
    have := hx vs (key x)
    rw [h1] at this; cases this
    subst e2
    refine ⟨T1, _, hT, rfl, T1, _, rfl, setW_same, upd_same, _, _, rfl, ?_, _, _, rfl, ?_, rfl⟩
    · show V.int _ = V.int _
      simp
    · refine Val.mono (Ext.of fun b oo hb _ => ?_) _ _ h2
      have ne : b ≠ T1 := fun z => by
        obtain ⟨u, hu⟩ := tk b _ hb
        rw [z, hT] at hu; cases hu
      exact ⟨by rw [setW_ne ne]; exact hb, upd_ne ne⟩
theorem ri_enu {elts : List Expr} {kk : Nat} {tpos : Pos} (C : Cc X n fA fre cf sc Nm W Y) (hf : ("enumerate" : Str) ∈ fre) (hs : sc.names.lookup ("enumerate" : Str) = some .globalImplicit) (ht : tame a = true) (ha : PE Y a (tE X W a')) : PI Y (.Tuple elts kk tpos) (.Call (.Name "enumerate" p) [a] [] pos) (tI X W (.enu a')) :=
  (pi_enum (C.gl hs) (C.free hf) (pa_cons ha pa_nil (star_ok ht)) (star_ok ht)).imp fun σ H R ⟨w, al, sg, P, h⟩ => by
  refine one_ok P h fun x v s1 w1 al1 H1 P1 L1 hx h1 => ?_
  rw [C.K]
  cases x with
  | lst xs =>
    obtain ⟨ad, vs, e, h2, h3, h4⟩ := hx
    subst e
    exact ⟨ad, vs, rfl, .inl (.inl h3), FI.get (h1.here P1) _ (it_enu (.inl h2) (.inl h3) h4)⟩
  | rl xs =>
    obtain ⟨ad, vs, e, h2, h3, h4⟩ := hx
    subst e
    exact ⟨ad, vs, rfl, .inl (.inl h3), FI.get (h1.here P1) _ (it_enu (.inr h2) (.inl h3) h4)⟩
  | _ => exact (show False from h1).elim
def gNs : List Nat → TGs
  | [] => gNil
  | i :: is => gCons (gName i) (gNs is)
def gTG (K : PySem.W.Frag) : List Nat → TG
  | [i] => gName i
  | is => gTup K is.length (gNs is)
def setsV : St → List Nat → List V → St
  | σ, i :: is, v :: vs => setsV (σ.set i (some v)) is vs
  | σ, _, _ => σ
theorem Pt.set {i : Nat} {r : Rv} {v : V} (P : Pt X σ sg w al H) (h : Res X.T w al H (.slot i) r v) : Pt X (σ.set i (some v)) { sg with st := setS sg.st i r } w al H := by
  refine ⟨⟨fun j r2 ej => ?_, P.1.muts, P.1.trk, by simp only [setS, List.length_set]; exact P.1.len, P.1.alen⟩, P.2⟩
  by_cases c : j = i
  · subst c
    have hl : j < sg.st.length := by
      have := (List.getElem?_eq_some_iff.mp ej).1
      simpa [setS] using this
    simp only [setS, List.getElem?_set_self hl] at ej
    cases ej
    exact ⟨v, List.getElem?_set_self (by rw [← P.1.len]; exact hl), h⟩
  · simp only [setS, List.getElem?_set_ne (Ne.symm c)] at ej
    obtain ⟨u, g1, g2⟩ := P.1.slots j r2 ej
    exact ⟨u, by rw [List.getElem?_set_ne (Ne.symm c)]; exact g1, g2⟩
theorem sets_ok {K : PySem.W.Frag} : ∀ (is : List Nat) (xs : List D) (vs : List V) (σ : St) (st : List (Option Rv)), is.length = xs.length → Vls X.T w H xs vs → Pt X σ { sg with st := st } w al H →
    Pt X (setsV σ is vs) { sg with st := (is.zip xs).foldl (fun st p => setS st p.1 (.d p.2)) st } w al H ∧ (∀ Q : St → Hp → Prop, Q (setsV σ is vs) H → gNs is vs σ H Q)
  | [], [], vs, σ, st, _, hv, P => by cases (show vs = [] from hv); exact ⟨P, fun Q h => ⟨rfl, h⟩⟩
  | [], _ :: _, _, _, _, e, _, _ => by cases e
  | _ :: _, [], _, _, _, e, _, _ => by cases e
  | i :: is, x :: xs, vs, σ, st, e, ⟨v, r, e1, h1, h2⟩, P => by
    subst e1
    obtain ⟨g1, g2⟩ := sets_ok (K := K) is xs r (σ.set i (some v)) (setS st i (.d x)) (by simpa using e) h2 (P.set (r := .d x) h1)
    exact ⟨g1, fun Q h => ⟨v, r, rfl, g2 Q h⟩⟩
def tgV (is : List Nat) (σ : St) (H : Hp) (v : V) : St → Prop := fun σ2 => (∃ i, is = [i] ∧ σ2 = σ.set i (some v)) ∨ ∃ vs, σ2 = setsV σ is vs
theorem setT_ok {is : List Nat} {x : D} {v : V} {st st' : List (Option Rv)} (e : setT is x st = some st') (P : Pt X σ { sg with st := st } w al H) (hv : Val X.T w H x v) :
    ∃ σ2, tgV is σ H v σ2 ∧ Pt X σ2 { sg with st := st' } w al H ∧ ∀ Q : St → Hp → Prop, Q σ2 H → gTG X.T.K is v σ H Q := by
  have tup : ∀ (is : List Nat), gTG X.T.K is = gTup X.T.K is.length (gNs is) → setN is x st = some st' → ∃ σ2, tgV is σ H v σ2 ∧ Pt X σ2 { sg with st := st' } w al H ∧ ∀ Q : St → Hp → Prop, Q σ2 H → gTG X.T.K is v σ H Q := by
    intro is ni e
    cases x with
    | tup xs =>
      simp only [setN] at e
      by_cases c : is.length = xs.length
      · rw [if_pos c] at e
        cases e
        obtain ⟨ad, vs, e2, _, h2, h3⟩ := hv
        obtain ⟨g1, g2⟩ := sets_ok (K := X.T.K) is xs vs σ st c h3 P
        refine ⟨setsV σ is vs, .inr ⟨vs, rfl⟩, g1, fun Q q => ?_⟩
        rw [ni]
        exact ⟨ad, vs, e2, .inl (.inl h2), by rw [← h3.length]; exact c.symm, g2 Q q⟩
      · rw [if_neg c] at e; cases e
    | _ => cases e
  cases is with
  | nil => exact tup [] rfl e
  | cons i is => cases is with
    | nil =>
      cases e
      exact ⟨_, .inl ⟨i, rfl, rfl⟩, P.set (r := .d x) hv, fun Q q => q⟩
    | cons j is => exact tup (i :: j :: is) rfl e
end
end Mp
namespace Mp
open PySem L2
abbrev Fx.fr (X : Fx) (w : Wt) (H : Hp) : Fx := ⟨X.T, X.G, X.rc, w, H⟩
abbrev WF : WX := fun _ _ _ _ => False
def tEx (X : Fx) (e : E) : TE := fun σ H Q => ∃ w0 H0, tE (X.fr w0 H0) WF e σ H Q
def tTx (X : Fx) (e : E) : TT := fun σ H Q => ∃ w0 H0, tT (X.fr w0 H0) WF e σ H Q
section
variable {X : Fx} {n : Nat} {fA : Nat → Addr} {fre : List Str} {cf : Str → Bool} {sc : Scope} {Nm : List Str} {W : WX} {Y : Cx} {pos apos p p2 p3 : Pos} {a b c e tgE : Expr} {a' b' c' e' : E} {es : List Expr} {es' : E} {σ : St} {Q : VK} {H H1 H2 : Hp} {w w1 w2 w' : Wt} {al : List Addr} {sg : Sg} {F : List Rv → Sg → Wt → List Addr → Hp → Prop}
theorem Fr.trans {w0 : Wt} {H0 : Hp} (a : Fr w0 H0 w H) (b : Fr w H w1 H1) : Fr w0 H0 w1 H1 := fun x u h1 h2 => by
  obtain ⟨g1, g2⟩ := a x u h1 h2
  exact b x u g2 g1
theorem Fr.refl : Fr w H w H := fun a u h1 h2 => ⟨h2, h1⟩
theorem Pt.fr (P : Pt X σ sg w al H) : Pt (X.fr w H) σ sg w al H := ⟨P.1, Fr.refl⟩
theorem Pt.unfr (f : Fr X.w0 X.H0 w H) (P : Pt (X.fr w H) σ sg w1 al H1) : Pt X σ sg w1 al H1 := ⟨P.1, Fr.trans f P.2⟩
theorem getDs_map' : ∀ {rs : List Rv} {ds : List Mp.D}, getDs rs = some ds → rs = ds.map .d
  | [], ds, e => by cases e; rfl
  | .d x :: r, ds, e => by
    simp only [getDs] at e
    cases z : getDs r with
    | none => rw [z] at e; cases e
    | some ys => rw [z] at e; cases e; rw [getDs_map' z]; rfl
  | .o _ :: _, _, e => by cases e
  | .m _ :: _, _, e => by cases e
theorem manyI_ok {k : List Mp.D → Sg → Out Sg (List Rv)} {R : It → Hp → Prop} (P : Pt X σ sg w al H) (h : OkG X W σ w al H F (manyD (ev X.G X.rc a' sg) k))
    (hk : ∀ ds J s1 w1 al1 H1, Pt X σ s1 w1 al1 H1 → Le w al H w1 al1 H1 → ItOk X.T w1 H1 J ds → OkG X W σ w1 al1 H1 F (k ds s1) → R J H1) : tI X W a' σ H R := by
  refine ⟨w, al, sg, P, ?_⟩
  cases e : ev X.G X.rc a' sg with
  | stuck => rw [e] at h; exact h
  | exc c fs s => rw [e] at h; exact h
  | ok rs s =>
    rw [e] at h
    intro w' al' H' P' L'
    simp only [manyD, Out.bind] at h
    cases z : getDs rs with
    | none => rw [z] at h; exact (show False from h).elim
    | some ds =>
      rw [z] at h
      exact ⟨ds, getDs_map' z, fun J hJ => hk ds J s w' al' H' P' L' hJ (OkG.rebase h L')⟩
theorem wipeS_len {st : List (Option Rv)} : ∀ vs : List Nat, (wipeS st vs).length = st.length
  | [] => rfl
  | v :: vs => by simp only [wipeS, List.length_set]; exact wipeS_len vs
theorem wipeS_get {st : List (Option Rv)} {j : Nat} {r : Rv} : ∀ {vs : List Nat}, (wipeS st vs)[j]? = some (some r) → st[j]? = some (some r) ∧ j ∉ vs
  | [], h => ⟨h, by simp⟩
  | v :: vs, h => by
    simp only [wipeS] at h
    by_cases e : v = j
    · subst e
      rw [List.getElem?_set] at h
      split at h
      · split at h <;> cases h
      · exact absurd rfl ‹_›
    · rw [List.getElem?_set_ne e] at h
      obtain ⟨h1, h2⟩ := wipeS_get h
      exact ⟨h1, fun z => (List.mem_cons.mp z).elim (fun q => e q.symm) h2⟩
theorem wipe_at {j : Nat} : ∀ {vs : List Nat}, j ∉ vs → (wipe σ vs)[j]? = σ[j]?
  | [], _ => rfl
  | v :: vs, h => by
    show ((wipe σ vs).set v none)[j]? = _
    rw [List.getElem?_set_ne (fun e => h (by rw [e]; exact List.mem_cons_self ..))]
    exact wipe_at fun z => h (List.mem_cons_of_mem _ z)
theorem wipe_in {j : Nat} : ∀ {vs : List Nat}, j ∈ vs → (wipe σ vs)[j]? = if j < σ.length then some none else none
  | v :: vs, h => by
    show ((wipe σ vs).set v none)[j]? = _
    by_cases e : v = j
    · subst e
      rw [List.getElem?_set, if_pos rfl, wipe_length]
    · rw [List.getElem?_set_ne e]
      exact wipe_in ((List.mem_cons.mp h).resolve_left fun q => e q.symm)
theorem wipe_eq {σ2 : St} {vs : List Nat} (hl : σ2.length = σ.length) (h : ∀ j, j ∉ vs → σ2[j]? = σ[j]?) : wipe σ2 vs = wipe σ vs := by
  apply List.ext_getElem?
  intro j
  by_cases c : j ∈ vs
  · rw [wipe_in c, wipe_in c, hl]
  · rw [wipe_at c, wipe_at c, h j c]
theorem setsV_len : ∀ (is : List Nat) (vs : List V) (σ : St), (setsV σ is vs).length = σ.length
  | [], _, _ => by simp [setsV]
  | _ :: _, [], _ => by simp [setsV]
  | i :: is, v :: vs, σ => by simp only [setsV]; rw [setsV_len is vs]; simp
theorem setsV_at {j : Nat} : ∀ (is : List Nat) (vs : List V) (σ : St), j ∉ is → (setsV σ is vs)[j]? = σ[j]?
  | [], _, _, _ => by simp [setsV]
  | _ :: _, [], _, _ => by simp [setsV]
  | i :: is, v :: vs, σ, h => by
    simp only [setsV]
    rw [setsV_at is vs _ (fun z => h (List.mem_cons_of_mem _ z)), List.getElem?_set_ne (fun e => h (by rw [e]; exact List.mem_cons_self ..))]
theorem tgV_wipe {is : List Nat} {v : V} {σ2 : St} (h : tgV is (wipe σ is) H v σ2) : wipe σ2 is = wipe σ is := by
  refine wipe_eq ?_ fun j hj => ?_
  · rcases h with ⟨i, _, rfl⟩ | ⟨vs, rfl⟩
    · rw [List.length_set, wipe_length]
    · rw [setsV_len, wipe_length]
  · rcases h with ⟨i, rfl, rfl⟩ | ⟨vs, rfl⟩
    · rw [List.getElem?_set_ne (fun e => hj (by simp [e])), wipe_at hj]
    · rw [setsV_at _ _ _ hj, wipe_at hj]
theorem Pt.wipe {tg : List Nat} (P : Pt X σ sg w al H) : Pt X (L2.wipe σ tg) { sg with st := wipeS sg.st tg } w al H :=
  ⟨⟨fun j r e => by
    obtain ⟨h1, h2⟩ := wipeS_get e
    obtain ⟨v, g1, g2⟩ := P.1.slots j r h1
    exact ⟨v, (wipe_at h2).trans g1, g2⟩, P.1.muts, P.1.trk, by rw [wipeS_len, wipe_length]; exact P.1.len, P.1.alen⟩, P.2⟩
theorem Pt.lay {p : Addr} {o : HO} (P : Pt X σ sg w al H) (hp : H p = none) : Pt X σ sg w al (upd H p o) ∧ Le w al H w al (upd H p o) := by
  have k : ∀ a q, w a = some q → w a = some q ∧ upd H p o a = H a := fun a q h => ⟨h, upd_ne fun e => by rw [e, P.1.free hp] at h; cases h⟩
  have x : Ext w H w (upd H p o) := Ext.of fun a oo h _ => k a _ h
  refine ⟨⟨P.1.keep AlX.refl x (fun a i h => k a _ h) (fun a i h => k a _ h) fun a q h => ?_, fun a u h1 h2 => ?_⟩, AlX.refl, x⟩
  · obtain ⟨u, hu⟩ := P.1.trk a q h
    exact ⟨u, by rw [(k a q h).2]; exact hu⟩
  · obtain ⟨g1, g2⟩ := P.2 a u h1 h2
    exact ⟨g1, by rw [upd_ne fun e => by rw [e, hp] at g2; cases g2]; exact g2⟩
theorem Pt.wrN {p : Addr} {o : HO} (P : Pt X σ sg w al H) (hw : w p = none) (hX : X.H0 p = none ∨ X.w0 p ≠ none) : Pt X σ sg w al (upd H p o) ∧ Le w al H w al (upd H p o) := by
  have k : ∀ a q, w a = some q → w a = some q ∧ upd H p o a = H a := fun a q h => ⟨h, upd_ne fun e => by rw [e, hw] at h; cases h⟩
  have x : Ext w H w (upd H p o) := Ext.of fun a oo h _ => k a _ h
  refine ⟨⟨P.1.keep AlX.refl x (fun a i h => k a _ h) (fun a i h => k a _ h) fun a q h => ?_, fun a u h1 h2 => ?_⟩, AlX.refl, x⟩
  · obtain ⟨u, hu⟩ := P.1.trk a q h
    exact ⟨u, by rw [(k a q h).2]; exact hu⟩
  · obtain ⟨g1, g2⟩ := P.2 a u h1 h2
    refine ⟨g1, ?_⟩
    have ne : a ≠ p := fun e => by
      subst e
      rcases hX with h | h
      · rw [h] at h1; cases h1
      · exact h h2
    rw [upd_ne ne]; exact g2
theorem backS_len {old new : List (Option Rv)} : ∀ vs : List Nat, (backS old new vs).length = new.length
  | [] => rfl
  | v :: vs => by simp only [backS, List.length_set]; exact backS_len vs
theorem backS_get {old new : List (Option Rv)} {j : Nat} : ∀ {vs : List Nat} {o : Option Rv}, (backS old new vs)[j]? = some o → (j ∉ vs ∧ new[j]? = some o) ∨ (j ∈ vs ∧ o = (old[j]?).getD none)
  | [], o, h => .inl ⟨by simp, h⟩
  | v :: vs, o, h => by
    simp only [backS] at h
    by_cases e : v = j
    · subst e
      refine .inr ⟨List.mem_cons_self .., ?_⟩
      rw [List.getElem?_set] at h
      split at h
      · split at h
        · exact (Option.some.inj h).symm
        · cases h
      · exact absurd rfl ‹_›
    · rw [List.getElem?_set_ne e] at h
      rcases backS_get h with ⟨h1, h2⟩ | ⟨h1, h2⟩
      · exact .inl ⟨fun z => (List.mem_cons.mp z).elim (fun q => e q.symm) h1, h2⟩
      · exact .inr ⟨List.mem_cons_of_mem _ h1, h2⟩
theorem okT_at {st : List (Option Rv)} {j : Nat} {r : Rv} : ∀ {tg : List Nat}, okT st tg = true → j ∈ tg → st[j]? = some (some r) → ∀ x, r ≠ .o x
  | v :: vs, h, hj, e => fun x z => by
    subst z
    simp only [okT, Bool.and_eq_true] at h
    rcases List.mem_cons.mp hj with rfl | hj
    · rw [e] at h
      exact (Bool.false_ne_true h.1).elim
    · exact okT_at h.2 hj e x rfl
theorem Pt.back {tg : List Nat} {s1 sg2 : Sg} {al1 : List Addr} (P1 : Pt X σ s1 w1 al1 H1) (ho : okT s1.st tg = true) (P : Pt X (L2.wipe σ tg) { sg2 with st := wipeS sg2.st tg } w al H) (L : Le w1 al1 H1 w al H) (hl : sg2.st.length = s1.st.length) :
    Pt X σ { sg2 with st := backS s1.st sg2.st tg } w al H := by
  refine ⟨⟨fun j r e => ?_, P.1.muts, P.1.trk, by rw [backS_len, hl]; exact P1.1.len, P.1.alen⟩, P.2⟩
  rcases backS_get e with ⟨h1, h2⟩ | ⟨h1, h2⟩
  · have z : (wipeS sg2.st tg)[j]? = some (some r) := by
      have : ∀ vs : List Nat, j ∉ vs → (wipeS sg2.st vs)[j]? = sg2.st[j]? := by
        intro vs
        induction vs with
        | nil => intro _; rfl
        | cons v vs ih =>
          intro h
          simp only [wipeS]
          rw [List.getElem?_set_ne (fun e => h (by rw [e]; exact List.mem_cons_self ..))]
          exact ih fun z => h (List.mem_cons_of_mem _ z)
      rw [this tg h1]; exact h2
    obtain ⟨v, g1, g2⟩ := P.1.slots j r z
    exact ⟨v, (wipe_at h1).symm.trans g1, g2⟩
  · cases q : s1.st[j]? with
    | none => rw [q] at h2; cases h2
    | some o =>
      rw [q] at h2
      have h2 : some r = o := h2
      subst h2
      obtain ⟨v, g1, g2⟩ := P1.1.slots j r q
      refine ⟨v, g1, ?_⟩
      cases r with
      | d x => exact Val.mono L.2 _ _ g2
      | m x => obtain ⟨a, h3, h4⟩ := g2; exact ⟨a, L.1.get h3, h4⟩
      | o x => exact (okT_at ho h1 q x rfl).elim
def CpI (X : Fx) (W : WX) (σ : St) (s1 : Sg) (tg : List Nat) (w1 : Wt) (al1 : List Addr) (H1 : Hp) (Q : VK) (f c : Sg → Out Sg (List Rv)) (ds : List Mp.D) (D : Addr) (i m : Nat) (H : Hp) : Prop :=
  m + i = ds.length ∧ ∃ w al sg acc accv, Pt X (L2.wipe σ tg) { sg with st := wipeS sg.st tg } w al H ∧ Le w1 al1 H1 w al H ∧ w D = none ∧ H D = some (.lst accv) ∧ Vls X.T w H acc accv ∧ sg.st.length = s1.st.length ∧
    OkG X W σ w al H (FE X Q) ((compF f c tg (ds.drop i) acc sg).bind fun r s' => .ok r { s' with st := backS s1.st s'.st tg })
theorem noX_ok {o : Out Sg (List Rv)} {k : Rv → Sg → Out Sg (List Rv)} (h : OkG X W σ w al H F ((noX o).bind fun rs s => match rs with
    | [r] => k r s
    | _ => .stuck)) : ∃ r s, o = .ok [r] s ∧ OkG X W σ w al H F (k r s) := by
  cases o with
  | stuck => exact (show False from h).elim
  | exc c fs s => exact (show False from h).elim
  | ok rs s => cases rs with
    | nil => exact (show False from h).elim
    | cons r t => cases t with
      | nil => exact ⟨r, s, rfl, h⟩
      | cons _ _ => exact (show False from h).elim
theorem bind_assoc' {x : Out Sg (List Rv)} {f g : List Rv → Sg → Out Sg (List Rv)} : (x.bind f).bind g = x.bind fun r s => (f r s).bind g := by cases x <;> rfl
theorem Pt.tag {p : Addr} {u : HO} {ow : Ow} (P : Pt X σ sg w al H) (hw : w p = none) (hp : H p = some u) (hX : X.H0 p = none ∨ X.w0 p ≠ none) : Pt X σ sg (setW w p ow) al H ∧ Le w al H (setW w p ow) al H := by
  have k : ∀ a q, w a = some q → setW w p ow a = some q ∧ H a = H a := fun a q h => ⟨by rw [setW_ne fun e => by rw [e, hw] at h; cases h]; exact h, rfl⟩
  have x : Ext w H (setW w p ow) H := Ext.of fun a oo h _ => k a _ h
  refine ⟨⟨P.1.keep AlX.refl x (fun a i h => k a _ h) (fun a i h => k a _ h) fun a q h => ?_, fun a u h1 h2 => ?_⟩, AlX.refl, x⟩
  · by_cases e : a = p
    · subst e; exact ⟨u, hp⟩
    · rw [setW_ne e] at h; exact P.1.trk a q h
  · obtain ⟨g1, g2⟩ := P.2 a u h1 h2
    have ne : a ≠ p := fun e => by
      subst e
      rcases hX with h | h
      · rw [h] at h1; cases h1
      · exact h h2
    exact ⟨by rw [setW_ne ne]; exact g1, g2⟩
theorem cp_turn {tg : List Nat} {s1 : Sg} {al1 : List Addr} {ds : List Mp.D} {D : Addr} {i m : Nat} {sg : Sg} {acc : List Mp.D} {accv : List V} {st : List (Option Rv)} {σ2 : St} {rest : List Mp.D} (fD : X.H0 D = none ∨ X.w0 D ≠ none) (hm : m - 1 + (i + 1) = ds.length) (hr : ds.drop (i + 1) = rest)
    (L : Le w1 al1 H1 w2 al H2) (wD : w2 D = none) (hH : H2 D = some (.lst accv)) (hv : Vls X.T w2 H2 acc accv) (hσ : L2.wipe σ2 tg = L2.wipe σ tg) (hlen : σ.length = s1.st.length) (P3 : Pt X σ2 { sg with st := st } w2 al H2)
    (h : OkG X W σ w2 al H2 (FE X Q) ((oneB (noX (ev X.G X.rc c' { sg with st := st })) fun b s => match b with
      | true => oneD (noX (ev X.G X.rc e' s)) fun y s => if acc.length < sizeLine then compF (ev X.G X.rc e') (ev X.G X.rc c') tg rest (acc ++ [y]) s else .stuck
      | false => compF (ev X.G X.rc e') (ev X.G X.rc c') tg rest acc s).bind fun r s' => .ok r { s' with st := backS s1.st s'.st tg })) :
    tTx X c' σ2 H2 fun b H3 => if b = true then tEx X e' σ2 H3 fun y H4 => ∃ acc, H4 D = some (.lst acc) ∧ acc.length < sizeLine ∧ CpI X W σ s1 tg w1 al1 H1 Q (ev X.G X.rc e') (ev X.G X.rc c') ds D (i + 1) (m - 1) (upd H4 D (.lst (acc ++ [y]))) else CpI X W σ s1 tg w1 al1 H1 Q (ev X.G X.rc e') (ev X.G X.rc c') ds D (i + 1) (m - 1) H3 := by
  subst hr
  have len2 : ∀ {s : Sg} {w : Wt} {al : List Addr} {H : Hp}, Pt X σ2 s w al H → s.st.length = s1.st.length := fun {s w al H} P => by
    rw [P.1.len, ← hlen, ← wipe_length σ2 tg, hσ, wipe_length]
  refine ⟨w2, H2, w2, al, _, P3.fr, ?_⟩
  show OkG _ _ _ _ _ _ _ (ev X.G X.rc c' { sg with st := st })
  cases e : ev X.G X.rc c' { sg with st := st } with
  | stuck => rw [e] at h; exact (show False from h).elim
  | exc c fs s => rw [e] at h; exact (show False from h).elim
  | ok rs s =>
    rw [e] at h
    intro w3 al3 H3 P4 L4
    have P5 := P4.unfr P3.2
    obtain ⟨wD3, hH3⟩ := P4.2 D _ hH wD
    have h := OkG.rebase h L4
    match rs, h with
    | [], h => exact (show False from h).elim
    | r1 :: r2 :: r3, h =>
      exact (show False from by cases r1 with
        | d x => cases x <;> exact h
        | o x => exact h
        | m x => exact h).elim
    | [.o _], h => exact (show False from h).elim
    | [.m _], h => exact (show False from h).elim
    | [.d .non], h => exact (show False from h).elim
    | [.d (.int _)], h => exact (show False from h).elim
    | [.d (.str _)], h => exact (show False from h).elim
    | [.d (.tup _)], h => exact (show False from h).elim
    | [.d (.lst _)], h => exact (show False from h).elim
    | [.d (.dct _ _)], h => exact (show False from h).elim
    | [.d (.obj _ _ _)], h => exact (show False from h).elim
    | [.d (.scr _)], h => exact (show False from h).elim
    | [.d (.rl _)], h => exact (show False from h).elim
    | [.d (.xc _ _)], h => exact (show False from h).elim
    | [.d (.tdc _ _)], h => exact (show False from h).elim
    | [.d (.bl false)], h =>
      show CpI X W σ s1 tg w1 al1 H1 Q (ev X.G X.rc e') (ev X.G X.rc c') ds D (i + 1) (m - 1) H3
      exact ⟨hm, w3, al3, s, acc, accv, by rw [← hσ]; exact P5.wipe, L.trans L4, wD3, hH3, Vls.mono L4.2 _ _ hv, len2 P5, h⟩
    | [.d (.bl true)], h =>
      show tEx X e' σ2 H3 _
      refine ⟨w3, H3, w3, al3, s, P5.fr, ?_⟩
      show OkG _ _ _ _ _ _ _ (ev X.G X.rc e' s)
      have h : OkG X W σ w3 al3 H3 (FE X Q) ((oneD (noX (ev X.G X.rc e' s)) fun y s => if acc.length < sizeLine then compF (ev X.G X.rc e') (ev X.G X.rc c') tg (ds.drop (i + 1)) (acc ++ [y]) s else .stuck).bind fun r s' => .ok r { s' with st := backS s1.st s'.st tg }) := h
      cases e2 : ev X.G X.rc e' s with
      | stuck => rw [e2] at h; exact (show False from h).elim
      | exc c fs s => rw [e2] at h; exact (show False from h).elim
      | ok rs s4 =>
        rw [e2] at h
        intro w4 al4 H4 P6 L6
        have go : ∀ (y : Mp.D) (v : V) (w5 : Wt), Pt (X.fr w3 H3) σ2 s4 w5 al4 H4 → Le w3 al3 H3 w5 al4 H4 → Val X.T w5 H4 y v → OkG X W σ w3 al3 H3 (FE X Q) ((if acc.length < sizeLine then compF (ev X.G X.rc e') (ev X.G X.rc c') tg (ds.drop (i + 1)) (acc ++ [y]) s4 else .stuck).bind fun r s' => .ok r { s' with st := backS s1.st s'.st tg }) →
            ∃ acc, H4 D = some (.lst acc) ∧ acc.length < sizeLine ∧ CpI X W σ s1 tg w1 al1 H1 Q (ev X.G X.rc e') (ev X.G X.rc c') ds D (i + 1) (m - 1) (upd H4 D (.lst (acc ++ [v]))) := by
          intro y v w5 P7 L7 hy h
          obtain ⟨wD5, hH5⟩ := P7.2 D _ hH3 wD3
          have hva := Vls.mono (L4.trans L7).2 _ _ hv
          by_cases cl : acc.length < sizeLine
          · rw [if_pos cl] at h
            obtain ⟨P8, L8⟩ := (P7.unfr P5.2).wrN (o := .lst (accv ++ [v])) wD5 fD
            exact ⟨accv, hH5, by rw [← hva.length]; exact cl, hm, w5, al4, s4, acc ++ [y], accv ++ [v], by rw [← hσ]; exact P8.wipe, (L.trans (L4.trans L7)).trans L8, wD5, upd_same, (Vls.mono L8.2 _ _ hva).append ⟨v, [], rfl, Val.mono L8.2 _ _ hy, rfl⟩, len2 P8, OkG.rebase h (L7.trans L8)⟩
          · rw [if_neg cl] at h; exact (show False from h).elim
        match rs, h with
        | [], h => exact (show False from h).elim
        | r1 :: r2 :: r3, h =>
          exact (show False from by cases r1 with
            | d x => exact h
            | o x => exact h
            | m x => exact h).elim
        | [.m _], h => exact (show False from h).elim
        | [.d y], h => exact fun v hv => go y v w4 P6 L6 hv h
        | [.o y], h =>
          intro v hv
          obtain ⟨w5, R5, E5, f5, hv5⟩ := P6.1.resD P6.2 hv (.inr rfl)
          exact go y v w5 ⟨R5, f5⟩ (L6.trans ⟨AlX.refl, E5⟩) hv5 h
theorem rd_comp {tg : List Nat} (h : tE X W (.comp e' tg a' c') σ H Q) : tLc (tI X W a') (gTG X.T.K tg) (tTx X c') (tEx X e') tg σ H Q := by
  obtain ⟨w, al, sg, P, h⟩ := h
  refine manyI_ok P h fun ds J s1 w1 al1 H1 P1 L1 hJ h1 D hD => ?_
  cases ho : okT s1.st tg with
  | false => rw [ho] at h1; exact (show False from h1).elim
  | true =>
    simp only [ho] at h1
    have fD : X.H0 D = none ∨ X.w0 D ≠ none := by
      cases q : X.H0 D with
      | none => exact .inl rfl
      | some u => refine .inr fun z => ?_; have := (P1.2 D u q z).2; rw [hD] at this; cases this
    have wD : w1 D = none := P1.1.free hD
    refine ⟨CpI X W σ s1 tg w1 al1 H1 Q (ev X.G X.rc e') (ev X.G X.rc c') ds D, ⟨ds.length, rfl, w1, al1, s1, [], [], ?_, ?_, wD, upd_same, rfl, rfl, ?_⟩, ?_⟩
    · exact (P1.wipe.lay hD).1
    · exact (P1.lay hD).2
    · exact OkG.rebase h1 (P1.lay hD).2
    · rintro i m H ⟨hm, w, al, sg, acc, accv, P, L, wD, hH, hv, hl, h⟩
      by_cases hi : i < ds.length
      · refine .inr ⟨hJ.go _ _ _ L.2 hi, CpI X W σ s1 tg w1 al1 H1 Q (ev X.G X.rc e') (ev X.G X.rc c') ds D (i + 1) (m - 1), fun H' q => ⟨m - 1, by omega, q⟩, fun x H2 hy => ?_⟩
        rw [List.drop_eq_getElem_cons hi] at h
        simp only [compF] at h
        cases z : setT tg ds[i] (wipeS sg.st tg) with
        | none => rw [z] at h; exact (show False from h).elim
        | some st =>
          rw [z] at h
          have go : ∀ w2, Pt X (L2.wipe σ tg) { sg with st := wipeS sg.st tg } w2 al H2 → Le w al H w2 al H2 → w2 D = none → H2 D = some (.lst accv) → Val X.T w2 H2 ds[i] x → gTG X.T.K tg x (L2.wipe σ tg) H2 fun σ2 H3 => L2.wipe σ2 tg = L2.wipe σ tg ∧ tTx X c' σ2 H3 fun b H4 =>
              if b = true then tEx X e' σ2 H4 fun y H5 => ∃ acc, H5 D = some (.lst acc) ∧ acc.length < sizeLine ∧ CpI X W σ s1 tg w1 al1 H1 Q (ev X.G X.rc e') (ev X.G X.rc c') ds D (i + 1) (m - 1) (upd H5 D (.lst (acc ++ [y]))) else CpI X W σ s1 tg w1 al1 H1 Q (ev X.G X.rc e') (ev X.G X.rc c') ds D (i + 1) (m - 1) H4 := by
            intro w2 P2 L2' wD2 hH2 hx
            obtain ⟨σ2, tv, P3, g⟩ := setT_ok z P2 hx
            exact g _ ⟨tgV_wipe tv, cp_turn fD (by omega) rfl (L.trans L2') wD2 hH2 (Vls.mono L2'.2 _ _ hv) (tgV_wipe tv) P1.1.len.symm P3 (OkG.rebase h L2')⟩
          rcases hJ.yld _ _ i _ _ _ L.2 P.1.trk (List.getElem?_eq_getElem hi) hy with ⟨rfl, hx⟩ | ⟨q, o, hq, rfl, hx⟩
          · exact go w P Le.refl wD hH hx
          · have ne : D ≠ q := fun e => by rw [e, hq] at hH; cases hH
            exact go _ (P.new hq) (P.le hq) (by rw [setW_ne ne]; exact wD) (by rw [upd_ne ne]; exact hH) hx
      · refine .inl ⟨hJ.stop _ _ _ L.2 (Nat.le_of_not_lt hi), ?_⟩
        rw [List.drop_eq_nil_of_le (Nat.le_of_not_lt hi)] at h
        have Pb := P1.back ho P L hl
        obtain ⟨Pt2, Lt2⟩ := Pb.tag (ow := .res) wD hH fD
        exact h _ _ _ Pt2 Lt2 _ ⟨D, rfl, setW_same, accv, hH, Vls.mono Lt2.2 _ _ hv⟩
theorem pts_t {c : Expr} (h : PT Y c (tTx X c')) : PTs Y [c] (tTx X c') := pts_one h
theorem pts_0 : PTs Y [] (tTx X (.bl true)) := ⟨fun pins s σ H Q I ⟨w0, H0, w, al, sg, P, h⟩ => pts_nil.run pins s σ H Q I (h.here P)⟩
end
end Mp
namespace Mp
open PySem PySem.Spec PyProof.Rows L2
def mt (xs : List Str) (i : Nat) : List Str := (xs.take i).foldl step_dedup []
theorem mt_succ {xs : List Str} {i : Nat} (h : i < xs.length) : mt xs (i + 1) = step_dedup (mt xs i) (xs.getD i Str.empty) := by
  unfold mt
  rw [List.take_succ_eq_append_getElem h, List.foldl_append]
  simp [List.getD_eq_getElem?_getD, h]
theorem sd_len (l : List Str) (z : Str) : (step_dedup l z).length = if (l.any fun y => y == z) = true then l.length else l.length + 1 := by
  unfold step_dedup
  split <;> simp
theorem sd_any (l : List Str) (z k : Str) : ((step_dedup l z).any fun y => y == k) = ((l.any fun y => y == k) || decide (k = z)) := by
  unfold step_dedup
  by_cases h : (l.any fun y => y == z) = true
  · rw [if_pos h]
    by_cases e : k = z
    · rw [e, h] <;> rfl
    · rw [decide_eq_false e, Bool.or_false]
  · rw [if_neg h, List.any_append]
    congr 1
    by_cases e : k = z
    · subst e; simp
    · have : (z == k) = false := by simpa using fun q => e q.symm
      simp [this, e]
theorem mt_le (xs : List Str) : ∀ i, i ≤ xs.length → (mt xs i).length ≤ i
  | 0, _ => by simp [mt]
  | i + 1, h => by
    rw [mt_succ (by omega), sd_len]
    have := mt_le xs i (by omega)
    split <;> omega
section
variable {P : Program} {w : World} {A : Around} {R : Result → Shared → Prop} {it : Addr} {fp wr : List Addr} {G : Array GenState → Array GenState → Prop} {n : Nat} {Pv : Nat → Value → Prop} {Sx : Nat → Shared → Prop}
abbrev Hd (P : Program) (w : World) (h : Heap) (a : Addr) (xs : List Str) (i : Nat) : Prop := h.SetOf (strKind P w) a (fun k => (mt xs i).any fun y => y == k) (mt xs i).length
theorem turns (W : WalksS P w A.in1 it fp wr G n Pv Sx) (a : Addr) (ha : a ∉ fp) (xs : List Str) (hn : xs.length = n) (hb : n + 1 < scanBound) (hv : ∀ i v, Pv i v → ∃ t, v = .str (xs.getD i Str.empty) t) (left : Nat) :
    ∀ (i : Nat) (s : Shared), i + left = n → Sx i s → Hd P w s.heap a xs i → (∀ s', Moved (a :: wr) G s s' → Hd P w s'.heap a xs n → R (.ok (.ret .none)) s') → codeAny (model P w) A (.builtin "set.update.loop" ⟨[.ref a, .ref it], []⟩) R s := by
  have aw : a ∉ wr := fun z => ha (W.sub _ z)
  have sub : ∀ b ∈ wr, b ∈ a :: wr := fun b z => List.mem_cons_of_mem _ z
  have kept : ∀ {s1 s2 : Shared} {j : Nat}, Moved wr G s1 s2 → Hd P w s1.heap a xs j → Hd P w s2.heap a xs j := fun m ⟨o, es, ep, t, e, r⟩ => ⟨o, es, ep, t, m.heap a _ aw e, r⟩
  induction left with
  | zero =>
    intro i s e st hs k
    obtain rfl : i = n := e
    refine codeAny_builtin PyProof.Rows.F.entry_set_update_loop ?_
    rw [Around.under_plainId PyProof.Rows.F.plain_set_update_loop _]
    show wpAny _ A.in1 (do let r ← pyNext (.ref it); _) _ _ s
    exact wpAny_bind (W.done s _ _ st fun s1 m => wpAny_pure (k s1 (m.mono sub) (kept m hs)))
  | succ left ih =>
    intro i s e st hs k
    have lt : i < n := by omega
    refine codeAny_builtin PyProof.Rows.F.entry_set_update_loop ?_
    rw [Around.under_plainId PyProof.Rows.F.plain_set_update_loop _]
    show wpAny _ A.in1 (do let r ← pyNext (.ref it); _) _ _ s
    refine wpAny_bind (W.item i s _ _ lt st fun v s1 pv st1 m => ?_)
    obtain ⟨t, rfl⟩ := hv i v pv
    show wpAny _ A.in1 (do let _ ← holding [Value.str (xs.getD i Str.empty) t] (setAdd a (.str (xs.getD i Str.empty) t)); _) _ _ s1
    refine wpAny_bind (wpAny_holding ?_)
    rw [setAdd]
    refine wpAny_holding (wpAny_bind ((strKind P w).pyHash (k := xs.getD i Str.empty) (strKind_is _ _ _ _) ?_))
    have room : (mt xs i).length + 1 < scanBound := by have := mt_le xs i (by omega); omega
    refine wpAny_setAddHashed_of (knd := strKind P w) (s := { s1 with toks := s1.toks + 1 }) (strKind_is _ _ _ _) rfl (show Hd P w s1.heap a xs i from kept m hs) room fun h2 sb hs2 => ?_
    have nxt : Hd P w h2 a xs (i + 1) := SetOf_congr hs2 (fun k => by rw [mt_succ (by omega), sd_any]) (by rw [mt_succ (by omega), sd_len])
    have oth : ∀ b o, b ≠ a → s1.heap.get? b = some o → h2.get? b = some o := fun b o ne z => by rw [sb.2 b ne]; exact z
    refine wpAny_pure ⟨plainId_quiet PyProof.Rows.F.plain_set_update_loop _, ih (i + 1) _ (by omega) (W.frame _ s1 _ _ st1 (Nat.le_succ _) fun b hb o z => oth b o (fun q => ha (q ▸ hb)) z) nxt fun s3 m3 hs3 => k s3 ?_ hs3⟩
    exact Moved.trans W.gtrans ((m.mono sub).then_heap (Nat.le_succ _) fun b o hb z => oth b o (fun q => hb (q ▸ List.mem_cons_self ..)) z) m3
end
section
variable {P : Program} {w : World} {A : Around} {E : Value → Shared → Prop} {s : Shared}
abbrev em (led : Bool) : Obj := { cls := .type "set", dict := none, data := .set #[] 0 (.fresh 0 0 led) }
theorem set_strs {l : Addr} {arr : Array Value} {xs : List Str} {Q : Value → Shared → Prop} (ho : A.handled = none) (ls : s.heap.IsList l arr) (ss : StrsAre arr.toList xs) (hb : xs.length + 1 < scanBound)
    (k : ∀ (h2 : Heap) (tk : Nat), Hd P w h2 s.heap.objs.size xs xs.length → (∀ b o, b < s.heap.objs.size → s.heap.get? b = some o → h2.get? b = some o) → Q (.ref s.heap.objs.size) { s with heap := h2, toks := tk }) :
    wpAny (model P w) A (call (.type "set") [.ref l]) Q E s := by
  have ez : xs.length = arr.size := by rw [← StrsAre.len_eq ss, Array.length_toList]
  obtain ⟨m0, mt0, hmro⟩ := PySem.F.called_set.mro
  have f1 := PySem.F.called_set.made
  have f2 := PySem.F.called_set.sub
  have f3 := PySem.F.called_set.notType
  have f4 := PySem.F.called_set.canCreate
  have f5 := PySem.F.typeCall_set_1 (.ref l)
  have nw : ∀ led, (s.heap.push (em led)).get? s.heap.objs.size = some (em led) := fun led => Heap.get?_push_size _ rfl
  refine wpAny_call (codeAny_of_tree ?_)
  show wpAny _ _ (callAny (Value.type "set") _) _ _ s
  refine wpAny_pure ⟨Code.quiet_builtin _ (by decide +kernel), codeAny_builtin PySem.F.entry_type_call ?_⟩
  rw [Around.under_plain (weight_type_call_type "set" [Value.ref l] []) rfl]
  repeat (any_goals first | assumption | wp_step)
  refine codeAny_mono (code_set_new_1 (.ref l) (E := E) (Q₁ := fun ob s1 => ∃ led : Bool, ob = .ref s.heap.objs.size ∧ s1 = { s with heap := s.heap.push (em led) }) fun led => ⟨led, rfl, rfl⟩) fun r s1 z => ?_
  rcases r with e | (_ | _ | _ | ob)
  · exact z
  · exact z.elim
  · exact z.elim
  · exact z.elim
  obtain ⟨led, rfl, rfl⟩ := z
  have nT : Shared.TypeIs { s with heap := s.heap.push (em led) } (.ref s.heap.objs.size) "set" := ⟨_, nw led, rfl⟩
  have g1 := PySem.F.called_set.init.lookup
  have g2 := PySem.F.called_set.init.bind (.ref s.heap.objs.size)
  have nS := nw led
  repeat (any_goals first | assumption | wp_step)
  refine codeAny_mono (codeAny_call_builtin (R := wants (fun r s2 => r = .none ∧ ∃ h2 tk, s2 = { s with heap := h2, toks := tk } ∧ Hd P w h2 s.heap.objs.size xs xs.length ∧ (∀ b o, b < s.heap.objs.size → s.heap.get? b = some o → h2.get? b = some o)) E) PySem.F.called_set.init.plain PySem.F.entry_set_init (check_set_init_1 nT ?_)) fun r s2 z => ?_
  · obtain ⟨⟨oc, od, dt, sl⟩, ol, c1, nl, c2⟩ := ls
    simp only at c1 c2
    subst c1 c2
    have ol2 : (s.heap.push (em led)).get? l = some { cls := .type "list", dict := od, data := .seq arr nl, slots := sl } := Heap.get?_push_of_some _ ol
    have b1 := PySem.F.sub_list_set
    have b2 := PySem.F.sub_list_frozenset
    have b3 : (Value.type "list" == Value.type "dict") = false := by decide
    have ll : (s.heap.push (em led)).IsList l arr := ⟨_, ol2, rfl, nl, rfl⟩
    unfold Builtin.«set.__init__» noKeywords Builtin.Frozenset.updateFrom
    generalize ePI : pyIter = PI
    wp_walk
    subst ePI
    refine wpAny_pyIter_list ll (wpAny_bind (wpAny_runValue ?_))
    have l1 : l < s.heap.objs.size := Heap.lt_size ol
    have l2 : l ≠ (s.heap.push (em led)).objs.size := by
      rw [Heap.size_push]; exact Nat.ne_of_lt (Nat.lt_succ_of_lt l1)
    have l3 : s.heap.objs.size ∉ [(s.heap.push (em led)).objs.size, l] := by
      rw [Heap.size_push]
      intro q
      rcases List.mem_cons.mp q with q | q
      · exact Nat.ne_of_lt (Nat.lt_succ_self _) q
      · rcases List.mem_cons.mp q with q | q
        · exact Nat.ne_of_gt l1 q
        · cases q
    have hv : ∀ (i : Nat) (v : Value), arr[i]? = some v → ∃ t, v = .str (xs.getD i Str.empty) t := fun i v e => SS.strs_at ss i v (by rw [Array.getElem?_toList]; exact e)
    refine turns ((Walks.list (by simp [ho] : A.in1.in1.in1.handled = none) _ l l2 arr).toS) s.heap.objs.size l3 xs ez (by rw [← ez]; exact hb) hv arr.size 0 _ (by omega) ⟨⟨_, Heap.get?_push_size _ rfl, rfl, rfl⟩, ll.push _⟩ ?s0 ?s1
    case s0 =>
      have q : ((s.heap.push (em led)).push { cls := .type "list_iterator", data := .fields #[.ref l, .int 0 0] }).get? s.heap.objs.size = some (em led) := Heap.get?_push_of_some _ nS
      exact SetOf_congr ((setObjOf_fresh (knd := strKind P w) led).setOf q (by unfold scanBound; omega)) (fun _ => rfl) rfl
    case s1 =>
      rintro ⟨h2, g', d', tk, os'⟩ m hs
      obtain rfl : g' = s.gens := m.gens
      obtain rfl : d' = s.drawn := m.drawn
      obtain rfl : os' = s.os := m.os
      show wpAny _ _ _ _ _ _
      refine wpAny_pure ?_
      show wpAny _ _ (ret Value.none) _ _ _
      refine wpAny_pure ⟨rfl, h2, tk, rfl, by rw [ez]; exact hs, fun b o hb e => m.heap b o ?_ (Heap.get?_push_of_some _ (Heap.get?_push_of_some _ e))⟩
      intro q
      rcases List.mem_cons.mp q with q | q
      · exact Nat.ne_of_lt hb q
      · rcases List.mem_cons.mp q with q | q
        · rw [Heap.size_push] at q; exact Nat.ne_of_lt (Nat.lt_succ_of_lt hb) q
        · cases q
  · rcases r with e | (_ | _ | _ | r)
    · exact z
    · exact z.elim
    · exact z.elim
    · exact z.elim
    obtain ⟨rfl, h2, tk, rfl, hs, kp⟩ := z
    repeat (any_goals first | assumption | wp_step)
    exact k _ _ hs kp
end
end Mp
namespace L2
open PySem PySem.Spec PyProof.Rows
theorem op_isB {Y : Cx} : OpR Y (compareOp .Is) (fun x y H Q => ∃ b c, x = .bl b ∧ y = .bl c ∧ Q (.bl (b == c)) H) := by
  intro pins s σ H x y v u Q I rx ry h
  obtain ⟨b, c, rfl, rfl, q⟩ := h
  cases (show v = Value.bool b from rx)
  cases (show u = Value.bool c from ry)
  exact wpAny_is_plain rfl (fin_bl I q (by cases b <;> cases c <;> rfl))
theorem op_ntB {Y : Cx} : OpR Y (compareOp .IsNot) (fun x y H Q => ∃ b c, x = .bl b ∧ y = .bl c ∧ Q (.bl (!(b == c))) H) := by
  intro pins s σ H x y v u Q I rx ry h
  obtain ⟨b, c, rfl, rfl, q⟩ := h
  cases (show v = Value.bool b from rx)
  cases (show u = Value.bool c from ry)
  exact wpAny_isNot_plain rfl (fin_bl I q (by cases b <;> cases c <;> rfl))
def tLenStr (K : PySem.W.Frag) (ta : TE) : TE := fun σ H Q => ta σ H fun x H1 => ∃ l, ∃ xs : List Str, x = .ref l ∧ SqL K H1 l (xs.map V.str) ∧ xs.length < 4000 ∧ Q (.int (Mp.dedup xs).length) H1
theorem pe_lenStr {Y : Cx} {a : Expr} {ta : TE} {p p2 q pos : Pos} (hc : Y.calm = true) (hg : Gl Y "len") (hm : Y.mg "len" = none) (hg2 : Gl Y "set") (hm2 : Y.mg "set" = none) (ha : PE Y a ta) (na : starEach [a] Y.env = (false, eval a Y.env) :: starEach [] Y.env) :
    PE Y (.Call (.Name "len" p) [.Call (.Name "set" p2) [a] [] q] [] pos) (tLenStr Y.K ta) := ⟨fun pins s σ H Q I h => by
  refine Call_ (ld_blt I hg hm PySem.boot_len (PyProof.Rows.callWith_builtin1 (PyProof.Rows.args_cons ?_ rfl) rfl rfl))
  refine Call_ (ld_blt I hg2 hm2 PyProof.Rows.boot_set (PyProof.Rows.callWith_type1 (PyProof.Rows.args_cons (thn (ha.run pins s σ H _ I h) fun v s1 z => PyProof.Rows.args_nil ?_) na) na rfl))
  obtain ⟨x, H1, I1, r1, l, xs, rfl, hq, h1, q1⟩ := z
  cases r1
  obtain ⟨its, r, pl, hz⟩ := I1.list hq
  have hl : its.toArray.size = xs.length := by rw [List.size_toArray, ← r.length, List.length_map]
  refine Mp.set_strs (I1.ok.hd hc) pl.isList (xs := xs) (by simpa using strsAre_of r) (by unfold scanBound; omega) fun h' tk hS hk => PyProof.Rows.args_nil ?_
  obtain ⟨o, es, ep, t, ho, hex, hd, _, _, _, hf, hn⟩ := hS
  have I2 : Inv Y pins σ H1 { s1 with heap := h', toks := tk } := I1.kept fun b o e => hk b o (Heap.lt_size e) e
  have em : (Mp.mt xs xs.length).length = (Mp.dedup xs).length := by unfold Mp.mt Mp.dedup; rw [List.take_length]
  have le := Mp.mt_le xs xs.length (Nat.le_refl _)
  exact call_len_set ho hex hd hf (by rw [hn] <;> omega) ⟨.int (Mp.dedup xs).length, H1, I2.tok _, ⟨_, by rw [hn, em]⟩, q1⟩⟩
end L2
namespace Mp
open PySem L2
section
variable {X : Fx} {n : Nat} {fA : Nat → Addr} {fre : List Str} {cf : Str → Bool} {sc : Scope} {Nm : List Str} {W : WX} {Y : Cx} {pos apos p p2 p3 : Pos} {a b c e tgE : Expr} {a' b' c' e' : E} {es : List Expr} {es' : E} {σ : St} {Q : VK} {H H1 H2 : Hp} {w w1 w2 w' : Wt} {al : List Addr} {sg : Sg} {F : List Rv → Sg → Wt → List Addr → Hp → Prop}
theorem o2_isv : O2R X W .isv (fun x y H Q => ∃ b c, x = .bl b ∧ y = .bl c ∧ Q (.bl (b == c)) H) := by
  intro σ w al H sg Q x y v u P hx hy h
  match x, y, h with
  | .bl i, .bl j, h => cases (show v = _ from hx); cases (show u = _ from hy); exact ⟨i, j, rfl, rfl, fin_d P h rfl⟩
theorem o2_ntv : O2R X W .ntv (fun x y H Q => ∃ b c, x = .bl b ∧ y = .bl c ∧ Q (.bl (!(b == c))) H) := by
  intro σ w al H sg Q x y v u P hx hy h
  match x, y, h with
  | .bl i, .bl j, h => cases (show v = _ from hx); cases (show u = _ from hy); exact ⟨i, j, rfl, rfl, fin_d P h rfl⟩
theorem strsD_ok {T : Tb} : ∀ {xs : List Mp.D} {ss : List Str} {vs : List V}, strsD xs = some ss → Vls T w H xs vs → vs = ss.map V.str
  | [], ss, vs, e, h => by cases e; exact h
  | .str z :: r, ss, vs, e, ⟨v, t, e2, h1, h2⟩ => by
    simp only [strsD, Option.map_eq_some_iff] at e
    obtain ⟨q, e1, rfl⟩ := e
    rw [e2, strsD_ok e1 h2, show v = V.str z from h1] <;> rfl
  | .non :: _, _, _, e, _ => by cases e
  | .bl _ :: _, _, _, e, _ => by cases e
  | .int _ :: _, _, _, e, _ => by cases e
  | .tup _ :: _, _, _, e, _ => by cases e
  | .lst _ :: _, _, _, e, _ => by cases e
  | .dct _ _ :: _, _, _, e, _ => by cases e
  | .obj _ _ _ :: _, _, _, e, _ => by cases e
  | .scr _ :: _, _, _, e, _ => by cases e
  | .rl _ :: _, _, _, e, _ => by cases e
  | .xc _ _ :: _, _, _, e, _ => by cases e
  | .tdc _ _ :: _, _, _, e, _ => by cases e
theorem re_sl (C : Cc X n fA fre cf sc Nm W Y) (hf : ("len" : Str) ∈ fre) (hs : sc.names.lookup ("len" : Str) = some .globalImplicit) (hf2 : ("set" : Str) ∈ fre) (hs2 : sc.names.lookup ("set" : Str) = some .globalImplicit) (ha : PE Y a (tE X W a')) (ht : tame a = true) :
    PE Y (.Call (.Name "len" p) [.Call (.Name "set" p2) [a] [] p3] [] pos) (tE X W (.sl a')) :=
  (pe_lenStr C.calm (C.gl hs) (C.free hf) (C.gl hs2) (C.free hf2) ha (star_ok ht)).imp fun σ H Q ⟨w, al, sg, P, h⟩ => by
  refine one_ok P h fun x v s1 w1 al1 H1 P1 L1 hx h1 => ?_
  cases x with
  | rl xs =>
    obtain ⟨ad, vs, rfl, h2, h3, h4⟩ := hx
    simp only [lsD] at h1
    cases z : strsD xs with
    | none => rw [z] at h1; exact (show False from h1).elim
    | some ss =>
      simp only [z] at h1
      by_cases cl : ss.length < 4000
      · rw [if_pos cl] at h1
        exact ⟨ad, ss, rfl, by rw [← strsD_ok z h4]; exact .inl (.inl h3), cl, fin_d P1 h1 rfl⟩
      · rw [if_neg cl] at h1; exact (show False from h1).elim
  | lst xs =>
    obtain ⟨ad, vs, rfl, h2, h3, h4⟩ := hx
    simp only [lsD] at h1
    cases z : strsD xs with
    | none => rw [z] at h1; exact (show False from h1).elim
    | some ss =>
      simp only [z] at h1
      by_cases cl : ss.length < 4000
      · rw [if_pos cl] at h1
        exact ⟨ad, ss, rfl, by rw [← strsD_ok z h4]; exact .inl (.inl h3), cl, fin_d P1 h1 rfl⟩
      · rw [if_neg cl] at h1; exact (show False from h1).elim
  | _ => exact (show False from h1).elim
theorem re_join (C : Cc X n fA fre cf sc Nm W Y) (ha : PE Y a (tE X W a')) (hb : PE Y b (tE X W b')) (hsu : notSup a = true) (ht : tame b = true) (hl : (apos.endLine == pos.line) = true) : PE Y (.Call (.Attribute a "join" apos) [b] [] pos) (tE X W (.join a' b')) :=
  (pe_join ha hb (star_ok ht) (ab_ok hsu) hl).imp fun σ H Q ⟨w, al, sg, P, h⟩ => by
  refine one_ok P h fun x v s1 w1 al1 H1 P1 L1 hx h1 => ?_
  cases x with
  | str z =>
    cases (show v = V.str z from hx)
    refine ⟨⟨z, rfl⟩, one_ok P1 h1 fun y u s2 w2 al2 H2 P2 L2 hy h2 => ?_⟩
    cases y with
    | lst xs =>
      obtain ⟨ad, vs, rfl, g2, g3, g4⟩ := hy
      simp only at h2
      cases z2 : strsD xs with
      | none => rw [z2] at h2; exact (show False from h2).elim
      | some ss =>
        simp only [z2] at h2
        by_cases cl : (ss.map (·.length)).sum + ss.length * z.length ≤ 16777216
        · rw [if_pos cl] at h2
          exact ⟨z, ad, ss, rfl, rfl, .inl (by rw [← strsD_ok z2 g4]; exact .inl (.inl g3)), cl, fin_d P2 h2 rfl⟩
        · rw [if_neg cl] at h2; exact (show False from h2).elim
    | _ => exact (show False from h2).elim
  | _ => exact (show False from h1).elim
theorem m2_ok (h : notSup a = true) (ht : tame b = true) (htc : tame c = true) (hl : (apos.endLine == pos.line) = true) {m : Str} : M2 Y a m apos b c pos where
  base := ab_ok h
  few := few_all (by simp [ht, htc]) (show 2 < 30 by decide)
  line := hl
  trees := by rw [star_ok ht, star_ok htc] <;> rfl
theorem m1_ok (h : notSup a = true) (ht : tame b = true) (hl : (apos.endLine == pos.line) = true) {m : Str} : M1 Y a m apos b pos where
  base := ab_ok h
  few := few_all (by simp [ht]) (show 1 < 30 by decide)
  line := hl
  trees := by rw [star_ok ht] <;> rfl
theorem get_ok {T : Tb} {x k : Mp.D} {ks vs : List Mp.D} {v u : V} (hx : Sn T w H x v) (e : x = .dct ks vs) (hk : Val T w H k u) (kd : keyD k = true) : ∃ ad o, v = .ref ad ∧ IsD H ad ∧ DGet H ad u o ∧ ∀ (z : Mp.D) (vz : V), Val T w H z vz → Val T w H ((dget k ks vs).getD z) (o.getD vz) := by
  subst e
  obtain ⟨ad, kvs, rfl, h1, rfl, h2⟩ := hx
  obtain ⟨q, rfl, rfl⟩ := keyD_ok hk kd
  obtain ⟨g1, g2⟩ := dget_ok (q := q) kvs h2
  refine ⟨ad, valV kvs q, rfl, .inl ⟨kvs, h1⟩, .inl ⟨kvs, q, h1, rfl, rfl⟩, fun z vz hz => ?_⟩
  cases e : dget (dK q) (kvs.map fun p => dK p.1) vs with
  | none => rw [g2 e]; exact hz
  | some d =>
    obtain ⟨v, e1, e2⟩ := g1 d e
    rw [e1]; exact e2
theorem pe_or {X : Cx} {e : Expr} {t t' : TE} (h : PE X e t) (h' : PE X e t') : PE X e (fun σ H Q => t σ H Q ∨ t' σ H Q) := ⟨fun pins s σ H Q I q => q.elim (h.run pins s σ H Q I) (h'.run pins s σ H Q I)⟩
theorem tget_val {T : Tb} {x k : Mp.D} {ks vs : List Mp.D} {v u : V} {q : NestedKey} (hx : Sn T w H x v) (e : x = .tdc ks vs) (hk : Val T w H k u) (kd : tkOf k = some q) : ∃ ad o, v = .ref ad ∧ TGet T.wd H ad u o ∧ ∀ (z : Mp.D) (vz : V), Val T w H z vz → Val T w H ((tget q ks vs).getD z) (o.getD vz) := by
  subst e
  obtain ⟨ad, kvs, rfl, h1, h2, h3, h4⟩ := hx
  obtain ⟨b, rfl, hb⟩ := tk_val hk kd
  refine ⟨ad, atN kvs q, rfl, ⟨kvs, q, b, ⟨h1, tk_all h2 h3⟩, rfl, hb, rfl⟩, fun z vz hz => ?_⟩
  obtain ⟨g1, g2⟩ := tget_ok (q := q) kvs h2 h4
  cases e : tget q ks vs with
  | none =>
    cases e2 : atN kvs q with
    | none => exact hz
    | some _ => rw [e, e2] at g1; cases g1
  | some d =>
    obtain ⟨v, e1, e2⟩ := g2 d e
    rw [e1]; exact e2
theorem rd_gets {i : Nat} (h : tE X W (.gets i a' b') σ H Q) : tDGet2 (tVar i) (tE X W a') (tE X W b') σ H Q ∨ tTGet2 X.T.wd (tVar i) (tE X W a') (tE X W b') σ H Q := by
  obtain ⟨w, al, sg, P, h⟩ := h
  simp only [ev] at h
  cases z : peek sg i with
  | none => rw [z] at h; exact (show False from h).elim
  | some x0 =>
    obtain ⟨v, e1, hs⟩ := P.peek z
    cases x0 with
    | dct ks vs =>
      simp only [z] at h
      obtain ⟨ad, kvs, rfl, g1, g2, g3⟩ := hs
      refine .inl ⟨_, e1, ad, rfl, .inl ⟨kvs, g1⟩, one_ok P h fun k uk s1 w1 al1 H1 P1 L1 hk h1 => one_ok P1 h1 fun z vz s2 w2 al2 H2 P2 L2 hz h2 => ?_⟩
      cases z2 : peek s2 i with
      | none => rw [z2] at h2; exact (show False from h2).elim
      | some x1 =>
        cases x1 with
        | dct ks vs =>
          simp only [z2] at h2
          obtain ⟨v2, e2, hs2⟩ := P2.peek z2
          rw [e1] at e2; cases e2
          by_cases kd : keyD k = true
          · rw [if_pos kd] at h2
            obtain ⟨ad2, o, q1, _, q3, q4⟩ := get_ok hs2 rfl (hk.mono L2.2) kd
            cases q1
            exact ⟨o, q3, fin_d P2 h2 (q4 _ _ hz)⟩
          · rw [if_neg kd] at h2; exact (show False from h2).elim
        | _ => rw [z2] at h2; exact (show False from h2).elim
    | tdc ks vs =>
      simp only [z] at h
      obtain ⟨ad, kvs, rfl, g1, g2, g3, g4⟩ := hs
      refine .inr ⟨_, e1, ad, kvs, rfl, ⟨g1, tk_all g2 g3⟩, one_ok P h fun k uk s1 w1 al1 H1 P1 L1 hk h1 => one_ok P1 h1 fun z vz s2 w2 al2 H2 P2 L2 hz h2 => ?_⟩
      cases z2 : peek s2 i with
      | none => rw [z2] at h2; exact (show False from h2).elim
      | some x1 =>
        cases x1 with
        | tdc ks vs =>
          simp only [z2] at h2
          obtain ⟨v2, e2, hs2⟩ := P2.peek z2
          rw [e1] at e2; cases e2
          cases kd : tkOf k with
          | none => rw [kd] at h2; exact (show False from h2).elim
          | some q =>
            rw [kd] at h2
            obtain ⟨ad2, o, q1, q3, q4⟩ := tget_val hs2 rfl (hk.mono L2.2) kd
            cases q1
            exact ⟨o, q3, fin_d P2 h2 (q4 _ _ hz)⟩
        | _ => rw [z2] at h2; exact (show False from h2).elim
    | _ => rw [z] at h; exact (show False from h).elim
theorem rd_gets1 {i : Nat} (h : tE X W (.gets1 i a') σ H Q) : tDGet1 (tVar i) (tE X W a') σ H Q ∨ tTGet1 X.T.wd (tVar i) (tE X W a') σ H Q := by
  obtain ⟨w, al, sg, P, h⟩ := h
  simp only [ev] at h
  cases z : peek sg i with
  | none => rw [z] at h; exact (show False from h).elim
  | some x0 =>
    obtain ⟨v, e1, hs⟩ := P.peek z
    cases x0 with
    | dct ks vs =>
      simp only [z] at h
      obtain ⟨ad, kvs, rfl, g1, g2, g3⟩ := hs
      refine .inl ⟨_, e1, ad, rfl, .inl ⟨kvs, g1⟩, one_ok P h fun k uk s1 w1 al1 H1 P1 L1 hk h1 => ?_⟩
      cases z2 : peek s1 i with
      | none => rw [z2] at h1; exact (show False from h1).elim
      | some x1 =>
        cases x1 with
        | dct ks vs =>
          simp only [z2] at h1
          obtain ⟨v2, e2, hs2⟩ := P1.peek z2
          rw [e1] at e2; cases e2
          by_cases kd : keyD k = true
          · rw [if_pos kd] at h1
            obtain ⟨ad2, o, q1, _, q3, q4⟩ := get_ok hs2 rfl hk kd
            cases q1
            exact ⟨o, q3, fin_d P1 h1 (q4 .non V.non rfl)⟩
          · rw [if_neg kd] at h1; exact (show False from h1).elim
        | _ => rw [z2] at h1; exact (show False from h1).elim
    | tdc ks vs =>
      simp only [z] at h
      obtain ⟨ad, kvs, rfl, g1, g2, g3, g4⟩ := hs
      refine .inr ⟨_, e1, ad, kvs, rfl, ⟨g1, tk_all g2 g3⟩, one_ok P h fun k uk s1 w1 al1 H1 P1 L1 hk h1 => ?_⟩
      cases z2 : peek s1 i with
      | none => rw [z2] at h1; exact (show False from h1).elim
      | some x1 =>
        cases x1 with
        | tdc ks vs =>
          simp only [z2] at h1
          obtain ⟨v2, e2, hs2⟩ := P1.peek z2
          rw [e1] at e2; cases e2
          cases kd : tkOf k with
          | none => rw [kd] at h1; exact (show False from h1).elim
          | some q =>
            rw [kd] at h1
            obtain ⟨ad2, o, q1, q3, q4⟩ := tget_val hs2 rfl hk kd
            cases q1
            exact ⟨o, q3, fin_d P1 h1 (q4 .non V.non rfl)⟩
        | _ => rw [z2] at h1; exact (show False from h1).elim
    | _ => rw [z] at h; exact (show False from h).elim
theorem re_gets {i : Nat} {x : Str} (C : Cc X n fA fre cf sc Nm W Y) (hN : Y.N[i]? = some x) (hv : Vis Y.env.scope x) (hd : (x == ("__debug__" : Str)) = false) (hcd : (x == ("__classdict__" : Str)) = false) (hsu : notSup (.Name x p) = true) (ha : PE Y a (tE X W a')) (hb : PE Y b (tE X W b')) (ht : tame a = true) (htb : tame b = true) (hl : (apos.endLine == pos.line) = true) :
    PE Y (.Call (.Attribute (.Name x p) "get" apos) [a, b] [] pos) (tE X W (.gets i a' b')) :=
  (pe_or (pe_dget2 C.hu (pe_var hN hv hd hcd) ha hb (m2_ok hsu ht htb hl)) (pe_tget2 C.hu9 (pe_var hN hv hd hcd) ha hb (m2_ok hsu ht htb hl))).imp fun _ _ _ h => by rw [C.wd]; exact rd_gets h
theorem re_gets1 {i : Nat} {x : Str} (C : Cc X n fA fre cf sc Nm W Y) (hN : Y.N[i]? = some x) (hv : Vis Y.env.scope x) (hd : (x == ("__debug__" : Str)) = false) (hcd : (x == ("__classdict__" : Str)) = false) (hsu : notSup (.Name x p) = true) (ha : PE Y a (tE X W a')) (ht : tame a = true) (hl : (apos.endLine == pos.line) = true) :
    PE Y (.Call (.Attribute (.Name x p) "get" apos) [a] [] pos) (tE X W (.gets1 i a')) :=
  (pe_or (pe_dget1 C.hu (pe_var hN hv hd hcd) ha (m1_ok hsu ht hl)) (pe_tget1 C.hu9 (pe_var hN hv hd hcd) ha (m1_ok hsu ht hl))).imp fun _ _ _ h => by rw [C.wd]; exact rd_gets1 h
end
end Mp
namespace Mp
open PySem L2
def Cbs (T : Tb) (σ : St) (w : Wt) (H : Hp) : List Rv → List V → Prop
  | [], vs => vs = []
  | .d x :: r, vs => ∃ v t, vs = v :: t ∧ Val T w H x v ∧ Cbs T σ w H r t
  | .m i :: r, vs => ∃ v t, vs = v :: t ∧ σ[i]? = some (some v) ∧ Cbs T σ w H r t
  | .o _ :: _, _ => False
def FAb (X : Fx) (σ : St) (Q : List V → Hp → Prop) : List Rv → Sg → Wt → List Addr → Hp → Prop := fun rs _ w _ H => ∀ vs, Cbs X.T σ w H rs vs → Q vs H
def tAb (X : Fx) (W : WX) (e : E) : TA := fun σ H Q => ∃ w al sg, Pt X σ sg w al H ∧ OkG X W σ w al H (FAb X σ Q) (ev X.G X.rc e sg)
section
variable {X : Fx} {n : Nat} {fA : Nat → Addr} {fre : List Str} {cf : Str → Bool} {sc : Scope} {Nm : List Str} {W : WX} {Y : Cx} {pos apos p p2 p3 : Pos} {a b c e tgE : Expr} {a' b' c' e' : E} {es : List Expr} {es' : E} {σ : St} {Q : VK} {H H1 H2 H' : Hp} {w w1 w2 w' : Wt} {al : List Addr} {sg : Sg} {F : List Rv → Sg → Wt → List Addr → Hp → Prop}
theorem Cbs.mono {T : Tb} (x : Ext w H w' H') : ∀ {rs : List Rv} {vs : List V}, Cbs T σ w H rs vs → Cbs T σ w' H' rs vs
  | [], _, h => h
  | .d _ :: _, _, ⟨v, t, e, h1, h2⟩ => ⟨v, t, e, Val.mono x _ _ h1, Cbs.mono x h2⟩
  | .m _ :: _, _, ⟨v, t, e, h1, h2⟩ => ⟨v, t, e, h1, Cbs.mono x h2⟩
  | .o _ :: _, _, h => h.elim
theorem Cbs.length {T : Tb} : ∀ {rs : List Rv} {vs : List V}, Cbs T σ w H rs vs → rs.length = vs.length
  | [], _, h => by cases (show _ = [] from h); rfl
  | .d _ :: _, _, ⟨v, t, e, h1, h2⟩ => by subst e; simp [Cbs.length h2]
  | .m _ :: _, _, ⟨v, t, e, h1, h2⟩ => by subst e; simp [Cbs.length h2]
  | .o _ :: _, _, h => h.elim
theorem rab_nil : PA Y [] (tAb X W .nil) := pa_nil.imp fun σ H Q ⟨w, al, sg, P, h⟩ => h.here P [] rfl
theorem rab_cons (ha : PE Y a (tE X W a')) (hs : PA Y es (tAb X W es')) (ht : tame a = true) : PA Y (a :: es) (tAb X W (.consb a' es')) := by
  refine (pa_cons ha hs (star_ok ht)).imp fun σ H Q ⟨w, al, sg, P, h⟩ => ?_
  refine one_ok P h fun x v s1 w1 al1 H1 P1 L1 hx h1 => ⟨w1, al1, s1, P1, ?_⟩
  cases e : ev X.G X.rc es' s1 with
  | stuck => rw [e] at h1; exact h1
  | exc c fs s => rw [e] at h1; exact h1
  | ok rb s2 =>
    rw [e] at h1
    exact fun w3 al3 H3 P3 L3 vs hvs => h1 w3 al3 H3 P3 L3 (v :: vs) ⟨v, vs, rfl, Val.mono L3.2 _ _ hx, hvs⟩
theorem rab_consp {i : Nat} {x : Str} (hN : Y.N[i]? = some x) (hv : Vis Y.env.scope x) (hd : (x == ("__debug__" : Str)) = false) (hcd : (x == ("__classdict__" : Str)) = false) (hs : PA Y es (tAb X W es')) : PA Y (.Name x p :: es) (tAb X W (.consp i es')) := by
  refine (pa_cons (pe_var hN hv hd hcd) hs).imp fun σ H Q ⟨w, al, sg, P, h⟩ => ?_
  simp only [ev] at h
  have z0 : ∃ x0, sg.st[i]? = some (some x0) := by
    cases z0 : sg.st[i]? with
    | none => rw [z0] at h; exact (show False from h).elim
    | some o => cases o with
      | none => rw [z0] at h; exact (show False from h).elim
      | some x0 => exact ⟨x0, rfl⟩
  obtain ⟨x0, z0⟩ := z0
  simp only [z0] at h
  obtain ⟨v, e1, _⟩ := P.1.slots i _ z0
  refine ⟨v, e1, w, al, sg, P, ?_⟩
  cases e : ev X.G X.rc es' sg with
  | stuck => rw [e] at h; exact h
  | exc c fs s => rw [e] at h; exact h
  | ok rb s2 =>
    rw [e] at h
    exact fun w3 al3 H3 P3 L3 vs hvs => h w3 al3 H3 P3 L3 (v :: vs) ⟨v, vs, rfl, e1, hvs⟩
def borW (w : Wt) : Wt := fun a => match w a with
  | some .frz => some .frz
  | some .lnt => some .lnt
  | some (.slot _) => some .frz
  | _ => none
theorem borW_or (a : Addr) : borW w a = some .frz ∨ borW w a = some .lnt ∨ borW w a = none := by
  unfold borW
  cases w a with
  | none => exact .inr (.inr rfl)
  | some o => cases o <;> simp
theorem borW_ext : Ext w H (borW w) H := ⟨fun a h => ⟨by unfold borW; rw [h], rfl⟩, fun a h => ⟨by unfold borW; rw [h], rfl⟩⟩
theorem borW_trk (t : Trk w H) : Trk (borW w) H := fun a o h => by
  unfold borW at h
  cases e : w a with
  | none => rw [e] at h; cases h
  | some q => exact t a q e
theorem Pt.tagB {p : Addr} {u : HO} {ow : Ow} (P : Pt X σ sg w al H) (hw : w p = none) (hp : H p = some u) (hX : X.H0 p = none ∨ X.w0 p ≠ none) : Pt X σ sg (setW w p ow) al H ∧ Le w al H (setW w p ow) al H := by
  have k : ∀ a q, w a = some q → setW w p ow a = some q ∧ H a = H a := fun a q h => ⟨by rw [setW_ne fun e => by rw [e, hw] at h; cases h]; exact h, rfl⟩
  have x : Ext w H (setW w p ow) H := Ext.of fun a oo h _ => k a _ h
  refine ⟨⟨P.1.keep AlX.refl x (fun a i h => k a _ h) (fun a i h => k a _ h) fun a q h => ?_, fun a u h1 h2 => ?_⟩, AlX.refl, x⟩
  · by_cases e : a = p
    · subst e; exact ⟨u, hp⟩
    · rw [setW_ne e] at h; exact P.1.trk a q h
  · obtain ⟨g1, g2⟩ := P.2 a u h1 h2
    have ne : a ≠ p := fun e => by
      subst e
      rcases hX with h | h
      · rw [h] at h1; cases h1
      · exact h h2
    exact ⟨by rw [setW_ne ne]; exact g1, g2⟩
theorem resB_ok (P : Pt X σ sg w al H) : ∀ {rs : List Rv} {ds : List D} {vs : List V}, resB sg rs = some ds → Cbs X.T σ w H rs vs → Vls X.T (borW w) H ds vs
  | [], ds, vs, e, h => by cases e; exact h
  | .d x :: r, ds, vs, e, ⟨v, t, e1, h1, h2⟩ => by
    simp only [resB, Option.map_eq_some_iff] at e
    obtain ⟨q, g1, rfl⟩ := e
    exact ⟨v, t, e1, Val.mono borW_ext _ _ h1, resB_ok P g1 h2⟩
  | .m i :: r, ds, vs, e, ⟨v, t, e1, h1, h2⟩ => by
    simp only [resB] at e
    cases z : peek sg i with
    | none => rw [z] at e; cases e
    | some x =>
      rw [z] at e
      simp only [Option.map_eq_some_iff] at e
      obtain ⟨q, g1, rfl⟩ := e
      refine ⟨v, t, e1, ?_, resB_ok P g1 h2⟩
      unfold peek at z
      cases y : sg.st[i]? with
      | none => rw [y] at z; cases z
      | some o =>
        cases o with
        | none => rw [y] at z; cases z
        | some r0 =>
          obtain ⟨v2, e2, hr⟩ := P.1.slots i r0 y
          rw [h1] at e2; cases e2
          cases r0 with
          | d x0 => rw [y] at z; cases z; exact Val.mono borW_ext _ _ hr
          | m x0 => rw [y] at z; cases z
          | o x0 =>
            rw [y] at z; cases z
            obtain ⟨ad, rfl, hw, hn⟩ := hr
            exact NdO.val (by unfold borW; rw [hw]) (hn.mono borW_ext rfl)
  | .o _ :: _, _, _, _, h => h.elim
theorem flat_val {T : Tb} {x : D} {v : V} (h : Val T w H x v) (f : flatD x = true) : Val T w' H' x v := by
  cases x <;> first | exact h | cases f
theorem rd_callB {f : Nat} {F0 : Fn} {rs : List Rv} {vs : List V} (P : Pt X σ sg w al H) (hF : X.G.fns[f]? = some F0) (hv : Cbs X.T σ w H rs vs) (h : OkG X W σ w al H (FE X Q) (callB X.G X.rc f rs sg)) : spG X.T X.rc F0.ps.length f vs H Q (WE W σ) := by
  unfold callB at h
  simp only [arOk, hF] at h
  by_cases hl : rs.length = F0.ps.length
  case neg => rw [decide_eq_false hl] at h; exact (show False from h).elim
  rw [decide_eq_true hl] at h
  simp only at h
  cases z : resB sg rs with
  | none => rw [z] at h; exact (show False from h).elim
  | some ds =>
    simp only [z] at h
    have hd := resB_ok P z hv
    refine ⟨borW w, [], [], ds.map .d, Vls.isCvs hd, ⟨rfl, fun n d e => by simp at e⟩, fun a o q => ?_, borW_trk P.1.trk, by rw [List.length_map, hd.length, ← hv.length, hl], ?_⟩
    · rcases borW_or (w := w) a with e | e | e
      · rw [e] at q; exact .inl (Option.some.inj q).symm
      · rw [e] at q; exact .inr (.inl (Option.some.inj q).symm)
      · rw [e] at q; cases q
    · cases e : X.rc f (ds.map .d) [] with
      | stuck => rw [e] at h; exact h
      | exc c fs mu => rw [e] at h; exact (show False from h).elim
      | ok r mu =>
        rw [e] at h
        cases r with
        | m x => exact (show False from h).elim
        | o x =>
          cases x with
          | lst xs =>
            simp only at h
            by_cases hf : xs.all flatD = true
            · rw [if_pos hf] at h
              intro v w' al' H' _ _ x' f' t' ⟨ow, ho, a0, e0, hw0, us, hH0, hv0⟩
              subst e0
              have nf : ow ≠ .frz ∧ ow ≠ .lnt := by rcases ho with rfl | ⟨i, rfl⟩ <;> exact ⟨(fun z => nomatch z), (fun z => nomatch z)⟩
              have same : ∀ a o, w a = some o → H' a = H a := fun a o q => by
                rcases borW_or (w := w) a with g | g | g
                · exact (x' a g).2
                · exact (x'.l a g).2
                · obtain ⟨u, hu⟩ := P.1.trk a o q
                  exact (f' a u hu g).2.trans hu.symm
              have xx : Ext w H w H' := Ext.of fun a oo q _ => ⟨q, same a _ q⟩
              have P2 : Pt X σ sg w al H' := ⟨P.1.keep AlX.refl xx (fun a i q => ⟨q, same a _ q⟩) (fun a i q => ⟨q, same a _ q⟩) fun a o q => by
                obtain ⟨u, hu⟩ := P.1.trk a o q
                exact ⟨u, (same a o q).trans hu⟩, fun a u h1 h2 => by
                obtain ⟨g1, g2⟩ := P.2 a u h1 h2
                have nb : borW w a = none := by unfold borW; rw [g1]
                exact ⟨g1, (f' a u g2 nb).2⟩⟩
              have bn : borW w a0 = none := by
                rcases borW_or (w := w) a0 with g | g | g
                · have := (x' a0 g).1; rw [hw0] at this; exact (nf.1 (Option.some.inj this)).elim
                · have := (x'.l a0 g).1; rw [hw0] at this; exact (nf.2 (Option.some.inj this)).elim
                · exact g
              have hn : H a0 = none := by
                cases z : H a0 with
                | none => rfl
                | some u => have := (f' a0 u z bn).1; rw [hw0] at this; cases this
              have wn : w a0 = none := P.1.free hn
              have fD : X.H0 a0 = none ∨ X.w0 a0 ≠ none := by
                cases z : X.H0 a0 with
                | none => exact .inl rfl
                | some u => refine .inr fun z2 => ?_; have := (P.2 a0 u z z2).2; rw [hn] at this; cases this
              obtain ⟨P3, L3⟩ := P2.tagB (ow := .res) wn hH0 fD
              refine h _ _ _ P3 (Le.trans (⟨AlX.refl, xx⟩ : Le w al H w al H') L3) _ ⟨a0, rfl, setW_same, us, hH0, ?_⟩
              have flats : ∀ {xs : List Mp.D} {us : List V}, xs.all flatD = true → Vls X.T w' H' xs us → Vls X.T (setW w a0 .res) H' xs us := by
                intro xs
                induction xs with
                | nil => intro us _ h; exact h
                | cons x xs ih =>
                  intro us hf ⟨v, r, e, h1, h2⟩
                  rw [List.all_cons, Bool.and_eq_true] at hf
                  exact ⟨v, r, e, flat_val h1 hf.1, ih hf.2 h2⟩
              exact flats hf hv0
            · rw [if_neg hf] at h; exact (show False from h).elim
          | _ => exact (show False from h).elim
        | d x =>
          simp only at h
          by_cases hf : flatD x = true
          · rw [if_pos hf] at h
            intro v w' al' H' _ _ x' f' t' ⟨ow, _, hr⟩
            have same : ∀ a o, w a = some o → H' a = H a := fun a o q => by
              rcases borW_or (w := w) a with g | g | g
              · exact (x' a g).2
              · exact (x'.l a g).2
              · obtain ⟨u, hu⟩ := P.1.trk a o q
                exact (f' a u hu g).2.trans hu.symm
            have xx : Ext w H w H' := Ext.of fun a oo q _ => ⟨q, same a _ q⟩
            have P2 : Pt X σ sg w al H' := ⟨P.1.keep AlX.refl xx (fun a i q => ⟨q, same a _ q⟩) (fun a i q => ⟨q, same a _ q⟩) fun a o q => by
              obtain ⟨u, hu⟩ := P.1.trk a o q
              exact ⟨u, (same a o q).trans hu⟩, fun a u h1 h2 => by
              obtain ⟨g1, g2⟩ := P.2 a u h1 h2
              have nb : borW w a = none := by unfold borW; rw [g1]
              exact ⟨g1, (f' a u g2 nb).2⟩⟩
            exact h w al H' P2 ⟨AlX.refl, xx⟩ v (flat_val (show Val X.T w' H' x v from hr) hf)
          · rw [if_neg hf] at h; exact (show False from h).elim
theorem re_callb {f : Nat} {F0 : Fn} (C : Cc X n fA fre cf sc Nm W Y) (hF : X.G.fns[f]? = some F0) (hcl : F0.cl = none) (hs : sc.names.lookup F0.nm = some .globalImplicit) (hd : (F0.nm == ("__debug__" : Str)) = false) (ha : PA Y (e :: es) (tAb X W es')) (ht : (e :: es).all tame = true) :
    PE Y (.Call (.Name F0.nm p) (e :: es) [] pos) (tE X W (.callb f es')) := by
  obtain ⟨fd, ok, hb, kp⟩ := C.gf.fns f F0 hF
  rw [← C.K] at ok hb kp
  simp only [List.all_cons, Bool.and_eq_true] at ht
  refine (pe_callS ok (C.room.mono (Nat.le_succ _)) (C.gl hs) (C.gf.glo f F0 hF hcl) kp hb (fun σ => passAt C.tk σ) ha hd (star_ok ht.1) (plain_ok ht.2)).imp fun σ H Q ⟨w, al, sg, P, h⟩ => ⟨w, al, sg, P, ?_⟩
  simp only [ev] at h
  cases e : ev X.G X.rc es' sg with
  | stuck => rw [e] at h; exact h
  | exc c fs s => rw [e] at h; exact h
  | ok rs s =>
    rw [e] at h
    intro w' al' H' P' L' vs hv
    exact rd_callB P' hF hv (OkG.rebase h L')
end
end Mp
namespace Mp
open PySem L2
def Rt (T : Tb) (w : Wt) (al : List Addr) (H : Hp) (r : Rv) (v : V) : Prop := ∃ ow, (ow = .res ∨ ∃ i, ow = .slot i) ∧ Res T w al H ow r v
def OkS (X : Fx) (W : WX) (w : Wt) (al : List Addr) (H : Hp) (D : Ends) : SO → Prop
  | .nx s' => ∀ σ' w' al' H', Pt X σ' s' w' al' H' → Le w al H w' al' H' → D.nx σ' H'
  | .rt r s' => ∀ σ' w' al' H' v, Pt X σ' s' w' al' H' → Le w al H w' al' H' → Rt X.T w' al' H' r v → D.rt v H'
  | .bk s' => ∀ σ' w' al' H', Pt X σ' s' w' al' H' → Le w al H w' al' H' → D.bk σ' H'
  | .ct s' => ∀ σ' w' al' H', Pt X σ' s' w' al' H' → Le w al H w' al' H' → D.ct σ' H'
  | .exc c fs s' => ∀ σ' cls d w' al' H', Pt X σ' s' w' al' H' → Le w al H w' al' H' → ExR X.T w' H' c fs cls d → W cls d σ' H'
  | .stuck => False
def tS (X : Fx) (W : WX) (b : S) : TS := fun D σ H => ∃ w al sg, Pt X σ sg w al H ∧ OkS X W w al H D (ex X.G X.rc b sg)
section
variable {X : Fx} {n : Nat} {fA : Nat → Addr} {fre : List Str} {cf : Str → Bool} {sc : Scope} {Nm : List Str} {W : WX} {Y : Cx} {pos apos p p2 p3 : Pos} {a b c e tg : Expr} {a' b' c' j' : E} {es : List Expr} {es' : E} {σ : St} {Q : VK} {H H1 : Hp} {w w1 : Wt} {al al1 : List Addr} {sg : Sg} {D : Ends} {st : Stmt} {sts : List Stmt} {u v u1 u2 : S}
theorem OkS.rebase {o : SO} (h : OkS X W w al H D o) (l : Le w al H w1 al1 H1) : OkS X W w1 al1 H1 D o := by
  cases o with
  | nx s => exact fun σ' w' al' H' P L => h σ' w' al' H' P (l.trans L)
  | rt r s => exact fun σ' w' al' H' v P L => h σ' w' al' H' v P (l.trans L)
  | bk s => exact fun σ' w' al' H' P L => h σ' w' al' H' P (l.trans L)
  | ct s => exact fun σ' w' al' H' P L => h σ' w' al' H' P (l.trans L)
  | exc c fs s => exact fun σ' cls d w' al' H' P L x => h σ' cls d w' al' H' P (l.trans L) x
  | stuck => exact h
theorem OkS.here {s : Sg} (P : Pt X σ s w al H) (h : OkS X W w al H D (.nx s)) : D.nx σ H := h σ w al H P Le.refl
theorem onOut_ok {k : Rv → Sg → SO} {Q1 : VK} (P : Pt X σ sg w al H) (h : OkS X W w al H D (onOut (ev X.G X.rc a' sg) k))
    (hk : ∀ r v s1 w1 al1 H1, Pt X σ s1 w1 al1 H1 → Le w al H w1 al1 H1 → Res X.T w1 al1 H1 .res r v → OkS X W w1 al1 H1 D (k r s1) → Q1 v H1) : tE X W a' σ H Q1 := by
  refine ⟨w, al, sg, P, ?_⟩
  cases e : ev X.G X.rc a' sg with
  | stuck => rw [e] at h; exact h
  | exc c fs s => rw [e] at h; exact fun cls d w' al' H' P' L' x => h σ cls d w' al' H' P' L' x
  | ok rs s =>
    rw [e] at h
    intro w' al' H' P' L'
    cases rs with
    | nil => exact (show False from h).elim
    | cons r t => cases t with
      | cons _ _ => exact (show False from h).elim
      | nil => exact fun v hv => hk r v s w' al' H' P' L' hv (OkS.rebase h L')
theorem onD_ok {k : Mp.D → Sg → SO} {Q1 : VK} (P : Pt X σ sg w al H) (h : OkS X W w al H D (onD (ev X.G X.rc a' sg) k))
    (hk : ∀ x v s1 w1 al1 H1, Pt X σ s1 w1 al1 H1 → Le w al H w1 al1 H1 → Val X.T w1 H1 x v → OkS X W w1 al1 H1 D (k x s1) → Q1 v H1) : tE X W a' σ H Q1 :=
  onOut_ok P h fun r v s1 w1 al1 H1 P1 L1 hv h1 => by
    cases r with
    | d x => exact hk x v s1 w1 al1 H1 P1 L1 hv h1
    | m k => exact (show False from h1).elim
    | o x =>
      obtain ⟨w2, R2, E2, f2, hv2⟩ := P1.1.resD P1.2 hv (.inr rfl)
      exact hk x v s1 w2 al1 H1 ⟨R2, f2⟩ (L1.trans ⟨AlX.refl, E2⟩) hv2 (OkS.rebase h1 ⟨AlX.refl, E2⟩)
theorem onB_ok {k : Bool → Sg → SO} {Q1 : Bool → Hp → Prop} (P : Pt X σ sg w al H) (h : OkS X W w al H D (onB (ev X.G X.rc a' sg) k))
    (hk : ∀ b s1 w1 al1 H1, Pt X σ s1 w1 al1 H1 → Le w al H w1 al1 H1 → OkS X W w1 al1 H1 D (k b s1) → Q1 b H1) : tT X W a' σ H Q1 := by
  refine ⟨w, al, sg, P, ?_⟩
  cases e : ev X.G X.rc a' sg with
  | stuck => rw [e] at h; exact h
  | exc c fs s => rw [e] at h; exact fun cls d w' al' H' P' L' x => h σ cls d w' al' H' P' L' x
  | ok rs s =>
    rw [e] at h
    intro w' al' H' P' L'
    cases rs with
    | nil => exact (show False from h).elim
    | cons r t => cases t with
      | cons _ _ => exact (show False from h).elim
      | nil =>
        cases r with
        | m k => exact (show False from h).elim
        | o k => exact (show False from h).elim
        | d x => cases x with
          | bl b => exact hk b s w' al' H' P' L' (OkS.rebase h L')
          | _ => exact (show False from h).elim
theorem Pt.take {i : Nat} {r : Rv} {v : V} (P : Pt X σ sg w al H) (h : Res X.T w al H .res r v) : ∃ w', Pt X (σ.set i (some v)) { sg with st := setS sg.st i r } w' al H ∧ Le w al H w' al H := by
  cases r with
  | d x => exact ⟨w, P.set (r := .d x) h, Le.refl⟩
  | m x => exact ⟨w, P.set (r := .m x) h, Le.refl⟩
  | o x =>
    obtain ⟨ad, rfl, hw, hn⟩ := h
    have k : ∀ b q, w b = some q → q ≠ .res → setW w ad (.slot i) b = some q := fun b q h n => by
      have ne : b ≠ ad := fun z => by rw [z, hw] at h; exact n (Option.some.inj h).symm
      rw [setW_ne ne]; exact h
    have x1 : Ext w H (setW w ad (.slot i)) H := Ext.of fun b oo h z0 => ⟨k b _ h (by rcases z0 with rfl | rfl <;> decide), rfl⟩
    have P2 : Pt X σ sg (setW w ad (.slot i)) al H := ⟨P.1.keep AlX.refl x1 (fun b j h => ⟨k b _ h (by intro z; cases z), rfl⟩) (fun b j h => ⟨k b _ h (by intro z; cases z), rfl⟩) (fun b q h => by
      by_cases c : b = ad
      · subst c; exact P.1.trk b _ hw
      · rw [setW_ne c] at h; exact P.1.trk b q h), P.2.setW hw⟩
    exact ⟨_, P2.set (r := .o x) ⟨ad, rfl, setW_same, hn.mono x1 rfl⟩, ⟨AlX.refl, x1⟩⟩
theorem ss_nil : PSs Y [] (tS X W .skip) := ⟨fun pins s σ H D I ⟨w, al, sg, P, h⟩ => pss_nil.run pins s σ H D I (h.here P)⟩
theorem rs_pass : PS Y (.Pass pos) (tS X W .skip) := ps_pass.imp fun D σ H ⟨w, al, sg, P, h⟩ => h.here P
theorem rs_doc {x : Str} {j : Nat} : PS Y (.Expr (.Constant (.str x) j p) pos) (tS X W .skip) := ps_doc.imp fun D σ H ⟨w, al, sg, P, h⟩ => h.here P
theorem rs_never : PS Y st (tS X W .never) := ⟨fun pins s σ H D I ⟨w, al, sg, P, h⟩ => (show False from h).elim⟩
theorem rs_brk : PS Y (.Break pos) (tS X W .brk) := ps_break.imp fun D σ H ⟨w, al, sg, P, h⟩ => h σ w al H P Le.refl
theorem rs_cnt : PS Y (.Continue pos) (tS X W .cnt) := ps_continue.imp fun D σ H ⟨w, al, sg, P, h⟩ => h σ w al H P Le.refl
theorem ss_cons (h1 : PS Y st (tS X W u)) (h2 : PSs Y sts (tS X W v)) : PSs Y (st :: sts) (tS X W (.seq u v)) :=
  (pss_cons h1 h2).imp fun D σ H ⟨w, al, sg, P, h⟩ => by
  refine ⟨w, al, sg, P, ?_⟩
  simp only [ex] at h
  cases e : ex X.G X.rc u sg with
  | nx s => rw [e] at h; exact fun σ' w' al' H' P' L' => ⟨w', al', s, P', OkS.rebase h L'⟩
  | rt r s => rw [e] at h; exact h
  | bk s => rw [e] at h; exact h
  | ct s => rw [e] at h; exact h
  | exc c fs s => rw [e] at h; exact h
  | stuck => rw [e] at h; exact h
theorem ss_one (h1 : PS Y st (tS X W u)) : PSs Y [st] (tS X W u) := ⟨(pss_one h1).run⟩
theorem rs_asg {i : Nat} {x : Str} (C : Cc X n fA fre cf sc Nm W Y) (hi : Nm[i]? = some x) (hx : Loc sc x) (hf : cf x = true ∨ sc.names.lookup x = some .local) (ha : PE Y a (tE X W a')) (ht : tame a = true) (hl : notLc a = true) : PS Y (.Assign [.Name x p] a pos) (tS X W (.asg i a')) := by
  refine (ps_set (i := i) (x := x) (by rw [C.N]; exact C.nd) (by rw [C.N]; exact hi) (by rw [C.scp]; exact hx) ha (sw_ok ht hl) (hf.elim (fun z => .inl (C.fn x z)) fun z => .inr (by rw [C.scp]; exact z))).imp fun D σ H ⟨w, al, sg, P, h⟩ => ?_
  refine onOut_ok P h fun r v s1 w1 al1 H1 P1 L1 hv h1 => ?_
  obtain ⟨w2, P2, L2⟩ := P1.take (i := i) hv
  exact h1 _ _ _ _ P2 L2
theorem rs_ret (ha : PE Y a (tE X W a')) : PS Y (.Return (some a) pos) (tS X W (.ret a')) := (ps_ret ha).imp fun D σ H ⟨w, al, sg, P, h⟩ =>
  onOut_ok P h fun r v s1 w1 al1 H1 P1 L1 hv h1 => h1 σ w1 al1 H1 v P1 Le.refl ⟨_, .inl rfl, hv⟩
theorem rs_retN : PS Y (.Return none pos) (tS X W (.ret .non)) := ps_retN.imp fun D σ H ⟨w, al, sg, P, h⟩ => h σ w al H V.non P Le.refl ⟨.res, .inl rfl, rfl⟩
theorem rs_retm {i : Nat} {x : Str} (C : Cc X n fA fre cf sc Nm W Y) (hN : Y.N[i]? = some x) (hv : Vis Y.env.scope x) (hd : (x == ("__debug__" : Str)) = false) (hcd : (x == ("__classdict__" : Str)) = false) : PS Y (.Return (some (.Name x p)) pos) (tS X W (.retm i)) :=
  (ps_ret (pe_var hN hv hd hcd)).imp fun D σ H ⟨w, al, sg, P, h⟩ => by
  simp only [ex] at h
  cases z : sg.st[i]? with
  | none => rw [z] at h; exact (show False from h).elim
  | some q => cases q with
    | none => rw [z] at h; exact (show False from h).elim
    | some r =>
      rw [z] at h
      obtain ⟨v, e1, hr⟩ := P.1.slots i r z
      exact ⟨v, e1, h σ w al H v P Le.refl ⟨_, .inr ⟨i, rfl⟩, hr⟩⟩
theorem rs_exp (ha : PE Y a (tE X W a')) (ht : tame a = true) (hl : notLc a = true) : PS Y (.Expr a pos) (tS X W (.exp a')) := (ps_expr ha (sw_ok ht hl)).imp fun D σ H ⟨w, al, sg, P, h⟩ =>
  onOut_ok P h fun r v s1 w1 al1 H1 P1 L1 hv h1 => h1.here P1
theorem rs_if {ss ts : List Stmt} (hc : PT Y c (tT X W c')) (ha : PSs Y ss (tS X W u1)) (hb : PSs Y ts (tS X W u2)) : PS Y (.If c ss ts pos) (tS X W (.ifs c' u1 u2)) := (ps_if hc ha hb).imp fun D σ H ⟨w, al, sg, P, h⟩ =>
  onB_ok P h fun b s1 w1 al1 H1 P1 L1 h1 => by
    cases b with
    | true => rw [if_pos rfl]; exact ⟨w1, al1, s1, P1, h1⟩
    | false => rw [if_neg Bool.false_ne_true]; exact ⟨w1, al1, s1, P1, h1⟩
theorem rs_while {ss : List Stmt} (hp : PassesOwn (model Y.prog Y.w) Y.A Y.env Y.xe) (hc : PT Y c (tT X W c')) (hb : PSs Y ss (tS X W u)) : PS Y (.While c ss [] pos) (tS X W (.whl c' u)) := (ps_while hp hc hb).imp fun D σ H ⟨w, al, sg, P, h⟩ => by
  refine ⟨fun m σ H => ∃ w al sg, Pt X σ sg w al H ∧ OkS X W w al H D (whlF (ev X.G X.rc c') (ex X.G X.rc u) m sg), ⟨fuel, w, al, sg, P, h⟩, ?_⟩
  rintro m σ H ⟨w, al, sg, P, h⟩
  cases m with
  | zero => exact (show False from h).elim
  | succ m =>
    refine onB_ok P h fun b s1 w1 al1 H1 P1 L1 h1 => ?_
    cases b with
    | false => rw [if_neg Bool.false_ne_true]; exact h1.here P1
    | true =>
      rw [if_pos rfl]
      refine ⟨fun σ H => ∃ w al sg, Pt X σ sg w al H ∧ OkS X W w al H D (whlF (ev X.G X.rc c') (ex X.G X.rc u) m sg), fun σ' H' q => ⟨m, Nat.lt_succ_self m, q⟩, w1, al1, s1, P1, ?_⟩
      simp only at h1
      cases e : ex X.G X.rc u s1 with
      | nx s => rw [e] at h1; exact fun σ' w' al' H' P' L' => ⟨w', al', s, P', OkS.rebase h1 L'⟩
      | ct s => rw [e] at h1; exact fun σ' w' al' H' P' L' => ⟨w', al', s, P', OkS.rebase h1 L'⟩
      | bk s => rw [e] at h1; exact h1
      | rt r s => rw [e] at h1; exact h1
      | exc c fs s => rw [e] at h1; exact h1
      | stuck => rw [e] at h1; exact h1
theorem onDs_ok {k : List Mp.D → Sg → SO} {R : It → Hp → Prop} (P : Pt X σ sg w al H) (h : OkS X W w al H D (onDs (ev X.G X.rc a' sg) k))
    (hk : ∀ ds J s1 w1 al1 H1, Pt X σ s1 w1 al1 H1 → Le w al H w1 al1 H1 → ItOk X.T w1 H1 J ds → OkS X W w1 al1 H1 D (k ds s1) → R J H1) (hd : ∀ rs s, ev X.G X.rc a' sg = .ok rs s → getDs rs ≠ none → ∃ ds : List Mp.D, rs = ds.map .d) : tI X W a' σ H R := by
  refine ⟨w, al, sg, P, ?_⟩
  cases e : ev X.G X.rc a' sg with
  | stuck => rw [e] at h; exact h
  | exc c fs s => rw [e] at h; exact fun cls d w' al' H' P' L' x => h σ cls d w' al' H' P' L' x
  | ok rs s =>
    rw [e] at h
    intro w' al' H' P' L'
    simp only [onDs] at h
    cases z : getDs rs with
    | none => rw [z] at h; exact (show False from h).elim
    | some ds =>
      obtain ⟨es, rfl⟩ := hd rs s e (by rw [z]; simp)
      have ee : ds = es := by
        have : ∀ es : List Mp.D, getDs (es.map .d) = some es := by
          intro es
          induction es with
          | nil => rfl
          | cons y ys ih => simp [getDs, ih]
        rw [this] at z
        exact (Option.some.inj z).symm
      subst ee
      rw [z] at h
      exact ⟨ds, rfl, fun J hJ => hk ds J s w' al' H' P' L' hJ (OkS.rebase h L')⟩
theorem getDs_map : ∀ {rs : List Rv} {ds : List Mp.D}, getDs rs = some ds → rs = ds.map .d
  | [], ds, e => by cases e; rfl
  | .d x :: r, ds, e => by
    simp only [getDs] at e
    cases z : getDs r with
    | none => rw [z] at e; cases e
    | some ys => rw [z] at e; cases e; rw [getDs_map z]; rfl
  | .o _ :: _, _, e => by cases e
  | .m _ :: _, _, e => by cases e
theorem rs_for {is : List Nat} {ss : List Stmt} (C : Cc X n fA fre cf sc Nm W Y) (hp : PassesOwn (model Y.prog Y.w) Y.A Y.env Y.xe) (hi : PI Y tg a (tI X W a')) (hg : PG Y tg (gTG X.T.K is)) (hb : PSs Y ss (tS X W u)) (ht : tame a = true) : PS Y (.For tg a ss [] pos) (tS X W (.fors is a' u)) :=
  (ps_for hp C.calm hi hg hb (fun x => fs_ok ht x)).imp fun D σ H ⟨w, al, sg, P, h⟩ => by
  refine onDs_ok P h (fun ds J s1 w1 al1 H1 P1 L1 hJ h1 => ?_) fun rs s _ z => ?_
  · refine ⟨fun i m σ H => m + i = ds.length ∧ ∃ w al sg, Pt X σ sg w al H ∧ Le w1 al1 H1 w al H ∧ OkS X W w al H D (forF (ex X.G X.rc u) is (ds.drop i) sg), ⟨ds.length, rfl, w1, al1, s1, P1, Le.refl, h1⟩, ?_⟩
    rintro i m σ H ⟨hm, w, al, sg, P, L, h⟩
    by_cases hi : i < ds.length
    · refine .inr ⟨hJ.go _ _ _ L.2 hi, fun σ' H' => ∃ w al sg, Pt X σ' sg w al H' ∧ Le w1 al1 H1 w al H' ∧ OkS X W w al H' D (forF (ex X.G X.rc u) is (ds.drop (i + 1)) sg), fun σ' H' q => ⟨m - 1, by omega, by omega, q⟩, fun x H2 hy => ?_⟩
      rw [List.drop_eq_getElem_cons hi] at h
      simp only [forF] at h
      cases z : setT is ds[i] sg.st with
      | none => rw [z] at h; exact (show False from h).elim
      | some st =>
        simp only [z] at h
        have go : ∀ w2, Pt X σ sg w2 al H2 → Le w al H w2 al H2 → Val X.T w2 H2 ds[i] x → gTG X.T.K is x σ H2 fun σ2 H3 => tS X W u { D with nx := fun σ' H' => ∃ w al sg, Pt X σ' sg w al H' ∧ Le w1 al1 H1 w al H' ∧ OkS X W w al H' D (forF (ex X.G X.rc u) is (ds.drop (i + 1)) sg), ct := fun σ' H' => ∃ w al sg, Pt X σ' sg w al H' ∧ Le w1 al1 H1 w al H' ∧ OkS X W w al H' D (forF (ex X.G X.rc u) is (ds.drop (i + 1)) sg), bk := D.nx } σ2 H3 := by
          intro w2 P2 L2 hx
          obtain ⟨σ2, _, P3, g⟩ := setT_ok z P2 hx
          refine g _ ⟨w2, al, _, P3, ?_⟩
          have h := OkS.rebase h L2
          cases e : ex X.G X.rc u { sg with st := st } with
          | nx s => rw [e] at h; exact fun σ' w' al' H' P' L' => ⟨w', al', s, P', (L.trans L2).trans L', OkS.rebase h L'⟩
          | ct s => rw [e] at h; exact fun σ' w' al' H' P' L' => ⟨w', al', s, P', (L.trans L2).trans L', OkS.rebase h L'⟩
          | bk s => rw [e] at h; exact h
          | rt r s => rw [e] at h; exact h
          | exc c fs s => rw [e] at h; exact h
          | stuck => rw [e] at h; exact h
        rcases hJ.yld _ _ i _ _ _ L.2 P.1.trk (List.getElem?_eq_getElem hi) hy with ⟨rfl, hx⟩ | ⟨q, o, hq, rfl, hx⟩
        · exact go w P Le.refl hx
        · exact go _ (P.new hq) (P.le hq) hx
    · refine .inl ⟨hJ.stop _ _ _ L.2 (Nat.le_of_not_lt hi), ?_⟩
      rw [List.drop_eq_nil_of_le (Nat.le_of_not_lt hi)] at h
      exact h.here P
  · cases q : getDs rs with
    | none => exact (z q).elim
    | some ds => exact ⟨ds, getDs_map q⟩
end
end Mp
namespace L2
open PySem PySem.Spec PyProof.Rows
theorem ip_or {Y : Cx} {op : Operator} {t t' : TIp} (h : PIp Y op t) (h' : PIp Y op t') : PIp Y op (fun x y H Q => t x y H Q ∨ t' x y H Q) := by
  intro pins s σ H x y v u Q I r1 r2 q
  rcases q with q | q
  · exact h pins s σ H x y v u Q I r1 r2 q
  · exact h' pins s σ H x y v u Q I r1 r2 q
theorem set_or {Y : Cx} {t t' : TSet} (h : PSet Y t) (h' : PSet Y t') : PSet Y (fun o i v H Q => t o i v H Q ∨ t' o i v H Q) := by
  intro pins s σ H o i v ov iv u Q I r1 r2 r3 q
  rcases q with q | q
  · exact h pins s σ H o i v ov iv u Q I r1 r2 r3 q
  · exact h' pins s σ H o i v ov iv u Q I r1 r2 r3 q
end L2
namespace Mp
open PySem L2
section
variable {X : Fx} {n : Nat} {fA : Nat → Addr} {fre : List Str} {cf : Str → Bool} {sc : Scope} {Nm : List Str} {W : WX} {Y : Cx} {pos apos p p2 p3 : Pos} {a b c e tg : Expr} {a' b' c' j' : E} {es : List Expr} {es' : E} {σ : St} {Q : VK} {H H1 : Hp} {w w1 : Wt} {al al1 : List Addr} {sg : Sg} {D : Ends} {st : Stmt} {sts : List Stmt} {u v u1 u2 : S}
theorem rs_aug {i : Nat} {x : Str} (C : Cc X n fA fre cf sc Nm W Y) (hi : Nm[i]? = some x) (hx : Loc sc x) (hf : cf x = true ∨ sc.names.lookup x = some .local) (ha : PE Y a (tE X W a')) : PS Y (.AugAssign (.Name x p) .Add a pos) (tS X W (.aug i .add a')) := by
  refine (ps_aug (i := i) (x := x) (by rw [C.N]; exact C.nd) (by rw [C.N]; exact hi) (by rw [C.scp]; exact hx) ha (ip_or in_add in_addS) (hf.elim (fun z => .inl (C.fn x z)) fun z => .inr (by rw [C.scp]; exact z))).imp fun D σ H ⟨w, al, sg, P, h⟩ => ?_
  simp only [ex] at h
  cases z : peek sg i with
  | none => rw [z] at h; exact (show False from h).elim
  | some x0 =>
    simp only [z] at h
    obtain ⟨v, e1, hs⟩ := P.peek z
    refine ⟨v, e1, onD_ok P h fun y u s2 w2 al2 H2 P2 L2 hy h2 => ?_⟩
    cases x0 with
    | int k =>
      cases (show v = V.int k from hs)
      cases y with
      | int j =>
        cases (show u = V.int j from hy)
        exact .inl ⟨k, j, rfl, rfl, h2 _ _ _ _ (P2.set (r := .d (.int (k + j))) rfl) Le.refl⟩
      | _ => exact (show False from h2).elim
    | str k =>
      cases (show v = V.str k from hs)
      cases y with
      | str j =>
        cases (show u = V.str j from hy)
        by_cases cl : k.length + j.length ≤ sizeLine
        · simp only [o2F, if_pos cl] at h2
          exact .inr ⟨k, j, rfl, rfl, cl, h2 _ _ _ _ (P2.set (r := .d (.str (k ++ j))) rfl) Le.refl⟩
        · simp only [o2F, if_neg cl] at h2; exact (show False from h2).elim
      | _ => exact (show False from h2).elim
    | lst xs =>
      cases y with
      | lst ys =>
        by_cases cl : xs.length + ys.length ≤ sizeLine
        · simp only [o2F, if_pos cl] at h2; exact (show False from h2).elim
        · simp only [o2F, if_neg cl] at h2; exact (show False from h2).elim
      | _ => exact (show False from h2).elim
    | _ => exact (show False from h2).elim
theorem dputV_ok {T : Tb} {q : Key} {y : Mp.D} {v : V} : ∀ {ds : List Mp.D} (kvs : List (Key × V)), Vls T w H ds (kvs.map (·.2)) → Val T w H y v → Vls T w H (dputV (dK q) y (kvs.map fun p => dK p.1) ds) ((kvs.map fun kv => if kv.1 = q then (kv.1, v) else kv).map (·.2))
  | [], [], h, _ => h
  | [], _ :: _, h, _ => by cases (show _ = [] from h)
  | _ :: _, [], ⟨_, _, e, _⟩, _ => by cases e
  | d :: ds, (k, u) :: kvs, ⟨v0, r, e, h1, h2⟩, hy => by
    simp only [List.map_cons, List.cons.injEq] at e
    obtain ⟨rfl, rfl⟩ := e
    simp only [List.map_cons, dputV, keyEq_dK]
    by_cases c : k = q
    · rw [decide_eq_true c, if_pos rfl, if_pos c]
      exact ⟨v, _, rfl, hy, dputV_ok kvs h2 hy⟩
    · rw [decide_eq_false c, if_neg Bool.false_ne_true, if_neg c]
      exact ⟨u, _, rfl, h1, dputV_ok kvs h2 hy⟩
theorem dput_ok {T : Tb} {q : Key} {y : Mp.D} {v : V} {ds : List Mp.D} {kvs : List (Key × V)} {ad : Addr} (hH : H ad = some (.dK (putK kvs q v))) (h : Vls T w H ds (kvs.map (·.2))) (hy : Val T w H y v) : NdO T w H ad (dput (dK q) y (kvs.map fun p => dK p.1) ds) := by
  unfold dput
  have hd := dget_some (q := q) h
  have hany := valV_any q kvs
  cases e : dget (dK q) (kvs.map fun p => dK p.1) ds with
  | none =>
    rw [e] at hd
    have hn : valV kvs q = none := by cases z : valV kvs q with
      | none => rfl
      | some _ => rw [z] at hd; cases hd
    rw [putK_new v hn] at hH
    exact ⟨_, hH, by simp, by rw [List.map_append]; exact h.append ⟨v, [], rfl, hy, rfl⟩⟩
  | some d0 =>
    rw [e] at hd
    have ha : (kvs.any fun kv => decide (kv.1 = q)) = true := by rw [hany, ← hd] <;> rfl
    unfold putK at hH
    rw [if_pos ha] at hH
    refine ⟨_, hH, ?_, dputV_ok kvs h hy⟩
    rw [List.map_map]
    apply List.map_congr_left
    intro kv _
    by_cases c : kv.1 = q
    · simp [c]
    · simp [c]
theorem upd_upd {H : Hp} {a : Addr} {o o' : HO} : upd (upd H a o) a o' = upd H a o' := by
  funext b
  by_cases c : b = a
  · subst c; rw [upd_same, upd_same]
  · rw [upd_ne c, upd_ne c, upd_ne c]
theorem tputV_ok {T : Tb} {q : NestedKey} {y : Mp.D} {v : V} : ∀ {ks ds : List Mp.D} (kvs : NT), kvs.map (fun p => some p.1) = ks.map tkOf → Vls T w H ds (kvs.map (·.2.2)) → Val T w H y v → Vls T w H (tputV q y ks ds) ((kvs.map fun x => if x.1 = q then (x.1, x.2.1, v) else x).map (·.2.2))
  | [], ds, [], _, h, _ => by cases ds <;> exact h
  | k :: ks, ds, [], e, _, _ => by simp at e
  | [], ds, _ :: _, e, _, _ => by simp at e
  | k :: ks, [], p :: r, _, h, _ => by simp [Vls] at h
  | k :: ks, d :: ds, p :: r, e, ⟨v0, us, e0, h1, h2⟩, hy => by
    simp only [List.map_cons, List.cons.injEq] at e e0
    obtain ⟨rfl, rfl⟩ := e0
    have ih := tputV_ok (q := q) r e.2 h2 hy
    simp only [tputV, List.map_cons]
    by_cases c : p.1 = q
    · rw [if_pos (by rw [← e.1, c]), if_pos c]
      exact ⟨v, _, rfl, hy, ih⟩
    · rw [if_neg (by rw [← e.1]; intro z; exact c (Option.some.inj z)), if_neg c]
      exact ⟨_, _, rfl, h1, ih⟩
theorem tput_ok {T : Tb} {q : NestedKey} {k y : Mp.D} {v : V} {b : Addr} {ks ds : List Mp.D} {kvs : NT} {ad : Addr} (hH : H ad = some (TDo T.wd ad (putN kvs q b v))) (e : kvs.map (fun p => some p.1) = ks.map tkOf) (hk2 : Vls T w H ks (kvs.map fun p => .ref p.2.1)) (h : Vls T w H ds (kvs.map (·.2.2))) (hk : Val T w H k (.ref b)) (kq : tkOf k = some q) (hy : Val T w H y v) : NdO T w H ad (.tdc (tputK q k y ks ds).1 (tputK q k y ks ds).2) := by
  obtain ⟨g1, _⟩ := tget_ok (q := q) kvs e h
  have hany := atN_any q kvs
  unfold putN at hH
  cases z : tget q ks ds with
  | none =>
    rw [z] at g1
    have ha : ¬ (kvs.any fun x => decide (x.1 = q)) = true := by rw [hany, ← g1]; decide
    rw [if_neg ha] at hH
    simp only [tputK, z]
    exact ⟨_, hH, by rw [List.map_append, List.map_append, e]; simp [kq], by rw [List.map_append]; exact hk2.append ⟨_, [], rfl, hk, rfl⟩, by rw [List.map_append]; exact h.append ⟨v, [], rfl, hy, rfl⟩⟩
  | some d =>
    rw [z] at g1
    have ha : (kvs.any fun x => decide (x.1 = q)) = true := by rw [hany, ← g1]; rfl
    rw [if_pos ha] at hH
    simp only [tputK, z]
    refine ⟨_, hH, ?_, ?_, tputV_ok kvs e h hy⟩
    · rw [← e, List.map_map]
      apply List.map_congr_left
      intro p _
      by_cases c : p.1 = q <;> simp [c]
    · rw [List.map_map]
      have : kvs.map ((fun p => V.ref p.2.1) ∘ fun x => if x.1 = q then (x.1, x.2.1, v) else x) = kvs.map fun p => V.ref p.2.1 := by
        apply List.map_congr_left
        intro p _
        by_cases c : p.1 = q <;> simp [c]
      rw [this]; exact hk2
theorem setF_ok {i : Nat} {x k y z : Mp.D} {v vk vy : V} (P : Pt X σ sg w al H) (hz : sg.st[i]? = some (some (.o x))) (hs : σ[i]? = some (some v)) (hk : Val X.T w H k vk) (hy : Val X.T w H y vy) (e : setF x k y = some z) (Q : Hp → Prop)
    (q : ∀ H', Pt X σ { sg with st := setS sg.st i (.o z) } w al H' → Le w al H w al H' → Q H') : (rSetL v vk vy H Q ∨ rSetD v vk vy H Q) ∨ rSetTd X.T.wd v vk vy H Q := by
  obtain ⟨v2, e1, ad, rfl, hw, hn⟩ := P.1.slots i _ hz
  rw [hs] at e1; cases e1
  have x1 : ∀ o, Ext w H w (upd H ad o) := fun o => Ext.of fun b oo hb z0 => ⟨hb, upd_ne fun z => by rw [z, hw] at hb; cases hb; rcases z0 with z0 | z0 <;> cases z0⟩
  cases x with
  | lst xs =>
    cases k with
    | int k =>
      cases (show vk = V.int k from hk)
      obtain ⟨vs, h1, h2⟩ := hn
      simp only [setF] at e
      cases z2 : ixN xs.length k with
      | none => rw [z2] at e; cases e
      | some j =>
        rw [z2] at e; cases e
        have hx := x1 (.lst (vs.set j vy))
        obtain ⟨P3, L3⟩ := P.wr (x := .lst (xs.set j y)) hw ⟨_, hz⟩ hs ⟨_, upd_same, Vls.set j (Vls.mono hx _ _ h2) (Val.mono hx _ _ hy)⟩
        exact .inl (.inl ⟨ad, vs, k, j, rfl, rfl, h1, by rw [← h2.length]; exact z2, q _ P3 L3⟩)
    | _ => cases e
  | dct ks ds =>
    have e' : (if keyD k && decide (ks.length < sizeLine) then some (dput k y ks ds) else none) = some z := by cases k <;> exact e
    by_cases c : (keyD k && decide (ks.length < sizeLine)) = true
    · rw [if_pos c] at e'
      cases e'
      obtain ⟨c1, c2⟩ := Bool.and_eq_true_iff.mp c
      obtain ⟨kvs, h1, h3, h2⟩ := hn
      obtain ⟨qk, e5, e6⟩ := keyD_ok hk c1
      subst e5 e6 h3
      have hx := x1 (.dK (putK kvs qk vy))
      obtain ⟨P3, L3⟩ := P.wr (x := dput (dK qk) y (kvs.map fun p => dK p.1) ds) hw ⟨_, hz⟩ hs (dput_ok upd_same (Vls.mono hx _ _ h2) (Val.mono hx _ _ hy))
      have c3 := of_decide_eq_true c2
      rw [List.length_map] at c3
      exact .inl (.inr ⟨ad, _, rfl, DPut.k h1 c3, q _ P3 L3⟩)
    · rw [if_neg c] at e'; cases e'
  | tdc ks ds =>
    have e' : ((tkOf k).bind fun qk => if ks.length < sizeLine then some (.tdc (tputK qk k y ks ds).1 (tputK qk k y ks ds).2) else none) = some z := by cases k <;> exact e
    cases zk : tkOf k with
    | none => rw [zk] at e'; cases e'
    | some qk =>
      rw [zk] at e'
      simp only [Option.bind_some] at e'
      by_cases c : ks.length < sizeLine
      · rw [if_pos c] at e'
        cases e'
        obtain ⟨kvs, h1, h3, h4, h2⟩ := hn
        obtain ⟨b, rfl, hb⟩ := tk_val hk zk
        have hx := x1 (TDo X.T.wd ad (putN kvs qk b vy))
        obtain ⟨P3, L3⟩ := P.wr (x := .tdc (tputK qk k y ks ds).1 (tputK qk k y ks ds).2) hw ⟨_, hz⟩ hs (tput_ok upd_same h3 (Vls.mono hx _ _ h4) (Vls.mono hx _ _ h2) (Val.mono hx _ _ hk) zk (Val.mono hx _ _ hy))
        have l2 : kvs.length = ks.length := by have := congrArg List.length h3; simpa using this
        exact .inr ⟨ad, kvs, qk, b, rfl, h1, tk_all h3 h4, rfl, hb, by omega, q _ P3 L3⟩
      · rw [if_neg c] at e'; cases e'
  | _ => cases e
theorem swsub_ok {o i : Expr} {v : Value} {env : Env} (h : tame i = true) : assign (.Subscript o i pos) env v = (do
      let ov ← holding [v] (eval o env)
      let iv ← holding [v, ov] (eval i env)
      standAt pos
      holding [v, ov, iv] (setItem ov iv v)
      release [v, ov, iv] []) := by
  cases i <;> first | rfl | (simp [tame] at h; done)
theorem ss_sb {o i : Expr} {p : Pos} {e : Expr} {env : Env} : swappedStores [.Subscript o i p] e env = pure none := by unfold swappedStores; cases e <;> rfl
theorem rs_sets {i : Nat} {x : Str} (C : Cc X n fA fre cf sc Nm W Y) (hN : Y.N[i]? = some x) (hv : Vis Y.env.scope x) (hd : (x == ("__debug__" : Str)) = false) (hcd : (x == ("__classdict__" : Str)) = false) (ha : PE Y a (tE X W a')) (hj : PE Y b (tE X W j')) (ht : tame a = true) (htj : tame b = true) :
    PS Y (.Assign [.Subscript (.Name x p) b p2] a pos) (tS X W (.sets i j' a')) := by
  refine (ps_asg ha (pg_sub (pe_var hN hv hd hcd) hj (set_or (set_or set_list (set_dict C.hu)) (set_td C.hu9)) (fun v => swsub_ok htj)) (sw_sb ht) ss_sb).imp fun D σ H ⟨w, al, sg, P, h⟩ => ?_
  refine onD_ok P h fun y vy s1 w1 al1 H1 P1 L1 hy h1 => ?_
  cases z : peek s1 i with
  | none => simp only [z] at h1; exact (show False from h1).elim
  | some x0 =>
    simp only [z] at h1
    obtain ⟨v, e1, _⟩ := P1.peek z
    refine ⟨v, e1, onD_ok P1 h1 fun k vk s2 w2 al2 H2 P2 L2 hk h2 => ?_⟩
    cases z2 : s2.st[i]? with
    | none => rw [z2] at h2; exact (show False from h2).elim
    | some q2 =>
      cases q2 with
      | none => rw [z2] at h2; exact (show False from h2).elim
      | some r2 =>
        cases r2 with
        | d _ => rw [z2] at h2; exact (show False from h2).elim
        | m _ => rw [z2] at h2; exact (show False from h2).elim
        | o x =>
          simp only [z2] at h2
          cases z3 : setF x k y with
          | none => simp only [z3] at h2; exact (show False from h2).elim
          | some zz =>
            simp only [z3] at h2
            rw [C.wd]
            exact setF_ok P2 z2 e1 hk (Val.mono L2.2 _ _ hy) z3 _ fun H' P3 L3 => h2 _ _ _ _ P3 L3
theorem attPut_ok {T : Tb} (inj : ∀ i j, T.aN i = T.aN j → i = j) {k : Nat} {q : Rv} {y : V} (hy : Cv T w al H q y) : ∀ {ns : List Nat} {fs : List (Str × V)} {vs : List Rv}, fs.map (·.1) = ns.map T.aN → Cvs T w al H vs (fs.map (·.2)) →
    (putF (T.aN k) y fs).map (·.1) = (attPut k q ns vs).1.map T.aN ∧ Cvs T w al H (attPut k q ns vs).2 ((putF (T.aN k) y fs).map (·.2))
  | [], [], vs, _, h2 => by
    have : vs = [] := by
      cases vs with
      | nil => rfl
      | cons _ _ => obtain ⟨_, _, e, _⟩ := h2; cases e
    subst this
    exact ⟨rfl, y, [], rfl, hy, rfl⟩
  | [], _ :: _, _, e, _ => by cases e
  | _ :: _, [], _, e, _ => by cases e
  | i :: ns, (x, u) :: fs, [], _, h2 => by cases (show _ = [] from h2)
  | i :: ns, (x, u) :: fs, r :: vs, e1, ⟨v, t, e2, h1, h2⟩ => by
    simp only [List.map_cons, List.cons.injEq] at e1 e2
    obtain ⟨e1, e1'⟩ := e1
    obtain ⟨rfl, rfl⟩ := e2
    by_cases c : i = k
    · have : x = T.aN k := by rw [e1, c]
      simp only [attPut, if_pos c, putF, if_pos this]
      exact ⟨by simp only [List.map_cons, e1, e1'], y, _, rfl, hy, h2⟩
    · have : ¬ x = T.aN k := fun z => c (inj _ _ (e1.symm.trans z))
      simp only [attPut, if_neg c, putF, if_neg this]
      obtain ⟨g1, g2⟩ := attPut_ok inj hy e1' h2
      exact ⟨by simp only [List.map_cons, e1, g1], u, _, rfl, h1, g2⟩
theorem rs_seta {i k : Nat} {x f : Str} (C : Cc X n fA fre cf sc Nm W Y) (hf : X.T.aN k = f) (hN : Y.N[i]? = some x) (hv : Vis Y.env.scope x) (hd : (x == ("__debug__" : Str)) = false) (hcd : (x == ("__classdict__" : Str)) = false) (ha : PE Y a (tE X W a')) (ht : tame a = true) :
    PS Y (.Assign [.Attribute (.Name x p) f p2] a pos) (tS X W (.seta i k a')) := by
  subst hf
  refine (ps_fld (pe_var hN hv hd hcd) ha (sw_at ht)).imp fun D σ H ⟨w, al, sg, P, h⟩ => ?_
  refine onOut_ok P h fun r y s1 w1 al1 H1 P1 L1 hr h1 => ?_
  have hc : ∃ w2, Pt X σ s1 w2 al1 H1 ∧ Le w1 al1 H1 w2 al1 H1 ∧ Cv X.T w2 al1 H1 r.sh y := by
    cases r with
    | d x => exact ⟨w1, P1, Le.refl, hr⟩
    | m x => exact ⟨w1, P1, Le.refl, hr⟩
    | o x =>
      obtain ⟨w2, R2, E2, f2, hv2⟩ := P1.1.resD P1.2 hr (.inr rfl)
      exact ⟨w2, ⟨R2, f2⟩, ⟨AlX.refl, E2⟩, hv2⟩
  obtain ⟨w2, P2, L2, hy⟩ := hc
  have h1 := OkS.rebase h1 L2
  cases z : s1.st[i]? with
  | none => simp only [z] at h1; exact (show False from h1).elim
  | some q2 =>
    cases q2 with
    | none => simp only [z] at h1; exact (show False from h1).elim
    | some r2 =>
      cases r2 with
      | d _ => simp only [z] at h1; exact (show False from h1).elim
      | o _ => simp only [z] at h1; exact (show False from h1).elim
      | m m =>
        simp only [z] at h1
        obtain ⟨v, e1, ad, hal, rfl⟩ := P2.1.slots i _ z
        refine ⟨_, e1, ?_⟩
        cases z2 : s1.mu[m]? with
        | none => simp only [z2] at h1; exact (show False from h1).elim
        | some nd =>
          cases nd with
          | lst _ => simp only [z2] at h1; exact (show False from h1).elim
          | dct _ _ => simp only [z2] at h1; exact (show False from h1).elim
          | tdc _ _ => simp only [z2] at h1; exact (show False from h1).elim
          | obj c ns vs =>
            simp only [z2] at h1
            by_cases cl : (attOk X.G c k && decide (ns.length < 1000)) = true
            · rw [if_pos cl] at h1
              obtain ⟨c1, c2⟩ := Bool.and_eq_true_iff.mp cl
              obtain ⟨ad2, g1, g2, dx, fs, q1, q2, q3⟩ := P2.1.muts m _ z2
              rw [hal] at g1; cases g1
              unfold attOk at c1
              cases zc : X.G.cls[c]? with
              | none => rw [zc] at c1; cases c1
              | some kk =>
                rw [zc] at c1
                have hlen : fs.length < 1000 := by
                  have := congrArg List.length q2
                  simp only [List.length_map] at this
                  rw [this]; exact of_decide_eq_true c2
                rw [C.K]
                refine ⟨ad, _, dx, fs, rfl, q1, C.gf.cls c kk zc, C.gf.noat c kk k zc (by simpa using c1), hlen, ?_⟩
                obtain ⟨p1, p2⟩ := attPut_ok C.gf.inj hy q2 q3
                have x1 : Ext w2 H1 w2 (upd H1 ad (.ins (X.T.cA c) dx (putF (X.T.aN k) y fs))) := Ext.of fun b oo hb z0 => ⟨hb, upd_ne fun z => by rw [z, g2] at hb; cases hb; rcases z0 with z0 | z0 <;> cases z0⟩
                obtain ⟨P3, L3⟩ := P2.wrM (d := .obj c (attPut k r.sh ns vs).1 (attPut k r.sh ns vs).2) g2 z2 hal ⟨dx, _, upd_same, p1, p2.mono x1 AlX.refl⟩
                exact h1 _ _ _ _ P3 L3
            · rw [if_neg cl] at h1; exact (show False from h1).elim
end
end Mp
namespace Mp
open PySem L2
section
variable {X : Fx} {n : Nat} {fA : Nat → Addr} {fre : List Str} {cf : Str → Bool} {sc : Scope} {Nm : List Str} {W : WX} {Y : Cx} {pos apos p p2 p3 : Pos} {a b c e tg : Expr} {a' b' c' j' : E} {es : List Expr} {es' : E} {σ : St} {Q : VK} {H H1 : Hp} {w w1 : Wt} {al al1 : List Addr} {sg : Sg} {D : Ends} {st : Stmt} {sts : List Stmt} {u v u1 u2 : S}
theorem Pt.alloc {x : Mp.D} {nd : Nd} {y : V} (P : Pt X σ sg w al H) (h : Res X.T w al H .res (.o x) y) (e : ndOf x = some nd) : ∃ ad w', y = .ref ad ∧ Pt X σ { sg with mu := sg.mu ++ [nd] } w' (al ++ [ad]) H ∧ Le w al H w' (al ++ [ad]) H ∧ Cv X.T w' (al ++ [ad]) H (.m sg.mu.length) (.ref ad) := by
  obtain ⟨ad, rfl, hw, hn⟩ := h
  have k : ∀ b q, w b = some q → q ≠ .res → setW w ad (.mut sg.mu.length) b = some q := fun b q h n => by
    have ne : b ≠ ad := fun z => by rw [z, hw] at h; exact n (Option.some.inj h).symm
    rw [setW_ne ne]; exact h
  have x1 : Ext w H (setW w ad (.mut sg.mu.length)) H := Ext.of fun b oo h z0 => ⟨k b _ h (by rcases z0 with rfl | rfl <;> decide), rfl⟩
  have ax : AlX al (al ++ [ad]) := ⟨[ad], rfl⟩
  have hl := P.1.alen
  have at_ : (al ++ [ad])[sg.mu.length]? = some ad := by rw [← hl]; simp
  have nn : NdM X.T (setW w ad (.mut sg.mu.length)) (al ++ [ad]) H ad nd := by
    cases x with
    | lst xs =>
      cases e
      obtain ⟨us, h1, h2⟩ := hn
      exact ⟨us, h1, Vls.isCvs (Vls.mono x1 _ _ h2)⟩
    | dct ks ds =>
      cases e
      obtain ⟨kvs, h1, h3, h2⟩ := hn
      exact ⟨kvs, h1, h3, Vls.isCvs (Vls.mono x1 _ _ h2)⟩
    | tdc ks ds =>
      cases e
      obtain ⟨kvs, h1, h3, h4, h2⟩ := hn
      exact ⟨kvs, h1, h3, Vls.mono x1 _ _ h4, Vls.isCvs (Vls.mono x1 _ _ h2)⟩
    | _ => cases e
  refine ⟨ad, setW w ad (.mut sg.mu.length), rfl, ⟨⟨fun j r ej => ?_, fun m d ed => ?_, fun b q hb => ?_, P.1.len, by simp [hl]⟩, P.2.setW hw⟩, ⟨ax, x1⟩, ad, at_, rfl⟩
  · obtain ⟨v, g1, g2⟩ := P.1.slots j r ej
    exact ⟨v, g1, g2.mono x1 ax fun b hb => ⟨k b _ hb (by intro z; cases z), rfl⟩⟩
  · have ed : (sg.mu ++ [nd])[m]? = some d := ed
    by_cases c : m < sg.mu.length
    · rw [List.getElem?_append_left c] at ed
      obtain ⟨b, g1, g2, g3⟩ := P.1.muts m d ed
      exact ⟨b, ax.get g1, k b _ g2 (by intro z; cases z), g3.mono x1 ax rfl⟩
    · have em : m = sg.mu.length := by
        have := (List.getElem?_eq_some_iff.mp ed).1
        simp at this; omega
      subst em
      simp at ed
      subst ed
      exact ⟨ad, at_, setW_same, nn⟩
  · by_cases c : b = ad
    · subst c; exact P.1.trk b _ hw
    · rw [setW_ne c] at hb; exact P.1.trk b q hb
theorem rs_setam {i k : Nat} {x f : Str} (C : Cc X n fA fre cf sc Nm W Y) (hf : X.T.aN k = f) (hN : Y.N[i]? = some x) (hv : Vis Y.env.scope x) (hd : (x == ("__debug__" : Str)) = false) (hcd : (x == ("__classdict__" : Str)) = false) (ha : PE Y a (tE X W a')) (ht : tame a = true) :
    PS Y (.Assign [.Attribute (.Name x p) f p2] a pos) (tS X W (.setam i k a')) := by
  subst hf
  refine (ps_fld (pe_var hN hv hd hcd) ha (sw_at ht)).imp fun D σ H ⟨w, al, sg, P, h⟩ => ?_
  refine onOut_ok P h fun r y s1 w1 al1 H1 P1 L1 hr h1 => ?_
  cases z : s1.st[i]? with
  | none => simp only [z] at h1; exact (show False from h1).elim
  | some q2 =>
    cases q2 with
    | none => simp only [z] at h1; exact (show False from h1).elim
    | some r2 =>
      cases r2 with
      | d _ => simp only [z] at h1; exact (show False from h1).elim
      | o _ => simp only [z] at h1; exact (show False from h1).elim
      | m m =>
        cases r with
        | d _ => simp only [z] at h1; exact (show False from h1).elim
        | m _ => simp only [z] at h1; exact (show False from h1).elim
        | o xo =>
          simp only [z] at h1
          cases z2 : s1.mu[m]? with
          | none => simp only [z2] at h1; exact (show False from h1).elim
          | some nd =>
            cases nd with
            | lst _ => simp only [z2] at h1; exact (show False from h1).elim
            | dct _ _ => simp only [z2] at h1; exact (show False from h1).elim
            | tdc _ _ => simp only [z2] at h1; exact (show False from h1).elim
            | obj c ns vs =>
              cases z3 : ndOf xo with
              | none => simp only [z2, z3] at h1; exact (show False from h1).elim
              | some nd =>
                simp only [z2, z3] at h1
                by_cases cl : (attOk X.G c k && decide (ns.length < 1000)) = true
                · rw [if_pos cl] at h1
                  obtain ⟨c1, c2⟩ := Bool.and_eq_true_iff.mp cl
                  obtain ⟨ad0, w2, rfl, P2, L2, hy⟩ := P1.alloc hr z3
                  have h1 := OkS.rebase h1 L2
                  obtain ⟨v, e1, ad, hal, rfl⟩ := P2.1.slots i _ z
                  refine ⟨_, e1, ?_⟩
                  have hm : m < s1.mu.length := (List.getElem?_eq_some_iff.mp z2).1
                  have z2' : (s1.mu ++ [nd])[m]? = some (.obj c ns vs) := by rw [List.getElem?_append_left hm]; exact z2
                  obtain ⟨ad2, g1, g2, dx, fs, q1, q2, q3⟩ := P2.1.muts m _ z2'
                  rw [hal] at g1; cases g1
                  unfold attOk at c1
                  cases zc : X.G.cls[c]? with
                  | none => rw [zc] at c1; cases c1
                  | some kk =>
                    rw [zc] at c1
                    have hlen : fs.length < 1000 := by
                      have := congrArg List.length q2
                      simp only [List.length_map] at this
                      rw [this]; exact of_decide_eq_true c2
                    rw [C.K]
                    refine ⟨ad, _, dx, fs, rfl, q1, C.gf.cls c kk zc, C.gf.noat c kk k zc (by simpa using c1), hlen, ?_⟩
                    obtain ⟨p1, p2⟩ := attPut_ok C.gf.inj hy q2 q3
                    have x1 : Ext w2 H1 w2 (upd H1 ad (.ins (X.T.cA c) dx (putF (X.T.aN k) (.ref ad0) fs))) := Ext.of fun b oo hb z0 => ⟨hb, upd_ne fun z => by rw [z, g2] at hb; cases hb; rcases z0 with z0 | z0 <;> cases z0⟩
                    obtain ⟨P3, L3⟩ := P2.wrM (d := .obj c (attPut k (.m s1.mu.length) ns vs).1 (attPut k (.m s1.mu.length) ns vs).2) g2 z2' hal ⟨dx, _, upd_same, p1, p2.mono x1 AlX.refl⟩
                    have eset : (s1.mu ++ [nd]).set m (.obj c (attPut k (.m s1.mu.length) ns vs).1 (attPut k (.m s1.mu.length) ns vs).2) = s1.mu.set m (.obj c (attPut k (.m s1.mu.length) ns vs).1 (attPut k (.m s1.mu.length) ns vs).2) ++ [nd] := List.set_append_left _ _ hm
                    have P3' := P3
                    simp only [eset] at P3'
                    exact h1 _ _ _ _ P3' L3
                · rw [if_neg cl] at h1; exact (show False from h1).elim
end
end Mp
namespace Mp
open PySem L2
section
variable {X : Fx} {n : Nat} {fA : Nat → Addr} {fre : List Str} {cf : Str → Bool} {sc : Scope} {Nm : List Str} {W : WX} {Y : Cx} {pos apos p p2 p3 : Pos} {a b c e tgE : Expr} {a' b' c' e' : E} {es : List Expr} {es' : E} {σ : St} {Q : VK} {H H1 H2 H' : Hp} {w w1 w2 w' : Wt} {al : List Addr} {sg : Sg} {F : List Rv → Sg → Wt → List Addr → Hp → Prop}
def lntW (w : Wt) : Wt := fun a => match w a with
  | some .frz => some .frz
  | some .lnt => some .lnt
  | some (.slot _) => some .lnt
  | some (.mut _) => some .lnt
  | _ => none
theorem lntW_frz {a : Addr} (h : w a = some .frz) : lntW w a = some .frz := by unfold lntW; rw [h]
theorem lntW_own {a : Addr} {o : Ow} (h : w a = some o) (n : o ≠ .frz) (n2 : o ≠ .res) : lntW w a = some .lnt := by
  unfold lntW; rw [h]; cases o <;> first | rfl | exact absurd rfl n | exact absurd rfl n2
theorem lntW_some {a : Addr} {o : Ow} (h : lntW w a = some o) : (∃ q, w a = some q) ∧ (o = .frz ∨ o = .lnt) := by
  unfold lntW at h
  cases e : w a with
  | none => rw [e] at h; cases h
  | some q => rw [e] at h; cases q <;> first | (cases h; done) | (cases h; exact ⟨⟨_, rfl⟩, .inl rfl⟩) | (cases h; exact ⟨⟨_, rfl⟩, .inr rfl⟩)
theorem lntW_nf {a : Addr} (h : w a ≠ some .frz) : lntW w a = some .lnt ∨ lntW w a = none := by
  unfold lntW
  cases e : w a with
  | none => exact .inr rfl
  | some q => cases q <;> first | exact absurd e h | exact .inl rfl | exact .inr rfl
theorem lntW_ext : Ext w H (lntW w) H := ⟨fun a h => ⟨lntW_frz h, rfl⟩, fun a h => ⟨lntW_own h (by decide) (by decide), rfl⟩⟩
mutual
theorem Val.noL {T : Tb} (h : ∀ a, w a = some .frz → w' a = some .frz) : ∀ (d : D) (v : V), Mp.noL d = true → Val T w H d v → Val T w' H d v
  | .non, _, _, x => x
  | .bl _, _, _, x => x
  | .int _, _, _, x => x
  | .str _, _, _, x => x
  | .tup xs, _, e, ⟨a, vs, e0, h1, h2, h3⟩ => ⟨a, vs, e0, h a h1, h2, Vls.noL h xs vs (by simpa only [Mp.noL] using e) h3⟩
  | .lst xs, _, e, ⟨a, vs, e0, h1, h2, h3⟩ => ⟨a, vs, e0, h a h1, h2, Vls.noL h xs vs (by simpa only [Mp.noL] using e) h3⟩
  | .rl xs, _, e, _ => by simp [Mp.noL] at e
  | .scr ns, _, _, ⟨a, e, h2⟩ => ⟨a, e, h2.imp (fun ⟨h1, h2⟩ => ⟨h a h1, h2⟩) id⟩
  | .dct ks ds, _, e, ⟨a, kvs, e0, h1, h2, h4, h3⟩ => ⟨a, kvs, e0, h a h1, h2, h4, Vls.noL h ds _ (by simpa only [Mp.noL] using e) h3⟩
  | .obj c ns ds, _, e, ⟨a, dx, fs, e0, h1, h2, h4, h3⟩ => ⟨a, dx, fs, e0, h a h1, h2, h4, Vls.noL h ds _ (by simpa only [Mp.noL] using e) h3⟩
theorem Vls.noL {T : Tb} (h : ∀ a, w a = some .frz → w' a = some .frz) : ∀ (ds : List D) (vs : List V), Mp.noLs ds = true → Vls T w H ds vs → Vls T w' H ds vs
  | [], _, _, x => x
  | x :: xs, _, e, ⟨v, r, e0, h1, h2⟩ => by
    simp only [Mp.noLs, Bool.and_eq_true] at e
    exact ⟨v, r, e0, Val.noL h x v e.1 h1, Vls.noL h xs r e.2 h2⟩
end
theorem lnM_ok (P : Pt X σ sg w al H) : ∀ (k : Nat) (r : Rv) (x : Mp.D) (v : V), lnM sg.mu k r = some x → Cv X.T w al H r v → Val X.T (lntW w) H x v
  | k, .d y, x, v, e, h => by
    have : y = x := by cases k <;> (simp only [lnM] at e; exact Option.some.inj e)
    subst this
    exact Val.mono lntW_ext _ _ h
  | k, .o y, x, v, e, h => h.elim
  | 0, .m n, x, v, e, h => by simp [lnM] at e
  | k + 1, .m n, x, v, e, ⟨a, ha, hv⟩ => by
    subst hv
    simp only [lnM] at e
    cases z : sg.mu[n]? with
    | none => rw [z] at e; cases e
    | some d =>
      rw [z] at e
      obtain ⟨b, hb, hwb, hd⟩ := P.1.muts n d z
      rw [ha] at hb; cases hb
      cases d with
      | lst xs =>
        simp only [Option.map_eq_some_iff] at e
        obtain ⟨ys, e1, rfl⟩ := e
        obtain ⟨vs, g1, g2⟩ := hd
        exact ⟨a, vs, rfl, lntW_own hwb (by intro z; cases z) (by intro z; cases z), g1, dfzs_ok (lnM_ok P k) xs ys vs e1 g2⟩
      | _ => cases e
theorem resL_ok (P : Pt X σ sg w al H) : ∀ {rs : List Rv} {ds : List Mp.D} {vs : List V}, resL sg rs = some ds → Cbs X.T σ w H rs vs → Vls X.T (lntW w) H ds vs
  | [], ds, vs, e, h => by cases e; exact h
  | .d x :: r, ds, vs, e, ⟨v, t, e1, h1, h2⟩ => by
    simp only [resL, Option.map_eq_some_iff] at e
    obtain ⟨q, g1, rfl⟩ := e
    exact ⟨v, t, e1, Val.mono lntW_ext _ _ h1, resL_ok P g1 h2⟩
  | .m i :: r, ds, vs, e, ⟨v, t, e1, h1, h2⟩ => by
    simp only [resL] at e
    cases y : sg.st[i]? with
    | none => rw [y] at e; cases e
    | some o =>
      cases o with
      | none => rw [y] at e; cases e
      | some r0 =>
        obtain ⟨v2, e2, hr⟩ := P.1.slots i r0 y
        rw [h1] at e2; cases e2
        cases r0 with
        | d x0 =>
          rw [y] at e
          simp only [Option.map_eq_some_iff] at e
          obtain ⟨q, g1, rfl⟩ := e
          exact ⟨v, t, e1, Val.mono lntW_ext _ _ hr, resL_ok P g1 h2⟩
        | o x0 =>
          rw [y] at e
          cases x0 with
          | lst xs =>
            simp only [Option.map_eq_some_iff] at e
            obtain ⟨q, g1, rfl⟩ := e
            obtain ⟨ad, rfl, hw, us, k1, k2⟩ := hr
            exact ⟨_, t, e1, ⟨ad, us, rfl, lntW_own hw (by intro z; cases z) (by intro z; cases z), k1, Vls.mono lntW_ext _ _ k2⟩, resL_ok P g1 h2⟩
          | _ => cases e
        | m x0 =>
          rw [y] at e
          simp only at e
          cases z : lnM sg.mu 4 (.m x0) with
          | none => rw [z] at e; cases e
          | some x =>
            rw [z] at e
            simp only [Option.map_eq_some_iff] at e
            obtain ⟨q, g1, rfl⟩ := e
            exact ⟨v, t, e1, lnM_ok P 4 _ x v z hr, resL_ok P g1 h2⟩
  | .o _ :: _, _, _, _, h => h.elim
def cvB : Ow → Option Ow := fun o => match o with
  | .frz => some .frz
  | .mut _ => some .frz
  | _ => none
def mrgL (H : Hp) (w w' : Wt) : Wt := fun a => if (H a).isSome = true ∧ w a ≠ some .frz then w a else (w' a).bind cvB
theorem rd_newb {c : Nat} {F : Fn} {k : Cl} {ds : List Mp.D} {vs : List V} (P : Pt X σ sg w al H) (hk : X.G.cls[c]? = some k) (hF : X.G.fns[k.ini]? = some F) (hv : Vls X.T (lntW w) H ds vs) (h : OkG X W σ w al H (FE X Q) (newB X.G X.rc c ds sg)) {x dx : Addr} (hx : H x = none) (hd : H dx = none) (ne : dx ≠ x) :
    spG X.T X.rc F.ps.length k.ini (.ref x :: vs) (upd (upd H dx (.own x)) x (.ins (X.T.cA c) dx [])) (fun v H2 => v = .non ∧ Q (.ref x) H2) (WE W σ) := by
  unfold newB at h
  rw [hk] at h
  simp only [arOk, hF] at h
  by_cases hl : ds.length + 1 = F.ps.length
  case neg => rw [decide_eq_false hl] at h; exact (show False from h).elim
  rw [decide_eq_true hl] at h
  have nx : w x = none := P.1.free hx
  have old : ∀ a u, H a = some u → upd (upd H dx (.own x)) x (.ins (X.T.cA c) dx []) a = some u := fun a u z => by
    rw [upd_ne (ne_of_none z hx), upd_ne (ne_of_none z hd)]; exact z
  have wold : ∀ a, a ≠ x → setW (lntW w) x (.mut 0) a = lntW w a := fun a n => setW_ne n
  have trkL : ∀ a o, lntW w a = some o → ∃ u, H a = some u := fun a o z => by
    obtain ⟨⟨q, hq⟩, _⟩ := lntW_some z
    exact P.1.trk a q hq
  have x0 : Ext (lntW w) H (setW (lntW w) x (.mut 0)) (upd (upd H dx (.own x)) x (.ins (X.T.cA c) dx [])) := Ext.of fun a oo z _ => by
    obtain ⟨u, hu⟩ := trkL a _ z
    have n : a ≠ x := ne_of_none hu hx
    exact ⟨by rw [wold a n]; exact z, (old a u hu).trans hu.symm⟩
  refine ⟨setW (lntW w) x (.mut 0), [x], [.obj c [] []], .m 0 :: ds.map .d, ⟨_, _, rfl, ⟨x, rfl, rfl⟩, Vls.isCvs (hv.mono x0)⟩, ⟨rfl, fun n d e => ?_⟩, fun a o z => ?_, fun a o z => ?_, by simpa using hl, ?_⟩
  · match n, e with
    | 0, e =>
      cases e
      exact ⟨x, rfl, setW_same, dx, [], upd_same, rfl, rfl⟩
    | n + 1, e => simp at e
  · by_cases n : a = x
    · subst n; rw [setW_same] at z; exact .inr (.inr ⟨0, (Option.some.inj z).symm⟩)
    · rw [wold a n] at z; exact (lntW_some z).2.imp id .inl
  · by_cases n : a = x
    · subst n; exact ⟨_, upd_same⟩
    · rw [wold a n] at z
      obtain ⟨u, hu⟩ := trkL a o z
      exact ⟨u, old a u hu⟩
  · cases e : X.rc k.ini (.m 0 :: ds.map .d) [.obj c [] []] with
    | stuck => rw [e] at h; exact h
    | exc cc fs mu => rw [e] at h; exact (show False from h).elim
    | ok r mu =>
      rw [e] at h
      intro v w' al' H' mr ax x' f' t' hr
      have xl := x0.trans x'
      have frc : ∀ a u, H a = some u → lntW w a = none → w' a = none ∧ H' a = some u := fun a u z n => by
        refine f' a u (old a u z) ?_
        rw [wold a (ne_of_none z hx)]
        exact n
      have same : ∀ a o, w a = some o → H' a = H a := fun a o z => by
        by_cases c1 : o = .frz
        · subst c1; exact (xl a (lntW_frz z)).2
        · by_cases c2 : o = .res
          · subst c2
            obtain ⟨u, hu⟩ := P.1.trk a _ z
            exact (frc a u hu (by unfold lntW; rw [z])).2.trans hu.symm
          · exact (xl.l a (lntW_own z c1 c2)).2
      have own : ∀ a o, w a = some o → o ≠ .frz → mrgL H w w' a = some o := fun a o z n => by
        obtain ⟨u, hu⟩ := P.1.trk a _ z
        unfold mrgL
        rw [if_pos ⟨by rw [hu]; rfl, by rw [z]; intro q; exact n (Option.some.inj q)⟩]
        exact z
      have xx : Ext w H (mrgL H w w') H' := ⟨fun a z => ⟨by
        unfold mrgL
        rw [if_neg (fun q => q.2 z), (xl a (lntW_frz z)).1] <;> rfl, same a _ z⟩, fun a z => ⟨own a _ z (by decide), same a _ z⟩⟩
      have P2 : Pt X σ sg (mrgL H w w') al H' := by
        refine ⟨P.1.keep AlX.refl xx (fun a i q => ⟨own a _ q (by intro z; cases z), same a _ q⟩) (fun a i q => ⟨own a _ q (by intro z; cases z), same a _ q⟩) fun a o q => ?_, fun a u h1 h2 => ?_⟩
        · unfold mrgL at q
          split at q
          · obtain ⟨u, hu⟩ := P.1.trk a o q
            exact ⟨u, (same a o q).trans hu⟩
          · cases z : w' a with
            | none => rw [z] at q; cases q
            | some o' => exact t' a o' z
        · obtain ⟨g1, g2⟩ := P.2 a u h1 h2
          refine ⟨?_, (frc a u g2 (by unfold lntW; rw [g1])).2⟩
          unfold mrgL
          rw [if_pos ⟨by rw [g2]; rfl, by rw [g1]; intro q; cases q⟩]
          exact g1
      match r, h, hr with
      | .d .non, h, ⟨ow, _, hr⟩ =>
        cases (show v = V.non from hr)
        refine ⟨rfl, ?_⟩
        simp only at h
        cases z : dfz mu 8 (.m 0) with
        | none => rw [z] at h; exact (show False from h).elim
        | some y =>
          rw [z] at h
          simp only at h
          by_cases hn : Mp.noL y = true
          · rw [if_pos hn] at h
            refine h _ al H' P2 ⟨AlX.refl, xx⟩ _ ?_
            have hy : Val X.T (fun a => (w' a).bind cvN) H' y (.ref x) := dfz_ok _ mr (fun a q => by rcases q with q | ⟨n, q⟩ <;> (show (w' a).bind cvN = _; rw [q]; rfl)) (fun a q => by show (w' a).bind cvN = _; rw [q]; rfl) 8 (.m 0) y (.ref x) z ⟨x, ax.get rfl, rfl⟩
            refine Val.noL (fun a q => ?_) y _ hn hy
            have q' : w' a = some .frz ∨ ∃ n, w' a = some (.mut n) := by
              have q : (w' a).bind cvN = some .frz := q
              cases e2 : w' a with
              | none => rw [e2] at q; cases q
              | some o => rw [e2] at q; cases o <;> first | exact .inl rfl | exact .inr ⟨_, rfl⟩ | cases q
            unfold mrgL
            have hc : ¬ ((H a).isSome = true ∧ w a ≠ some .frz) := by
              rintro ⟨c1, c2⟩
              obtain ⟨u, hu⟩ := Option.isSome_iff_exists.mp c1
              rcases lntW_nf c2 with g | g
              · have := (xl.l a g).1
                rcases q' with q' | ⟨n, q'⟩ <;> rw [q'] at this <;> cases this
              · have := (frc a u hu g).1
                rcases q' with q' | ⟨n, q'⟩ <;> rw [q'] at this <;> cases this
            rw [if_neg hc]
            rcases q' with q' | ⟨n, q'⟩ <;> rw [q'] <;> rfl
          · rw [if_neg hn] at h; exact (show False from h).elim
      | .d (.bl _), h, _ => exact (show False from h).elim
      | .d (.int _), h, _ => exact (show False from h).elim
      | .d (.str _), h, _ => exact (show False from h).elim
      | .d (.tup _), h, _ => exact (show False from h).elim
      | .d (.lst _), h, _ => exact (show False from h).elim
      | .d (.dct _ _), h, _ => exact (show False from h).elim
      | .d (.obj _ _ _), h, _ => exact (show False from h).elim
      | .d (.scr _), h, _ => exact (show False from h).elim
      | .d (.rl _), h, _ => exact (show False from h).elim
      | .d (.xc _ _), h, _ => exact (show False from h).elim
      | .d (.tdc _ _), h, _ => exact (show False from h).elim
      | .o _, h, _ => exact (show False from h).elim
      | .m _, h, _ => exact (show False from h).elim
theorem re_newb {c : Nat} {k : Cl} (C : Cc X n fA fre cf sc Nm W Y) (hk : X.G.cls[c]? = some k) (hs : sc.names.lookup k.nm = some .globalImplicit) (hd : (k.nm == ("__debug__" : Str)) = false) (ha : PA Y (e :: es) (tAb X W es')) (ht : (e :: es).all tame = true) :
    PE Y (.Call (.Name k.nm p) (e :: es) [] pos) (tE X W (.newb c es')) := by
  obtain ⟨M, ⟨F, hF⟩, hm⟩ := C.gf.mks c k hk
  obtain ⟨fd, ok, hb, kp⟩ := C.gf.fns _ F hF
  rw [← C.K] at ok hb M
  have hg := C.gl hs
  have hr : Room (2 * n + 3) Y.A := C.room
  simp only [List.all_cons, Bool.and_eq_true] at ht
  refine (pe_makeV M ok hr hg hm hb C.tk ha hd (star_ok ht.1) (plain_ok ht.2)).imp fun σ H Q ⟨w, al, sg, P, h⟩ => ⟨w, al, sg, P, ?_⟩
  simp only [ev] at h
  cases e : ev X.G X.rc es' sg with
  | stuck => rw [e] at h; exact h
  | exc c fs s => rw [e] at h; exact h
  | ok rs s =>
    rw [e] at h
    intro w' al' H' P' L' vs hv x dx hx hdx ne
    have h := OkG.rebase h L'
    simp only [Out.bind] at h
    cases z : resL s rs with
    | none => rw [z] at h; exact (show False from h).elim
    | some ds =>
      rw [z] at h
      exact rd_newb P' hk hF (resL_ok P' z hv) h hx hdx ne
theorem rd_bmsC {i : Nat} (h : tE X W (.bms .clear i .nil) σ H Q) : tBM0 X.T.K "list" rClear (tVar i) σ H Q := by
  obtain ⟨w, al, sg, P, h⟩ := h
  simp only [ev, manyD, Out.bind, getDs] at h
  cases z : sg.st[i]? with
  | none => rw [z] at h; exact (show False from h).elim
  | some q =>
    cases q with
    | none => rw [z] at h; exact (show False from h).elim
    | some r =>
      cases r with
      | d _ => rw [z] at h; exact (show False from h).elim
      | m _ => rw [z] at h; exact (show False from h).elim
      | o x =>
        cases x with
        | lst xs =>
          simp only [z, bmF] at h
          obtain ⟨v, e1, ad, rfl, h3, us, h4, h5⟩ := P.1.slots i _ z
          refine ⟨_, e1, Sn.tyL h4, ad, us, rfl, rfl, h4, ?_⟩
          obtain ⟨P3, L3⟩ := P.wr (x := .lst []) (o := .lst []) h3 ⟨_, z⟩ e1 ⟨[], upd_same, rfl⟩
          exact h _ _ _ P3 L3 V.non rfl
        | _ => simp only [z] at h; exact (show False from h).elim
theorem re_bmsC {i : Nat} {x : Str} (C : Cc X n fA fre cf sc Nm W Y) (hN : Y.N[i]? = some x) (hv : Vis Y.env.scope x) (hd : (x == ("__debug__" : Str)) = false) (hcd : (x == ("__classdict__" : Str)) = false) (hsu : notSup (.Name x p) = true) (hl : (apos.endLine == pos.line) = true) :
    PE Y (.Call (.Attribute (.Name x p) "clear" apos) [] [] pos) (tE X W (.bms .clear i .nil)) := by
  refine (pe_bm0 PySem.F.plainAttrs_list PySem.F.slot_list_clear PySem.F.type_list_clear mt_clear (pe_var hN hv hd hcd) (ab_ok hsu) hl).imp fun σ H Q h => ?_
  rw [C.K]
  exact rd_bmsC h
theorem rd_bmC (h : tE X W (.bm .clear a' .nil) σ H Q) : tBM0 X.T.K "list" rClear (tE X W a') σ H Q := by
  obtain ⟨w, al, sg, P, h⟩ := h
  refine one_r P h fun r v s1 w1 al1 H1 P1 L1 hv h1 => ?_
  cases r with
  | d _ => exact (show False from h1).elim
  | o _ => exact (show False from h1).elim
  | m k =>
    simp only [ev, manyD, Out.bind, getDs] at h1
    obtain ⟨ad, ha, rfl⟩ := hv
    cases z : s1.mu[k]? with
    | none => rw [z] at h1; exact (show False from h1).elim
    | some d =>
      cases d with
      | dct _ _ => rw [z] at h1; exact (show False from h1).elim
      | tdc _ _ => rw [z] at h1; exact (show False from h1).elim
      | obj _ _ _ => rw [z] at h1; exact (show False from h1).elim
      | lst xs =>
        simp only [z] at h1
        obtain ⟨ad0, g1, g2, us, g3, g4⟩ := P1.1.muts k _ z
        rw [ha] at g1; cases g1
        refine ⟨Sn.tyL g3, ad, us, rfl, rfl, g3, ?_⟩
        obtain ⟨P3, L3⟩ := P1.wrM (d := .lst []) (o := .lst []) g2 z ha ⟨[], upd_same, rfl⟩
        exact h1 _ _ _ P3 L3 V.non rfl
theorem re_bmC (C : Cc X n fA fre cf sc Nm W Y) (ho : PE Y a (tE X W a')) (hsu : notSup a = true) (hl : (apos.endLine == pos.line) = true) :
    PE Y (.Call (.Attribute a "clear" apos) [] [] pos) (tE X W (.bm .clear a' .nil)) := by
  refine (pe_bm0 PySem.F.plainAttrs_list PySem.F.slot_list_clear PySem.F.type_list_clear mt_clear ho (ab_ok hsu) hl).imp fun σ H Q h => ?_
  rw [C.K]
  exact rd_bmC h
theorem re_dd {k : Int} {j jv : Nat} {pk pv : Pos} {v : Const} {v' : E} (hv : (∃ i, v = .int i ∧ v' = .int i) ∨ ∃ b, v = .bool b ∧ v' = .bl b) : PE Y (.Dict [some (.Constant (.int k) j pk)] [.Constant v jv pv] pos) (tE X W (.dd k v')) := by
  have go : ∀ (u : V) (d : Mp.D), PE Y (.Constant v jv pv) (tC u) → (∀ s, ev X.G X.rc (.dd k v') s = .ok [.o (.dct [.int k] [d])] s) → (∀ T w H, Val T w H d u) → PE Y (.Dict [some (.Constant (.int k) j pk)] [.Constant v jv pv] pos) (tE X W (.dd k v')) := fun u d hp he hd =>
    (pe_disp (pps_cons pe_int hp pps_nil) rfl rfl (by simp) (by simp)).imp fun σ H Q ⟨w, al, sg, P, h⟩ q hq => by
      rw [he] at h
      refine ⟨upd_same, [(.inl k, u)], rfl, by simp, ?_⟩
      have e2 : upd (upd H q (.dK [])) q (.dK (mergeK [] [(.inl k, u)])) = upd H q (.dK [(.inl k, u)]) := by
        funext b
        by_cases c : b = q
        · subst c; rw [upd_same, upd_same]; rfl
        · rw [upd_ne c, upd_ne c, upd_ne c]
      rw [e2]
      exact fin_o P h hq ⟨[(.inl k, u)], upd_same, rfl, u, [], rfl, hd _ _ _, rfl⟩
  rcases hv with ⟨i, rfl, rfl⟩ | ⟨i, rfl, rfl⟩
  · exact go (.int i) (.int i) pe_int (fun _ => rfl) fun _ _ _ => rfl
  · exact go (.bl i) (.bl i) pe_bl (fun _ => rfl) fun _ _ _ => rfl
end
end Mp
namespace Mp
open PySem L2
section
variable {X : Fx} {n : Nat} {fA : Nat → Addr} {fre : List Str} {cf : Str → Bool} {sc : Scope} {Nm : List Str} {W : WX} {Y : Cx} {pos apos p p2 p3 : Pos} {a b c e tgE : Expr} {a' b' c' e' : E} {es : List Expr} {es' : E} {σ : St} {Q : VK} {H H1 H2 H' : Hp} {w w1 w2 w' : Wt} {al : List Addr} {sg : Sg} {F : List Rv → Sg → Wt → List Addr → Hp → Prop} {D : Ends} {u : S} {tg : Expr}
theorem Pt.pushM {rs : List Rv} {vs : List V} {ad : Addr} (P : Pt X σ sg w al H) (hw : w ad = none ∨ w ad = some .res) (hp : H ad = some (.lst vs)) (hX : X.H0 ad = none ∨ X.w0 ad ≠ none) (hc : Cvs X.T w al H rs vs) :
    Pt X σ { sg with mu := sg.mu ++ [.lst rs] } (setW w ad (.mut sg.mu.length)) (al ++ [ad]) H ∧ Le w al H (setW w ad (.mut sg.mu.length)) (al ++ [ad]) H := by
  have ne : ∀ b q, w b = some q → q ≠ .res → b ≠ ad := fun b q h n z => by
    subst z
    rcases hw with g | g <;> rw [h] at g
    · cases g
    · exact n (Option.some.inj g)
  have k : ∀ b q, w b = some q → q ≠ .res → setW w ad (.mut sg.mu.length) b = some q := fun b q h n => by rw [setW_ne (ne b q h n)]; exact h
  have x1 : Ext w H (setW w ad (.mut sg.mu.length)) H := Ext.of fun b oo h z0 => ⟨k b _ h (by rcases z0 with rfl | rfl <;> decide), rfl⟩
  have ax : AlX al (al ++ [ad]) := ⟨[ad], rfl⟩
  have hl := P.1.alen
  have at_ : (al ++ [ad])[sg.mu.length]? = some ad := by rw [← hl]; simp
  refine ⟨⟨⟨fun j r ej => ?_, fun m d ed => ?_, fun b q hb => ?_, P.1.len, by simp [hl]⟩, fun b u h1 h2 => ?_⟩, ⟨ax, x1⟩⟩
  · obtain ⟨v, g1, g2⟩ := P.1.slots j r ej
    exact ⟨v, g1, g2.mono x1 ax fun b hb => ⟨k b _ hb (by intro z; cases z), rfl⟩⟩
  · have ed : (sg.mu ++ [.lst rs])[m]? = some d := ed
    by_cases c : m < sg.mu.length
    · rw [List.getElem?_append_left c] at ed
      obtain ⟨b, g1, g2, g3⟩ := P.1.muts m d ed
      exact ⟨b, ax.get g1, k b _ g2 (by intro z; cases z), g3.mono x1 ax rfl⟩
    · have em : m = sg.mu.length := by
        have := (List.getElem?_eq_some_iff.mp ed).1
        simp at this; omega
      subst em
      simp at ed
      subst ed
      exact ⟨ad, at_, setW_same, vs, hp, hc.mono x1 ax⟩
  · by_cases c : b = ad
    · subst c; exact ⟨_, hp⟩
    · rw [setW_ne c] at hb; exact P.1.trk b q hb
  · obtain ⟨g1, g2⟩ := P.2 b u h1 h2
    have nb : b ≠ ad := fun z => by
      subst z
      rcases hX with g | g
      · rw [g] at h1; cases h1
      · exact g h2
    exact ⟨by rw [setW_ne nb]; exact g1, g2⟩
theorem Pt.fresh {ad : Addr} (P : Pt X σ sg w al H) {q : Ow} (hw : w ad = some q) : X.H0 ad = none ∨ X.w0 ad ≠ none := by
  cases z : X.H0 ad with
  | none => exact .inl rfl
  | some u => exact .inr fun z2 => by have := (P.2 ad u z z2).1; rw [hw] at this; cases this
def CpM (X : Fx) (W : WX) (σ : St) (s1 : Sg) (tg : List Nat) (w1 : Wt) (al1 : List Addr) (H1 : Hp) (Q : VK) (f : Sg → Out Sg (List Rv)) (ds : List Mp.D) (D : Addr) (i m : Nat) (H : Hp) : Prop :=
  m + i = ds.length ∧ ∃ w al sg acc accv, Pt X (L2.wipe σ tg) { sg with st := wipeS sg.st tg } w al H ∧ Le w1 al1 H1 w al H ∧ w D = none ∧ H D = some (.lst accv) ∧ Cvs X.T w al H acc accv ∧ sg.st.length = s1.st.length ∧
    OkG X W σ w al H (FE X Q) ((compMF f tg (ds.drop i) acc sg).bind fun r s' => .ok r { s' with st := backS s1.st s'.st tg })
theorem cpm_turn {tg : List Nat} {s1 : Sg} {al1 : List Addr} {ds : List Mp.D} {D : Addr} {i m : Nat} {sg : Sg} {acc : List Rv} {accv : List V} {st : List (Option Rv)} {σ2 : St} {rest : List Mp.D} (fD : X.H0 D = none ∨ X.w0 D ≠ none) (hm : m - 1 + (i + 1) = ds.length) (hr : ds.drop (i + 1) = rest)
    (L : Le w1 al1 H1 w2 al H2) (wD : w2 D = none) (hH : H2 D = some (.lst accv)) (hv : Cvs X.T w2 al H2 acc accv) (hσ : L2.wipe σ2 tg = L2.wipe σ tg) (hlen : σ.length = s1.st.length) (P3 : Pt X σ2 { sg with st := st } w2 al H2)
    (h : OkG X W σ w2 al H2 (FE X Q) (((noX (ev X.G X.rc e' { sg with st := st })).bind fun rs s => match rs with
      | [.o (.lst ys)] => if acc.length < sizeLine then compMF (ev X.G X.rc e') tg rest (acc ++ [.m s.mu.length]) { s with mu := s.mu ++ [.lst (ys.map .d)] } else .stuck
      | _ => .stuck).bind fun r s' => .ok r { s' with st := backS s1.st s'.st tg })) :
    tEx X e' σ2 H2 fun y H4 => ∃ acc, H4 D = some (.lst acc) ∧ acc.length < sizeLine ∧ CpM X W σ s1 tg w1 al1 H1 Q (ev X.G X.rc e') ds D (i + 1) (m - 1) (upd H4 D (.lst (acc ++ [y]))) := by
  subst hr
  have len2 : ∀ {s : Sg} {w : Wt} {al : List Addr} {H : Hp}, Pt X σ2 s w al H → s.st.length = s1.st.length := fun {s w al H} P => by
    rw [P.1.len, ← hlen, ← wipe_length σ2 tg, hσ, wipe_length]
  refine ⟨w2, H2, w2, al, _, P3.fr, ?_⟩
  show OkG _ _ _ _ _ _ _ (ev X.G X.rc e' { sg with st := st })
  cases e : ev X.G X.rc e' { sg with st := st } with
  | stuck => rw [e] at h; exact (show False from h).elim
  | exc c fs s => rw [e] at h; exact (show False from h).elim
  | ok rs s4 =>
    rw [e] at h
    intro w4 al4 H4 P6 L6
    have no : ∀ z : Out Sg (List Rv), z = .stuck → OkG X W σ w2 al H2 (FE X Q) (z.bind fun r s' => .ok r { s' with st := backS s1.st s'.st tg }) → False := fun z e h => by subst e; exact h
    match rs, h with
    | [], h => exact (show False from h).elim
    | r1 :: r2 :: r3, h =>
      exact (show False from by cases r1 with
        | d x => exact h
        | o x => cases x <;> exact h
        | m x => exact h).elim
    | [.m _], h => exact (show False from h).elim
    | [.d _], h => exact (show False from h).elim
    | [.o x], h =>
      cases x with
      | lst ys =>
        intro v hv4
        obtain ⟨ad, rfl, hw4, us, hus, hvs⟩ := hv4
        obtain ⟨wD4, hH4⟩ := P6.2 D _ hH wD
        have P7 := P6.unfr P3.2
        have neD : D ≠ ad := fun z => by rw [z, hw4] at wD4; cases wD4
        obtain ⟨P8, L8⟩ := P7.pushM (rs := ys.map .d) (.inr hw4) hus (P7.fresh hw4) (Vls.isCvs hvs)
        have wD8 : setW w4 ad (.mut s4.mu.length) D = none := by rw [setW_ne neD]; exact wD4
        have hva := hv.mono (L6.trans L8).2 (L6.trans L8).1
        have h : OkG X W σ w2 al H2 (FE X Q) ((if acc.length < sizeLine then compMF (ev X.G X.rc e') tg (ds.drop (i + 1)) (acc ++ [.m s4.mu.length]) { s4 with mu := s4.mu ++ [.lst (ys.map .d)] } else .stuck).bind fun r s' => .ok r { s' with st := backS s1.st s'.st tg }) := h
        by_cases cl : acc.length < sizeLine
        · rw [if_pos cl] at h
          obtain ⟨P9, L9⟩ := P8.wrN (o := .lst (accv ++ [.ref ad])) wD8 fD
          have at_ : (al4 ++ [ad])[s4.mu.length]? = some ad := by rw [← P7.1.alen]; simp
          have hnew : Cvs X.T (setW w4 ad (.mut s4.mu.length)) (al4 ++ [ad]) (upd H4 D (.lst (accv ++ [.ref ad]))) [.m s4.mu.length] [.ref ad] := ⟨_, [], rfl, ⟨ad, at_, rfl⟩, rfl⟩
          exact ⟨accv, hH4, by rw [← hva.length]; exact cl, hm, _, _, _, acc ++ [.m s4.mu.length], accv ++ [.ref ad], by rw [← hσ]; exact P9.wipe, (L.trans (L6.trans L8)).trans L9, wD8, upd_same, (hva.mono L9.2 L9.1).append hnew, len2 P9, OkG.rebase h ((L6.trans L8).trans L9)⟩
        · rw [if_neg cl] at h; exact (show False from h).elim
      | _ => exact (show False from h).elim
theorem rd_compm {tg : List Nat} (h : tE X W (.compm e' tg a') σ H Q) : tLc (tI X W a') (gTG X.T.K tg) tYes (tEx X e') tg σ H Q := by
  obtain ⟨w, al, sg, P, h⟩ := h
  refine manyI_ok P h fun ds J s1 w1 al1 H1 P1 L1 hJ h1 D hD => ?_
  cases ho : okT s1.st tg with
  | false => rw [ho] at h1; exact (show False from h1).elim
  | true =>
    simp only [ho] at h1
    have fD : X.H0 D = none ∨ X.w0 D ≠ none := by
      cases q : X.H0 D with
      | none => exact .inl rfl
      | some u => refine .inr fun z => ?_; have := (P1.2 D u q z).2; rw [hD] at this; cases this
    have wD : w1 D = none := P1.1.free hD
    refine ⟨CpM X W σ s1 tg w1 al1 H1 Q (ev X.G X.rc e') ds D, ⟨ds.length, rfl, w1, al1, s1, [], [], ?_, ?_, wD, upd_same, rfl, rfl, ?_⟩, ?_⟩
    · exact (P1.wipe.lay hD).1
    · exact (P1.lay hD).2
    · exact OkG.rebase h1 (P1.lay hD).2
    · rintro i m H ⟨hm, w, al, sg, acc, accv, P, L, wD, hH, hv, hl, h⟩
      by_cases hi : i < ds.length
      · refine .inr ⟨hJ.go _ _ _ L.2 hi, CpM X W σ s1 tg w1 al1 H1 Q (ev X.G X.rc e') ds D (i + 1) (m - 1), fun H' q => ⟨m - 1, by omega, q⟩, fun x H2 hy => ?_⟩
        rw [List.drop_eq_getElem_cons hi] at h
        simp only [compMF] at h
        cases z : setT tg ds[i] (wipeS sg.st tg) with
        | none => rw [z] at h; exact (show False from h).elim
        | some st =>
          rw [z] at h
          have go : ∀ w2, Pt X (L2.wipe σ tg) { sg with st := wipeS sg.st tg } w2 al H2 → Le w al H w2 al H2 → w2 D = none → H2 D = some (.lst accv) → Val X.T w2 H2 ds[i] x → gTG X.T.K tg x (L2.wipe σ tg) H2 fun σ2 H3 => L2.wipe σ2 tg = L2.wipe σ tg ∧ tYes σ2 H3 fun b H4 =>
              if b = true then tEx X e' σ2 H4 fun y H5 => ∃ acc, H5 D = some (.lst acc) ∧ acc.length < sizeLine ∧ CpM X W σ s1 tg w1 al1 H1 Q (ev X.G X.rc e') ds D (i + 1) (m - 1) (upd H5 D (.lst (acc ++ [y]))) else CpM X W σ s1 tg w1 al1 H1 Q (ev X.G X.rc e') ds D (i + 1) (m - 1) H4 := by
            intro w2 P2 L2' wD2 hH2 hx
            obtain ⟨σ2, tv, P3, g⟩ := setT_ok z P2 hx
            refine g _ ⟨tgV_wipe tv, ?_⟩
            exact cpm_turn fD (by omega) rfl (L.trans L2') wD2 hH2 (hv.mono L2'.2 L2'.1) (tgV_wipe tv) P1.1.len.symm P3 (OkG.rebase h L2')
          rcases hJ.yld _ _ i _ _ _ L.2 P.1.trk (List.getElem?_eq_getElem hi) hy with ⟨rfl, hx⟩ | ⟨q, o, hq, rfl, hx⟩
          · exact go w P Le.refl wD hH hx
          · have ne : D ≠ q := fun e => by rw [e, hq] at hH; cases hH
            exact go _ (P.new hq) (P.le hq) (by rw [setW_ne ne]; exact wD) (by rw [upd_ne ne]; exact hH) hx
      · refine .inl ⟨hJ.stop _ _ _ L.2 (Nat.le_of_not_lt hi), ?_⟩
        rw [List.drop_eq_nil_of_le (Nat.le_of_not_lt hi)] at h
        have Pb := P1.back ho P L hl
        obtain ⟨P2, L2⟩ := Pb.pushM (.inl wD) hH fD hv
        refine h _ _ _ P2 L2 (.ref D) ⟨D, ?_, rfl⟩
        rw [← P.1.alen]; simp
theorem Cvs.get {T : Tb} : ∀ {rs : List Rv} {vs : List V} {i : Nat} {d : Rv}, Cvs T w al H rs vs → rs[i]? = some d → ∃ v, vs[i]? = some v ∧ Cv T w al H d v
  | [], _, _, _, _, e => by simp at e
  | x :: xs, _, 0, d, ⟨v, r, e, h1, h2⟩, q => by subst e; simp at q; subst q; exact ⟨v, rfl, h1⟩
  | x :: xs, _, i + 1, d, ⟨v, r, e, h1, h2⟩, q => by
    subst e
    obtain ⟨u, h3, h4⟩ := Cvs.get (i := i) h2 (by simpa using q)
    exact ⟨u, by simpa using h3, h4⟩
theorem rs_form {i j : Nat} {y : Str} {ss : List Stmt} (C : Cc X n fA fre cf sc Nm W Y) (hp : PassesOwn (model Y.prog Y.w) Y.A Y.env Y.xe) (hN : Y.N[j]? = some y) (hv : Vis Y.env.scope y) (hd : (y == ("__debug__" : Str)) = false) (hcd : (y == ("__classdict__" : Str)) = false) (hg : PG Y tg (gTG X.T.K [i])) (hb : PSs Y ss (tS X W u)) :
    PS Y (.For tg (.Name y p) ss [] pos) (tS X W (.form i j u)) :=
  (ps_for hp C.calm (pi_list (pe_var hN hv hd hcd)) hg hb (fun x => fs_ok rfl x)).imp fun D σ H ⟨w, al, sg, P, h⟩ => by
  simp only [ex] at h
  cases z : sg.st[j]? with
  | none => rw [z] at h; exact (show False from h).elim
  | some q =>
    cases q with
    | none => rw [z] at h; exact (show False from h).elim
    | some r =>
      cases r with
      | d _ => rw [z] at h; exact (show False from h).elim
      | o _ => rw [z] at h; exact (show False from h).elim
      | m nn =>
        rw [z] at h
        simp only at h
        obtain ⟨v, e1, ad, e2, rfl⟩ := P.1.slots j _ z
        rw [C.K]
        have first : ∃ vs, SqL X.T.K H ad vs := by
          obtain ⟨k0, hk0⟩ : ∃ k, fuel = k + 1 := ⟨99999, rfl⟩
          rw [hk0] at h
          simp only [formF] at h
          cases z2 : sg.mu[nn]? with
          | none => rw [z2] at h; exact (show False from h).elim
          | some d =>
            cases d with
            | lst rs => obtain ⟨ad2, g1, g2, vs, g3, g4⟩ := P.1.muts nn _ z2; rw [e2] at g1; cases g1; exact ⟨vs, .inl (.inl g3)⟩
            | _ => rw [z2] at h; exact (show False from h).elim
        refine ⟨_, e1, ad, rfl, first, fun k m σ' H' => ∃ w1 al1 sg1, Pt X σ' sg1 w1 al1 H' ∧ Le w al H w1 al1 H' ∧ OkS X W w1 al1 H' D (formF (ex X.G X.rc u) i nn m k sg1), ⟨fuel, w, al, sg, P, Le.refl, h⟩, ?_⟩
        rintro k m σ' H' ⟨w1, al1, sg1, P1, L1, h1⟩
        cases m with
        | zero => exact (show False from h1).elim
        | succ m =>
          simp only [formF] at h1
          cases z2 : sg1.mu[nn]? with
          | none => rw [z2] at h1; exact (show False from h1).elim
          | some d =>
            cases d with
            | lst rs =>
              simp only [z2] at h1
              obtain ⟨ad2, g1, g2, vs, g3, g4⟩ := P1.1.muts nn _ z2
              rw [L1.1.get e2] at g1; cases g1
              cases z3 : rs[k]? with
              | none =>
                rw [z3] at h1
                exact .inl ⟨⟨vs, .inl (.inl g3), by rw [← g4.length]; exact List.getElem?_eq_none_iff.mp z3⟩, h1.here P1⟩
              | some r =>
                obtain ⟨v, q1, q2⟩ := g4.get z3
                have hr : Res X.T w1 al1 H' (.slot i) r v := by cases r <;> first | exact q2 | exact q2.elim
                refine .inr ⟨⟨vs, v, .inl (.inl g3), q1⟩, fun σ2 H2 => ∃ w2 al2 sg2, Pt X σ2 sg2 w2 al2 H2 ∧ Le w al H w2 al2 H2 ∧ OkS X W w2 al2 H2 D (formF (ex X.G X.rc u) i nn m (k + 1) sg2), fun σ2 H2 q => ⟨m, Nat.lt_succ_self m, q⟩, fun x H2 hy => ?_⟩
                obtain ⟨rfl, hx⟩ := hy
                have ex1 : x = v := by have := hx vs (.inl (.inl g3)); rw [q1] at this; exact (Option.some.inj this).symm
                subst ex1
                refine (show tS X W u _ (σ'.set i (some x)) H2 from ⟨w1, al1, _, P1.set hr, ?_⟩)
                have h2 : OkS X W w1 al1 H2 D (match ex X.G X.rc u { sg1 with st := setS sg1.st i r } with
                  | .nx s => formF (ex X.G X.rc u) i nn m (k + 1) s
                  | .ct s => formF (ex X.G X.rc u) i nn m (k + 1) s
                  | .bk s => .nx s
                  | r => r) := by
                  rw [z3] at h1
                  cases r with
                  | o _ => exact q2.elim
                  | d _ => exact h1
                  | m _ => exact h1
                cases e : ex X.G X.rc u { sg1 with st := setS sg1.st i r } with
                | nx s => rw [e] at h2; exact fun σ' w' al' H' P' L' => ⟨w', al', s, P', L1.trans L', OkS.rebase h2 L'⟩
                | ct s => rw [e] at h2; exact fun σ' w' al' H' P' L' => ⟨w', al', s, P', L1.trans L', OkS.rebase h2 L'⟩
                | bk s => rw [e] at h2; exact h2
                | rt r s => rw [e] at h2; exact h2
                | exc c fs s => rw [e] at h2; exact h2
                | stuck => rw [e] at h2; exact h2
            | _ => rw [z2] at h1; exact (show False from h1).elim
end
end Mp
namespace Mp
open PySem L2
section
variable {X : Fx} {n : Nat} {fA : Nat → Addr} {fre : List Str} {cf : Str → Bool} {sc : Scope} {Nm : List Str} {W : WX} {Y : Cx} {pos apos p p2 p3 : Pos} {a b c e tgE : Expr} {a' b' c' e' j' : E} {es : List Expr} {es' : E} {σ : St} {Q : VK} {H H1 H2 H' : Hp} {w w1 w2 w' : Wt} {al : List Addr} {sg : Sg} {F : List Rv → Sg → Wt → List Addr → Hp → Prop} {D : Ends} {u : S} {tg : Expr}
theorem rd_bmsX {i : Nat} (h : tE X W (.bms .extend i es') σ H Q) : tBM X.T.K "list" rExtend (tVar i) (tA X W es') σ H Q := by
  obtain ⟨w, al, sg, P, h⟩ := h
  simp only [ev] at h
  cases z : sg.st[i]? with
  | none => rw [z] at h; exact (show False from h).elim
  | some q =>
    cases q with
    | none => rw [z] at h; exact (show False from h).elim
    | some r =>
      cases r with
      | d _ => rw [z] at h; exact (show False from h).elim
      | m _ => rw [z] at h; exact (show False from h).elim
      | o x =>
        cases x with
        | lst xs =>
          simp only [z] at h
          obtain ⟨v, e1, ad, rfl, h3, us, h4, h5⟩ := P.1.slots i _ z
          refine ⟨_, e1, Sn.tyL h4, many_ok P h fun ds vs s2 w2 al2 H2 P2 L2 hv h2 => ?_⟩
          cases z2 : s2.st[i]? with
          | none => rw [z2] at h2; exact (show False from h2).elim
          | some q2 =>
            cases q2 with
            | none => rw [z2] at h2; exact (show False from h2).elim
            | some r2 =>
              cases r2 with
              | d _ => rw [z2] at h2; exact (show False from h2).elim
              | m _ => rw [z2] at h2; exact (show False from h2).elim
              | o y =>
                simp only [z2] at h2
                cases y with
                | lst ys =>
                  cases ds with
                  | nil => exact (show False from h2).elim
                  | cons y ds => cases ds with
                    | cons _ _ => exact (show False from by cases y <;> exact h2).elim
                    | nil =>
                      cases y with
                      | lst zs =>
                        obtain ⟨u, rfl, hu⟩ := hv.one rfl
                        obtain ⟨b, bs, rfl, hb1, hb2, hb3⟩ := hu
                        obtain ⟨v2, e2, ad2, rfl, g3, us2, g4, g5⟩ := P2.1.slots i _ z2
                        rw [e1] at e2; cases e2
                        by_cases cl : ys.length + zs.length ≤ sizeLine
                        · simp only [bmF, if_pos cl] at h2
                          refine ⟨ad, b, us2, bs, rfl, rfl, g4, hb2, by rw [← g5.length, ← hb3.length]; exact cl, ?_⟩
                          have x1 : Ext w2 H2 w2 (upd H2 ad (.lst (us2 ++ bs))) := Ext.of fun b oo hb z0 => ⟨hb, upd_ne fun z => by rw [z, g3] at hb; cases hb; rcases z0 with z0 | z0 <;> cases z0⟩
                          obtain ⟨P3, L3⟩ := P2.wr (x := .lst (ys ++ zs)) g3 ⟨_, z2⟩ e1 ⟨_, upd_same, (Vls.mono x1 _ _ g5).append (Vls.mono x1 _ _ hb3)⟩
                          exact h2 _ _ _ P3 L3 V.non rfl
                        · simp only [bmF, if_neg cl] at h2; exact (show False from h2).elim
                      | _ => exact (show False from h2).elim
                | _ => exact (show False from h2).elim
        | _ => simp only [z] at h; exact (show False from h).elim
theorem re_bmsX {i : Nat} {x : Str} (C : Cc X n fA fre cf sc Nm W Y) (hN : Y.N[i]? = some x) (hv : Vis Y.env.scope x) (hd : (x == ("__debug__" : Str)) = false) (hcd : (x == ("__classdict__" : Str)) = false) (hsu : notSup (.Name x p) = true) (ha : PA Y [e] (tA X W es')) (ht : tame e = true) (hl : (apos.endLine == pos.line) = true) :
    PE Y (.Call (.Attribute (.Name x p) "extend" apos) [e] [] pos) (tE X W (.bms .extend i es')) := by
  have ht' : [e].all tame = true := by simp [ht]
  refine (pe_bm PySem.F.plainAttrs_list PySem.F.slot_list_extend PySem.F.type_list_extend mt_extend (pe_var hN hv hd hcd) ha (ab_ok hsu) (few_all ht' (show 1 < 30 by decide)) hl (star_ok ht) (plain_ok rfl)).imp fun σ H Q h => ?_
  rw [C.K]
  exact rd_bmsX h
theorem raw_ok {k : List Rv → Sg → Out Sg (List Rv)} {Q1 : VK} (P : Pt X σ sg w al H) (h : OkG X W σ w al H F ((ev X.G X.rc a' sg).bind k))
    (hk : ∀ r v s1 w1 al1 H1, Pt X σ s1 w1 al1 H1 → Le w al H w1 al1 H1 → Res X.T w1 al1 H1 .res r v → OkG X W σ w1 al1 H1 F (k [r] s1) → Q1 v H1) (h0 : ∀ s, k [] s = .stuck) (h2 : ∀ r1 r2 r3 s, k (r1 :: r2 :: r3) s = .stuck) : tE X W a' σ H Q1 := by
  refine ⟨w, al, sg, P, ?_⟩
  cases e : ev X.G X.rc a' sg with
  | stuck => rw [e] at h; exact h
  | exc c fs s => rw [e] at h; exact h
  | ok rs s =>
    rw [e] at h
    intro w' al' H' P' L'
    have h : OkG X W σ w al H F (k rs s) := h
    cases rs with
    | nil => rw [h0] at h; exact (show False from h).elim
    | cons r t => cases t with
      | cons _ _ => rw [h2] at h; exact (show False from h).elim
      | nil => exact fun v hv => hk r v s w' al' H' P' L' hv (OkG.rebase h L')
theorem rd_bma (h : tE X W (.bma a' b') σ H Q) : tBM X.T.K "list" rAppend (tE X W a') (tCons (tE X W b') tNil) σ H Q := by
  obtain ⟨w, al, sg, P, h⟩ := h
  refine one_r P h fun r v s1 w1 al1 H1 P1 L1 hv h1 => ?_
  cases r with
  | d _ => exact (show False from h1).elim
  | o _ => exact (show False from h1).elim
  | m k =>
    simp only at h1
    obtain ⟨ad, ha, rfl⟩ := hv
    cases z : s1.mu[k]? with
    | none => rw [z] at h1; exact (show False from h1).elim
    | some d =>
      cases d with
      | dct _ _ => rw [z] at h1; exact (show False from h1).elim
      | tdc _ _ => rw [z] at h1; exact (show False from h1).elim
      | obj _ _ _ => rw [z] at h1; exact (show False from h1).elim
      | lst xs =>
        simp only [z] at h1
        obtain ⟨ad0, g1, g2, us, g3, g4⟩ := P1.1.muts k _ z
        rw [ha] at g1; cases g1
        refine ⟨Sn.tyL g3, raw_ok P1 h1 (fun r y s2 w2 al2 H2 P2 L2 hr h2 => ?_) (fun _ => rfl) fun r1 _ _ _ => by
          cases r1 with
          | o x => cases x <;> rfl
          | _ => rfl⟩
        cases r with
        | d _ => exact (show False from h2).elim
        | m _ => exact (show False from h2).elim
        | o yy =>
          cases yy with
          | lst ys =>
            obtain ⟨ad1, rfl, hw1, bs, hb1, hb2⟩ := hr
            simp only at h2
            cases z2 : s2.mu[k]? with
            | none => simp only [z2] at h2; exact (show False from h2).elim
            | some d2 =>
              cases d2 with
              | dct _ _ => simp only [z2] at h2; exact (show False from h2).elim
              | tdc _ _ => simp only [z2] at h2; exact (show False from h2).elim
              | obj _ _ _ => simp only [z2] at h2; exact (show False from h2).elim
              | lst zs =>
                simp only [z2] at h2
                by_cases cl : zs.length < sizeLine
                · rw [if_pos cl] at h2
                  obtain ⟨P3, L3⟩ := P2.pushM (rs := ys.map .d) (.inr hw1) hb1 (P2.fresh hw1) (Vls.isCvs hb2)
                  have hk : k < s2.mu.length := (List.getElem?_eq_some_iff.mp z2).1
                  have z3 : (s2.mu ++ [.lst (ys.map .d)])[k]? = some (.lst zs) := by rw [List.getElem?_append_left hk]; exact z2
                  have ha2 : (al2 ++ [ad1])[k]? = some ad := L3.1.get (L2.1.get ha)
                  obtain ⟨ad2, q1, q2, us2, q3, q4⟩ := P3.1.muts k _ z3
                  rw [ha2] at q1; cases q1
                  have at_ : (al2 ++ [ad1])[s2.mu.length]? = some ad1 := by rw [← P2.1.alen]; simp
                  have x1 : Ext (setW w2 ad1 (.mut s2.mu.length)) H2 (setW w2 ad1 (.mut s2.mu.length)) (upd H2 ad (.lst (us2 ++ [.ref ad1]))) := Ext.of fun b oo hb z0 => ⟨hb, upd_ne fun z => by rw [z, q2] at hb; cases hb; rcases z0 with z0 | z0 <;> cases z0⟩
                  have hnew : Cvs X.T (setW w2 ad1 (.mut s2.mu.length)) (al2 ++ [ad1]) (upd H2 ad (.lst (us2 ++ [.ref ad1]))) [.m s2.mu.length] [.ref ad1] := ⟨_, [], rfl, ⟨ad1, at_, rfl⟩, rfl⟩
                  obtain ⟨P4, L4⟩ := P3.wrM (d := .lst (zs ++ [.m s2.mu.length])) q2 z3 ha2 ⟨_, upd_same, (q4.mono x1 AlX.refl).append hnew⟩
                  have eset : (s2.mu ++ [Nd.lst (ys.map .d)]).set k (.lst (zs ++ [.m s2.mu.length])) = s2.mu.set k (.lst (zs ++ [.m s2.mu.length])) ++ [.lst (ys.map .d)] := List.set_append_left _ _ hk
                  have P4' := P4
                  simp only [eset] at P4'
                  refine ⟨ad, us2, .ref ad1, rfl, rfl, q3, by rw [← q4.length]; exact cl, ?_⟩
                  exact h2 _ _ _ P4' (L3.trans L4) V.non rfl
                · rw [if_neg cl] at h2; exact (show False from h2).elim
          | _ => exact (show False from h2).elim
theorem re_bma (C : Cc X n fA fre cf sc Nm W Y) (ho : PE Y a (tE X W a')) (hsu : notSup a = true) (ha : PE Y e (tE X W b')) (ht : tame e = true) (hl : (apos.endLine == pos.line) = true) :
    PE Y (.Call (.Attribute a "append" apos) [e] [] pos) (tE X W (.bma a' b')) := by
  have ht' : [e].all tame = true := by simp [ht]
  refine (pe_bm PySem.F.plainAttrs_list PySem.F.slot_list_append PySem.F.type_list_append mt_append ho (pa_cons ha pa_nil (star_ok ht)) (ab_ok hsu) (few_all ht' (show 1 < 30 by decide)) hl (star_ok ht) (plain_ok rfl)).imp fun σ H Q h => ?_
  rw [C.K]
  exact rd_bma h
theorem Cvs.at {T : Tb} {rs : List Rv} {vs : List V} {i : Int} {r : Rv} (h : Cvs T w al H rs vs) (e : atI rs i = some r) : ∃ v, atI vs i = some v ∧ Cv T w al H r v := by
  obtain ⟨j, h1, h2⟩ := atI_get' e
  obtain ⟨v, h3, h4⟩ := h.get h2
  refine ⟨v, ?_, h4⟩
  unfold atI
  rw [← h.length, h1]
  exact h3
theorem re_subm {i : Nat} {x : Str} (C : Cc X n fA fre cf sc Nm W Y) (hN : Y.N[i]? = some x) (hv : Vis Y.env.scope x) (hd : (x == ("__debug__" : Str)) = false) (hcd : (x == ("__classdict__" : Str)) = false) (hb : PE Y b (tE X W b')) (ht : tame b = true) : PE Y (.Subscript (.Name x p) b pos) (tE X W (.subm i b')) :=
  (pe_ix ix_list (pe_var hN hv hd hcd) hb (px_ok ht)).imp fun σ H Q ⟨w, al, sg, P, h⟩ => by
  simp only [ev] at h
  cases z : sg.st[i]? with
  | none => rw [z] at h; exact (show False from h).elim
  | some o => cases o with
    | none => rw [z] at h; exact (show False from h).elim
    | some r => cases r with
      | d _ => rw [z] at h; exact (show False from h).elim
      | o _ => rw [z] at h; exact (show False from h).elim
      | m nn =>
        simp only [z] at h
        obtain ⟨v, e1, ad, e2, rfl⟩ := P.1.slots i _ z
        refine ⟨_, e1, one_ok P h fun y u s2 w2 al2 H2 P2 L2 hy h2 => ?_⟩
        cases z2 : s2.mu[nn]? with
        | none => rw [z2] at h2; exact (show False from h2).elim
        | some d =>
          cases d with
          | lst xs =>
            cases y with
            | int k =>
              cases (show u = V.int k from hy)
              simp only [z2] at h2
              obtain ⟨ad2, g1, g2, us, g3, g4⟩ := P2.1.muts nn _ z2
              rw [L2.1.get e2] at g1; cases g1
              cases z3 : _root_.L2.atI xs k with
              | none => rw [z3] at h2; exact (show False from h2).elim
              | some r =>
                obtain ⟨q, k1, k2⟩ := g4.at z3
                rw [C.K]
                refine ⟨ad, us, k, q, rfl, rfl, .inl (.inl g3), k1, ?_⟩
                cases r with
                | o _ => exact k2.elim
                | d x => simp only [z3] at h2; exact h2.here P2 q k2
                | m x => simp only [z3] at h2; exact h2.here P2 q k2
            | _ => rw [z2] at h2; exact (show False from h2).elim
          | _ => rw [z2] at h2; exact (show False from by cases y <;> exact h2).elim
theorem Cvs.set {T : Tb} : ∀ {ds : List Rv} {vs : List V} {d : Rv} {v : V} (i : Nat), Cvs T w al H ds vs → Cv T w al H d v → Cvs T w al H (ds.set i d) (vs.set i v)
  | [], _, _, _, _, h, _ => by cases (show _ = [] from h); exact rfl
  | x :: xs, _, _, _, 0, ⟨v, r, e, h1, h2⟩, h => by subst e; exact ⟨_, _, rfl, h, h2⟩
  | x :: xs, _, _, _, i + 1, ⟨v, r, e, h1, h2⟩, h => by subst e; exact ⟨_, _, rfl, h1, Cvs.set i h2 h⟩
theorem tgetM_ok {T : Tb} {al : List Addr} {q : NestedKey} : ∀ {ks : List Mp.D} {ds : List Rv} (kvs : NT), kvs.map (fun p => some p.1) = ks.map tkOf → Cvs T w al H ds (kvs.map (·.2.2)) → (tget q ks ds).isSome = (atN kvs q).isSome
  | [], ds, [], e, h => by cases ds <;> rfl
  | k :: ks, ds, [], e, h => by simp at e
  | [], ds, _ :: _, e, h => by simp at e
  | k :: ks, [], p :: r, e, h => by simp [Cvs] at h
  | k :: ks, d :: ds, p :: r, e, ⟨v, us, e0, h1, h2⟩ => by
    simp only [List.map_cons, List.cons.injEq] at e e0
    obtain ⟨rfl, rfl⟩ := e0
    have ih := tgetM_ok (q := q) r e.2 h2
    simp only [tget]
    by_cases c : p.1 = q
    · rw [if_pos (by rw [← e.1, c]), atN_pos c]
      rfl
    · rw [if_neg (by rw [← e.1]; intro z; exact c (Option.some.inj z)), atN_neg c]
      exact ih
theorem tputVM_ok {T : Tb} {al : List Addr} {q : NestedKey} {y : Rv} {v : V} : ∀ {ks : List Mp.D} {ds : List Rv} (kvs : NT), kvs.map (fun p => some p.1) = ks.map tkOf → Cvs T w al H ds (kvs.map (·.2.2)) → Cv T w al H y v → Cvs T w al H (tputV q y ks ds) ((kvs.map fun x => if x.1 = q then (x.1, x.2.1, v) else x).map (·.2.2))
  | [], ds, [], _, h, _ => by cases ds <;> exact h
  | k :: ks, ds, [], e, _, _ => by simp at e
  | [], ds, _ :: _, e, _, _ => by simp at e
  | k :: ks, [], p :: r, _, h, _ => by simp [Cvs] at h
  | k :: ks, d :: ds, p :: r, e, ⟨v0, us, e0, h1, h2⟩, hy => by
    simp only [List.map_cons, List.cons.injEq] at e e0
    obtain ⟨rfl, rfl⟩ := e0
    have ih := tputVM_ok (q := q) r e.2 h2 hy
    simp only [tputV, List.map_cons]
    by_cases c : p.1 = q
    · rw [if_pos (by rw [← e.1, c]), if_pos c]
      exact ⟨v, _, rfl, hy, ih⟩
    · rw [if_neg (by rw [← e.1]; intro z; exact c (Option.some.inj z)), if_neg c]
      exact ⟨_, _, rfl, h1, ih⟩
theorem Cvs.append' {T : Tb} {al : List Addr} : ∀ {ds es : List Rv} {vs us : List V}, Cvs T w al H ds vs → Cvs T w al H es us → Cvs T w al H (ds ++ es) (vs ++ us)
  | [], _, _, _, rfl, h => h
  | x :: xs, _, _, _, ⟨v, r, e, h1, h2⟩, h => by subst e; exact ⟨v, r ++ _, rfl, h1, Cvs.append' h2 h⟩
theorem tputM_ok {T : Tb} {al : List Addr} {q : NestedKey} {k : Mp.D} {y : Rv} {v : V} {b : Addr} {ks : List Mp.D} {ds : List Rv} {kvs : NT} {ad : Addr} (hH : H ad = some (TDo T.wd ad (putN kvs q b v))) (e : kvs.map (fun p => some p.1) = ks.map tkOf) (hk2 : Vls T w H ks (kvs.map fun p => .ref p.2.1)) (h : Cvs T w al H ds (kvs.map (·.2.2))) (hk : Val T w H k (.ref b)) (kq : tkOf k = some q) (hy : Cv T w al H y v) : NdM T w al H ad (.tdc (tputK q k y ks ds).1 (tputK q k y ks ds).2) := by
  have g1 := tgetM_ok (q := q) kvs e h
  have hany := atN_any q kvs
  unfold putN at hH
  cases z : tget q ks ds with
  | none =>
    rw [z] at g1
    have ha : ¬ (kvs.any fun x => decide (x.1 = q)) = true := by rw [hany, ← g1]; decide
    rw [if_neg ha] at hH
    simp only [tputK, z]
    exact ⟨_, hH, by rw [List.map_append, List.map_append, e]; simp [kq], by rw [List.map_append]; exact hk2.append ⟨_, [], rfl, hk, rfl⟩, by rw [List.map_append]; exact h.append' ⟨v, [], rfl, hy, rfl⟩⟩
  | some d =>
    rw [z] at g1
    have ha : (kvs.any fun x => decide (x.1 = q)) = true := by rw [hany, ← g1]; rfl
    rw [if_pos ha] at hH
    simp only [tputK, z]
    refine ⟨_, hH, ?_, ?_, tputVM_ok kvs e h hy⟩
    · rw [← e, List.map_map]
      apply List.map_congr_left
      intro p _
      by_cases c : p.1 = q <;> simp [c]
    · rw [List.map_map]
      have : kvs.map ((fun p => V.ref p.2.1) ∘ fun x => if x.1 = q then (x.1, x.2.1, v) else x) = kvs.map fun p => V.ref p.2.1 := by
        apply List.map_congr_left
        intro p _
        by_cases c : p.1 = q <;> simp [c]
      rw [this]; exact hk2
theorem rs_setv (C : Cc X n fA fre cf sc Nm W Y) (hb : PE Y b (tE X W b')) (hj : PE Y c (tE X W j')) (ha : PE Y a (tE X W a')) (ht : tame a = true) (htj : tame c = true) :
    PS Y (.Assign [.Subscript b c p2] a pos) (tS X W (.setv b' j' a')) := by
  refine (ps_asg ha (pg_sub hb hj (set_or set_list (set_td C.hu9)) (fun v => swsub_ok htj)) (sw_sb ht) ss_sb).imp fun D σ H ⟨w, al, sg, P, h⟩ => ?_
  refine onD_ok P h fun y vy s1 w1 al1 H1 P1 L1 hy h1 => ?_
  refine onOut_ok P1 h1 fun r v s2 w2 al2 H2 P2 L2 hr h2 => ?_
  cases r with
  | d _ => exact (show False from h2).elim
  | o _ => exact (show False from h2).elim
  | m nn =>
    obtain ⟨ad, e2, rfl⟩ := hr
    refine onD_ok P2 h2 fun k vk s3 w3 al3 H3 P3 L3 hk h3 => ?_
    cases z2 : s3.mu[nn]? with
    | none => simp only [z2] at h3; exact (show False from by cases k <;> exact h3).elim
    | some d =>
      cases d with
      | lst xs =>
        cases k with
        | int k =>
          cases (show vk = V.int k from hk)
          simp only [z2] at h3
          obtain ⟨ad2, g1, g2, us, g3, g4⟩ := P3.1.muts nn _ z2
          rw [L3.1.get e2] at g1; cases g1
          cases z3 : _root_.L2.ixN xs.length k with
          | none => rw [z3] at h3; exact (show False from h3).elim
          | some q =>
            simp only [z3] at h3
            refine .inl ⟨ad, us, k, q, rfl, rfl, g3, by rw [← g4.length]; exact z3, ?_⟩
            have x1 : Ext w3 H3 w3 (upd H3 ad (.lst (us.set q vy))) := Ext.of fun b oo hb z0 => ⟨hb, upd_ne fun z => by rw [z, g2] at hb; cases hb; rcases z0 with z0 | z0 <;> cases z0⟩
            have hy3 := Val.mono (L2.trans L3).2 _ _ hy
            obtain ⟨P4, L4⟩ := P3.wrM (d := .lst (xs.set q (.d y))) g2 z2 (L3.1.get e2) ⟨_, upd_same, Cvs.set q (g4.mono x1 AlX.refl) (show Cv X.T w3 al3 _ (.d y) vy from Val.mono x1 _ _ hy3)⟩
            exact h3 _ _ _ _ P4 L4
        | _ => simp only [z2] at h3; exact (show False from h3).elim
      | tdc ks ds =>
        have h3 : OkS X W w3 al3 H3 D (match tkOf k with
          | some q => if ks.length < sizeLine then SO.nx { s3 with mu := s3.mu.set nn (.tdc (tputK q k (.d y) ks ds).1 (tputK q k (.d y) ks ds).2) } else .stuck
          | none => .stuck) := by simp only [z2] at h3; cases k <;> exact h3
        cases zk : tkOf k with
        | none => simp only [zk] at h3; exact (show False from h3).elim
        | some q =>
          simp only [zk] at h3
          by_cases c : ks.length < sizeLine
          · rw [if_pos c] at h3
            obtain ⟨ad2, g1, g2, kvs, g3, g5, g6, g4⟩ := P3.1.muts nn _ z2
            rw [L3.1.get e2] at g1; cases g1
            obtain ⟨b, rfl, hb⟩ := tk_val hk zk
            have l2 : kvs.length = ks.length := by have := congrArg List.length g5; simpa using this
            rw [C.wd]
            refine .inr ⟨ad, kvs, q, b, rfl, g3, tk_all g5 g6, rfl, hb, by omega, ?_⟩
            have x1 : Ext w3 H3 w3 (upd H3 ad (TDo X.T.wd ad (putN kvs q b vy))) := Ext.of fun b oo hb z0 => ⟨hb, upd_ne fun z => by rw [z, g2] at hb; cases hb; rcases z0 with z0 | z0 <;> cases z0⟩
            have hy3 := Val.mono (L2.trans L3).2 _ _ hy
            obtain ⟨P4, L4⟩ := P3.wrM (d := .tdc (tputK q k (.d y) ks ds).1 (tputK q k (.d y) ks ds).2) g2 z2 (L3.1.get e2) (tputM_ok upd_same g5 (Vls.mono x1 _ _ g6) (g4.mono x1 AlX.refl) (Val.mono x1 _ _ hk) zk (show Cv X.T w3 al3 _ (.d y) vy from Val.mono x1 _ _ hy3))
            exact h3 _ _ _ _ P4 L4
          · rw [if_neg c] at h3; exact (show False from h3).elim
      | _ => simp only [z2] at h3; exact (show False from by cases k <;> exact h3).elim
theorem re_methi {k : Nat} {x : Str} (C : Cc X n fA fre cf sc Nm W Y) (hx : X.T.aN k = x) (ha : PE Y a (tE X W a')) (hes : PA Y es (tA X W es')) (hsu : notSup a = true) (ht : es.all tame = true) (hn : es.length < 30) (hl : (apos.endLine == pos.line) = true) (h0 : es = [] → es' = .nil) :
    PE Y (.Call (.Attribute a x apos) es [] pos) (tE X W (.methi a' k es')) := by
  subst hx
  have hr : Room (2 * n + 2) Y.A := C.room.mono (Nat.le_succ _)
  have hG : ∀ (D : Addr) (sp : Sp), (∃ c kk f F, X.G.cls[c]? = some kk ∧ kk.meths.lookup k = some f ∧ X.G.fns[f]? = some F ∧ D = X.T.cA c ∧ sp = spG X.T X.rc F.ps.length f) → MDsp Y (X.T.aN k) (2 * n + 2) D sp := by
    rintro D sp ⟨c, kk, f, F, h1, h2, h3, rfl, rfl⟩
    obtain ⟨fd, ok, hb, kp⟩ := C.gf.fns f F h3
    obtain ⟨hm, _⟩ := C.gf.mth c kk k f h1 h2
    rw [← C.K] at ok hb hm
    exact ⟨by rw [C.K]; exact C.gf.cls c kk h1, fA f, fd, F.ps, hm, ok, hb⟩
  have key : ∀ {σ : St} {H : Hp} {Q : VK} {w al sg}, Pt X σ sg w al H → OkG X W σ w al H (FE X Q) (ev X.G X.rc (.methi a' k es') sg) → tE X W a' σ H fun x H1 => ∃ ad D dx fs sp, (∃ c kk f F, X.G.cls[c]? = some kk ∧ kk.meths.lookup k = some f ∧ X.G.fns[f]? = some F ∧ D = X.T.cA c ∧ sp = spG X.T X.rc F.ps.length f) ∧ x = .ref ad ∧ H1 ad = some (.ins D dx fs) ∧ fs.lookup (X.T.aN k) = none ∧
      tA X W es' σ H1 fun vs H2 => sp (x :: vs) H2 Q (WE W σ) := by
    intro σ H Q w al sg P h
    refine one_r P h fun r v s1 w1 al1 H1 P1 L1 hv h1 => ?_
    cases z : recvOf s1 r with
    | none => rw [z] at h1; exact (show False from h1).elim
    | some q =>
      obtain ⟨c, ns⟩ := q
      simp only [z] at h1
      cases z2 : methOf X.G c k with
      | none => simp only [z2] at h1; exact (show False from h1).elim
      | some f =>
        cases z3 : ns.contains k with
        | true => simp only [z2, z3] at h1; exact (show False from h1).elim
        | false =>
          simp only [z2, z3] at h1
          obtain ⟨ad, dx, fs, e1, e2, e3⟩ := recv_ok C.gf P1 hv z
          unfold methOf at z2
          cases z4 : X.G.cls[c]? with
          | none => rw [z4] at z2; cases z2
          | some kk =>
            rw [z4] at z2
            obtain ⟨_, F, hF⟩ := C.gf.mth c kk k f z4 z2
            refine ⟨ad, _, dx, fs, _, ⟨c, kk, f, F, z4, z2, hF, rfl, rfl⟩, e1, e2, no_at C.gf.inj e3 z3, ?_⟩
            refine args_ok P1 h1 fun rs vs s2 w2 al2 H2 P2 L2 hvs h2 => ?_
            have hall := Cvs.cons (hv.mono L2.2 L2.1) hvs
            cases z5 : getDs (r :: rs) with
            | none => simp only [z5] at h2; exact (show False from h2).elim
            | some ds =>
              simp only [z5, arOk, hF] at h2
              by_cases hl : ds.length = F.ps.length
              · rw [decide_eq_true hl] at h2
                exact rd_callI P2 (Cvs.ds z5 hall) hl h2
              · rw [decide_eq_false hl] at h2; exact (show False from h2).elim
  cases es with
  | nil =>
    cases h0 rfl
    refine (pe_methV0 hG ha hr C.tk (meth_ok hsu rfl hn hl)).imp fun σ H Q ⟨w, al, sg, P, h⟩ => ?_
    obtain ⟨w0, al0, sg0, P0, q⟩ := key P h
    refine ⟨w0, al0, sg0, P0, ?_⟩
    refine OkG.imp q fun rs s w' al' H' P' g => ?_
    cases rs with
    | nil => exact g
    | cons r t => cases t with
      | cons _ _ => exact g
      | nil =>
        intro v hv
        obtain ⟨ad, D, dx, fs, sp, g1, g2, g3, g4, w2, al2, s2, P2, g5⟩ := g v hv
        exact ⟨ad, D, dx, fs, sp, g1, g2, g3, g4, g5.here P2 [] rfl⟩
  | cons e es =>
    have ht2 := ht
    simp only [List.all_cons, Bool.and_eq_true] at ht
    exact (pe_methV hG ha hr C.tk hes (star_ok ht.1) (plain_ok ht.2) (meth_ok hsu ht2 hn hl)).imp fun σ H Q ⟨w, al, sg, P, h⟩ => key P h
theorem Pt.wrR {ad : Addr} {o : HO} (P : Pt X σ sg w al H) (hw : w ad = some .res) : Pt X σ sg w al (upd H ad o) ∧ Le w al H w al (upd H ad o) := by
  have k : ∀ a q, w a = some q → q ≠ .res → w a = some q ∧ upd H ad o a = H a := fun a q h n => ⟨h, upd_ne fun e => by rw [e, hw] at h; exact n (Option.some.inj h).symm⟩
  have x : Ext w H w (upd H ad o) := Ext.of fun a q h z => k a q h (by rcases z with rfl | rfl <;> decide)
  refine ⟨⟨P.1.keep AlX.refl x (fun a i h => k a _ h (by intro z; cases z)) (fun a i h => k a _ h (by intro z; cases z)) fun a q h => ?_, fun a u h1 h2 => ?_⟩, AlX.refl, x⟩
  · by_cases c : a = ad
    · subst c; exact ⟨o, upd_same⟩
    · obtain ⟨u, hu⟩ := P.1.trk a q h
      exact ⟨u, by rw [upd_ne c]; exact hu⟩
  · obtain ⟨g1, g2⟩ := P.2 a u h1 h2
    exact ⟨g1, by rw [upd_ne fun e => by rw [e, hw] at g1; cases g1]; exact g2⟩
theorem rd_clt (h : tE X W (.clt a') σ H Q) : tBM0 X.T.K "list" rClear (tE X W a') σ H Q := by
  obtain ⟨w, al, sg, P, h⟩ := h
  refine raw_ok P h (fun r v s1 w1 al1 H1 P1 L1 hr h1 => ?_) (fun _ => rfl) fun r1 _ _ _ => by
    cases r1 with
    | o x => cases x <;> rfl
    | _ => rfl
  cases r with
  | d _ => exact (show False from h1).elim
  | m _ => exact (show False from h1).elim
  | o x =>
    cases x with
    | lst xs =>
      obtain ⟨ad, rfl, hw, us, hb1, hb2⟩ := hr
      obtain ⟨P3, L3⟩ := P1.wrR (o := .lst []) hw
      exact ⟨Sn.tyL hb1, ad, us, rfl, rfl, hb1, h1 _ _ _ P3 L3 V.non rfl⟩
    | _ => exact (show False from h1).elim
theorem re_clt (C : Cc X n fA fre cf sc Nm W Y) (ho : PE Y a (tE X W a')) (hsu : notSup a = true) (hl : (apos.endLine == pos.line) = true) :
    PE Y (.Call (.Attribute a "clear" apos) [] [] pos) (tE X W (.clt a')) := by
  refine (pe_bm0 PySem.F.plainAttrs_list PySem.F.slot_list_clear PySem.F.type_list_clear mt_clear ho (ab_ok hsu) hl).imp fun σ H Q h => ?_
  rw [C.K]
  exact rd_clt h
theorem rs_asm {i : Nat} {x : Str} (C : Cc X n fA fre cf sc Nm W Y) (hi : Nm[i]? = some x) (hx : Loc sc x) (hf : cf x = true ∨ sc.names.lookup x = some .local) (ha : PE Y a (tE X W a')) (ht : tame a = true) (hl : notLc a = true) : PS Y (.Assign [.Name x p] a pos) (tS X W (.asm i a')) := by
  refine (ps_set (i := i) (x := x) (by rw [C.N]; exact C.nd) (by rw [C.N]; exact hi) (by rw [C.scp]; exact hx) ha (sw_ok ht hl) (hf.elim (fun z => .inl (C.fn x z)) fun z => .inr (by rw [C.scp]; exact z))).imp fun D σ H ⟨w, al, sg, P, h⟩ => ?_
  refine onOut_ok P h fun r v s1 w1 al1 H1 P1 L1 hv h1 => ?_
  cases r with
  | d _ => exact (show False from h1).elim
  | m _ => exact (show False from h1).elim
  | o xo =>
    cases z : ndOf xo with
    | none => simp only [z] at h1; exact (show False from h1).elim
    | some nd =>
      simp only [z] at h1
      obtain ⟨ad, w2, rfl, P2, L2, hy⟩ := P1.alloc hv z
      exact h1 _ _ _ _ (P2.set (r := .m s1.mu.length) hy) L2
end
end Mp
namespace Mp
open PySem L2
structure Sk (Y : Cx) : Prop where
  pass : PassesOwn (model Y.prog Y.w) Y.A Y.env Y.xe
  stk : Y.stack = Y.env :: Y.outer
  fr : Y.env.frame = some Y.env.locals
  ex : Y.ex = []
section
variable {Y : Cx} {e : Expr}
theorem pe_mk {t : St → Hp → XK → Prop} (he : PMk Y e t) : PE Y e (fun σ H Q => t σ H fun cls d H1 => ∀ a, H1 a = none → Q (.ref a) (upd H1 a (XO a cls d))) := by
  refine ⟨fun pins s σ H Q I h => wpAny_mono (he pins s σ H _ I h) (fun u s1 hu => ?_) fun _ _ x => x⟩
  obtain ⟨a, oe, vs, sI, H1, cls, d, rfl, J, k, hne, ha, hz, hd, h1, na, os, ag, r, q⟩ := hu
  have J2 := J.laidN (t' := s1.toks) k hne na (xo_ok ha hz hd)
  refine ⟨.ref a, _, ⟨J2.ok, os.trans J2.os, ag, J2.base, J2.loc, J2.cell, J2.free, J2.freeC, J2.pin, J2.hok, J2.len⟩, rfl, q a na⟩
theorem PMk.imp {t t' : St → Hp → XK → Prop} (he : PMk Y e t) (h : ∀ σ H Q, t' σ H Q → t σ H Q) : PMk Y e t' := fun pins s σ H Q I z => he pins s σ H Q I (h _ _ _ z)
end
section
variable {X : Fx} {n : Nat} {fA : Nat → Addr} {fre : List Str} {cf : Str → Bool} {sc : Scope} {Nm : List Str} {W : WX} {Y : Cx} {pos pos' pos2 apos np p p2 p3 : Pos} {a b c e tgE : Expr} {a' b' c' e' j' : E} {es : List Expr} {es' : E} {σ : St} {Q : VK} {H H1 H2 H' : Hp} {w w1 w2 w' : Wt} {al : List Addr} {sg : Sg} {F : List Rv → Sg → Wt → List Addr → Hp → Prop} {D : Ends} {u : S} {tg : Expr}
variable {P0 : Program} {w0 : World} {mg : Str → Option Value} {base : Heap} {lv : Nat}
theorem tE_mono {Q' : VK} (h : tE X W a' σ H Q) (m : ∀ v H1, Q v H1 → Q' v H1) : tE X W a' σ H Q' := by
  obtain ⟨w, al, sg, P, h⟩ := h
  exact ⟨w, al, sg, P, h.imp fun rs s w' al' H' _ z => by
    match rs, z with
    | [r], z => exact fun v hv => m v H' (z v hv)⟩
theorem tA_mono {R R' : List V → Hp → Prop} (h : tA X W es' σ H R) (m : ∀ v H1, R v H1 → R' v H1) : tA X W es' σ H R' := by
  obtain ⟨w, al, sg, P, h⟩ := h
  exact ⟨w, al, sg, P, h.imp fun rs s w' al' H' _ z vs hv => m vs H' (z vs hv)⟩
theorem crO {C a d : Addr} {fs : List (Str × V)} (hn : H a = none) (e1 : ∀ b, b ≠ a → b ≠ d → H2 b = upd H a (exo a C none) b) : upd (del H2 a) d (.xd fs) = upd H d (.xd fs) := by
  funext b
  by_cases c : b = d
  · subst c; rw [upd_same, upd_same]
  · rw [upd_ne c, upd_ne c]
    by_cases c2 : b = a
    · subst c2; rw [del_same, hn]
    · rw [del_ne c2, e1 b c2 c, upd_ne c2]
theorem pmk_n {c : Nat} {k : Xl} (C : Cc X n fA fre cf sc Nm W Y) (hk : X.G.xs[c]? = some k) (hi : k.ini = none) (hs : sc.names.lookup k.nm = some .globalImplicit) (hd : (k.nm == ("__debug__" : Str)) = false) (ha : PA Y (e :: es) (tA X W es')) (ht : (e :: es).all tame = true) :
    PMk Y (.Call (.Name k.nm p) (e :: es) [] pos) (fun σ H Q => tA X W es' σ H fun vs H1 => vs.length = 1 ∧ Q (.ref (X.T.xA c)) none H1) := by
  have G := C.gf.xs c k hk
  have own := G.own
  rw [hi] at own
  have be := G.be
  have ty := G.ty
  have kp := G.kp
  rw [← C.K] at own be ty kp
  simp only [List.all_cons, Bool.and_eq_true] at ht
  intro pins s σ H Q I h
  refine wpAny_Call_Name_kw (ld_glob I (C.gl hs) G.glo ?_ hd)
  refine PySem.W.callWith_K (h₀ := Y.base) I.ok.mod.kin kp (thn (ha.run pos pins s σ H _ I h) fun us s1 ⟨vs, H1, I1, r1, hl, q⟩ => ⟨I1.kIn, ?_⟩) (star_ok ht.1) (plain_ok ht.2)
  have hl2 : us.length = 1 := by rw [← r1.length]; exact hl
  obtain ⟨bm, N, nm, qn, bs, hdct, sn, sub, ab, col, dd, k0, k1, k2, k3, k5, mN, hC, hN, hni, T⟩ := exc_obj I1.kIn own
  exact wpAny_call_exc_subT F.excBase_ValueError T hC hN hni (fun h' e hm => mk_of I1 hm (raises_own be ty) q (I1.hok.gone hm.new)) (by show us.length ≤ sizeLine; rw [hl2, sizeLine_eq]; omega)
theorem pmk_i {c i0 : Nat} {k : Xl} (C : Cc X n fA fre cf sc Nm W Y) (hk : X.G.xs[c]? = some k) (hi : k.ini = some i0) (hs : sc.names.lookup k.nm = some .globalImplicit) (hd : (k.nm == ("__debug__" : Str)) = false) (ha : PA Y (e :: es) (tA X W es')) (ht : (e :: es).all tame = true) :
    PMk Y (.Call (.Name k.nm p) (e :: es) [] pos) (fun σ H Q => tA X W es' σ H fun vs H1 => vs.length = k.fs.length ∧ ∀ dd, H1 dd = none → Q (.ref (X.T.xA c)) (some dd) (upd H1 dd (.xd ((k.fs.reverse.zip vs).reverse)))) := by
  have G := C.gf.xs c k hk
  have own := G.own
  rw [hi] at own
  rw [← C.K] at own
  simp only [List.all_cons, Bool.and_eq_true] at ht
  obtain ⟨ox, fI, fd, ps, iC, tI, F1, hb, hl⟩ := own
  have hr : Room (2 * n + 2 + 1) Y.A := C.room
  refine PMk.imp (pmk_oex (ds := []) (dvs := []) ox iC tI F1 hr hb .nil (passes_call C.tk fun _ _ _ _ z => z.elim) (C.gl hs) G.glo ha hd (star_ok ht.1) (plain_ok ht.2)) fun σ H Q h => ?_
  refine tA_mono h fun vs H1 ⟨g1, g2⟩ => ⟨by rw [g1]; omega, fun a na => ?_⟩
  rw [List.append_nil]
  refine ⟨a, vs, rfl, by rw [List.length_reverse]; exact g1, upd_same, fun dx H2 hdx ne e1 e2 e3 => ⟨rfl, dx, _, e2, e3, ?_, ?_⟩⟩
  · rw [upd_ne ne] at hdx; exact hdx
  · rw [crO na e1]
    rw [upd_ne ne] at hdx
    exact g2 dx hdx
theorem Vls.reverse {T : Tb} : ∀ {ds : List Mp.D} {vs : List V}, Vls T w H ds vs → Vls T w H ds.reverse vs.reverse
  | [], _, h => by cases (show _ = [] from h); exact rfl
  | x :: xs, _, ⟨v, r, e, h1, h2⟩ => by
    subst e
    rw [List.reverse_cons, List.reverse_cons]
    exact (Vls.reverse h2).append ⟨v, [], rfl, h1, rfl⟩
theorem onDsA_ok {k : List Mp.D → Sg → SO} {Q1 : List V → Hp → Prop} (P : Pt X σ sg w al H) (h : OkS X W w al H D (onDs (ev X.G X.rc a' sg) k))
    (hk : ∀ ds vs s1 w1 al1 H1, Pt X σ s1 w1 al1 H1 → Le w al H w1 al1 H1 → Vls X.T w1 H1 ds vs → OkS X W w1 al1 H1 D (k ds s1) → Q1 vs H1) : tA X W a' σ H Q1 := by
  refine ⟨w, al, sg, P, ?_⟩
  cases e : ev X.G X.rc a' sg with
  | stuck => rw [e] at h; exact h
  | exc c fs s => rw [e] at h; exact fun cls d w' al' H' P' L' x => h σ cls d w' al' H' P' L' x
  | ok rs s =>
    rw [e] at h
    intro w' al' H' P' L' vs hv
    simp only [onDs] at h
    cases z : getDs rs with
    | none => rw [z] at h; exact (show False from h).elim
    | some ds => rw [z] at h; exact hk ds vs s w' al' H' P' L' (Cvs.ds z hv) (OkS.rebase h L')
theorem xr_i {T : Tb} {c : Nat} {k : Xl} {ds : List Mp.D} {vs : List V} {dd : Addr} (R : Rp T w al sg σ H) (hn : T.xN c = k.fs) (hv : Vls T w H ds vs) (hl : vs.length = k.fs.length) (hd : H dd = none) :
    ExR T (setW w dd .frz) (upd H dd (.xd ((k.fs.reverse.zip vs).reverse))) c ds.reverse (.ref (T.xA c)) (some dd) := by
  refine ⟨rfl, .inr ⟨dd, _, rfl, setW_same, upd_same, ?_, ?_⟩⟩
  · rw [List.map_reverse, List.map_fst_zip (by rw [List.length_reverse, hl]; exact Nat.le_refl _), List.reverse_reverse, hn]
  · rw [List.map_reverse, List.map_snd_zip (by rw [List.length_reverse, hl]; exact Nat.le_refl _)]
    exact Vls.mono (Ext.new R hd) _ _ hv.reverse
theorem mkX_n {G : Tab} {c : Nat} {k : Xl} {ds fs : List Mp.D} (hk : G.xs[c]? = some k) (hi : k.ini = none) (h : mkX G c ds = some fs) : ds.length = 1 ∧ fs = [] := by
  unfold mkX at h
  simp only [hk, hi] at h
  match ds, h with
  | [_], h => cases h; exact ⟨rfl, rfl⟩
  | [], h => cases h
  | _ :: _ :: _, h => cases h
theorem mkX_i {G : Tab} {c i0 : Nat} {k : Xl} {ds fs : List Mp.D} (hk : G.xs[c]? = some k) (hi : k.ini = some i0) (h : mkX G c ds = some fs) : ds.length = k.fs.length ∧ fs = ds.reverse := by
  unfold mkX at h
  rw [hk] at h
  simp only [hi] at h
  split at h
  · cases h; exact ⟨by assumption, rfl⟩
  · cases h
theorem rs_rseN {c : Nat} {k : Xl} (C : Cc X n fA fre cf sc Nm W Y) (hk : X.G.xs[c]? = some k) (hi : k.ini = none) (hs : sc.names.lookup k.nm = some .globalImplicit) (hd : (k.nm == ("__debug__" : Str)) = false) (ha : PA Y (e :: es) (tA X W es')) (ht : (e :: es).all tame = true) :
    PS Y (.Raise (some (.Call (.Name k.nm p) (e :: es) [] pos)) none pos2) (tS X W (.rse c es')) :=
  (ps_raise C.calm C.tk (pmk_n C hk hi hs hd ha ht)).imp fun D σ H ⟨w, al, sg, P, h⟩ => onDsA_ok P h fun ds vs s1 w1 al1 H1 P1 L1 hv h1 => by
    cases z : mkX X.G c ds with
    | none => rw [z] at h1; exact (show False from h1).elim
    | some fs =>
      rw [z] at h1
      obtain ⟨hl, rfl⟩ := mkX_n hk hi z
      exact ⟨by rw [← hv.length]; exact hl, h1 σ _ none w1 al1 H1 P1 Le.refl ⟨rfl, .inl ⟨rfl, rfl⟩⟩⟩
theorem rs_rseI {c i0 : Nat} {k : Xl} (C : Cc X n fA fre cf sc Nm W Y) (hk : X.G.xs[c]? = some k) (hi : k.ini = some i0) (hs : sc.names.lookup k.nm = some .globalImplicit) (hd : (k.nm == ("__debug__" : Str)) = false) (ha : PA Y (e :: es) (tA X W es')) (ht : (e :: es).all tame = true) :
    PS Y (.Raise (some (.Call (.Name k.nm p) (e :: es) [] pos)) none pos2) (tS X W (.rse c es')) :=
  (ps_raise C.calm C.tk (pmk_i C hk hi hs hd ha ht)).imp fun D σ H ⟨w, al, sg, P, h⟩ => onDsA_ok P h fun ds vs s1 w1 al1 H1 P1 L1 hv h1 => by
    cases z : mkX X.G c ds with
    | none => rw [z] at h1; exact (show False from h1).elim
    | some fs =>
      rw [z] at h1
      obtain ⟨hl, rfl⟩ := mkX_i hk hi z
      have hl2 : vs.length = k.fs.length := by rw [← hv.length]; exact hl
      exact ⟨hl2, fun dd hdd => h1 σ _ _ _ al1 _ (P1.new hdd) (P1.le hdd) (xr_i P1.1 (C.gf.xs c k hk).nm hv hl2 hdd)⟩
theorem xv_ok {c : Nat} {fs : List Mp.D} {cls : Value} {d : Option Addr} {ad : Addr} (P : Pt X σ sg w al H) (na : H ad = none) (x : ExR X.T w H c fs cls d) : Val X.T (setW w ad .frz) (upd H ad (XO ad cls d)) (.xc c fs) (.ref ad) := by
  obtain ⟨rfl, x⟩ := x
  have xe := Ext.new P.1 (o := XO ad (.ref (X.T.xA c)) d) (ow := .frz) na
  refine ⟨ad, d, rfl, setW_same, upd_same, x.imp id fun ⟨dd, gs, g1, g2, g3, g4, g5⟩ => ⟨dd, gs, g1, (xe dd g2).1, (xe dd g2).2.trans g3, g4, Vls.mono xe _ _ g5⟩⟩
theorem re_xnwN {c : Nat} {k : Xl} (C : Cc X n fA fre cf sc Nm W Y) (hk : X.G.xs[c]? = some k) (hi : k.ini = none) (hs : sc.names.lookup k.nm = some .globalImplicit) (hd : (k.nm == ("__debug__" : Str)) = false) (ha : PA Y (e :: es) (tA X W es')) (ht : (e :: es).all tame = true) :
    PE Y (.Call (.Name k.nm p) (e :: es) [] pos) (tE X W (.xnw c es')) :=
  (pe_mk (pmk_n C hk hi hs hd ha ht)).imp fun σ H Q ⟨w, al, sg, P, h⟩ => many_ok P h fun ds vs s1 w1 al1 H1 P1 L1 hv h1 => by
    cases z : mkX X.G c ds with
    | none => rw [z] at h1; exact (show False from h1).elim
    | some fs =>
      rw [z] at h1
      obtain ⟨hl, rfl⟩ := mkX_n hk hi z
      exact ⟨by rw [← hv.length]; exact hl, fun ad na => h1 _ al1 _ (P1.new na) (P1.le na) _ (xv_ok P1 na ⟨rfl, .inl ⟨rfl, rfl⟩⟩)⟩
theorem re_xnwI {c i0 : Nat} {k : Xl} (C : Cc X n fA fre cf sc Nm W Y) (hk : X.G.xs[c]? = some k) (hi : k.ini = some i0) (hs : sc.names.lookup k.nm = some .globalImplicit) (hd : (k.nm == ("__debug__" : Str)) = false) (ha : PA Y (e :: es) (tA X W es')) (ht : (e :: es).all tame = true) :
    PE Y (.Call (.Name k.nm p) (e :: es) [] pos) (tE X W (.xnw c es')) :=
  (pe_mk (pmk_i C hk hi hs hd ha ht)).imp fun σ H Q ⟨w, al, sg, P, h⟩ => many_ok P h fun ds vs s1 w1 al1 H1 P1 L1 hv h1 => by
    cases z : mkX X.G c ds with
    | none => rw [z] at h1; exact (show False from h1).elim
    | some fs =>
      rw [z] at h1
      obtain ⟨hl, rfl⟩ := mkX_i hk hi z
      have hl2 : vs.length = k.fs.length := by rw [← hv.length]; exact hl
      refine ⟨hl2, fun dd hdd ad na => ?_⟩
      have P2 := P1.new (ow := .frz) (o := .xd ((k.fs.reverse.zip vs).reverse)) hdd
      exact h1 _ al1 _ (P2.new na) ((P1.le hdd).trans (P2.le na)) _ (xv_ok P2 na (xr_i P1.1 (C.gf.xs c k hk).nm hv hl2 hdd))
theorem lkX_ok {T : Tb} {f : Str} : ∀ {ns : List Str} {fs : List Mp.D} {gs : List (Str × V)} {x : Mp.D}, lkX f ns fs = some x → gs.map (·.1) = ns → Vls T w H fs (gs.map (·.2)) → ∃ v, gs.lookup f = some v ∧ Val T w H x v
  | [], _, _, _, e, _, _ => by simp [lkX] at e
  | _ :: _, [], _, _, e, _, _ => by simp [lkX] at e
  | m :: ns, y :: fs, [], _, _, e2, _ => by cases e2
  | m :: ns, y :: fs, (g, v0) :: gs, x, e, e2, ⟨v, r, e3, h1, h2⟩ => by
    simp only [List.map_cons, List.cons.injEq] at e2 e3
    obtain ⟨rfl, e2⟩ := e2
    obtain ⟨rfl, rfl⟩ := e3
    simp only [lkX] at e
    by_cases c : f = g
    · subst c
      rw [if_pos rfl] at e
      cases e
      exact ⟨v0, by simp [List.lookup], h1⟩
    · rw [if_neg c] at e
      obtain ⟨u, g1, g2⟩ := lkX_ok e e2 h2
      exact ⟨u, by rw [lookup_put, if_neg c]; exact g1, g2⟩
theorem lkX_mem {f : Str} : ∀ {ns : List Str} {fs : List Mp.D} {x : Mp.D}, lkX f ns fs = some x → f ∈ ns
  | [], _, _, e => by simp [lkX] at e
  | _ :: _, [], _, e => by simp [lkX] at e
  | m :: ns, y :: fs, x, e => by
    simp only [lkX] at e
    by_cases c : f = m
    · subst c; exact List.mem_cons_self ..
    · rw [if_neg c] at e; exact List.mem_cons_of_mem _ (lkX_mem e)
theorem re_xat {f : Str} (hK : Y.K = X.T.K) (hX : ∀ c k, X.G.xs[c]? = some k → XlOk X.T X.G P0 w0 mg base lv c k) (ha : PE Y a (tE X W a')) (hsu : notSup a = true) : PE Y (.Attribute a f pos) (tE X W (.xat a' f)) :=
  (pe_xt ha (ab_ok hsu)).imp fun σ H Q ⟨w, al, sg, P, h⟩ => by
  refine one_ok P h fun x v s1 w1 al1 H1 P1 L1 hv h1 => ?_
  cases x with
  | xc c fs =>
    simp only at h1
    cases z : X.G.xs[c]? with
    | none => rw [z] at h1; exact (show False from h1).elim
    | some k =>
      rw [z] at h1
      simp only at h1
      cases z2 : lkX f k.fs fs with
      | none => rw [z2] at h1; exact (show False from h1).elim
      | some y =>
        rw [z2] at h1
        have G := hX c k z
        obtain ⟨ad, dx, rfl, hw, ha2, hx⟩ := hv
        rcases hx with ⟨rfl, rfl⟩ | ⟨dd, gs, rfl, g2, g3, g4, g5⟩
        · cases hf : k.fs <;> rw [hf] at z2 <;> simp [lkX] at z2
        · obtain ⟨v, l1, l2⟩ := lkX_ok z2 (g4.trans G.nm) g5
          rw [hK]
          exact ⟨ad, _, dd, gs, v, rfl, G.xf, G.na f (lkX_mem z2), ha2, g3, l1, fin_d P1 h1 l2⟩
  | _ => exact (show False from h1).elim
theorem call_isU : CallR Y (.builtin "isinstance") (fun xs H Q => rIsi Y.K xs H Q ∨ rIsX Y.K xs H Q) := fun pins s σ H xs us Q I r h => h.elim (call_isi pins s σ H xs us Q I r) (call_isX pins s σ H xs us Q I r)
theorem re_xis {q : Option Nat} {x : Str} {cv : V} {u : Value} {b : Expr} (C : Cc X n fA fre cf sc Nm W Y) (hx : x = "isinstance") (hf : x ∈ fre) (hs : sc.names.lookup x = some .globalImplicit) (hc : ClsV cv u) (hu : match q with
    | none => u = .type "ValueError"
    | some c => ∃ k, X.G.xs[c]? = some k ∧ u = .ref (X.T.xA c)) (hb : PE Y b (tC cv)) (ha : PE Y a (tE X W a')) (ht : tame a = true) (htb : tame b = true) :
    PE Y (.Call (.Name x p) [a, b] [] pos) (tE X W (.xis a' q)) := by
  subst hx
  have hpl : [b].all tame = true := by simp [htb]
  refine (pe_callB call_isU (C.gl hs) (C.free hf) PyProof.Rows.boot_isinstance (pa_cons ha (pa_cons hb pa_nil (star_ok htb)) (star_ok ht)) (by decide) (by decide) (star_ok ht) (plain_ok hpl)).imp fun σ H Q ⟨w, al, sg, P, h⟩ => ?_
  rw [C.K]
  refine one_ok P h fun x v s1 w1 al1 H1 P1 L1 hv h1 => ?_
  cases x with
  | non =>
    cases (show v = V.non from hv)
    refine .inl ⟨V.non, cv, .type "NoneType", u, false, rfl, hc, .base .non, ?_, fin_d P1 h1 rfl⟩
    cases q with
    | none => cases hu; exact kit_ty (by decide +kernel)
    | some c =>
      obtain ⟨k, hk, rfl⟩ := hu
      exact (C.gf.xs c k hk).kiN
  | xc c fs =>
    simp only at h1
    cases z : X.G.xs[c]? with
    | none => rw [z] at h1; exact (show False from h1).elim
    | some k =>
      rw [z] at h1
      simp only at h1
      obtain ⟨ad, dx, rfl, hw, ha2, hx⟩ := hv
      refine .inr ⟨ad, _, dx, cv, u, supX k q, rfl, (C.gf.xs c k z).ec, hc, ha2, hx.imp And.right fun ⟨dd, gs, g1, g2, g3, g4, g5⟩ => ⟨dd, gs, g1, g3⟩, ?_, fin_d P1 h1 rfl⟩
      cases q with
      | none => cases hu; exact (C.gf.xs c k z).kiV
      | some c2 =>
        obtain ⟨k2, hk2, rfl⟩ := hu
        exact (C.gf.xs c k z).kit c2 k2 hk2
  | _ => exact (show False from h1).elim
theorem idx_ok : ∀ {xs : List Mp.D} {k : Int} {j : Nat}, idxD xs k = some j → xs[j]? = some (.int k) ∧ ∀ m, m < j → ∃ i, xs[m]? = some (.int i) ∧ i ≠ k
  | [], k, j, e => by simp [idxD] at e
  | .int i :: xs, k, j, e => by
    simp only [idxD] at e
    by_cases c : i = k
    · rw [if_pos c] at e; cases e
      exact ⟨by rw [c]; rfl, fun m h => absurd h (Nat.not_lt_zero m)⟩
    · rw [if_neg c, Option.map_eq_some_iff] at e
      obtain ⟨j0, e0, rfl⟩ := e
      obtain ⟨h1, h2⟩ := idx_ok e0
      refine ⟨by simpa using h1, fun m h => ?_⟩
      cases m with
      | zero => exact ⟨i, rfl, c⟩
      | succ m => obtain ⟨i2, g1, g2⟩ := h2 m (by omega); exact ⟨i2, by simpa using g1, g2⟩
  | .non :: _, _, _, e => by simp [idxD] at e
  | .bl _ :: _, _, _, e => by simp [idxD] at e
  | .str _ :: _, _, _, e => by simp [idxD] at e
  | .tup _ :: _, _, _, e => by simp [idxD] at e
  | .lst _ :: _, _, _, e => by simp [idxD] at e
  | .dct _ _ :: _, _, _, e => by simp [idxD] at e
  | .obj _ _ _ :: _, _, _, e => by simp [idxD] at e
  | .scr _ :: _, _, _, e => by simp [idxD] at e
  | .rl _ :: _, _, _, e => by simp [idxD] at e
  | .xc _ _ :: _, _, _, e => by simp [idxD] at e
  | .tdc _ _ :: _, _, _, e => by simp [idxD] at e
theorem rd_ixs {i : Nat} (h : tE X W (.ixs i es') σ H Q) : tBM X.T.K "list" (rIndex X.T.K) (tVar i) (tA X W es') σ H Q := by
  obtain ⟨w, al, sg, P, h⟩ := h
  simp only [ev] at h
  cases z : peek sg i with
  | none => rw [z] at h; exact (show False from h).elim
  | some x0 =>
    obtain ⟨v, e1, hs⟩ := P.peek z
    cases x0 with
    | lst xs =>
      simp only [z] at h
      obtain ⟨ad, us, rfl, h4, h5⟩ := hs
      refine ⟨_, e1, Sn.tyL h4, many_ok P h fun ds vs s2 w2 al2 H2 P2 L2 hv h2 => ?_⟩
      cases z2 : peek s2 i with
      | none => simp only [z2] at h2; exact (show False from h2).elim
      | some x1 =>
        obtain ⟨v2, e2, hs2⟩ := P2.peek z2
        cases x1 with
        | lst ys =>
          cases ds with
          | nil => simp only [z2] at h2; exact (show False from h2).elim
          | cons y ds => cases ds with
            | cons _ _ => simp only [z2] at h2; exact (show False from by cases y <;> exact h2).elim
            | nil =>
              cases y with
              | int k =>
                simp only [z2] at h2
                obtain ⟨u, rfl, hu⟩ := hv.one rfl
                cases (show u = V.int k from hu)
                obtain ⟨ad2, us2, rfl, g4, g5⟩ := hs2
                rw [e1] at e2; cases e2
                by_cases cl : ys.all flatD = true
                · rw [if_pos cl] at h2
                  cases z3 : idxD ys k with
                  | none => rw [z3] at h2; exact (show False from h2).elim
                  | some j =>
                    rw [z3] at h2
                    obtain ⟨k1, k2⟩ := idx_ok z3
                    obtain ⟨zv, n1, n2⟩ := g5.get k1
                    have fl : ∀ {m : Nat} {d : Mp.D}, ys[m]? = some d → flatD d = true := fun {m d} e => List.all_eq_true.mp cl d (List.mem_of_getElem? e)
                    refine ⟨ad, us2, .int k, j, zv, rfl, rfl, .inl (.inl g4), rfl, Vls.flat1 g5 cl, n1, ?_, fun m z' hm hz => ?_, ?_⟩
                    · rw [Val.eqV n2 (y := .int k) (u := V.int k) rfl (fl k1) rfl]; simp [eqB]
                    · obtain ⟨i2, q1, q2⟩ := k2 m hm
                      obtain ⟨zv2, n3, n4⟩ := g5.get q1
                      rw [hz] at n3; cases n3
                      rw [Val.eqV n4 (y := .int k) (u := V.int k) rfl (fl q1) rfl]; simp [eqB, q2]
                    · exact fin_d P2 h2 rfl
                · rw [if_neg cl] at h2; exact (show False from h2).elim
              | _ => simp only [z2] at h2; exact (show False from h2).elim
        | _ => simp only [z2] at h2; exact (show False from h2).elim
    | _ => simp only [z] at h; exact (show False from h).elim
theorem re_ixs {i : Nat} {x : Str} (C : Cc X n fA fre cf sc Nm W Y) (hN : Y.N[i]? = some x) (hv : Vis Y.env.scope x) (hd : (x == ("__debug__" : Str)) = false) (hcd : (x == ("__classdict__" : Str)) = false) (hsu : notSup (.Name x p) = true) (ha : PA Y [e] (tA X W es')) (ht : tame e = true) (hl : (apos.endLine == pos.line) = true) :
    PE Y (.Call (.Attribute (.Name x p) "index" apos) [e] [] pos) (tE X W (.ixs i es')) := by
  have ht' : [e].all tame = true := by simp [ht]
  refine (pe_bm PySem.F.plainAttrs_list PySem.F.slot_list_index PySem.F.type_list_index mt_index (pe_var hN hv hd hcd) ha (ab_ok hsu) (few_all ht' (show 1 < 30 by decide)) hl (star_ok ht) (plain_ok rfl)).imp fun σ H Q h => ?_
  rw [C.K]
  exact rd_ixs h
theorem re_dsp {k : Str} {j jv : Nat} {pk pv : Pos} {v : Const} {v' : E} (hv : (∃ i, v = .int i ∧ v' = .int i) ∨ ∃ b, v = .bool b ∧ v' = .bl b) : PE Y (.Dict [some (.Constant (.str k) j pk)] [.Constant v jv pv] pos) (tE X W (.dsp k v')) := by
  have go : ∀ (u : V) (d : Mp.D), PE Y (.Constant v jv pv) (tC u) → (∀ s, ev X.G X.rc (.dsp k v') s = .ok [.o (.dct [.str k] [d])] s) → (∀ T w H, Val T w H d u) → PE Y (.Dict [some (.Constant (.str k) j pk)] [.Constant v jv pv] pos) (tE X W (.dsp k v')) := fun u d hp he hd =>
    (pe_disp (pps_cons pe_str hp pps_nil) rfl rfl (by simp) (by simp)).imp fun σ H Q ⟨w, al, sg, P, h⟩ q hq => by
      rw [he] at h
      refine ⟨upd_same, [(.inr k, u)], rfl, by simp, ?_⟩
      have e2 : upd (upd H q (.dK [])) q (.dK (mergeK [] [(.inr k, u)])) = upd H q (.dK [(.inr k, u)]) := by
        funext b
        by_cases c : b = q
        · subst c; rw [upd_same, upd_same]; rfl
        · rw [upd_ne c, upd_ne c, upd_ne c]
      rw [e2]
      exact fin_o P h hq ⟨[(.inr k, u)], upd_same, rfl, u, [], rfl, hd _ _ _, rfl⟩
  rcases hv with ⟨i, rfl, rfl⟩ | ⟨i, rfl, rfl⟩
  · exact go (.int i) (.int i) pe_int (fun _ => rfl) fun _ _ _ => rfl
  · exact go (.bl i) (.bl i) pe_bl (fun _ => rfl) fun _ _ _ => rfl
theorem Pt.clr {i : Nat} (P : Pt X σ sg w al H) : Pt X (σ.set i none) { sg with st := sg.st.set i none } w al H := P.wipe (tg := [i])
theorem rs_tr {c i j : Nat} {k : Xl} {m y : Str} {body : List Stmt} (C : Cc X n fA fre cf sc Nm W Y) (S : Sk Y) (hk : X.G.xs[c]? = some k) (hs : sc.names.lookup k.nm = some .globalImplicit) (hd : (k.nm == ("__debug__" : Str)) = false) (hi : Nm[i]? = some m) (hln : sc.names.lookup m = some .local) (hj : Nm[j]? = some y) (hly : sc.names.lookup y = some .local)
    (hb : ∀ (W' : WX) (pn : List (Addr × Obj)) (xe : Value → Shared → Prop), Takes (Y.tr pn xe) W' → PassesOwn (model Y.prog Y.w) Y.A Y.env xe → PSs (Y.tr pn xe) body (tS X W' u)) (he : ∀ (ad : Addr) (pn : List (Addr × Obj)), PE (Y.suite ad pn) e (tE X WF e')) (ht : tame e = true) (hl : notLc e = true) :
    PS Y (.Try body [.ExceptHandler (some (.Name k.nm np)) (some m) [.Assign [.Name y p] e pos2] pos'] [] [] pos) (tS X W (.tr u c i j e')) := by
  have hN : Y.N.Nodup := by rw [C.N]; exact C.nd
  have G := C.gf.xs c k hk
  have lnm : Y.env.kindOf m = some .local := by
    show Y.env.scope.names.lookup m = _
    rw [C.scp]; exact hln
  have lny : Y.env.scope.names.lookup y = some .local := by rw [C.scp]; exact hly
  refine (ps_keep (i := i) (c := .ref (X.T.xA c)) (Wo := W) (tb := fun W' => tS X W' u) (ts := tS X WF (.asg j e')) S.stk S.fr S.ex hN (by rw [C.N]; exact hi) lnm ⟨C.gl hs, hd, .inl G.glo⟩ C.tk hb fun ad pn => ?_).imp fun D σ H ⟨w, al, sg, P, h⟩ => ⟨w, al, sg, P, ?_⟩
  · refine ss_one ((ps_set (X := Y.suite ad pn) (i := j) (x := y) hN (by show Y.N[j]? = _; rw [C.N]; exact hj) (.inl lny) (he ad pn) (sw_ok ht hl) (.inr lny)).imp fun D σ H ⟨w, al, sg, P, h⟩ => ?_)
    refine onOut_ok P h fun r v s1 w1 al1 H1 P1 L1 hv h1 => ?_
    obtain ⟨w2, P2, L2⟩ := P1.take (i := j) hv
    exact h1 _ _ _ _ P2 L2
  · simp only [ex] at h
    cases e1 : ex X.G X.rc u sg with
    | nx s => rw [e1] at h; exact h
    | rt r s => rw [e1] at h; exact h
    | bk s => rw [e1] at h; exact h
    | ct s => rw [e1] at h; exact h
    | stuck => rw [e1] at h; exact h
    | exc c2 fs s =>
      rw [e1] at h
      intro σ1 cls d w1 al1 H1 P1 L1 hx
      simp only at h
      cases z : X.G.xs[c2]? with
      | none => rw [z] at h; exact (show False from h).elim
      | some k2 =>
        rw [z] at h
        simp only at h
        have hcls := hx.1
        refine ⟨k2.sup.contains c, by rw [C.K, hcls]; exact (C.gf.xs c2 k2 z).exm c k hk, fun q => ?_, fun q ad na => ?_⟩
        · rw [q] at h
          exact h σ1 cls d w1 al1 H1 P1 L1 hx
        · rw [q] at h
          simp only at h
          have P2 := (P1.new (ow := .frz) (o := XO ad cls d) na).set (i := i) (r := .d (.xc c2 fs)) (v := .ref ad) (xv_ok P1 na hx)
          refine ⟨_, al1, _, P2, ?_⟩
          have h := OkS.rebase h (L1.trans (P1.le (ow := .frz) (o := XO ad cls d) na))
          simp only [ex]
          cases e2 : ev X.G X.rc e' { s with st := setS s.st i (.d (.xc c2 fs)) } with
          | stuck => simp only [e2] at h; exact (show False from h).elim
          | exc c3 f3 s3 => simp only [e2] at h; exact (show False from h).elim
          | ok rs s3 =>
            simp only [e2] at h
            cases rs with
            | nil => exact (show False from h).elim
            | cons r t => cases t with
              | cons _ _ => exact (show False from h).elim
              | nil => exact fun σ3 w3 al3 H3 P3 L3 => h _ _ _ _ P3.clr L3
end
end Mp
namespace Mp
open PySem L2
section
variable {X : Fx} {n : Nat} {fA : Nat → Addr} {fre : List Str} {cf : Str → Bool} {sc : Scope} {Nm : List Str} {W : WX} {Y : Cx} {pos apos p p2 p3 : Pos} {a b c e tgE : Expr} {a' b' c' e' j' : E} {es : List Expr} {es' : E} {σ : St} {Q : VK} {H H1 H2 H' : Hp} {w w1 w2 w' : Wt} {al : List Addr} {sg : Sg} {F : List Rv → Sg → Wt → List Addr → Hp → Prop} {D : Ends} {u : S} {tg : Expr}
theorem re_tnew (C : Cc X n fA fre cf sc Nm W Y) : PE Y (.Dict [] [] pos) (tE X W .tnew) := pe_tnew.imp fun σ H Q ⟨w, al, sg, P, h⟩ => by
  rw [C.wd]
  exact fun p hp => fin_o P h hp ⟨[], upd_same, rfl, rfl, rfl⟩
theorem oneX_ok {k : Mp.D → Sg → Out Sg (List Rv)} {Q1 : VK} (P : Pt X σ sg w al H) (h : OkG X W σ w al H F (oneD (noX (ev X.G X.rc a' sg)) k))
    (hk : ∀ x v s1 w1 al1 H1, Pt (X.fr w H) σ s1 w1 al1 H1 → Le w al H w1 al1 H1 → Val X.T w1 H1 x v → OkG X W σ w1 al1 H1 F (k x s1) → Q1 v H1) : tEx X a' σ H Q1 := by
  refine ⟨w, H, w, al, sg, P.fr, ?_⟩
  show OkG _ _ _ _ _ _ _ (ev X.G X.rc a' sg)
  cases e : ev X.G X.rc a' sg with
  | stuck => rw [e] at h; exact h
  | exc c fs s => rw [e] at h; exact (show False from h).elim
  | ok rs s =>
    rw [e] at h
    intro w' al' H' P' L'
    match rs, h with
    | [.d x], h => exact fun v hv => hk x v s w' al' H' P' L' hv (OkG.rebase h L')
    | [.o x], h =>
      intro v hv
      obtain ⟨w2, R2, E2, f2, hv2⟩ := P'.1.resD P'.2 hv (.inr rfl)
      have L2 : Le w' al' H' w2 al' H' := ⟨AlX.refl, E2⟩
      exact hk x v s w2 al' H' ⟨R2, f2⟩ (L'.trans L2) hv2 (OkG.rebase h (L'.trans L2))
    | [.m n], h => exact (show False from h).elim
    | [], h => exact (show False from h).elim
    | r1 :: r2 :: r3, h =>
      exact (show False from by cases r1 with
        | d x => cases x <;> exact h
        | o x => exact h
        | m x => exact h).elim
theorem rd_tdsp (h : tE X W (.tdsp a' b') σ H Q) : tTDisp X.T.wd (tEx X a') (tEx X b') σ H Q := by
  obtain ⟨w, al, sg, P, h⟩ := h
  intro q hq
  have fD : X.H0 q = none ∨ X.w0 q ≠ none := by
    cases z : X.H0 q with
    | none => exact .inl rfl
    | some u => refine .inr fun z2 => ?_; have := (P.2 q u z z2).2; rw [hq] at this; cases this
  have wD : w q = none := P.1.free hq
  obtain ⟨P0, L0⟩ := P.lay (o := TDo X.T.wd q []) hq
  refine oneX_ok P0 (OkG.rebase h L0) fun x v s1 w1 al1 H1 P1 L1 hx h1 => ?_
  obtain ⟨wD1, hH1⟩ := P1.2 q _ upd_same wD
  have P1' := P1.unfr P0.2
  refine oneX_ok P1' h1 fun y u s2 w2 al2 H2 P2 L2 hy h2 => ?_
  obtain ⟨wD2, hH2⟩ := P2.2 q _ hH1 wD1
  have P2' := P2.unfr P1'.2
  refine ⟨hH2, ?_⟩
  cases z : tkOf x with
  | none => simp only [z] at h2; exact (show False from h2).elim
  | some k =>
    simp only [z] at h2
    have hx2 := hx.mono L2.2
    obtain ⟨b, rfl, hb⟩ := tk_val hx2 z
    refine ⟨k, b, rfl, hb, ?_⟩
    obtain ⟨P3, L3⟩ := P2'.wrN (o := TDo X.T.wd q [(k, b, u)]) wD2 fD
    obtain ⟨P4, L4⟩ := P3.tag (ow := .res) wD2 upd_same fD
    have L5 := L3.trans L4
    exact h2 _ _ _ P4 L5 _ ⟨q, rfl, setW_same, [(k, b, u)], upd_same, by simp [z], ⟨_, [], rfl, hx2.mono L5.2, rfl⟩, ⟨_, [], rfl, hy.mono L5.2, rfl⟩⟩
theorem re_tdsp (C : Cc X n fA fre cf sc Nm W Y) (ha : PE Y a (tEx X a')) (hb : PE Y b (tEx X b')) : PE Y (.Dict [some a] [b] pos) (tE X W (.tdsp a' b')) :=
  (pe_tdisp C.hu9 ha hb).imp fun σ H Q h => by rw [C.wd]; exact rd_tdsp h
theorem rd_sdf {i : Nat} (h : tE X W (.sdf i a' b') σ H Q) : tDSetd (tVar i) (tE X W a') (tE X W b') σ H Q := by
  obtain ⟨w, al, sg, P, h⟩ := h
  simp only [ev] at h
  split at h
  · rename_i ks0 ds0 z
    obtain ⟨v, e1, ad, rfl, h3, kvs0, h4, h5⟩ := P.1.slots i _ z
    refine ⟨_, e1, ad, rfl, .inl ⟨kvs0, .inl h4⟩, one_ok P h fun k uk s1 w1 al1 H1 P1 L1 hk h1 => one_ok P1 h1 fun y vz s2 w2 al2 H2 P2 L2 hy h2 => ?_⟩
    split at h2
    · rename_i ks ds z2
      obtain ⟨v2, e2, ad2, rfl, g3, kvs, g4, g5, g6⟩ := P2.1.slots i _ z2
      rw [e1] at e2; cases e2
      by_cases cl : (keyD k && decide (ks.length < sizeLine)) = true
      · rw [if_pos cl] at h2
        obtain ⟨c1, c2⟩ := Bool.and_eq_true_iff.mp cl
        have hk2 := hk.mono L2.2
        obtain ⟨q, rfl, rfl⟩ := keyD_ok hk2 c1
        subst g5
        have c3 := of_decide_eq_true c2
        rw [List.length_map] at c3
        obtain ⟨d1, d2⟩ := dget_ok (q := q) kvs g6
        refine ⟨kvs, q, g4, rfl, c3, fun v hv => ?_, fun hn => ?_⟩
        · have hs := dget_some (q := q) g6
          cases e : dget (dK q) (kvs.map fun p => dK p.1) ds with
          | none => rw [e, hv] at hs; cases hs
          | some d =>
            simp only [e] at h2
            obtain ⟨v', e3, e4⟩ := d1 d e
            rw [hv] at e3; cases e3
            exact fin_d P2 h2 e4
        · have hs := dget_some (q := q) g6
          cases e : dget (dK q) (kvs.map fun p => dK p.1) ds with
          | some d => rw [e, hn] at hs; cases hs
          | none =>
            simp only [e] at h2
            have x1 : Ext w2 H2 w2 (upd H2 ad (.dK (putK kvs q vz))) := Ext.of fun b oo hb z0 => ⟨hb, upd_ne fun z => by rw [z, g3] at hb; cases hb; rcases z0 with z0 | z0 <;> cases z0⟩
            have no := dput_ok (T := X.T) (w := w2) (H := upd H2 ad (.dK (putK kvs q vz))) (q := q) (y := y) (v := vz) (ds := ds) (kvs := kvs) (ad := ad) upd_same (Vls.mono x1 _ _ g6) (Val.mono x1 _ _ hy)
            unfold dput at no
            rw [e] at no
            obtain ⟨P3, L3⟩ := P2.wr (x := .dct ((kvs.map fun p => dK p.1) ++ [dK q]) (ds ++ [y])) g3 ⟨_, z2⟩ e1 no
            exact h2 _ _ _ P3 L3 vz (Val.mono x1 _ _ hy)
      · rw [if_neg cl] at h2; exact (show False from h2).elim
    · exact (show False from h2).elim
  · exact (show False from h).elim
theorem re_sdf {i : Nat} {x : Str} (C : Cc X n fA fre cf sc Nm W Y) (hN : Y.N[i]? = some x) (hv : Vis Y.env.scope x) (hd : (x == ("__debug__" : Str)) = false) (hcd : (x == ("__classdict__" : Str)) = false) (hsu : notSup (.Name x p) = true) (ha : PE Y a (tE X W a')) (hb : PE Y b (tE X W b')) (ht : tame a = true) (htb : tame b = true) (hl : (apos.endLine == pos.line) = true) :
    PE Y (.Call (.Attribute (.Name x p) "setdefault" apos) [a, b] [] pos) (tE X W (.sdf i a' b')) :=
  (pe_dsetd (pe_var hN hv hd hcd) ha hb (m2_ok hsu ht htb hl)).imp fun _ _ _ h => rd_sdf h
theorem rd_sdt {i : Nat} (h : tE X W (.sdt i a' b') σ H Q) : tTSetd X.T.wd (tVar i) (tE X W a') (tE X W b') σ H Q := by
  obtain ⟨w, al, sg, P, h⟩ := h
  simp only [ev] at h
  split at h
  · rename_i ks0 ds0 z
    obtain ⟨v, e1, ad, rfl, h3, kvs0, h4, h5, h6, h7⟩ := P.1.slots i _ z
    refine ⟨_, e1, ad, kvs0, rfl, ⟨.inl h4, tk_all h5 h6⟩, one_ok P h fun k uk s1 w1 al1 H1 P1 L1 hk h1 => one_ok P1 h1 fun y vz s2 w2 al2 H2 P2 L2 hy h2 => ?_⟩
    split at h2
    · rename_i ks ds q z2 zq
      obtain ⟨v2, e2, ad2, rfl, g3, kvs, g4, g5, g6, g7⟩ := P2.1.slots i _ z2
      rw [e1] at e2; cases e2
      by_cases cl : ks.length < sizeLine
      · rw [if_pos cl] at h2
        have hk2 := hk.mono L2.2
        obtain ⟨b, rfl, hb⟩ := tk_val hk2 zq
        have l2 : kvs.length = ks.length := by have := congrArg List.length g5; simpa using this
        obtain ⟨d1, d2⟩ := tget_ok (q := q) kvs g5 g7
        refine ⟨kvs, q, b, g4, tk_all g5 g6, rfl, hb, by omega, fun v hv => ?_, fun hn => ?_⟩
        · cases e : tget q ks ds with
          | none => rw [e, hv] at d1; cases d1
          | some d =>
            simp only [e] at h2
            obtain ⟨v', e3, e4⟩ := d2 d e
            rw [hv] at e3; cases e3
            exact fin_d P2 h2 e4
        · cases e : tget q ks ds with
          | some d => rw [e, hn] at d1; cases d1
          | none =>
            simp only [e] at h2
            have x1 : Ext w2 H2 w2 (upd H2 ad (TDo X.T.wd ad (putN kvs q b vz))) := Ext.of fun b oo hb z0 => ⟨hb, upd_ne fun z => by rw [z, g3] at hb; cases hb; rcases z0 with z0 | z0 <;> cases z0⟩
            have no := tput_ok (T := X.T) (w := w2) (H := upd H2 ad (TDo X.T.wd ad (putN kvs q b vz))) (k := k) (y := y) upd_same g5 (Vls.mono x1 _ _ g6) (Vls.mono x1 _ _ g7) (Val.mono x1 _ _ hk2) zq (Val.mono x1 _ _ hy)
            unfold tputK at no
            rw [e] at no
            obtain ⟨P3, L3⟩ := P2.wr (x := .tdc (ks ++ [k]) (ds ++ [y])) g3 ⟨_, z2⟩ e1 no
            exact h2 _ _ _ P3 L3 vz (Val.mono x1 _ _ hy)
      · rw [if_neg cl] at h2; exact (show False from h2).elim
    · exact (show False from h2).elim
  · exact (show False from h).elim
theorem re_sdt {i : Nat} {x : Str} (C : Cc X n fA fre cf sc Nm W Y) (hN : Y.N[i]? = some x) (hv : Vis Y.env.scope x) (hd : (x == ("__debug__" : Str)) = false) (hcd : (x == ("__classdict__" : Str)) = false) (hsu : notSup (.Name x p) = true) (ha : PE Y a (tE X W a')) (hb : PE Y b (tE X W b')) (ht : tame a = true) (htb : tame b = true) (hl : (apos.endLine == pos.line) = true) :
    PE Y (.Call (.Attribute (.Name x p) "setdefault" apos) [a, b] [] pos) (tE X W (.sdt i a' b')) :=
  (pe_tsetd C.hu9 (pe_var hN hv hd hcd) ha hb (m2_ok hsu ht htb hl)).imp fun _ _ _ h => by rw [C.wd]; exact rd_sdt h
theorem Pt.known {i : Nat} {x : Mp.D} {ad : Addr} {od : Obj} {u : HO} (P : Pt X σ sg w al H) (hw : w ad = some (.slot i)) (hi : ∃ y, sg.st[i]? = some (some (.o y))) (hs : σ[i]? = some (some (.ref ad))) (hu : H ad = some u) (hn : Val X.T (setW w ad .frz) (upd H ad (.frz od u)) x (.ref ad)) :
    Pt X σ { sg with st := setS sg.st i (.d x) } (setW w ad .frz) al (upd H ad (.frz od u)) ∧ Le w al H (setW w ad .frz) al (upd H ad (.frz od u)) := by
  have k : ∀ a q, w a = some q → q ≠ .slot i → setW w ad .frz a = some q ∧ upd H ad (.frz od u) a = H a := fun a q h n => by
    have ne : a ≠ ad := fun z => by rw [z, hw] at h; exact n (Option.some.inj h).symm
    exact ⟨by rw [setW_ne ne]; exact h, upd_ne ne⟩
  have x1 : Ext w H (setW w ad .frz) (upd H ad (.frz od u)) := Ext.of fun b oo hb z0 => k b _ hb (by rcases z0 with rfl | rfl <;> (intro z; cases z))
  obtain ⟨y, hy⟩ := hi
  have hlen : i < sg.st.length := (List.getElem?_eq_some_iff.mp hy).1
  refine ⟨⟨⟨fun j r ej => ?_, fun m d ed => ?_, fun b q hb => ?_, ?_, P.1.alen⟩, fun b o h1 h2 => ?_⟩, AlX.refl, x1⟩
  · by_cases c : j = i
    · subst c
      simp only [setS, List.getElem?_set_self hlen] at ej
      cases ej
      exact ⟨_, hs, hn⟩
    · simp only [setS, List.getElem?_set_ne (Ne.symm c)] at ej
      obtain ⟨v, g1, g2⟩ := P.1.slots j r ej
      exact ⟨v, g1, g2.mono x1 AlX.refl fun b hb => k b _ hb (by intro z; cases z; exact c rfl)⟩
  · obtain ⟨b, g1, g2, g3⟩ := P.1.muts m d ed
    obtain ⟨k1, k2⟩ := k b _ g2 (by intro z; cases z)
    exact ⟨b, g1, k1, g3.mono x1 AlX.refl k2⟩
  · by_cases c : b = ad
    · subst c; exact ⟨_, upd_same⟩
    · rw [setW_ne c] at hb
      obtain ⟨v, hv⟩ := P.1.trk b q hb
      exact ⟨v, by rw [upd_ne c]; exact hv⟩
  · show (setS sg.st i (.d x)).length = _
    rw [setS, List.length_set]; exact P.1.len
  · obtain ⟨g1, g2⟩ := P.2 b o h1 h2
    have ne : b ≠ ad := fun z => by rw [z, hw] at g1; cases g1
    exact ⟨by rw [setW_ne ne]; exact g1, by rw [upd_ne ne]; exact g2⟩
theorem it_dk {T : Tb} {ad : Addr} {od : Obj} {kvs : List (Key × V)} (hw : w ad = some .frz) (hH : H ad = some (.frz od (.dK kvs))) : ItOk T w H (Itk ad od kvs) (kvs.map fun p => dK p.1) := by
  have key : ∀ {w' : Wt} {H' : Hp}, Ext w H w' H' → H' ad = some (.frz od (.dK kvs)) := fun {w' H'} x => by rw [(x ad hw).2]; exact hH
  refine ⟨fun w' H' i x h => ⟨key x, by simpa using h⟩, fun w' H' i x h => ⟨key x, by simpa using h⟩, fun w' H' i d v H'' x _ e y => .inl ?_⟩
  obtain ⟨rfl, k, v0, hk, rfl⟩ := y
  rw [List.getElem?_map, hk] at e
  cases e
  refine ⟨rfl, ?_⟩
  cases k <;> rfl
theorem it_td {T : Tb} {ad : Addr} {od : Obj} {kvs : NT} {ks : List Mp.D} (hw : w ad = some .frz) (hH : H ad = some (.frz od (TDo T.wd ad kvs))) (hk0 : kvs.map (fun p => some p.1) = ks.map tkOf) (hk : Vls T w H ks (kvs.map fun p => .ref p.2.1)) : ItOk T w H (ItTd T.wd ad od kvs) ks := by
  have key : ∀ {w' : Wt} {H' : Hp}, Ext w H w' H' → H' ad = some (.frz od (TDo T.wd ad kvs)) ∧ ∀ p ∈ kvs, NKat H' p.1 p.2.1 := fun {w' H'} x => ⟨by rw [(x ad hw).2]; exact hH, tk_all hk0 (Vls.mono x _ _ hk)⟩
  have hl : ks.length = kvs.length := by have := hk.length; simpa using this
  refine ⟨fun w' H' i x h => ⟨key x, by omega⟩, fun w' H' i x h => ⟨key x, by omega⟩, fun w' H' i d v H'' x _ e y => .inl ?_⟩
  obtain ⟨rfl, p, hp, rfl⟩ := y
  obtain ⟨u, h1, h2⟩ := (Vls.mono x _ _ hk).get e
  rw [List.getElem?_map, hp] at h1
  cases h1
  exact ⟨rfl, h2⟩
theorem rd_pk {i : Nat} {R : It → Hp → Prop} (h : tI X W (.pk i) σ H R) : iKeysL X.T.wd (tVar i) σ H R := by
  obtain ⟨w, al, sg, P, h⟩ := h
  simp only [ev] at h
  split at h
  · rename_i ks ds z
    obtain ⟨v, e1, ad, rfl, h3, kvs, h4, h5, h6⟩ := P.1.slots i _ z
    subst h5
    refine ⟨_, e1, ad, rfl, .inl ⟨kvs, h4, fun od => ?_⟩⟩
    have x1 : Ext w H (setW w ad .frz) (upd H ad (.frz od (.dK kvs))) := Ext.of fun b oo hb z0 => by
      have ne : b ≠ ad := fun z => by rw [z, h3] at hb; cases hb; rcases z0 with z0 | z0 <;> cases z0
      exact ⟨by rw [setW_ne ne]; exact hb, upd_ne ne⟩
    obtain ⟨P2, L2⟩ := P.known (od := od) (x := .dct (kvs.map fun p => dK p.1) ds) h3 ⟨_, z⟩ e1 h4 ⟨ad, kvs, rfl, setW_same, .inr ⟨od, upd_same⟩, rfl, Vls.mono x1 _ _ h6⟩
    exact FI.get (h _ _ _ P2 L2) _ (it_dk setW_same upd_same)
  · rename_i ks ds z
    obtain ⟨v, e1, ad, rfl, h3, kvs, h4, h5, h6, h7⟩ := P.1.slots i _ z
    refine ⟨_, e1, ad, rfl, .inr ⟨kvs, h4, tk_all h5 h6, fun od => ?_⟩⟩
    have x1 : Ext w H (setW w ad .frz) (upd H ad (.frz od (TDo X.T.wd ad kvs))) := Ext.of fun b oo hb z0 => by
      have ne : b ≠ ad := fun z => by rw [z, h3] at hb; cases hb; rcases z0 with z0 | z0 <;> cases z0
      exact ⟨by rw [setW_ne ne]; exact hb, upd_ne ne⟩
    have hk := Vls.mono x1 _ _ h6
    obtain ⟨P2, L2⟩ := P.known (od := od) (x := .tdc ks ds) h3 ⟨_, z⟩ e1 h4 ⟨ad, kvs, rfl, setW_same, .inr ⟨od, upd_same⟩, h5, hk, Vls.mono x1 _ _ h7⟩
    exact FI.get (h _ _ _ P2 L2) _ (it_td setW_same upd_same h5 hk)
  · exact (show False from h).elim
theorem ri_pk {i : Nat} {x : Str} (C : Cc X n fA fre cf sc Nm W Y) (hN : Y.N[i]? = some x) (hv : Vis Y.env.scope x) (hd : (x == ("__debug__" : Str)) = false) (hcd : (x == ("__classdict__" : Str)) = false) : PI Y tgE (.Name x p) (tI X W (.pk i)) :=
  (pi_keysL (pe_var hN hv hd hcd)).imp fun σ H R h => by rw [C.wd]; exact rd_pk h
end
end Mp
namespace Mp
open PySem L2
section
variable {X : Fx} {n : Nat} {fA : Nat → Addr} {fre : List Str} {cf : Str → Bool} {sc : Scope} {Nm : List Str} {W : WX} {Y : Cx} {pos apos p p2 p3 : Pos} {a b c e tgE : Expr} {a' b' c' e' j' : E} {es : List Expr} {es' : E} {σ : St} {Q : VK} {H H1 H2 H' : Hp} {w w1 w2 w' : Wt} {al : List Addr} {sg : Sg} {F : List Rv → Sg → Wt → List Addr → Hp → Prop} {D : Ends} {u : S} {tg : Expr}
theorem Pt.give {j : Nat} {x : Mp.D} {v : V} (P : Pt X σ sg w al H) (hj : sg.st[j]? = some (some (.o x))) (hs : σ[j]? = some (some v)) : ∃ w', Pt X σ { sg with st := sg.st.set j none } w' al H ∧ Le w al H w' al H ∧ Res X.T w' al H .res (.o x) v := by
  obtain ⟨v2, e1, ad, rfl, hw, hn⟩ := P.1.slots j _ hj
  rw [hs] at e1; cases e1
  have k : ∀ b q, w b = some q → q ≠ .slot j → setW w ad .res b = some q := fun b q h n => by
    have ne : b ≠ ad := fun z => by rw [z, hw] at h; exact n (Option.some.inj h).symm
    rw [setW_ne ne]; exact h
  have x1 : Ext w H (setW w ad .res) H := Ext.of fun b oo h z0 => ⟨k b _ h (by rcases z0 with rfl | rfl <;> (intro z; cases z)), rfl⟩
  refine ⟨setW w ad .res, ⟨⟨fun i r ei => ?_, fun m d ed => ?_, fun b q hb => ?_, by rw [List.length_set]; exact P.1.len, P.1.alen⟩, P.2.setW hw⟩, ⟨AlX.refl, x1⟩, ad, rfl, setW_same, hn.mono x1 rfl⟩
  · have ei : (sg.st.set j none)[i]? = some (some r) := ei
    by_cases c : i = j
    · subst c
      rw [List.getElem?_set] at ei
      split at ei
      · split at ei <;> cases ei
      · exact absurd rfl ‹_›
    · rw [List.getElem?_set_ne (Ne.symm c)] at ei
      obtain ⟨v3, g1, g2⟩ := P.1.slots i r ei
      exact ⟨v3, g1, g2.mono x1 AlX.refl fun b hb => ⟨k b _ hb (by intro z; cases z; exact c rfl), rfl⟩⟩
  · obtain ⟨b, g1, g2, g3⟩ := P.1.muts m d ed
    exact ⟨b, g1, k b _ g2 (by intro z; cases z), g3.mono x1 AlX.refl rfl⟩
  · by_cases c : b = ad
    · subst c; exact P.1.trk b _ hw
    · rw [setW_ne c] at hb; exact P.1.trk b q hb
theorem rs_mv {i j : Nat} {x y : Str} (C : Cc X n fA fre cf sc Nm W Y) (hi : Nm[i]? = some x) (hx : Loc sc x) (hf : cf x = true ∨ sc.names.lookup x = some .local) (hN : Y.N[j]? = some y) (hv : Vis Y.env.scope y) (hd : (y == ("__debug__" : Str)) = false) (hcd : (y == ("__classdict__" : Str)) = false) : PS Y (.Assign [.Name x p] (.Name y p2) pos) (tS X W (.mv i j)) := by
  refine (ps_set (i := i) (x := x) (by rw [C.N]; exact C.nd) (by rw [C.N]; exact hi) (by rw [C.scp]; exact hx) (pe_var hN hv hd hcd) (sw_ok rfl rfl) (hf.elim (fun z => .inl (C.fn x z)) fun z => .inr (by rw [C.scp]; exact z))).imp fun D σ H ⟨w, al, sg, P, h⟩ => ?_
  simp only [ex] at h
  split at h
  · rename_i xo z
    obtain ⟨v, e1, _⟩ := P.1.slots j _ z
    obtain ⟨w2, P2, L2, hr⟩ := P.give z e1
    obtain ⟨w3, P3, L3⟩ := P2.take (i := i) hr
    exact ⟨v, e1, h _ _ _ _ P3 (L2.trans L3)⟩
  · exact (show False from h).elim
theorem rd_cl (h : tE X W (.cl a') σ H Q) : tCB (rLenM X.T.K X.T.wd) (tCons (tE X W a') tNil) σ H Q := by
  obtain ⟨w, al, sg, P, h⟩ := h
  refine one_r P h fun r v s1 w1 al1 H1 P1 L1 hv h1 => ?_
  cases r with
  | d _ => exact (show False from h1).elim
  | o _ => exact (show False from h1).elim
  | m k =>
    simp only at h1
    obtain ⟨ad, ha, rfl⟩ := hv
    cases z : s1.mu[k]? with
    | none => rw [z] at h1; exact (show False from h1).elim
    | some d =>
      cases d with
      | lst xs =>
        simp only [z] at h1
        obtain ⟨ad0, g1, g2, us, g3, g4⟩ := P1.1.muts k _ z
        rw [ha] at g1; cases g1
        exact .inl (.inl ⟨_, xs.length, rfl, .inl ⟨us, .inl (.inl g3), g4.length⟩, h1.here P1 _ rfl⟩)
      | _ => rw [z] at h1; exact (show False from h1).elim
theorem re_cl {x : Str} (C : Cc X n fA fre cf sc Nm W Y) (hx : x = "len") (hf : x ∈ fre) (hs : sc.names.lookup x = some .globalImplicit) (ha : PE Y a (tE X W a')) (ht : tame a = true) : PE Y (.Call (.Name x p) [a] [] pos) (tE X W (.cl a')) := by
  subst hx
  exact (pe_callB cr_lenM (C.gl hs) (C.free hf) PySem.boot_len (pa_cons ha pa_nil (star_ok ht)) (by decide) (by decide) (star_ok ht)).imp fun σ H Q h => by rw [C.K, C.wd]; exact rd_cl h
theorem re_cs (C : Cc X n fA fre cf sc Nm W Y) (ha : PE Y a (tE X W a')) (hb : PE Y b (tE X W b')) (ht : tame b = true) : PE Y (.Subscript a b pos) (tE X W (.cs a' b')) :=
  (pe_ix ix_list ha hb (px_ok ht)).imp fun σ H Q ⟨w, al, sg, P, h⟩ => by
  refine one_r P h fun r v s1 w1 al1 H1 P1 L1 hv h1 => ?_
  cases r with
  | d _ => exact (show False from h1).elim
  | o _ => exact (show False from h1).elim
  | m nn =>
    obtain ⟨ad, e2, rfl⟩ := hv
    refine one_ok P1 h1 fun y u s2 w2 al2 H2 P2 L2 hy h2 => ?_
    cases z2 : s2.mu[nn]? with
    | none => rw [z2] at h2; exact (show False from h2).elim
    | some d =>
      cases d with
      | lst xs =>
        cases y with
        | int k =>
          cases (show u = V.int k from hy)
          simp only [z2] at h2
          obtain ⟨ad2, g1, g2, us, g3, g4⟩ := P2.1.muts nn _ z2
          rw [L2.1.get e2] at g1; cases g1
          cases z3 : _root_.L2.atI xs k with
          | none => rw [z3] at h2; exact (show False from h2).elim
          | some r =>
            obtain ⟨q, k1, k2⟩ := g4.at z3
            rw [C.K]
            refine ⟨ad, us, k, q, rfl, rfl, .inl (.inl g3), k1, ?_⟩
            cases r with
            | o _ => exact k2.elim
            | d x => simp only [z3] at h2; exact h2.here P2 q k2
            | m x => simp only [z3] at h2; exact h2.here P2 q k2
        | _ => rw [z2] at h2; exact (show False from h2).elim
      | _ => rw [z2] at h2; exact (show False from by cases y <;> exact h2).elim
theorem rd_ci {neg : Bool} (h : tE X W (.ci neg a' b') σ H Q) : tOp (rInTd X.T.wd neg) (tE X W a') (tE X W b') σ H Q := by
  obtain ⟨w, al, sg, P, h⟩ := h
  refine one_ok P h fun x v s1 w1 al1 H1 P1 L1 hx h1 => ?_
  refine one_r P1 h1 fun r u s2 w2 al2 H2 P2 L2 hr h2 => ?_
  cases r with
  | d _ => exact (show False from h2).elim
  | o _ => exact (show False from h2).elim
  | m nn =>
    obtain ⟨ad, e2, rfl⟩ := hr
    simp only at h2
    split at h2
    · rename_i ks ds q z2 zq
      obtain ⟨ad2, g1, g2, kvs, g3, g5, g6, g4⟩ := P2.1.muts nn _ z2
      rw [e2] at g1; cases g1
      obtain ⟨b, rfl, hb⟩ := tk_val (hx.mono L2.2) zq
      refine ⟨ad, _, rfl, ⟨kvs, q, b, ⟨.inl g3, tk_all g5 g6⟩, rfl, hb, rfl⟩, ?_⟩
      rw [← tgetM_ok (q := q) kvs g5 g4]
      exact fin_d P2 h2 rfl
    · exact (show False from h2).elim
theorem re_ci {neg : Bool} {op : CmpOp} (C : Cc X n fA fre cf sc Nm W Y) (hop : op = if neg then .NotIn else .In) (ha : PE Y a (tE X W a')) (hb : PE Y b (tE X W b')) (ht : tame b = true) :
    PE Y (.Compare a [op] [b] pos) (tE X W (.ci neg a' b')) ∧ PT Y (.Compare a [op] [b] pos) (tT X W (.ci neg a' b')) := by
  subst hop
  have hr : OpR Y (compareOp (if neg then .NotIn else .In)) (rInTd X.T.wd neg) := by
    rw [← C.wd]
    cases neg
    · exact op_inTd C.hu9
    · exact op_ntTd C.hu9
  exact ⟨(pe_cmpR hr ha hb (bm_ok ht)).imp fun _ _ _ h => rd_ci h, (pt_cmpR hr ha hb (bm_ok ht)).imp fun _ _ _ h => rd_ci (rd_T h)⟩
theorem re_rev {x y : Str} (C : Cc X n fA fre cf sc Nm W Y) (hx : x = "list") (hf : x ∈ fre) (hs : sc.names.lookup x = some .globalImplicit) (hy : y = "reversed") (hfy : y ∈ fre) (hsy : sc.names.lookup y = some .globalImplicit) (ha : PE Y a (tE X W a')) (ht : tame a = true) :
    PE Y (.Call (.Name x p) [.Call (.Name y p2) [a] [] p3] [] pos) (tE X W (.rev a')) := by
  subst hx hy
  refine (pe_lstRev C.calm (C.gl hs) (C.free hf) (C.gl hsy) (C.free hfy) ha (star_ok ht)).imp fun σ H Q ⟨w, al, sg, P, h⟩ => ?_
  refine one_ok P h fun x v s1 w1 al1 H1 P1 L1 hx h1 => ?_
  cases x with
  | lst xs =>
    obtain ⟨ad, vs, rfl, h2, h3, h4⟩ := hx
    refine ⟨ad, vs, rfl, .inl (.inl h3), fun q hq => fin_o P1 h1 hq ⟨_, upd_same, ?_⟩⟩
    have : ∀ {xs : List Mp.D} {vs : List V}, Vls X.T w1 H1 xs vs → Vls X.T w1 H1 xs.reverse vs.reverse := by
      intro xs
      induction xs with
      | nil => intro vs h; cases (show vs = [] from h); exact rfl
      | cons x xs ih =>
        intro vs ⟨v, r, e, h1, h2⟩
        subst e
        rw [List.reverse_cons, List.reverse_cons]
        exact (ih h2).append ⟨v, [], rfl, h1, rfl⟩
    exact Vls.mono (Ext.new P1.1 hq) _ _ (this h4)
  | _ => exact (show False from h1).elim
theorem rd_popl {i : Nat} (h : tE X W (.popl i) σ H Q) : tBM0 X.T.K "list" rPop (tVar i) σ H Q := by
  obtain ⟨w, al, sg, P, h⟩ := h
  simp only [ev] at h
  split at h
  · rename_i xs z
    obtain ⟨v, e1, ad, rfl, h3, us, h4, h5⟩ := P.1.slots i _ z
    split at h
    · rename_i y zy
      have hl := h5.length
      obtain ⟨u, k1, k2⟩ := h5.get zy
      refine ⟨_, e1, Sn.tyL h4, ad, us, u, rfl, rfl, h4, by rw [← hl]; exact k1, ?_⟩
      have x1 : Ext w H w (upd H ad (.lst us.dropLast)) := Ext.of fun b oo hb z0 => ⟨hb, upd_ne fun z => by rw [z, h3] at hb; cases hb; rcases z0 with z0 | z0 <;> cases z0⟩
      have hdl : Vls X.T w (upd H ad (.lst us.dropLast)) xs.dropLast us.dropLast := by
        have z1 : xs.dropLast = xs.take (xs.length - 1) := List.dropLast_eq_take
        have z2 : us.dropLast = us.take (xs.length - 1) := by rw [List.dropLast_eq_take, ← hl]
        have z3 := (Vls.mono x1 _ _ h5).take (xs.length - 1)
        rw [← z1, ← z2] at z3
        exact z3
      obtain ⟨P3, L3⟩ := P.wr (x := .lst xs.dropLast) (o := .lst us.dropLast) h3 ⟨_, z⟩ e1 ⟨_, upd_same, hdl⟩
      exact h _ _ _ P3 L3 u (Val.mono x1 _ _ k2)
    · exact (show False from h).elim
  · exact (show False from h).elim
theorem re_popl {i : Nat} {x : Str} (C : Cc X n fA fre cf sc Nm W Y) (hN : Y.N[i]? = some x) (hv : Vis Y.env.scope x) (hd : (x == ("__debug__" : Str)) = false) (hcd : (x == ("__classdict__" : Str)) = false) (hsu : notSup (.Name x p) = true) (hl : (apos.endLine == pos.line) = true) :
    PE Y (.Call (.Attribute (.Name x p) "pop" apos) [] [] pos) (tE X W (.popl i)) := by
  refine (pe_bm0 PySem.F.plainAttrs_list PySem.F.slot_list_pop PySem.F.type_list_pop mt_pop (pe_var hN hv hd hcd) (ab_ok hsu) hl).imp fun σ H Q h => ?_
  rw [C.K]
  exact rd_popl h
theorem zipD_get : ∀ {xs ys : List Mp.D} {i : Nat} {d : Mp.D}, (zipD xs ys)[i]? = some d → ∃ x y, xs[i]? = some x ∧ ys[i]? = some y ∧ d = .tup [x, y]
  | [], _, i, d, e => by simp [zipD] at e
  | _ :: _, [], i, d, e => by simp [zipD] at e
  | x :: xs, y :: ys, 0, d, e => by simp [zipD] at e; exact ⟨x, y, rfl, rfl, e.symm⟩
  | x :: xs, y :: ys, i + 1, d, e => by
    have e : (zipD xs ys)[i]? = some d := by simpa [zipD] using e
    obtain ⟨a, b, h1, h2, h3⟩ := zipD_get e
    exact ⟨a, b, by simpa using h1, by simpa using h2, h3⟩
theorem zipD_len : ∀ {xs ys : List Mp.D}, (zipD xs ys).length = min xs.length ys.length
  | [], _ => by simp [zipD]
  | _ :: _, [] => by simp [zipD]
  | x :: xs, y :: ys => by simp [zipD, zipD_len]
theorem it_zip {T : Tb} {a b : Addr} {vs us : List V} {xs ys : List Mp.D} (hwa : w a = some .frz) (ha : H a = some (.lst vs)) (hwb : w b = some .frz) (hb : H b = some (.lst us)) (hx : Vls T w H xs vs) (hy : Vls T w H ys us) : ItOk T w H (Itz T.K a b) (zipD xs ys) := by
  have ka : ∀ {w' : Wt} {H' : Hp}, Ext w H w' H' → SqL T.K H' a vs := fun {w' H'} x => .inl (.inl ((x a hwa).2.trans ha))
  have kb : ∀ {w' : Wt} {H' : Hp}, Ext w H w' H' → SqL T.K H' b us := fun {w' H'} x => .inl (.inl ((x b hwb).2.trans hb))
  have la := hx.length
  have lb := hy.length
  refine ⟨fun w' H' i x h => ?_, fun w' H' i x h => ⟨vs, us, ka x, kb x, ?_⟩, fun w' H' i d v H'' x tk e y => .inr ?_⟩
  · rw [zipD_len] at h
    exact ⟨vs, us, vs[i]'(by omega), us[i]'(by omega), ka x, kb x, List.getElem?_eq_getElem _, List.getElem?_eq_getElem _⟩
  · rw [zipD_len] at h; omega
  · obtain ⟨xd, yd, e1, e2, rfl⟩ := zipD_get e
    obtain ⟨u1, h1, h2⟩ := (hx.mono x).get e1
    obtain ⟨u2, h3, h4⟩ := (hy.mono x).get e2
    obtain ⟨T1, x1, y1, rfl, hT, rfl, hx1, hy1⟩ := y
    have q1 := hx1 vs (ka x)
    have q2 := hy1 us (kb x)
    rw [h1] at q1; cases q1
    rw [h3] at q2; cases q2
    have xt : Ext w' H' (setW w' T1 .frz) (upd H' T1 (.tup [u1, u2])) := Ext.of fun b oo hb _ => by
      have ne : b ≠ T1 := fun z => by
        obtain ⟨u, hu⟩ := tk b _ hb
        rw [z, hT] at hu; cases hu
      exact ⟨by rw [setW_ne ne]; exact hb, upd_ne ne⟩
    exact ⟨T1, _, hT, rfl, T1, _, rfl, setW_same, upd_same, _, _, rfl, Val.mono xt _ _ h2, _, _, rfl, Val.mono xt _ _ h4, rfl⟩
theorem ri_zip {elts : List Expr} {kk : Nat} {tpos : Pos} (C : Cc X n fA fre cf sc Nm W Y) (hf : ("zip" : Str) ∈ fre) (hs : sc.names.lookup ("zip" : Str) = some .globalImplicit) (ht : tame a = true) (htb : tame b = true) (ha : PA Y [a, b] (tA X W es')) : PI Y (.Tuple elts kk tpos) (.Call (.Name "zip" p) [a, b] [] pos) (tI X W (.zip es')) :=
  (RZ.pi_zipA (C.gl hs) (C.free hf) ha (star_ok ht) (plain_ok (by simp [htb]))).imp fun σ H R ⟨w, al, sg, P, h⟩ => by
  refine many_ok P h fun ds vs s1 w1 al1 H1 P1 L1 hv h1 => ?_
  rw [C.K]
  split at h1
  · rename_i xs ys
    obtain ⟨v1, r1, rfl, ⟨a1, us1, rfl, g1, g2, g3⟩, v2, r2, rfl, ⟨a2, us2, rfl, g4, g5, g6⟩, g7⟩ := hv
    cases (show r2 = [] from g7)
    exact ⟨a1, a2, us1, us2, rfl, .inl ⟨.inl (.inl g2), .inl (.inl g5), FI.get (h1.here P1) _ (it_zip g1 g2 g4 g5 g3 g6)⟩⟩
  · exact (show False from h1).elim
def rEq2 (K : PySem.W.Frag) : Bool → R2
  | true => rNeD K
  | false => rEqD K
theorem rd_eqs {neg : Bool} {i j : Nat} (h : tE X W (.eqs neg i j) σ H Q) : tOp (rEq2 X.T.K neg) (tVar i) (tVar j) σ H Q := by
  obtain ⟨w, al, sg, P, h⟩ := h
  simp only [ev] at h
  split at h
  · rename_i x y zx zy
    obtain ⟨v, e1, hx⟩ := P.peek zx
    obtain ⟨u, e2, hy⟩ := P.peek zy
    cases e : eqF x y with
    | none => rw [e] at h; exact (show False from h).elim
    | some b =>
      rw [e] at h
      obtain ⟨d, f, h1, h2, h3, h4, h5⟩ := eq_readS hx hy e
      cases neg with
      | true => exact ⟨v, e1, u, e2, d, f, h1, h2, h3, h4, by rw [h5]; exact fin_d P h rfl⟩
      | false => exact ⟨v, e1, u, e2, d, f, h1, h2, h3, h4, by rw [h5]; exact fin_d P h rfl⟩
  · exact (show False from h).elim
theorem re_eqs {neg : Bool} {i j : Nat} {x y : Str} {op : CmpOp} (C : Cc X n fA fre cf sc Nm W Y) (hop : op = if neg then .NotEq else .Eq) (hN : Y.N[i]? = some x) (hv : Vis Y.env.scope x) (hd : (x == ("__debug__" : Str)) = false) (hcd : (x == ("__classdict__" : Str)) = false) (hNy : Y.N[j]? = some y) (hvy : Vis Y.env.scope y) (hdy : (y == ("__debug__" : Str)) = false) (hcdy : (y == ("__classdict__" : Str)) = false) (h64 : Y.A.units + 64 < cLine) :
    PE Y (.Compare (.Name x p) [op] [.Name y p2] pos) (tE X W (.eqs neg i j)) ∧ PT Y (.Compare (.Name x p) [op] [.Name y p2] pos) (tT X W (.eqs neg i j)) := by
  subst hop
  have hr : OpR Y (compareOp (if neg then .NotEq else .Eq)) (rEq2 X.T.K neg) := by
    rw [← C.K]
    cases neg
    · exact op_eqD h64
    · exact op_neD h64
  exact ⟨(pe_cmpR hr (pe_var hN hv hd hcd) (pe_var hNy hvy hdy hcdy) (bm_ok rfl)).imp fun _ _ _ h => rd_eqs h, (pt_cmpR hr (pe_var hN hv hd hcd) (pe_var hNy hvy hdy hcdy) (bm_ok rfl)).imp fun _ _ _ h => rd_eqs (rd_T h)⟩
end
end Mp
namespace Mp
open PySem L2
structure Ct where
  G : Tab
  fre : List Str
  sc : Scope
  Nm : List Str
def visB (sc : Scope) (x : Str) : Bool := match sc.names.lookup x with
  | some .local => true
  | some .cell => true
  | some .free => true
  | _ => false
def locB (sc : Scope) (x : Str) : Bool := match sc.names.lookup x with
  | some .local => true
  | some .cell => true
  | _ => false
def gloB (sc : Scope) (x : Str) : Bool := (match sc.names.lookup x with
  | some .globalImplicit => true
  | _ => false) && !(x == ("__debug__" : Str))
def slotB (c : Ct) (i : Nat) (x : Str) : Bool := (c.Nm[i]? == some x) && (visB c.sc x && (!(x == ("__debug__" : Str)) && !(x == ("__classdict__" : Str))))
def ckNm (c : Ct) (i : Nat) : Expr → Bool
  | .Name x _ => slotB c i x
  | _ => false
def binB : Operator → O2 → Bool
  | .Add, .add => true
  | .Sub, .sub => true
  | .Mult, .mul => true
  | .FloorDiv, .fdiv => true
  | .Mod, .mod => true
  | .Pow, .pow => true
  | _, _ => false
def cmpB : CmpOp → O2 → Bool
  | .Lt, .lt => true
  | .LtE, .le => true
  | .Gt, .gt => true
  | .GtE, .ge => true
  | .Eq, .eq => true
  | .NotEq, .ne => true
  | .In, .isin => true
  | .NotIn, .ntin => true
  | .Is, .isv => true
  | .IsNot, .ntv => true
  | _, _ => false
def insB : Bool → CmpOp → Bool
  | true, .NotIn => true
  | false, .In => true
  | _, _ => false
def anB (c : Ct) (k : Nat) (f : Str) : Bool := c.G.an[k]? == some f
def fnB (c : Ct) (f : Nat) (x : Str) : Bool := match c.G.fns[f]? with
  | some F => (F.nm == x) && F.cl.isNone
  | none => false
def clB (c : Ct) (k : Nat) (x : Str) : Bool := match c.G.cls[k]? with
  | some z => z.nm == x
  | none => false
def xlB (c : Ct) (k : Nat) (x : Str) : Bool := match c.G.xs[k]? with
  | some z => z.nm == x
  | none => false
def xtC (c : Ct) (q : Option Nat) : Expr → Bool
  | .Name x _ => (match q with
    | some k => xlB c k x && gloB c.sc x
    | none => (x == ("ValueError" : Str)) && (c.fre.contains x && gloB c.sc x))
  | _ => false
def biN : Bi → Str
  | .len => "len"
  | .int => "int"
  | .list => "list"
  | .tuple => "tuple"
  | .all => "all"
  | .any => "any"
  | .max2 => "max"
  | .min2 => "min"
  | .str => "str"
  | .setlen => "len"
  | .dict => "dict"
  | .sorted => "sorted"
def biK : Bi → Bool
  | .setlen => false
  | .dict => false
  | .sorted => false
  | _ => true
def biB (c : Ct) (b : Bi) (x : Str) : Bool := biK b && ((x == biN b) && (c.fre.contains x && gloB c.sc x))
def tyC (c : Ct) (t : Ty) : Expr → Bool
  | .Name x _ => (match t with
    | .cls k => clB c k x && gloB c.sc x
    | t => (x == Str.ofString (tyS t)) && (c.fre.contains x && gloB c.sc x))
  | _ => false
def tst : Expr → Bool
  | .IfExp _ _ _ _ => false
  | _ => true
def ckTsP (f : Nat → Str → Bool) : List Nat → List Expr → Bool
  | [], es => es.isEmpty
  | i :: is, e :: es => (match e with
    | .Name x _ => f i x
    | _ => false) && ckTsP f is es
  | _ :: _, [] => false
def ckTgP (f : Nat → Str → Bool) (is : List Nat) (e : Expr) : Bool := match e with
  | .Name x _ => (match is with
    | [i] => f i x
    | _ => false)
  | .Tuple es _ _ => !(is.length == 1) && ckTsP f is es
  | _ => false
def slotL (c : Ct) (i : Nat) (x : Str) : Bool := (c.Nm[i]? == some x) && locB c.sc x
def slotC (c : Ct) (i : Nat) (x : Str) : Bool := (c.Nm[i]? == some x) && (match c.sc.names.lookup x with
  | some .local => true
  | _ => false)
def tgN : Expr → List Str
  | .Name x _ => [x]
  | .Tuple es _ _ => es.filterMap fun e => match e with
    | .Name x _ => some x
    | _ => none
  | _ => []
def isT : E → Bool
  | .bl b => b
  | _ => false
def isTup : Expr → Bool
  | .Tuple _ _ _ => true
  | _ => false
def Ct.blk (c : Ct) (scope : Scope) : Ct := ⟨c.G, c.fre, relS scope c.sc, c.Nm⟩
def isNil : E → Bool
  | .nil => true
  | _ => false
def cstB : E → Const → Bool
  | .int i, .int j => decide (i = j)
  | .bl b, .bool d => b == d
  | _, _ => false
mutual
def ckE (c : Ct) : E → Expr → Bool
  | .nm i, e => ckNm c i e
  | .int i, e => (match e with
    | .Constant (.int j) _ _ => decide (i = j)
    | _ => false)
  | .str x, e => (match e with
    | .Constant (.str y) _ _ => x == y
    | _ => false)
  | .bl b, e => (match e with
    | .Constant (.bool d) _ _ => b == d
    | _ => false)
  | .non, e => (match e with
    | .Constant .none _ _ => true
    | _ => false)
  | .gl k, e => (match e with
    | .Name x _ => (match c.G.cn[k]? with
      | some p => p.1 == x
      | none => false) && gloB c.sc x
    | _ => false)
  | .o2 o a b, e => (match e with
    | .BinOp x op y _ => binB op o && (ckE c a x && ckE c b y)
    | .Compare x [op] [y] _ => cmpB op o && (ckE c a x && (ckE c b y && tame y))
    | _ => false)
  | .neg a, e => (match e with
    | .UnaryOp .USub x _ => ckE c a x
    | _ => false)
  | .no a, e => (match e with
    | .UnaryOp .Not x _ => ckE c a x && tst x
    | _ => false)
  | .la a, e => (match e with
    | .BoolOp _ [x] _ => ckE c a x && tst x
    | _ => false)
  | .an a b, e => (match e with
    | .BoolOp .And (x :: y :: es) p => (ckE c a x && tst x) && ckE c b (.BoolOp .And (y :: es) p)
    | _ => false)
  | .or a b, e => (match e with
    | .BoolOp .Or (x :: y :: es) p => (ckE c a x && tst x) && ckE c b (.BoolOp .Or (y :: es) p)
    | _ => false)
  | .ie q a b, e => (match e with
    | .IfExp x y z _ => (ckE c q x && tst x) && (ckE c a y && ckE c b z)
    | _ => false)
  | .ch o o' a b d, e => (match e with
    | .Compare x [op, op'] [y, z] _ => (cmpB op o && cmpB op' o') && (ckE c a x && (ckE c b y && (ckE c d z && tame z)))
    | _ => false)
  | .isN a, e => (match e with
    | .Compare x [.Is] [.Constant .none _ _] _ => ckE c a x
    | _ => false)
  | .ntN a, e => (match e with
    | .Compare x [.IsNot] [.Constant .none _ _] _ => ckE c a x
    | _ => false)
  | .nil, _ => false
  | .cons _ _, _ => false
  | .tup a, e => (match e with
    | .Tuple es _ _ => ckA c a es
    | _ => false)
  | .lst a, e => (match e with
    | .List es _ => ckA c a es
    | _ => false)
  | .dnew, e => (match e with
    | .Dict [] [] _ => true
    | _ => false)
  | .sub a i, e => (match e with
    | .Subscript x y _ => ckE c a x && (ckE c i y && tame y)
    | _ => false)
  | .slc a l h, e => (match e with
    | .Subscript x (.Slice lo hi none _) _ => ckE c a x && (ckO c l lo && ckO c h hi)
    | _ => false)
  | .subs i a, e => (match e with
    | .Subscript x y _ => ckNm c i x && (ckE c a y && tame y)
    | _ => false)
  | .ins neg a i, e => (match e with
    | .Compare x [op] [y] _ => insB neg op && (ckE c a x && ckNm c i y)
    | _ => false)
  | .attr a k, e => (match e with
    | .Attribute x f _ => anB c k f && (ckE c a x && notSup x)
    | _ => false)
  | .call f a, e => (match e with
    | .Call (.Name x _) es [] _ => fnB c f x && (gloB c.sc x && ckA c a es)
    | _ => false)
  | .new k a, e => (match e with
    | .Call (.Name x _) es [] _ => clB c k x && (gloB c.sc x && ckA c a es)
    | _ => false)
  | .meth a k as, e => (match e with
    | .Call (.Attribute x f ap) es [] p => anB c k f && ((ckE c a x && notSup x) && (ckA c as es && (decide (es.length < 30) && (ap.endLine == p.line))))
    | _ => false)
  | .clm k m as, e => (match e with
    | .Call (.Attribute (.Name x px) f ap) (y :: es) [] p => (clB c k x && (gloB c.sc x && notSup (.Name x px))) && (anB c m f && (ckA c as (y :: es) && (decide ((y :: es).length < 30) && (ap.endLine == p.line))))
    | _ => false)
  | .bi b a, e => (match e with
    | .Call (.Name x _) (y :: es) [] _ => biB c b x && ckA c a (y :: es)
    | _ => false)
  | .bis b i, e => (match e with
    | .Call (.Name x _) [y] [] _ => biB c b x && ckNm c i y
    | _ => false)
  | .bm b a as, e => (match b, e with
    | .append, .Call (.Attribute x f ap) [y] [] p => (f == ("append" : Str)) && ((ckE c a x && notSup x) && (ckA c as [y] && (ap.endLine == p.line)))
    | .clear, .Call (.Attribute x f ap) [] [] p => (f == ("clear" : Str)) && ((ckE c a x && notSup x) && (isNil as && (ap.endLine == p.line)))
    | _, _ => false)
  | .bms b i as, e => (match b, e with
    | .append, .Call (.Attribute x f ap) [y] [] p => (f == ("append" : Str)) && ((ckNm c i x && notSup x) && (ckA c as [y] && (ap.endLine == p.line)))
    | .clear, .Call (.Attribute x f ap) [] [] p => (f == ("clear" : Str)) && ((ckNm c i x && notSup x) && (isNil as && (ap.endLine == p.line)))
    | .extend, .Call (.Attribute x f ap) [y] [] p => (f == ("extend" : Str)) && ((ckNm c i x && notSup x) && (ckA c as [y] && (ap.endLine == p.line)))
    | _, _ => false)
  | .isi a t, e => (match e with
    | .Call (.Name x _) [y, z] [] _ => ((x == ("isinstance" : Str)) && (c.fre.contains x && gloB c.sc x)) && ((ckE c a y && tame y) && tyC c t z)
    | _ => false)
  | .consb _ _, _ => false
  | .consp _ _, _ => false
  | .callb f a, e => (match e with
    | .Call (.Name x _) (y :: es) [] _ => fnB c f x && (gloB c.sc x && ckAb c a (y :: es))
    | _ => false)
  | .bma a b, e => (match e with
    | .Call (.Attribute x f ap) [y] [] p => (f == ("append" : Str)) && ((ckE c a x && notSup x) && ((ckE c b y && tame y) && (ap.endLine == p.line)))
    | _ => false)
  | .subm i a, e => (match e with
    | .Subscript x y _ => ckNm c i x && (ckE c a y && tame y)
    | _ => false)
  | .methi a k as, e => (match e with
    | .Call (.Attribute x f ap) es [] p => anB c k f && ((ckE c a x && notSup x) && (ckA c as es && (decide (es.length < 30) && (ap.endLine == p.line))))
    | _ => false)
  | .clt a, e => (match e with
    | .Call (.Attribute x f ap) [] [] p => (f == ("clear" : Str)) && ((ckE c a x && notSup x) && (ap.endLine == p.line))
    | _ => false)
  | .newb k a, e => (match e with
    | .Call (.Name x _) (y :: es) [] _ => clB c k x && (gloB c.sc x && ckAb c a (y :: es))
    | _ => false)
  | .compm el tg it, e => (match e with
    | .ListComp x [⟨t, i, [], 0⟩] scope _ => (blkC c.Nm c.sc scope ((tgN t).zip tg) && (decide ((tgN t).length = tg.length) && ckTgP (slotC (c.blk scope)) tg t)) && ((ckI c it t i && tame i) && ckE (c.blk scope) el x)
    | _ => false)
  | .dd k v, e => (match e with
    | .Dict [some (.Constant (.int j) _ _)] [.Constant w _ _] _ => decide (k = j) && cstB v w
    | _ => false)
  | .xat a f, e => (match e with
    | .Attribute x g _ => (f == g) && (ckE c a x && notSup x)
    | _ => false)
  | .xis a q, e => (match e with
    | .Call (.Name x _) [y, z] [] _ => ((x == ("isinstance" : Str)) && (c.fre.contains x && gloB c.sc x)) && ((ckE c a y && tame y) && xtC c q z)
    | _ => false)
  | .dsp k v, e => (match e with
    | .Dict [some (.Constant (.str j) _ _)] [.Constant w _ _] _ => (k == j) && cstB v w
    | _ => false)
  | .ixs i a, e => (match e with
    | .Call (.Attribute x f ap) [y] [] p => (f == ("index" : Str)) && ((ckNm c i x && notSup x) && (ckA c a [y] && (ap.endLine == p.line)))
    | _ => false)
  | .xnw k a, e => (match e with
    | .Call (.Name x _) (y :: es) [] _ => xlB c k x && (gloB c.sc x && ckA c a (y :: es))
    | _ => false)
  | .sl a, e => (match e with
    | .Call (.Name x _) [.Call (.Name y _) [z] [] _] [] _ => ((x == ("len" : Str)) && (c.fre.contains x && gloB c.sc x)) && (((y == ("set" : Str)) && (c.fre.contains y && gloB c.sc y)) && (ckE c a z && tame z))
    | _ => false)
  | .join a b, e => (match e with
    | .Call (.Attribute x f ap) [y] [] p => (f == ("join" : Str)) && ((ckE c a x && notSup x) && ((ckE c b y && tame y) && (ap.endLine == p.line)))
    | _ => false)
  | .gets i a b, e => (match e with
    | .Call (.Attribute x f ap) [y, z] [] p => (f == ("get" : Str)) && ((ckNm c i x && notSup x) && (((ckE c a y && tame y) && (ckE c b z && tame z)) && (ap.endLine == p.line)))
    | _ => false)
  | .gets1 i a, e => (match e with
    | .Call (.Attribute x f ap) [y] [] p => (f == ("get" : Str)) && ((ckNm c i x && notSup x) && ((ckE c a y && tame y) && (ap.endLine == p.line)))
    | _ => false)
  | .eqs neg i j, e => (match e with
    | .Compare x [op] [y] _ => (match neg, op with
      | true, .NotEq => true
      | false, .Eq => true
      | _, _ => false) && (ckNm c i x && ckNm c j y)
    | _ => false)
  | .callr _ _, _ => false
  | .newi _ _, _ => false
  | .isis i t, e => (match e with
    | .Call (.Name x _) [y, z] [] _ => ((x == ("isinstance" : Str)) && (c.fre.contains x && gloB c.sc x)) && (ckNm c i y && tyC c t z)
    | _ => false)
  | .isNs neg i, e => (match e with
    | .Compare x [op] [.Constant .none _ _] _ => (match neg, op with
      | true, .IsNot => true
      | false, .Is => true
      | _, _ => false) && ckNm c i x
    | _ => false)
  | .popl i, e => (match e with
    | .Call (.Attribute x f ap) [] [] p => (f == ("pop" : Str)) && ((ckNm c i x && notSup x) && (ap.endLine == p.line))
    | _ => false)
  | .tnew, e => (match e with
    | .Dict [] [] _ => true
    | _ => false)
  | .tdsp k v, e => (match e with
    | .Dict [some x] [y] _ => ckE c k x && ckE c v y
    | _ => false)
  | .sdf i a b, e => (match e with
    | .Call (.Attribute x f ap) [y, z] [] p => (f == ("setdefault" : Str)) && ((ckNm c i x && notSup x) && (((ckE c a y && tame y) && (ckE c b z && tame z)) && (ap.endLine == p.line)))
    | _ => false)
  | .sdt i a b, e => (match e with
    | .Call (.Attribute x f ap) [y, z] [] p => (f == ("setdefault" : Str)) && ((ckNm c i x && notSup x) && (((ckE c a y && tame y) && (ckE c b z && tame z)) && (ap.endLine == p.line)))
    | _ => false)
  | .pk _, _ => false
  | .rev a, e => (match e with
    | .Call (.Name x _) [.Call (.Name y _) [z] [] _] [] _ => ((x == ("list" : Str)) && (c.fre.contains x && gloB c.sc x)) && (((y == ("reversed" : Str)) && (c.fre.contains y && gloB c.sc y)) && (ckE c a z && tame z))
    | _ => false)
  | .cl a, e => (match e with
    | .Call (.Name x _) [y] [] _ => ((x == ("len" : Str)) && (c.fre.contains x && gloB c.sc x)) && (ckE c a y && tame y)
    | _ => false)
  | .cs a i, e => (match e with
    | .Subscript x y _ => ckE c a x && (ckE c i y && tame y)
    | _ => false)
  | .ci neg a b, e => (match e with
    | .Compare x [op] [y] _ => insB neg op && (ckE c a x && (ckE c b y && tame y))
    | _ => false)
  | .comp el tg it q, e => (match e with
    | .ListComp x [⟨t, i, ifs, 0⟩] scope _ => (blkC c.Nm c.sc scope ((tgN t).zip tg) && (decide ((tgN t).length = tg.length) && ckTgP (slotC (c.blk scope)) tg t)) && ((ckI c it t i && tame i) && (ckE (c.blk scope) el x && (match ifs with
      | [] => isT q
      | [y] => ckE (c.blk scope) q y && tst y
      | _ => false)))
    | _ => false)
  | .rng _, _ => false
  | .rng2 _, _ => false
  | .enu _, _ => false
  | .zip _, _ => false
  | .pl _, _ => false
  | .pt _, _ => false
  | .ps _, _ => false
def ckA (c : Ct) : E → List Expr → Bool
  | .nil, es => es.isEmpty
  | .cons a b, es => (match es with
    | x :: xs => (ckE c a x && tame x) && ckA c b xs
    | [] => false)
  | _, _ => false
def ckAb (c : Ct) : E → List Expr → Bool
  | .nil, es => es.isEmpty
  | .consb a b, es => (match es with
    | x :: xs => (ckE c a x && tame x) && ckAb c b xs
    | [] => false)
  | .consp i b, es => (match es with
    | x :: xs => ckNm c i x && ckAb c b xs
    | [] => false)
  | _, _ => false
def ckO (c : Ct) : E → Option Expr → Bool
  | .nil, e => e.isNone
  | .cons a b, e => (match b, e with
    | .nil, some x => ckE c a x
    | _, _ => false)
  | _, _ => false
def ckI (c : Ct) : E → Expr → Expr → Bool
  | .rng a, _, e => (match e with
    | .Call (.Name x _) [y] [] _ => ((x == ("range" : Str)) && (c.fre.contains x && gloB c.sc x)) && ckA c a [y]
    | _ => false)
  | .rng2 a, _, e => (match e with
    | .Call (.Name x _) [y, z] [] _ => ((x == ("range" : Str)) && (c.fre.contains x && gloB c.sc x)) && ckA c a [y, z]
    | _ => false)
  | .enu a, tg, e => isTup tg && (match e with
    | .Call (.Name x _) [y] [] _ => ((x == ("enumerate" : Str)) && (c.fre.contains x && gloB c.sc x)) && (ckE c a y && tame y)
    | _ => false)
  | .zip a, tg, e => isTup tg && (match e with
    | .Call (.Name x _) [y, z] [] _ => ((x == ("zip" : Str)) && (c.fre.contains x && gloB c.sc x)) && (ckA c a [y, z] && (tame y && tame z))
    | _ => false)
  | .pl a, _, e => ckE c a e
  | .pk i, _, e => ckNm c i e
  | .pt a, _, e => ckE c a e
  | .ps a, _, e => ckE c a e
  | _, _, _ => false
end
section
variable {X : Fx} {n : Nat} {fA : Nat → Addr} {fre : List Str} {cf : Str → Bool} {sc : Scope} {Nm : List Str} {W : WX} {Y : Cx} {pos p : Pos} {a b e : Expr} {a' b' : E} {x : Str}
theorem ba {a b : Bool} (h : (a && b) = true) : a = true ∧ b = true := Bool.and_eq_true_iff.mp h
theorem nb {a : Bool} (h : (!a) = true) : a = false := by cases a <;> first | rfl | cases h
theorem vis_ok (h : visB sc x = true) : Vis sc x := by
  unfold visB at h
  split at h
  · rename_i e; exact .inl e
  · rename_i e; exact .inr (.inl e)
  · rename_i e; exact .inr (.inr e)
  · cases h
theorem loc_ok (h : locB sc x = true) : Loc sc x := by
  unfold locB at h
  split at h
  · rename_i e; exact .inl e
  · rename_i e; exact .inr e
  · cases h
theorem glo_ok (h : gloB sc x = true) : sc.names.lookup x = some .globalImplicit ∧ (x == ("__debug__" : Str)) = false := by
  obtain ⟨h1, h2⟩ := ba h
  refine ⟨?_, nb h2⟩
  split at h1
  · assumption
  · cases h1
theorem slot_ok {c : Ct} {i : Nat} (h : slotB c i x = true) : c.Nm[i]? = some x ∧ Vis c.sc x ∧ (x == ("__debug__" : Str)) = false ∧ (x == ("__classdict__" : Str)) = false := by
  obtain ⟨h1, h2⟩ := ba h
  obtain ⟨h2, h3⟩ := ba h2
  obtain ⟨h3, h4⟩ := ba h3
  exact ⟨eq_of_beq h1, vis_ok h2, nb h3, nb h4⟩
theorem nm_ok {c : Ct} {i : Nat} (h : ckNm c i e = true) : ∃ x p, e = .Name x p ∧ c.Nm[i]? = some x ∧ Vis c.sc x ∧ (x == ("__debug__" : Str)) = false ∧ (x == ("__classdict__" : Str)) = false := by
  cases e with
  | Name x p => exact ⟨x, p, rfl, slot_ok h⟩
  | _ => exact (Bool.false_ne_true h).elim
theorem bin_tab (C : Cc X n fA fre cf sc Nm W Y) {op : Operator} {o : O2} (h : binB op o = true) : ∃ r, OpR Y (binaryOp op) r ∧ O2R X W o r := by
  cases op <;> cases o <;> (try exact (Bool.false_ne_true h).elim)
  · exact ⟨_, op_addM, o2_add⟩
  · exact ⟨_, op_sub, o2_sub⟩
  · exact ⟨_, op_mulM, o2_mul⟩
  · exact ⟨_, op_modN, o2_mod⟩
  · exact ⟨_, op_pow, o2_pow⟩
  · exact ⟨_, op_fdivN, o2_fdiv⟩
theorem Cc.hu64 (C : Cc X n fA fre cf sc Nm W Y) : Y.A.units + 64 < cLine := by have := C.room.un; omega
theorem cmp_tab (C : Cc X n fA fre cf sc Nm W Y) {op : CmpOp} {o : O2} (h : cmpB op o = true) : ∃ r, OpR Y (compareOp op) r ∧ O2R X W o r := by
  have k1 : OpR Y (compareOp .Eq) (rEqD X.T.K) := by rw [← C.K]; exact op_eqD C.hu64
  have k2 : OpR Y (compareOp .NotEq) (rNeD X.T.K) := by rw [← C.K]; exact op_neD C.hu64
  have k3 : OpR Y (compareOp .In) (rInM X.T.K X.T.wd false) := by rw [← C.K, ← C.wd]; exact op_inM C.hu9
  have k4 : OpR Y (compareOp .NotIn) (rInM X.T.K X.T.wd true) := by rw [← C.K, ← C.wd]; exact op_ntinM C.hu9
  cases op <;> cases o <;> (try exact (Bool.false_ne_true h).elim)
  · exact ⟨_, k1, o2_eq⟩
  · exact ⟨_, k2, o2_ne⟩
  · exact ⟨_, op_lt, o2_lt⟩
  · exact ⟨_, op_le, o2_le⟩
  · exact ⟨_, op_gt, o2_gt⟩
  · exact ⟨_, op_ge, o2_ge⟩
  · exact ⟨_, op_isB, o2_isv⟩
  · exact ⟨_, op_ntB, o2_ntv⟩
  · exact ⟨_, k3, o2_in false⟩
  · exact ⟨_, k4, o2_in true⟩
def OkX (X : Fx) (W : WX) (Y : Cx) (e : Expr) (e' : E) : Prop := PE Y e (tE X W e') ∧ (tst e = true → PT Y e (tT X W e')) ∧ ∀ op es p, e = .BoolOp op es p → PW Y e (tT X W e')
theorem OkX.val (h : PE Y e (tE X W a')) (hp : plainT e = true) : OkX X W Y e a' := ⟨h, fun _ => rt_val h hp, fun _ _ _ z => by subst z; cases hp⟩
def SE (n : Nat) (fA : Nat → Addr) (an : List Str) (e' : E) : Prop := ∀ (X : Fx) (c : Ct) (cf : Str → Bool) (W : WX) (Y : Cx) (e : Expr), Cc X n fA c.fre cf c.sc c.Nm W Y → X.G = c.G → (∀ k x, X.G.an[k]? = some x → X.T.aN k = x) → ckE c e' e = true → OkX X W Y e e'
def SA (n : Nat) (fA : Nat → Addr) (an : List Str) (e' : E) : Prop := ∀ (X : Fx) (c : Ct) (cf : Str → Bool) (W : WX) (Y : Cx) (es : List Expr), Cc X n fA c.fre cf c.sc c.Nm W Y → X.G = c.G → (∀ k x, X.G.an[k]? = some x → X.T.aN k = x) → ckA c e' es = true → PA Y es (tA X W e') ∧ es.all tame = true ∧ (es = [] → e' = .nil)
def SQ (n : Nat) (fA : Nat → Addr) (an : List Str) (e' : E) : Prop := ∀ (X : Fx) (c : Ct) (cf : Str → Bool) (W : WX) (Y : Cx) (e : Option Expr), Cc X n fA c.fre cf c.sc c.Nm W Y → X.G = c.G → (∀ k x, X.G.an[k]? = some x → X.T.aN k = x) → ckO c e' e = true → PO Y e (tO X W e')
def SI (n : Nat) (fA : Nat → Addr) (an : List Str) (e' : E) : Prop := ∀ (X : Fx) (c : Ct) (cf : Str → Bool) (W : WX) (Y : Cx) (tg e : Expr), Cc X n fA c.fre cf c.sc c.Nm W Y → X.G = c.G → (∀ k x, X.G.an[k]? = some x → X.T.aN k = x) → ckI c e' tg e = true → PI Y tg e (tI X W e')
def Sb (n : Nat) (fA : Nat → Addr) (an : List Str) (e' : E) : Prop := ∀ (X : Fx) (c : Ct) (cf : Str → Bool) (W : WX) (Y : Cx) (es : List Expr), Cc X n fA c.fre cf c.sc c.Nm W Y → X.G = c.G → (∀ k x, X.G.an[k]? = some x → X.T.aN k = x) → ckAb c e' es = true → PA Y es (tAb X W e') ∧ es.all tame = true
theorem Sb.no {an : List Str} (h : ∀ c es, ckAb c a' es = false) : Sb n fA an a' := fun X c cf W Y es _ _ _ k => by rw [h] at k; cases k
theorem SI.no {an : List Str} (h : ∀ c tg e, ckI c a' tg e = false) : SI n fA an a' := fun X c cf W Y tg e _ _ _ k => by rw [h] at k; cases k
theorem SA.no {an : List Str} (h : ∀ c es, ckA c a' es = false) : SA n fA an a' := fun X c cf W Y es _ _ _ k => by rw [h] at k; cases k
theorem SQ.no {an : List Str} (h : ∀ c es, ckO c a' es = false) : SQ n fA an a' := fun X c cf W Y es _ _ _ k => by rw [h] at k; cases k
theorem asg_nm {env : Env} {es : List Expr} : assignEach (.Name x p :: es) env = (false, assign (.Name x p) env) :: assignEach es env := rfl
theorem pgs_gen {f : Nat → Str → Bool} (hN : Y.N.Nodup) (hf : ∀ i x, f i x = true → Y.N[i]? = some x ∧ Loc Y.env.scope x ∧ (Y.fn x = true ∨ Y.env.scope.names.lookup x = some .local)) : ∀ (is : List Nat) (es : List Expr), ckTsP f is es = true → PGs Y es (gNs is) ∧ (assignEach es Y.env).length = is.length ∧ (assignEach es Y.env).findIdx? (·.1) = none
  | [], [], _ => ⟨pgs_nil, rfl, rfl⟩
  | [], _ :: _, h => (Bool.false_ne_true h).elim
  | _ :: _, [], h => (Bool.false_ne_true h).elim
  | i :: is, e :: es, h => by
    obtain ⟨h1, h2⟩ := ba h
    cases e with
    | Name x p =>
      obtain ⟨g1, g2, g3⟩ := hf i x h1
      obtain ⟨k1, k2, k3⟩ := pgs_gen hN hf is es h2
      refine ⟨pgs_cons (pg_name hN g1 g2 g3) k1 rfl, ?_, ?_⟩
      · rw [asg_nm, List.length_cons, k2] <;> rfl
      · rw [asg_nm, List.findIdx?_cons, k3] <;> rfl
    | _ => exact (Bool.false_ne_true h1).elim
theorem pg_gen {f : Nat → Str → Bool} {tg : Expr} (hN : Y.N.Nodup) (hc : Y.calm = true) (hf : ∀ i x, f i x = true → Y.N[i]? = some x ∧ Loc Y.env.scope x ∧ (Y.fn x = true ∨ Y.env.scope.names.lookup x = some .local)) {is : List Nat} (h : ckTgP f is tg = true) : PG Y tg (gTG Y.K is) := by
  cases tg with
  | Name x p =>
    unfold ckTgP at h
    simp only at h
    split at h
    · obtain ⟨g1, g2, g3⟩ := hf _ _ h
      exact pg_name hN g1 g2 g3
    · cases h
  | Tuple es k p =>
    obtain ⟨h1, h2⟩ := ba (show (!(is.length == 1) && ckTsP f is es) = true from h)
    obtain ⟨k1, k2, k3⟩ := pgs_gen hN hf is es h2
    have e : gTG Y.K is = gTup Y.K is.length (gNs is) := by
      match is, h1 with
      | [], _ => rfl
      | [_], h1 => cases h1
      | _ :: _ :: _, _ => rfl
    rw [e]
    exact pg_tup hc k1 k2 k3
  | _ => exact (Bool.false_ne_true h).elim
end
end Mp
namespace Mp
open PySem L2
section
variable {X : Fx} {n : Nat} {fA : Nat → Addr} {fre : List Str} {cf : Str → Bool} {sc : Scope} {Nm : List Str} {W : WX} {Y : Cx} {pos p p2 : Pos} {a b e : Expr} {a' b' : E} {x y : Str} {c : Ct} {an : List Str}
theorem biN_ok {b : Bi} (h : biB c b x = true) : x = biN b ∧ x ∈ c.fre ∧ c.sc.names.lookup x = some .globalImplicit ∧ (x == ("__debug__" : Str)) = false := by
  obtain ⟨_, h⟩ := ba h
  obtain ⟨h1, h⟩ := ba h
  obtain ⟨h2, h3⟩ := ba h
  obtain ⟨h3, h4⟩ := glo_ok h3
  exact ⟨eq_of_beq h1, by simpa using h2, h3, h4⟩
theorem bi_ok (C : Cc X n fA c.fre cf c.sc c.Nm W Y) {b : Bi} (h : biB c b x = true) : (∀ (e : Expr) (es : List Expr) (es' : E) (p pos : Pos), PA Y (e :: es) (tA X W es') → (e :: es).all tame = true → PE Y (.Call (.Name x p) (e :: es) [] pos) (tE X W (.bi b es'))) ∧
    (∀ (i : Nat) (y : Str) (p p2 pos : Pos), Y.N[i]? = some y → Vis Y.env.scope y → (y == ("__debug__" : Str)) = false → (y == ("__classdict__" : Str)) = false → PE Y (.Call (.Name x p) [.Name y p2] [] pos) (tE X W (.bis b i))) := by
  obtain ⟨e1, e2, e3, e4⟩ := biN_ok h
  have hk : biK b = true := (ba h).1
  have gB : ∀ (id : String) (r : RC), BiR X W b r → CallR Y (.builtin id) r → bootBuiltins x = some (.builtin id) → x ≠ "__name__" → _ := fun id r hr hc hv hn => (⟨fun e es es' p pos ha ht => re_biB C hr hc e2 e3 hv hn e4 ha ht, fun i y p p2 pos q1 q2 q3 q4 => re_bisB C hr hc e2 e3 hv hn e4 q1 q2 q3 q4⟩ :
    (∀ (e : Expr) (es : List Expr) (es' : E) (p pos : Pos), PA Y (e :: es) (tA X W es') → (e :: es).all tame = true → PE Y (.Call (.Name x p) (e :: es) [] pos) (tE X W (.bi b es'))) ∧
    (∀ (i : Nat) (y : Str) (p p2 pos : Pos), Y.N[i]? = some y → Vis Y.env.scope y → (y == ("__debug__" : Str)) = false → (y == ("__classdict__" : Str)) = false → PE Y (.Call (.Name x p) [.Name y p2] [] pos) (tE X W (.bis b i))))
  have gT : ∀ (id : String) (r : RC), BiR X W b r → CallR Y (.type id) r → bootBuiltins x = some (.type id) → x ≠ "__name__" → _ := fun id r hr hc hv hn => (⟨fun e es es' p pos ha ht => re_biT C hr hc e2 e3 hv hn e4 ha ht, fun i y p p2 pos q1 q2 q3 q4 => re_bisT C hr hc e2 e3 hv hn e4 q1 q2 q3 q4⟩ :
    (∀ (e : Expr) (es : List Expr) (es' : E) (p pos : Pos), PA Y (e :: es) (tA X W es') → (e :: es).all tame = true → PE Y (.Call (.Name x p) (e :: es) [] pos) (tE X W (.bi b es'))) ∧
    (∀ (i : Nat) (y : Str) (p p2 pos : Pos), Y.N[i]? = some y → Vis Y.env.scope y → (y == ("__debug__" : Str)) = false → (y == ("__classdict__" : Str)) = false → PE Y (.Call (.Name x p) [.Name y p2] [] pos) (tE X W (.bis b i))))
  have kK := C.K
  cases b with
  | len => subst e1; exact gB "len" _ bi_len (by rw [← kK, ← C.wd]; exact cr_lenM) PySem.boot_len (by decide)
  | int => subst e1; exact gT "int" _ bi_int call_int1 PyProof.Rows.boot_int (by decide)
  | list => subst e1; exact gT "list" _ bi_list (by rw [← kK]; exact call_list_of) PyProof.Rows.boot_list (by decide)
  | tuple => subst e1; exact gT "tuple" _ bi_tuple (by rw [← kK]; exact call_tuple_of) PyProof.Rows.boot_tuple (by decide)
  | all => subst e1; exact gB "all" _ bi_all (by rw [← kK]; exact cr_all C.calm) PyProof.Rows.boot_all (by decide)
  | any => subst e1; exact gB "any" _ bi_any (by rw [← kK]; exact cr_any C.calm) PyProof.Rows.boot_any (by decide)
  | max2 => subst e1; exact gB "max" _ bi_max2 (call_max2 C.calm) PyProof.Rows.boot_max (by decide)
  | min2 => subst e1; exact gB "min" _ bi_min2 (call_min2 C.calm) PyProof.Rows.boot_min (by decide)
  | str => subst e1; exact gT "str" _ bi_str call_str_int PyProof.Rows.boot_str (by decide)
  | setlen => cases hk
  | dict => cases hk
  | sorted => cases hk
theorem SA.nil : SA n fA an .nil := fun X c cf W Y es C hG hA h => by
  cases es with
  | nil => exact ⟨ra_nil, rfl, fun _ => rfl⟩
  | cons _ _ => cases h
theorem SA.cons (h1 : SE n fA an a') (h2 : SA n fA an b') : SA n fA an (.cons a' b') := fun X c cf W Y es C hG hA h => by
  cases es with
  | nil => cases h
  | cons x xs =>
    have h : ((ckE c a' x && tame x) && ckA c b' xs) = true := h
    obtain ⟨h, g3⟩ := ba h
    obtain ⟨g1, g2⟩ := ba h
    obtain ⟨q1, q2, _⟩ := h2 X c cf W Y xs C hG hA g3
    exact ⟨ra_cons (h1 X c cf W Y x C hG hA g1).1 q1 g2, by rw [List.all_cons, g2, q2] <;> rfl, fun z => by cases z⟩
theorem SQ.nil : SQ n fA an .nil := fun X c cf W Y e C hG hA h => by
  cases e with
  | none => exact ro_none
  | some _ => cases h
theorem SQ.cons (h1 : SE n fA an a') : SQ n fA an (.cons a' b') := fun X c cf W Y e C hG hA h => by
  cases b' with
  | nil => cases e with
    | none => exact (Bool.false_ne_true h).elim
    | some x => exact ro_some (h1 X c cf W Y x C hG hA h).1
  | _ => exact (Bool.false_ne_true h).elim
theorem Sb.nil : Sb n fA an .nil := fun X c cf W Y es C hG hA h => by
  cases es with
  | nil => exact ⟨rab_nil, rfl⟩
  | cons _ _ => cases h
theorem bname {c : Ct} {x z : Str} (h : ((x == z) && (c.fre.contains x && gloB c.sc x)) = true) : x = z ∧ z ∈ c.fre ∧ c.sc.names.lookup z = some .globalImplicit := by
  obtain ⟨h1, h2⟩ := ba h
  obtain ⟨h2, h3⟩ := ba h2
  cases eq_of_beq h1
  exact ⟨rfl, by simpa using h2, (glo_ok h3).1⟩
theorem compm_parts0 {el it : E} {tg : List Nat} {x t i : Expr} {scope : Scope} (C : Cc X n fA c.fre cf c.sc c.Nm W Y) (hG : X.G = c.G) (hA : ∀ k x, X.G.an[k]? = some x → X.T.aN k = x) (ihe : SE n fA an el) (ihi : SI n fA an it)
    (h : ((blkC c.Nm c.sc scope ((tgN t).zip tg) && (decide ((tgN t).length = tg.length) && ckTgP (slotC (c.blk scope)) tg t)) && ((ckI c it t i && tame i) && ckE (c.blk scope) el x)) = true) :
    ∃ own : List (Str × Nat), own.map (·.2) = tg ∧ BlkOk Y.N Y.env.scope scope own ∧ PI Y t i (tI X W it) ∧ tame i = true ∧ (∀ (s : Shared) (H : Hp) (Cl : Addr) (cl : List (Str × Addr)) (fp : List Addr), PG (Y.blk s H scope (compEnvC scope cl Cl Y.env) fp) t (gTG X.T.K tg)) ∧
      ∀ (s : Shared) (H : Hp) (Cl : Addr) (cl : List (Str × Addr)) (fp : List Addr), PE (Y.blk s H scope (compEnvC scope cl Cl Y.env) fp) x (tEx X el) := by
  obtain ⟨h0, h5⟩ := ba h
  obtain ⟨h1, h2⟩ := ba h0
  obtain ⟨h2, h3⟩ := ba h2
  obtain ⟨h5, h7⟩ := ba h5
  obtain ⟨h5, h6⟩ := ba h5
  have h2 := of_decide_eq_true h2
  have hown : ((tgN t).zip tg).map (·.2) = tg := by rw [List.map_snd_zip (by rw [h2]; exact Nat.le_refl _)]
  have Cb : ∀ w0 H0 (s : Shared) (H : Hp) (Cl : Addr) (cl : List (Str × Addr)) (fp : List Addr), Cc (X.fr w0 H0) n fA (c.blk scope).fre (fun x => scope.names.lookup x == some .cell) (c.blk scope).sc (c.blk scope).Nm WF (Y.blk s H scope (compEnvC scope cl Cl Y.env) fp) := fun w0 H0 s H Cl cl fp =>
    ⟨C.K, C.wd, ⟨C.gf.fns, C.gf.glo, C.gf.cls, C.gf.mth, C.gf.mks, C.gf.clr, C.gf.cmt, C.gf.noat, C.gf.inj, C.gf.cn, C.gf.fre, C.gf.kit, C.gf.kiB, C.gf.kiO, C.gf.kiG, C.gf.xs⟩, C.N, C.nd, (show relS scope Y.env.scope = relS scope c.sc by rw [C.scp]), C.calm, C.room, takes0, fun x h => h⟩
  have he : ∀ (s : Shared) (H : Hp) (Cl : Addr) (cl : List (Str × Addr)) (fp : List Addr), PE (Y.blk s H scope (compEnvC scope cl Cl Y.env) fp) x (tEx X el) := fun s H Cl cl fp =>
    ⟨fun pins s' σ H' Q I ⟨w0, H0, z⟩ => (ihe (X.fr w0 H0) (c.blk scope) _ WF _ x (Cb w0 H0 s H Cl cl fp) hG hA h7).1.run pins s' σ H' Q I z⟩
  have hg : ∀ (s : Shared) (H : Hp) (Cl : Addr) (cl : List (Str × Addr)) (fp : List Addr), PG (Y.blk s H scope (compEnvC scope cl Cl Y.env) fp) t (gTG X.T.K tg) := fun s H Cl cl fp => by
    have C0 := Cb X.w0 X.H0 s H Cl cl fp
    have e0 : X.T.K = (Y.blk s H scope (compEnvC scope cl Cl Y.env) fp).K := C.K.symm
    rw [e0]
    refine pg_gen (f := slotC (c.blk scope)) (by rw [C0.N]; exact C0.nd) C0.calm (fun i x hx => ?_) h3
    obtain ⟨k1, k2⟩ := ba hx
    have k3 : (c.blk scope).sc.names.lookup x = some .local := by
      split at k2
      · assumption
      · cases k2
    exact ⟨by rw [C0.N]; exact eq_of_beq k1, .inl (by rw [C0.scp]; exact k3), .inr (by rw [C0.scp]; exact k3)⟩
  exact ⟨(tgN t).zip tg, hown, by rw [C.N, C.scp]; exact blkOk_by h1, ihi X c cf W Y t i C hG hA h5, h6, hg, he⟩
theorem ck_ok : ∀ e' : E, SE n fA an e' ∧ SA n fA an e' ∧ SQ n fA an e' ∧ SI n fA an e' ∧ Sb n fA an e' := by
  intro e'
  induction e' with
  | nil => exact ⟨fun X c cf W Y e C hG hA h => (Bool.false_ne_true h).elim, SA.nil, SQ.nil, SI.no fun _ _ _ => rfl, Sb.nil⟩
  | cons a b ha hb => exact ⟨fun X c cf W Y e C hG hA h => (Bool.false_ne_true h).elim, SA.cons ha.1 hb.2.1, SQ.cons ha.1, SI.no fun _ _ _ => rfl, Sb.no fun _ _ => rfl⟩
  | nm i =>
    refine ⟨fun X c cf W Y e C hG hA h => ?_, SA.no fun _ _ => rfl, SQ.no fun _ _ => rfl, SI.no fun _ _ _ => rfl, Sb.no fun _ _ => rfl⟩
    obtain ⟨x, p, rfl, h1, h2, h3, h4⟩ := nm_ok h
    exact OkX.val (re_nm (by rw [C.N]; exact h1) (by rw [C.scp]; exact h2) h3 h4) rfl
  | int i =>
    refine ⟨fun X c cf W Y e C hG hA h => ?_, SA.no fun _ _ => rfl, SQ.no fun _ _ => rfl, SI.no fun _ _ _ => rfl, Sb.no fun _ _ => rfl⟩
    unfold ckE at h; split at h
    · cases of_decide_eq_true h; exact OkX.val re_int rfl
    · cases h
  | str x =>
    refine ⟨fun X c cf W Y e C hG hA h => ?_, SA.no fun _ _ => rfl, SQ.no fun _ _ => rfl, SI.no fun _ _ _ => rfl, Sb.no fun _ _ => rfl⟩
    unfold ckE at h; split at h
    · cases eq_of_beq h; exact OkX.val re_str rfl
    · cases h
  | bl b =>
    refine ⟨fun X c cf W Y e C hG hA h => ?_, SA.no fun _ _ => rfl, SQ.no fun _ _ => rfl, SI.no fun _ _ _ => rfl, Sb.no fun _ _ => rfl⟩
    unfold ckE at h; split at h
    · cases eq_of_beq h; exact OkX.val re_bl rfl
    · cases h
  | non =>
    refine ⟨fun X c cf W Y e C hG hA h => ?_, SA.no fun _ _ => rfl, SQ.no fun _ _ => rfl, SI.no fun _ _ _ => rfl, Sb.no fun _ _ => rfl⟩
    unfold ckE at h; split at h
    · exact OkX.val re_non rfl
    · cases h
  | gl k =>
    refine ⟨fun X c cf W Y e C hG hA h => ?_, SA.no fun _ _ => rfl, SQ.no fun _ _ => rfl, SI.no fun _ _ _ => rfl, Sb.no fun _ _ => rfl⟩
    unfold ckE at h; split at h
    · rename_i x p
      obtain ⟨h1, h2⟩ := ba h
      obtain ⟨h2, h3⟩ := glo_ok h2
      split at h1
      · rename_i q e
        have : q.1 = x := eq_of_beq h1
        subst this
        exact OkX.val (re_gl C (by rw [hG]; exact e) h2 h3) rfl
      · cases h1
    · cases h
  | o2 o a b iha ihb =>
    refine ⟨fun X c cf W Y e C hG hA h => ?_, SA.no fun _ _ => rfl, SQ.no fun _ _ => rfl, SI.no fun _ _ _ => rfl, Sb.no fun _ _ => rfl⟩
    unfold ckE at h; split at h
    · obtain ⟨h1, h2⟩ := ba h
      obtain ⟨h2, h3⟩ := ba h2
      obtain ⟨r, g1, g2⟩ := bin_tab C h1
      exact OkX.val (re_bin g1 g2 (iha.1 X c cf W Y _ C hG hA h2).1 (ihb.1 X c cf W Y _ C hG hA h3).1) rfl
    · obtain ⟨h1, h2⟩ := ba h
      obtain ⟨h2, h3⟩ := ba h2
      obtain ⟨h3, h4⟩ := ba h3
      obtain ⟨r, g1, g2⟩ := cmp_tab C h1
      have ka := (iha.1 X c cf W Y _ C hG hA h2).1
      have kb := (ihb.1 X c cf W Y _ C hG hA h3).1
      exact ⟨re_cmp g1 g2 ka kb (bm_ok h4), fun _ => rt_cmp g1 g2 ka kb (bm_ok h4), fun _ _ _ z => by cases z⟩
    · cases h
  | neg a iha =>
    refine ⟨fun X c cf W Y e C hG hA h => ?_, SA.no fun _ _ => rfl, SQ.no fun _ _ => rfl, SI.no fun _ _ _ => rfl, Sb.no fun _ _ => rfl⟩
    unfold ckE at h; split at h
    · exact OkX.val (re_neg (iha.1 X c cf W Y _ C hG hA h).1) rfl
    · cases h
  | no a iha =>
    refine ⟨fun X c cf W Y e C hG hA h => ?_, SA.no fun _ _ => rfl, SQ.no fun _ _ => rfl, SI.no fun _ _ _ => rfl, Sb.no fun _ _ => rfl⟩
    unfold ckE at h; split at h
    · obtain ⟨h1, h2⟩ := ba h
      have k := iha.1 X c cf W Y _ C hG hA h1
      exact ⟨re_no k.1, fun _ => rt_no (k.2.1 h2), fun _ _ _ z => by cases z⟩
    · cases h
  | la a iha =>
    refine ⟨fun X c cf W Y e C hG hA h => ?_, SA.no fun _ _ => rfl, SQ.no fun _ _ => rfl, SI.no fun _ _ _ => rfl, Sb.no fun _ _ => rfl⟩
    unfold ckE at h; split at h
    · obtain ⟨h1, h2⟩ := ba h
      have k := iha.1 X c cf W Y _ C hG hA h1
      have pw := fun op p => rw_la (op := op) (pos := p) (k.2.1 h2)
      exact ⟨re_la k.1, fun _ => (pw _ _).pt, fun _ _ _ z => by cases z; exact pw _ _⟩
    · cases h
  | an a b iha ihb =>
    refine ⟨fun X c cf W Y e C hG hA h => ?_, SA.no fun _ _ => rfl, SQ.no fun _ _ => rfl, SI.no fun _ _ _ => rfl, Sb.no fun _ _ => rfl⟩
    unfold ckE at h; split at h
    · obtain ⟨h1, h2⟩ := ba h
      obtain ⟨h1, h3⟩ := ba h1
      have k := iha.1 X c cf W Y _ C hG hA h1
      have kb := ihb.1 X c cf W Y _ C hG hA h2
      have pw := rw_an (k.2.1 h3) (kb.2.2 _ _ _ rfl)
      exact ⟨re_an k.1 kb.1, fun _ => pw.pt, fun _ _ _ z => by cases z; exact pw⟩
    · cases h
  | or a b iha ihb =>
    refine ⟨fun X c cf W Y e C hG hA h => ?_, SA.no fun _ _ => rfl, SQ.no fun _ _ => rfl, SI.no fun _ _ _ => rfl, Sb.no fun _ _ => rfl⟩
    unfold ckE at h; split at h
    · obtain ⟨h1, h2⟩ := ba h
      obtain ⟨h1, h3⟩ := ba h1
      have k := iha.1 X c cf W Y _ C hG hA h1
      have kb := ihb.1 X c cf W Y _ C hG hA h2
      have pw := rw_or (k.2.1 h3) (kb.2.2 _ _ _ rfl)
      exact ⟨re_or k.1 kb.1, fun _ => pw.pt, fun _ _ _ z => by cases z; exact pw⟩
    · cases h
  | ie q a b ihq iha ihb =>
    refine ⟨fun X c cf W Y e C hG hA h => ?_, SA.no fun _ _ => rfl, SQ.no fun _ _ => rfl, SI.no fun _ _ _ => rfl, Sb.no fun _ _ => rfl⟩
    unfold ckE at h; split at h
    · obtain ⟨h1, h2⟩ := ba h
      obtain ⟨h1, h3⟩ := ba h1
      obtain ⟨h2, h4⟩ := ba h2
      exact ⟨re_ie ((ihq.1 X c cf W Y _ C hG hA h1).2.1 h3) (iha.1 X c cf W Y _ C hG hA h2).1 (ihb.1 X c cf W Y _ C hG hA h4).1, (fun z => by cases z), (fun _ _ _ z => by cases z)⟩
    · cases h
  | ch o o' a b d iha ihb ihd =>
    refine ⟨fun X c cf W Y e C hG hA h => ?_, SA.no fun _ _ => rfl, SQ.no fun _ _ => rfl, SI.no fun _ _ _ => rfl, Sb.no fun _ _ => rfl⟩
    unfold ckE at h; split at h
    · obtain ⟨h1, h2⟩ := ba h
      obtain ⟨h1, h1'⟩ := ba h1
      obtain ⟨h2, h3⟩ := ba h2
      obtain ⟨h3, h4⟩ := ba h3
      obtain ⟨h4, h5⟩ := ba h4
      obtain ⟨r, g1, g2⟩ := cmp_tab C h1
      obtain ⟨r', g1', g2'⟩ := cmp_tab C h1'
      have ka := (iha.1 X c cf W Y _ C hG hA h2).1
      have kb := (ihb.1 X c cf W Y _ C hG hA h3).1
      have kd := (ihd.1 X c cf W Y _ C hG hA h4).1
      exact ⟨re_ch g1 g1' g2 g2' ka kb kd h5, fun _ => rt_ch g1 g1' g2 g2' ka kb kd h5, fun _ _ _ z => by cases z⟩
    · cases h
  | isN a iha =>
    refine ⟨fun X c cf W Y e C hG hA h => ?_, SA.no fun _ _ => rfl, SQ.no fun _ _ => rfl, SI.no fun _ _ _ => rfl, Sb.no fun _ _ => rfl⟩
    unfold ckE at h; split at h
    · have k := (iha.1 X c cf W Y _ C hG hA h).1
      exact ⟨re_isN k, fun _ => rt_isN k, fun _ _ _ z => by cases z⟩
    · cases h
  | ntN a iha =>
    refine ⟨fun X c cf W Y e C hG hA h => ?_, SA.no fun _ _ => rfl, SQ.no fun _ _ => rfl, SI.no fun _ _ _ => rfl, Sb.no fun _ _ => rfl⟩
    unfold ckE at h; split at h
    · have k := (iha.1 X c cf W Y _ C hG hA h).1
      exact ⟨re_ntN k, fun _ => rt_ntN k, fun _ _ _ z => by cases z⟩
    · cases h
  | tup a iha =>
    refine ⟨fun X c cf W Y e C hG hA h => ?_, SA.no fun _ _ => rfl, SQ.no fun _ _ => rfl, SI.no fun _ _ _ => rfl, Sb.no fun _ _ => rfl⟩
    unfold ckE at h; split at h
    · exact OkX.val (re_tup (iha.2.1 X c cf W Y _ C hG hA h).1) rfl
    · cases h
  | lst a iha =>
    refine ⟨fun X c cf W Y e C hG hA h => ?_, SA.no fun _ _ => rfl, SQ.no fun _ _ => rfl, SI.no fun _ _ _ => rfl, Sb.no fun _ _ => rfl⟩
    unfold ckE at h; split at h
    · exact OkX.val (re_lst (iha.2.1 X c cf W Y _ C hG hA h).1) rfl
    · cases h
  | dnew =>
    refine ⟨fun X c cf W Y e C hG hA h => ?_, SA.no fun _ _ => rfl, SQ.no fun _ _ => rfl, SI.no fun _ _ _ => rfl, Sb.no fun _ _ => rfl⟩
    unfold ckE at h; split at h
    · exact OkX.val re_dnew rfl
    · cases h
  | sub a i iha ihi =>
    refine ⟨fun X c cf W Y e C hG hA h => ?_, SA.no fun _ _ => rfl, SQ.no fun _ _ => rfl, SI.no fun _ _ _ => rfl, Sb.no fun _ _ => rfl⟩
    unfold ckE at h; split at h
    · obtain ⟨h1, h2⟩ := ba h
      obtain ⟨h2, h3⟩ := ba h2
      exact OkX.val (re_sub C (iha.1 X c cf W Y _ C hG hA h1).1 (ihi.1 X c cf W Y _ C hG hA h2).1 h3) rfl
    · cases h
  | slc a l u iha ihl ihu =>
    refine ⟨fun X c cf W Y e C hG hA h => ?_, SA.no fun _ _ => rfl, SQ.no fun _ _ => rfl, SI.no fun _ _ _ => rfl, Sb.no fun _ _ => rfl⟩
    unfold ckE at h; split at h
    · obtain ⟨h1, h2⟩ := ba h
      obtain ⟨h2, h3⟩ := ba h2
      exact OkX.val (re_slc C (iha.1 X c cf W Y _ C hG hA h1).1 (ihl.2.2.1 X c cf W Y _ C hG hA h2) (ihu.2.2.1 X c cf W Y _ C hG hA h3)) rfl
    · cases h
  | subs i a iha =>
    refine ⟨fun X c cf W Y e C hG hA h => ?_, SA.no fun _ _ => rfl, SQ.no fun _ _ => rfl, SI.no fun _ _ _ => rfl, Sb.no fun _ _ => rfl⟩
    unfold ckE at h; split at h
    · obtain ⟨h1, h2⟩ := ba h
      obtain ⟨h2, h3⟩ := ba h2
      obtain ⟨x, p, rfl, g1, g2, g3, g4⟩ := nm_ok h1
      exact OkX.val (re_subs C (by rw [C.N]; exact g1) (by rw [C.scp]; exact g2) g3 g4 (iha.1 X c cf W Y _ C hG hA h2).1 h3) rfl
    · cases h
  | ins neg a i iha =>
    refine ⟨fun X c cf W Y e C hG hA h => ?_, SA.no fun _ _ => rfl, SQ.no fun _ _ => rfl, SI.no fun _ _ _ => rfl, Sb.no fun _ _ => rfl⟩
    unfold ckE at h; split at h
    · rename_i x op y p
      obtain ⟨h1, hh⟩ := ba h
      obtain ⟨h2, h3⟩ := ba hh
      clear hh h
      obtain ⟨x2, p2, rfl, g1, g2, g3, g4⟩ := nm_ok h3
      have hop : op = if neg then .NotIn else .In := by
        cases neg <;> cases op <;> first | rfl | exact (Bool.false_ne_true h1).elim
      obtain ⟨k1, k2⟩ := re_ins (p := p2) (pos := p) C hop (iha.1 X c cf W Y _ C hG hA h2).1 (by rw [C.N]; exact g1) (by rw [C.scp]; exact g2) g3 g4
      exact ⟨k1, fun _ => k2, fun _ _ _ z => by cases z⟩
    · cases h
  | attr a k iha =>
    refine ⟨fun X c cf W Y e C hG hA h => ?_, SA.no fun _ _ => rfl, SQ.no fun _ _ => rfl, SI.no fun _ _ _ => rfl, Sb.no fun _ _ => rfl⟩
    unfold ckE at h; split at h
    · obtain ⟨h1, h2⟩ := ba h
      obtain ⟨h2, h3⟩ := ba h2
      exact OkX.val (re_attr C (hA _ _ (by rw [hG]; exact eq_of_beq h1)) (iha.1 X c cf W Y _ C hG hA h2).1 h3) rfl
    · cases h
  | call f a iha =>
    refine ⟨fun X c cf W Y e C hG hA h => ?_, SA.no fun _ _ => rfl, SQ.no fun _ _ => rfl, SI.no fun _ _ _ => rfl, Sb.no fun _ _ => rfl⟩
    unfold ckE at h; split at h
    · rename_i x p es pos
      obtain ⟨h1, h2⟩ := ba h
      obtain ⟨h2, h3⟩ := ba h2
      obtain ⟨h4, h5⟩ := glo_ok h2
      obtain ⟨k1, k2, k3⟩ := iha.2.1 X c cf W Y _ C hG hA h3
      unfold fnB at h1
      split at h1
      · rename_i F eF
        obtain ⟨g1, g2⟩ := ba h1
        have : F.nm = x := eq_of_beq g1
        subst this
        exact OkX.val (re_call C (by rw [hG]; exact eF) (by simpa using g2) h4 h5 k1 k2 k3) rfl
      · cases h1
    · cases h
  | new k a iha =>
    refine ⟨fun X c cf W Y e C hG hA h => ?_, SA.no fun _ _ => rfl, SQ.no fun _ _ => rfl, SI.no fun _ _ _ => rfl, Sb.no fun _ _ => rfl⟩
    unfold ckE at h; split at h
    · rename_i x p es pos
      obtain ⟨h1, h2⟩ := ba h
      obtain ⟨h2, h3⟩ := ba h2
      obtain ⟨h4, h5⟩ := glo_ok h2
      obtain ⟨k1, k2, k3⟩ := iha.2.1 X c cf W Y _ C hG hA h3
      unfold clB at h1
      split at h1
      · rename_i F eF
        have : F.nm = x := eq_of_beq h1
        subst this
        exact OkX.val (re_new C (by rw [hG]; exact eF) h4 h5 k1 k2 k3) rfl
      · cases h1
    · cases h
  | meth a k as iha ihs =>
    refine ⟨fun X c cf W Y e C hG hA h => ?_, SA.no fun _ _ => rfl, SQ.no fun _ _ => rfl, SI.no fun _ _ _ => rfl, Sb.no fun _ _ => rfl⟩
    unfold ckE at h; split at h
    · obtain ⟨h1, h2⟩ := ba h
      obtain ⟨h2, h3⟩ := ba h2
      obtain ⟨h2, h4⟩ := ba h2
      obtain ⟨h3, h5⟩ := ba h3
      obtain ⟨h5, h6⟩ := ba h5
      obtain ⟨k1, k2, k3⟩ := ihs.2.1 X c cf W Y _ C hG hA h3
      exact OkX.val (re_meth C (hA _ _ (by rw [hG]; exact eq_of_beq h1)) (iha.1 X c cf W Y _ C hG hA h2).1 k1 h4 k2 (of_decide_eq_true h5) h6 k3) rfl
    · cases h
  | methi a k as iha ihs =>
    refine ⟨fun X c cf W Y e C hG hA h => ?_, SA.no fun _ _ => rfl, SQ.no fun _ _ => rfl, SI.no fun _ _ _ => rfl, Sb.no fun _ _ => rfl⟩
    unfold ckE at h; split at h
    · obtain ⟨h1, h2⟩ := ba h
      obtain ⟨h2, h3⟩ := ba h2
      obtain ⟨h2, h4⟩ := ba h2
      obtain ⟨h3, h5⟩ := ba h3
      obtain ⟨h5, h6⟩ := ba h5
      obtain ⟨k1, k2, k3⟩ := ihs.2.1 X c cf W Y _ C hG hA h3
      exact OkX.val (re_methi C (hA _ _ (by rw [hG]; exact eq_of_beq h1)) (iha.1 X c cf W Y _ C hG hA h2).1 k1 h4 k2 (of_decide_eq_true h5) h6 k3) rfl
    · cases h
  | bma a b iha ihb =>
    refine ⟨fun X c cf W Y e C hG hA h => ?_, SA.no fun _ _ => rfl, SQ.no fun _ _ => rfl, SI.no fun _ _ _ => rfl, Sb.no fun _ _ => rfl⟩
    unfold ckE at h; split at h
    · obtain ⟨h1, h2⟩ := ba h
      obtain ⟨h2, h3⟩ := ba h2
      obtain ⟨h2, h4⟩ := ba h2
      obtain ⟨h3, h5⟩ := ba h3
      obtain ⟨h3, h6⟩ := ba h3
      cases eq_of_beq h1
      exact OkX.val (re_bma C (iha.1 X c cf W Y _ C hG hA h2).1 h4 (ihb.1 X c cf W Y _ C hG hA h3).1 h6 h5) rfl
    · cases h
  | subm i a iha =>
    refine ⟨fun X c cf W Y e C hG hA h => ?_, SA.no fun _ _ => rfl, SQ.no fun _ _ => rfl, SI.no fun _ _ _ => rfl, Sb.no fun _ _ => rfl⟩
    unfold ckE at h; split at h
    · obtain ⟨h1, h2⟩ := ba h
      obtain ⟨h2, h3⟩ := ba h2
      obtain ⟨x, p, rfl, g1, g2, g3, g4⟩ := nm_ok h1
      exact OkX.val (re_subm C (by rw [C.N]; exact g1) (by rw [C.scp]; exact g2) g3 g4 (iha.1 X c cf W Y _ C hG hA h2).1 h3) rfl
    · cases h
  | clt a iha =>
    refine ⟨fun X c cf W Y e C hG hA h => ?_, SA.no fun _ _ => rfl, SQ.no fun _ _ => rfl, SI.no fun _ _ _ => rfl, Sb.no fun _ _ => rfl⟩
    unfold ckE at h; split at h
    · obtain ⟨h1, h2⟩ := ba h
      obtain ⟨h2, h3⟩ := ba h2
      obtain ⟨h2, h4⟩ := ba h2
      cases eq_of_beq h1
      exact OkX.val (re_clt C (iha.1 X c cf W Y _ C hG hA h2).1 h4 h3) rfl
    · cases h
  | clm k m as ihs =>
    refine ⟨fun X c cf W Y e C hG hA h => ?_, SA.no fun _ _ => rfl, SQ.no fun _ _ => rfl, SI.no fun _ _ _ => rfl, Sb.no fun _ _ => rfl⟩
    unfold ckE at h; split at h
    · rename_i x px f ap y es pp
      obtain ⟨h1, h2⟩ := ba h
      obtain ⟨h1, h3⟩ := ba h1
      obtain ⟨h3, h4⟩ := ba h3
      obtain ⟨h2, h5⟩ := ba h2
      obtain ⟨h5, h6⟩ := ba h5
      obtain ⟨h6, h7⟩ := ba h6
      obtain ⟨g1, g2⟩ := glo_ok h3
      obtain ⟨k1, k2, k3⟩ := ihs.2.1 X c cf W Y _ C hG hA h5
      unfold clB at h1
      split at h1
      · rename_i F eF
        have : F.nm = x := eq_of_beq h1
        subst this
        exact OkX.val (re_clm C (by rw [hG]; exact eF) g1 g2 (hA _ _ (by rw [hG]; exact eq_of_beq h2)) k1 h4 k2 (of_decide_eq_true h6) h7) rfl
      · cases h1
    · cases h
  | bi b a iha =>
    refine ⟨fun X c cf W Y e C hG hA h => ?_, SA.no fun _ _ => rfl, SQ.no fun _ _ => rfl, SI.no fun _ _ _ => rfl, Sb.no fun _ _ => rfl⟩
    unfold ckE at h; split at h
    · obtain ⟨h1, h2⟩ := ba h
      obtain ⟨k1, k2, k3⟩ := iha.2.1 X c cf W Y _ C hG hA h2
      exact OkX.val ((bi_ok C h1).1 _ _ _ _ _ k1 k2) rfl
    · cases h
  | bis b i =>
    refine ⟨fun X c cf W Y e C hG hA h => ?_, SA.no fun _ _ => rfl, SQ.no fun _ _ => rfl, SI.no fun _ _ _ => rfl, Sb.no fun _ _ => rfl⟩
    unfold ckE at h; split at h
    · obtain ⟨h1, h2⟩ := ba h
      obtain ⟨x, p, rfl, g1, g2, g3, g4⟩ := nm_ok h2
      exact OkX.val ((bi_ok C h1).2 _ _ _ _ _ (by rw [C.N]; exact g1) (by rw [C.scp]; exact g2) g3 g4) rfl
    · cases h
  | bm b a as iha ihs =>
    refine ⟨fun X c cf W Y e C hG hA h => ?_, SA.no fun _ _ => rfl, SQ.no fun _ _ => rfl, SI.no fun _ _ _ => rfl, Sb.no fun _ _ => rfl⟩
    unfold ckE at h; split at h
    rotate_left
    · obtain ⟨h1, q2⟩ := ba h
      obtain ⟨q2, q3⟩ := ba q2
      obtain ⟨h2, h4⟩ := ba q2
      obtain ⟨h3, h5⟩ := ba q3
      cases eq_of_beq h1
      clear q2 q3 h
      cases as with
      | nil => exact OkX.val (re_bmC C (iha.1 X c cf W Y _ C hG hA h2).1 h4 h5) rfl
      | _ => cases h3
    · cases h
    · obtain ⟨h1, h2⟩ := ba h
      obtain ⟨h2, h3⟩ := ba h2
      obtain ⟨h2, h4⟩ := ba h2
      obtain ⟨h3, h5⟩ := ba h3
      obtain ⟨k1, k2, k3⟩ := ihs.2.1 X c cf W Y _ C hG hA h3
      cases eq_of_beq h1
      exact OkX.val (re_bm C (iha.1 X c cf W Y _ C hG hA h2).1 h4 k1 (by simpa using k2) h5) rfl
  | bms b i as ihs =>
    refine ⟨fun X c cf W Y e C hG hA h => ?_, SA.no fun _ _ => rfl, SQ.no fun _ _ => rfl, SI.no fun _ _ _ => rfl, Sb.no fun _ _ => rfl⟩
    unfold ckE at h; split at h
    · obtain ⟨h1, h2⟩ := ba h
      obtain ⟨h2, h3⟩ := ba h2
      obtain ⟨h2, h4⟩ := ba h2
      obtain ⟨h3, h5⟩ := ba h3
      obtain ⟨k1, k2, k3⟩ := ihs.2.1 X c cf W Y _ C hG hA h3
      cases eq_of_beq h1
      obtain ⟨x, p, rfl, g1, g2, g3, g4⟩ := nm_ok h2
      exact OkX.val (re_bms C (by rw [C.N]; exact g1) (by rw [C.scp]; exact g2) g3 g4 h4 k1 (by simpa using k2) h5) rfl
    · obtain ⟨h1, q2⟩ := ba h
      obtain ⟨q2, q3⟩ := ba q2
      obtain ⟨h2, h4⟩ := ba q2
      obtain ⟨h3, h5⟩ := ba q3
      cases eq_of_beq h1
      obtain ⟨x, p, rfl, g1, g2, g3, g4⟩ := nm_ok h2
      cases as with
      | nil => exact OkX.val (re_bmsC C (by rw [C.N]; exact g1) (by rw [C.scp]; exact g2) g3 g4 h4 h5) rfl
      | _ => cases h3
    · obtain ⟨h1, h2⟩ := ba h
      obtain ⟨h2, h3⟩ := ba h2
      obtain ⟨h2, h4⟩ := ba h2
      obtain ⟨h3, h5⟩ := ba h3
      obtain ⟨k1, k2, k3⟩ := ihs.2.1 X c cf W Y _ C hG hA h3
      cases eq_of_beq h1
      obtain ⟨x, p, rfl, g1, g2, g3, g4⟩ := nm_ok h2
      exact OkX.val (re_bmsX C (by rw [C.N]; exact g1) (by rw [C.scp]; exact g2) g3 g4 h4 k1 (by simpa using k2) h5) rfl
    · cases h
  | isi a t iha =>
    refine ⟨fun X c cf W Y e C hG hA h => ?_, SA.no fun _ _ => rfl, SQ.no fun _ _ => rfl, SI.no fun _ _ _ => rfl, Sb.no fun _ _ => rfl⟩
    unfold ckE at h; split at h
    · rename_i x px y z pp
      obtain ⟨h1, h2⟩ := ba h
      obtain ⟨h1, h3⟩ := ba h1
      obtain ⟨h3, h4⟩ := ba h3
      obtain ⟨h4, h5⟩ := glo_ok h4
      obtain ⟨h2, h6⟩ := ba h2
      obtain ⟨h2, h7⟩ := ba h2
      have ka := (iha.1 X c cf W Y _ C hG hA h2).1
      have hx : x = "isinstance" := eq_of_beq h1
      have hf : x ∈ c.fre := by simpa using h3
      cases z with
      | Name w pw =>
        have go : ∀ (tn : String), tyB t = some tn → w = Str.ofString tn → (w ≠ "__name__") → bootBuiltins w = some (.type tn) → ((w == Str.ofString (tyS t)) && (c.fre.contains w && gloB c.sc w)) = true → OkX X W Y (.Call (.Name x px) [y, .Name w pw] [] pp) (.isi a t) := by
          intro tn e1 e2 e3 e4 h
          obtain ⟨_, h⟩ := ba h
          obtain ⟨q1, q2⟩ := ba h
          obtain ⟨q2, q3⟩ := glo_ok q2
          exact OkX.val (re_isi C hx hf h4 (.ty tn) (by rw [e1]) (pe_bltn (v := V.ty tn) (C.gl q2) (C.free (by simpa using q1)) e4 rfl e3 q3) ka h7 rfl) rfl
        cases t with
        | int => have h := h6; exact go "int" rfl (eq_of_beq (ba h).1) (by rw [eq_of_beq (ba h).1]; decide) (by rw [eq_of_beq (ba h).1]; exact PyProof.Rows.boot_int) h
        | bool => have h := h6; exact go "bool" rfl (eq_of_beq (ba h).1) (by rw [eq_of_beq (ba h).1]; decide) (by rw [eq_of_beq (ba h).1]; exact PyProof.Rows.boot_bool) h
        | str => have h := h6; exact go "str" rfl (eq_of_beq (ba h).1) (by rw [eq_of_beq (ba h).1]; decide) (by rw [eq_of_beq (ba h).1]; exact PyProof.Rows.boot_str) h
        | list => have h := h6; exact go "list" rfl (eq_of_beq (ba h).1) (by rw [eq_of_beq (ba h).1]; decide) (by rw [eq_of_beq (ba h).1]; exact PyProof.Rows.boot_list) h
        | tuple => have h := h6; exact go "tuple" rfl (eq_of_beq (ba h).1) (by rw [eq_of_beq (ba h).1]; decide) (by rw [eq_of_beq (ba h).1]; exact PyProof.Rows.boot_tuple) h
        | cls k =>
          obtain ⟨q1, q2⟩ := ba h6
          obtain ⟨q2, q3⟩ := glo_ok q2
          unfold clB at q1
          split at q1
          · rename_i F eF
            have : F.nm = w := eq_of_beq q1
            subst this
            have eF : X.G.cls[k]? = some F := by rw [hG]; exact eF
            obtain ⟨_, _, hm⟩ := C.gf.mks k F eF
            exact OkX.val (re_isi (u := .ref (X.T.cA k)) C hx hf h4 (.own _) ⟨k, F, rfl, eF, rfl⟩ (pe_glob (v := V.ref (X.T.cA k)) (C.gl q2) hm rfl q3) ka h7 rfl) rfl
          · cases q1
      | _ => exact (Bool.false_ne_true h6).elim
    · cases h
  | isis i t =>
    refine ⟨fun X c cf W Y e C hG hA h => ?_, SA.no fun _ _ => rfl, SQ.no fun _ _ => rfl, SI.no fun _ _ _ => rfl, Sb.no fun _ _ => rfl⟩
    unfold ckE at h; split at h
    · rename_i x px y z pp
      obtain ⟨h1, h2⟩ := ba h
      obtain ⟨h1, h3⟩ := ba h1
      obtain ⟨h3, h4⟩ := ba h3
      obtain ⟨h4, h5⟩ := glo_ok h4
      obtain ⟨h2, h6⟩ := ba h2
      obtain ⟨xx, pxx, rfl, k1, k2, k3, k4⟩ := nm_ok h2
      have hx : x = "isinstance" := eq_of_beq h1
      have hf : x ∈ c.fre := by simpa using h3
      cases z with
      | Name w pw =>
        have go : ∀ (tn : String), tyB t = some tn → w = Str.ofString tn → (w ≠ "__name__") → bootBuiltins w = some (.type tn) → ((w == Str.ofString (tyS t)) && (c.fre.contains w && gloB c.sc w)) = true → OkX X W Y (.Call (.Name x px) [.Name xx pxx, .Name w pw] [] pp) (.isis i t) := by
          intro tn e1 e2 e3 e4 h
          obtain ⟨_, h⟩ := ba h
          obtain ⟨q1, q2⟩ := ba h
          obtain ⟨q2, q3⟩ := glo_ok q2
          exact OkX.val (re_isis C hx hf h4 (.ty tn) (by rw [e1]) (pe_bltn (v := V.ty tn) (C.gl q2) (C.free (by simpa using q1)) e4 rfl e3 q3) (by rw [C.N]; exact k1) (by rw [C.scp]; exact k2) k3 k4 rfl) rfl
        cases t with
        | int => have h := h6; exact go "int" rfl (eq_of_beq (ba h).1) (by rw [eq_of_beq (ba h).1]; decide) (by rw [eq_of_beq (ba h).1]; exact PyProof.Rows.boot_int) h
        | bool => have h := h6; exact go "bool" rfl (eq_of_beq (ba h).1) (by rw [eq_of_beq (ba h).1]; decide) (by rw [eq_of_beq (ba h).1]; exact PyProof.Rows.boot_bool) h
        | str => have h := h6; exact go "str" rfl (eq_of_beq (ba h).1) (by rw [eq_of_beq (ba h).1]; decide) (by rw [eq_of_beq (ba h).1]; exact PyProof.Rows.boot_str) h
        | list => have h := h6; exact go "list" rfl (eq_of_beq (ba h).1) (by rw [eq_of_beq (ba h).1]; decide) (by rw [eq_of_beq (ba h).1]; exact PyProof.Rows.boot_list) h
        | tuple => have h := h6; exact go "tuple" rfl (eq_of_beq (ba h).1) (by rw [eq_of_beq (ba h).1]; decide) (by rw [eq_of_beq (ba h).1]; exact PyProof.Rows.boot_tuple) h
        | cls k =>
          obtain ⟨q1, q2⟩ := ba h6
          obtain ⟨q2, q3⟩ := glo_ok q2
          unfold clB at q1
          split at q1
          · rename_i F eF
            have : F.nm = w := eq_of_beq q1
            subst this
            have eF : X.G.cls[k]? = some F := by rw [hG]; exact eF
            obtain ⟨_, _, hm⟩ := C.gf.mks k F eF
            exact OkX.val (re_isis (u := .ref (X.T.cA k)) C hx hf h4 (.own _) ⟨k, F, rfl, eF, rfl⟩ (pe_glob (v := V.ref (X.T.cA k)) (C.gl q2) hm rfl q3) (by rw [C.N]; exact k1) (by rw [C.scp]; exact k2) k3 k4 rfl) rfl
          · cases q1
      | _ => exact (Bool.false_ne_true h6).elim
    · cases h
  | eqs neg i k =>
    refine ⟨fun X c cf W Y e C hG hA h => ?_, SA.no fun _ _ => rfl, SQ.no fun _ _ => rfl, SI.no fun _ _ _ => rfl, Sb.no fun _ _ => rfl⟩
    unfold ckE at h; split at h
    · rename_i x op y p
      obtain ⟨h1, h2⟩ := ba h
      obtain ⟨h2, h3⟩ := ba h2
      obtain ⟨x2, p2, rfl, g1, g2, g3, g4⟩ := nm_ok h2
      obtain ⟨y2, q2, rfl, k1, k2, k3, k4⟩ := nm_ok h3
      have hop : op = if neg then .NotEq else .Eq := by
        cases neg <;> cases op <;> first | rfl | exact (Bool.false_ne_true h1).elim
      obtain ⟨z1, z2⟩ := re_eqs (p := p2) (p2 := q2) (pos := p) C hop (by rw [C.N]; exact g1) (by rw [C.scp]; exact g2) g3 g4 (by rw [C.N]; exact k1) (by rw [C.scp]; exact k2) k3 k4 C.hu64
      exact ⟨z1, fun _ => z2, fun _ _ _ z => by cases z⟩
    · cases h
  | callr f a iha => exact ⟨fun X c cf W Y e C hG hA h => (Bool.false_ne_true h).elim, SA.no fun _ _ => rfl, SQ.no fun _ _ => rfl, SI.no fun _ _ _ => rfl, Sb.no fun _ _ => rfl⟩
  | newi f a iha => exact ⟨fun X c cf W Y e C hG hA h => (Bool.false_ne_true h).elim, SA.no fun _ _ => rfl, SQ.no fun _ _ => rfl, SI.no fun _ _ _ => rfl, Sb.no fun _ _ => rfl⟩
  | isNs neg i =>
    refine ⟨fun X c cf W Y e C hG hA h => ?_, SA.no fun _ _ => rfl, SQ.no fun _ _ => rfl, SI.no fun _ _ _ => rfl, Sb.no fun _ _ => rfl⟩
    unfold ckE at h; split at h
    · rename_i x op j p0 p
      obtain ⟨h1, h2⟩ := ba h
      obtain ⟨x2, p2, rfl, g1, g2, g3, g4⟩ := nm_ok h2
      have hop : op = if neg then .IsNot else .Is := by
        cases neg <;> cases op <;> first | rfl | exact (Bool.false_ne_true h1).elim
      obtain ⟨k1, k2⟩ := re_isNs (X := X) (W := W) (Y := Y) (p2 := p2) (p := p0) (j := j) (pos := p) hop (by rw [C.N]; exact g1) (by rw [C.scp]; exact g2) g3 g4
      exact ⟨k1, fun _ => k2, fun _ _ _ z => by cases z⟩
    · cases h
  | popl i =>
    refine ⟨fun X c cf W Y e C hG hA h => ?_, SA.no fun _ _ => rfl, SQ.no fun _ _ => rfl, SI.no fun _ _ _ => rfl, Sb.no fun _ _ => rfl⟩
    unfold ckE at h; split at h
    · obtain ⟨h1, h2⟩ := ba h
      obtain ⟨h2, h3⟩ := ba h2
      obtain ⟨h2, h4⟩ := ba h2
      cases eq_of_beq h1
      obtain ⟨x, p, rfl, g1, g2, g3, g4⟩ := nm_ok h2
      exact OkX.val (re_popl C (by rw [C.N]; exact g1) (by rw [C.scp]; exact g2) g3 g4 h4 h3) rfl
    · cases h
  | consb a b iha ihb =>
    refine ⟨fun X c cf W Y e C hG hA h => (Bool.false_ne_true h).elim, SA.no fun _ _ => rfl, SQ.no fun _ _ => rfl, SI.no fun _ _ _ => rfl, fun X c cf W Y es C hG hA h => ?_⟩
    cases es with
    | nil => exact (Bool.false_ne_true h).elim
    | cons x xs =>
      obtain ⟨h1, h2⟩ := ba (show ((ckE c a x && tame x) && ckAb c b xs) = true from h)
      obtain ⟨h1, h3⟩ := ba h1
      obtain ⟨k1, k2⟩ := ihb.2.2.2.2 X c cf W Y xs C hG hA h2
      exact ⟨rab_cons (iha.1 X c cf W Y x C hG hA h1).1 k1 h3, by rw [List.all_cons, h3, k2] <;> rfl⟩
  | consp i b ihb =>
    refine ⟨fun X c cf W Y e C hG hA h => (Bool.false_ne_true h).elim, SA.no fun _ _ => rfl, SQ.no fun _ _ => rfl, SI.no fun _ _ _ => rfl, fun X c cf W Y es C hG hA h => ?_⟩
    cases es with
    | nil => exact (Bool.false_ne_true h).elim
    | cons x xs =>
      obtain ⟨h1, h2⟩ := ba (show (ckNm c i x && ckAb c b xs) = true from h)
      obtain ⟨k1, k2⟩ := ihb.2.2.2.2 X c cf W Y xs C hG hA h2
      obtain ⟨z, p, rfl, g1, g2, g3, g4⟩ := nm_ok h1
      exact ⟨rab_consp (by rw [C.N]; exact g1) (by rw [C.scp]; exact g2) g3 g4 k1, by rw [List.all_cons, k2] <;> rfl⟩
  | callb f a iha =>
    refine ⟨fun X c cf W Y e C hG hA h => ?_, SA.no fun _ _ => rfl, SQ.no fun _ _ => rfl, SI.no fun _ _ _ => rfl, Sb.no fun _ _ => rfl⟩
    unfold ckE at h; split at h
    · rename_i x p y es pos
      obtain ⟨h1, h2⟩ := ba h
      obtain ⟨h2, h3⟩ := ba h2
      obtain ⟨h4, h5⟩ := glo_ok h2
      obtain ⟨k1, k2⟩ := iha.2.2.2.2 X c cf W Y _ C hG hA h3
      unfold fnB at h1
      split at h1
      · rename_i F eF
        obtain ⟨g1, g2⟩ := ba h1
        have : F.nm = x := eq_of_beq g1
        subst this
        exact OkX.val (re_callb C (by rw [hG]; exact eF) (by simpa using g2) h4 h5 k1 k2) rfl
      · cases h1
    · cases h
  | newb k a iha =>
    refine ⟨fun X c cf W Y e C hG hA h => ?_, SA.no fun _ _ => rfl, SQ.no fun _ _ => rfl, SI.no fun _ _ _ => rfl, Sb.no fun _ _ => rfl⟩
    unfold ckE at h; split at h
    · rename_i x p y es pos
      obtain ⟨h1, h2⟩ := ba h
      obtain ⟨h2, h3⟩ := ba h2
      obtain ⟨h4, h5⟩ := glo_ok h2
      obtain ⟨k1, k2⟩ := iha.2.2.2.2 X c cf W Y _ C hG hA h3
      unfold clB at h1
      split at h1
      · rename_i F eF
        have : F.nm = x := eq_of_beq h1
        subst this
        exact OkX.val (re_newb C (by rw [hG]; exact eF) h4 h5 k1 k2) rfl
      · cases h1
    · cases h
  | dd k v iha =>
    refine ⟨fun X c cf W Y e C hG hA h => ?_, SA.no fun _ _ => rfl, SQ.no fun _ _ => rfl, SI.no fun _ _ _ => rfl, Sb.no fun _ _ => rfl⟩
    unfold ckE at h; split at h
    · obtain ⟨h1, h2⟩ := ba h
      cases of_decide_eq_true h1
      refine OkX.val (re_dd ?_) rfl
      unfold cstB at h2
      split at h2
      · cases of_decide_eq_true h2; exact .inl ⟨_, rfl, rfl⟩
      · cases eq_of_beq h2; exact .inr ⟨_, rfl, rfl⟩
      · cases h2
    · cases h
  | dsp k v iha =>
    refine ⟨fun X c cf W Y e C hG hA h => ?_, SA.no fun _ _ => rfl, SQ.no fun _ _ => rfl, SI.no fun _ _ _ => rfl, Sb.no fun _ _ => rfl⟩
    unfold ckE at h; split at h
    · obtain ⟨h1, h2⟩ := ba h
      cases eq_of_beq h1
      refine OkX.val (re_dsp ?_) rfl
      unfold cstB at h2
      split at h2
      · cases of_decide_eq_true h2; exact .inl ⟨_, rfl, rfl⟩
      · cases eq_of_beq h2; exact .inr ⟨_, rfl, rfl⟩
      · cases h2
    · cases h
  | ixs i a ihs =>
    refine ⟨fun X c cf W Y e C hG hA h => ?_, SA.no fun _ _ => rfl, SQ.no fun _ _ => rfl, SI.no fun _ _ _ => rfl, Sb.no fun _ _ => rfl⟩
    unfold ckE at h; split at h
    · obtain ⟨h1, h2⟩ := ba h
      obtain ⟨h2, h3⟩ := ba h2
      obtain ⟨h2, h4⟩ := ba h2
      obtain ⟨h3, h5⟩ := ba h3
      obtain ⟨k1, k2, k3⟩ := ihs.2.1 X c cf W Y _ C hG hA h3
      cases eq_of_beq h1
      obtain ⟨x, p, rfl, g1, g2, g3, g4⟩ := nm_ok h2
      exact OkX.val (re_ixs C (by rw [C.N]; exact g1) (by rw [C.scp]; exact g2) g3 g4 h4 k1 (by simpa using k2) h5) rfl
    · cases h
  | xat a f iha =>
    refine ⟨fun X c cf W Y e C hG hA h => ?_, SA.no fun _ _ => rfl, SQ.no fun _ _ => rfl, SI.no fun _ _ _ => rfl, Sb.no fun _ _ => rfl⟩
    unfold ckE at h; split at h
    · obtain ⟨h1, h2⟩ := ba h
      obtain ⟨h2, h3⟩ := ba h2
      cases eq_of_beq h1
      exact OkX.val (re_xat C.K C.gf.xs (iha.1 X c cf W Y _ C hG hA h2).1 h3) rfl
    · cases h
  | xis a q iha =>
    refine ⟨fun X c cf W Y e C hG hA h => ?_, SA.no fun _ _ => rfl, SQ.no fun _ _ => rfl, SI.no fun _ _ _ => rfl, Sb.no fun _ _ => rfl⟩
    unfold ckE at h; split at h
    · rename_i x px y z pp
      obtain ⟨h1, h2⟩ := ba h
      obtain ⟨rfl, h3, h4⟩ := bname h1
      obtain ⟨h2, h6⟩ := ba h2
      obtain ⟨h2, h7⟩ := ba h2
      have ka := (iha.1 X c cf W Y _ C hG hA h2).1
      cases z with
      | Name w pw =>
        cases q with
        | none =>
          have h6 : ((w == ("ValueError" : Str)) && (c.fre.contains w && gloB c.sc w)) = true := h6
          obtain ⟨rfl, g1, g2⟩ := bname h6
          exact OkX.val (re_xis C rfl h3 h4 (.ty "ValueError") rfl (pe_bltn (v := V.ty "ValueError") (C.gl g2) (C.free g1) PyProof.Rows.Boot.«ValueError» rfl (by decide) (by decide)) ka h7 rfl) rfl
        | some k =>
          obtain ⟨q1, q2⟩ := ba (show (xlB c k w && gloB c.sc w) = true from h6)
          obtain ⟨q2, q3⟩ := glo_ok q2
          unfold xlB at q1
          split at q1
          · rename_i F eF
            cases eq_of_beq q1
            have hk : X.G.xs[k]? = some F := by rw [hG]; exact eF
            exact OkX.val (re_xis (u := .ref (X.T.xA k)) C rfl h3 h4 (.own _) ⟨F, hk, rfl⟩ (pe_glob (v := V.ref (X.T.xA k)) (C.gl q2) (C.gf.xs k F hk).glo rfl q3) ka h7 rfl) rfl
          · cases q1
      | _ => cases h6
    · cases h
  | xnw k a iha =>
    refine ⟨fun X c cf W Y e C hG hA h => ?_, SA.no fun _ _ => rfl, SQ.no fun _ _ => rfl, SI.no fun _ _ _ => rfl, Sb.no fun _ _ => rfl⟩
    unfold ckE at h; split at h
    · rename_i x p y es pos
      obtain ⟨h1, h2⟩ := ba h
      obtain ⟨h2, h3⟩ := ba h2
      obtain ⟨h4, h5⟩ := glo_ok h2
      obtain ⟨k1, k2, _⟩ := iha.2.1 X c cf W Y _ C hG hA h3
      unfold xlB at h1
      split at h1
      · rename_i F eF
        cases eq_of_beq h1
        have hk : X.G.xs[k]? = some F := by rw [hG]; exact eF
        cases hi : F.ini with
        | some i0 => exact OkX.val (re_xnwI C hk hi h4 h5 k1 k2) rfl
        | none => exact OkX.val (re_xnwN C hk hi h4 h5 k1 k2) rfl
      · cases h1
    · cases h
  | compm el tg it ihe ihi =>
    refine ⟨fun X c cf W Y e C hG hA h => ?_, SA.no fun _ _ => rfl, SQ.no fun _ _ => rfl, SI.no fun _ _ _ => rfl, Sb.no fun _ _ => rfl⟩
    unfold ckE at h; split at h
    · rename_i x t i scope pos
      obtain ⟨own, g1, g2, g3, g4, g5, g7⟩ := compm_parts0 C hG hA ihe.1 ihi.2.2.2.1 h
      have hN : Y.N.Nodup := by rw [C.N]; exact C.nd
      have k := pe_lc (pos := pos) C.calm hN g3 g2 g5 (fun _ _ _ _ _ => pts_nil) g7 (fun x => fs_ok g4 x)
      rw [g1] at k
      exact OkX.val (k.imp fun σ H Q z => rd_compm z) rfl
    · cases h
  | sl a iha =>
    refine ⟨fun X c cf W Y e C hG hA h => ?_, SA.no fun _ _ => rfl, SQ.no fun _ _ => rfl, SI.no fun _ _ _ => rfl, Sb.no fun _ _ => rfl⟩
    unfold ckE at h; split at h
    · obtain ⟨h1, h2⟩ := ba h
      obtain ⟨h2, h3⟩ := ba h2
      obtain ⟨h3, h4⟩ := ba h3
      obtain ⟨rfl, g1, g2⟩ := bname h1
      obtain ⟨rfl, g3, g4⟩ := bname h2
      exact OkX.val (re_sl C g1 g2 g3 g4 (iha.1 X c cf W Y _ C hG hA h3).1 h4) rfl
    · cases h
  | join a b iha ihb =>
    refine ⟨fun X c cf W Y e C hG hA h => ?_, SA.no fun _ _ => rfl, SQ.no fun _ _ => rfl, SI.no fun _ _ _ => rfl, Sb.no fun _ _ => rfl⟩
    unfold ckE at h; split at h
    · obtain ⟨h1, h2⟩ := ba h
      obtain ⟨h2, h3⟩ := ba h2
      obtain ⟨h2, h4⟩ := ba h2
      obtain ⟨h3, h5⟩ := ba h3
      obtain ⟨h3, h6⟩ := ba h3
      cases eq_of_beq h1
      exact OkX.val (re_join C (iha.1 X c cf W Y _ C hG hA h2).1 (ihb.1 X c cf W Y _ C hG hA h3).1 h4 h6 h5) rfl
    · cases h
  | gets i a b iha ihb =>
    refine ⟨fun X c cf W Y e C hG hA h => ?_, SA.no fun _ _ => rfl, SQ.no fun _ _ => rfl, SI.no fun _ _ _ => rfl, Sb.no fun _ _ => rfl⟩
    unfold ckE at h; split at h
    · obtain ⟨h1, h2⟩ := ba h
      obtain ⟨h2, h3⟩ := ba h2
      obtain ⟨h2, h4⟩ := ba h2
      obtain ⟨h3, h5⟩ := ba h3
      obtain ⟨h3, h6⟩ := ba h3
      obtain ⟨h3, h7⟩ := ba h3
      obtain ⟨h6, h8⟩ := ba h6
      cases eq_of_beq h1
      obtain ⟨x, p, rfl, g1, g2, g3, g4⟩ := nm_ok h2
      exact OkX.val (re_gets C (by rw [C.N]; exact g1) (by rw [C.scp]; exact g2) g3 g4 h4 (iha.1 X c cf W Y _ C hG hA h3).1 (ihb.1 X c cf W Y _ C hG hA h6).1 h7 h8 h5) rfl
    · cases h
  | gets1 i a iha =>
    refine ⟨fun X c cf W Y e C hG hA h => ?_, SA.no fun _ _ => rfl, SQ.no fun _ _ => rfl, SI.no fun _ _ _ => rfl, Sb.no fun _ _ => rfl⟩
    unfold ckE at h; split at h
    · obtain ⟨h1, h2⟩ := ba h
      obtain ⟨h2, h3⟩ := ba h2
      obtain ⟨h2, h4⟩ := ba h2
      obtain ⟨h3, h5⟩ := ba h3
      obtain ⟨h3, h6⟩ := ba h3
      cases eq_of_beq h1
      obtain ⟨x, p, rfl, g1, g2, g3, g4⟩ := nm_ok h2
      exact OkX.val (re_gets1 C (by rw [C.N]; exact g1) (by rw [C.scp]; exact g2) g3 g4 h4 (iha.1 X c cf W Y _ C hG hA h3).1 h6 h5) rfl
    · cases h
  | tnew =>
    refine ⟨fun X c cf W Y e C hG hA h => ?_, SA.no fun _ _ => rfl, SQ.no fun _ _ => rfl, SI.no fun _ _ _ => rfl, Sb.no fun _ _ => rfl⟩
    unfold ckE at h; split at h
    · exact OkX.val (re_tnew C) rfl
    · cases h
  | tdsp k v ihk ihv =>
    refine ⟨fun X c cf W Y e C hG hA h => ?_, SA.no fun _ _ => rfl, SQ.no fun _ _ => rfl, SI.no fun _ _ _ => rfl, Sb.no fun _ _ => rfl⟩
    unfold ckE at h; split at h
    · rename_i x y p
      obtain ⟨h1, h2⟩ := ba h
      have Cb : ∀ w0 H0, Cc (X.fr w0 H0) n fA c.fre cf c.sc c.Nm WF Y := fun w0 H0 => ⟨C.K, C.wd, ⟨C.gf.fns, C.gf.glo, C.gf.cls, C.gf.mth, C.gf.mks, C.gf.clr, C.gf.cmt, C.gf.noat, C.gf.inj, C.gf.cn, C.gf.fre, C.gf.kit, C.gf.kiB, C.gf.kiO, C.gf.kiG, C.gf.xs⟩, C.N, C.nd, C.scp, C.calm, C.room, takes0, C.fn⟩
      exact OkX.val (re_tdsp C ⟨fun pins s' σ H' Q I ⟨w0, H0, z⟩ => (ihk.1 (X.fr w0 H0) c cf WF Y x (Cb w0 H0) hG hA h1).1.run pins s' σ H' Q I z⟩ ⟨fun pins s' σ H' Q I ⟨w0, H0, z⟩ => (ihv.1 (X.fr w0 H0) c cf WF Y y (Cb w0 H0) hG hA h2).1.run pins s' σ H' Q I z⟩) rfl
    · cases h
  | sdf i a b iha ihb =>
    refine ⟨fun X c cf W Y e C hG hA h => ?_, SA.no fun _ _ => rfl, SQ.no fun _ _ => rfl, SI.no fun _ _ _ => rfl, Sb.no fun _ _ => rfl⟩
    unfold ckE at h; split at h
    · obtain ⟨h1, h2⟩ := ba h
      obtain ⟨h2, h3⟩ := ba h2
      obtain ⟨h2, h4⟩ := ba h2
      obtain ⟨h3, h5⟩ := ba h3
      obtain ⟨h3, h6⟩ := ba h3
      obtain ⟨h3, h7⟩ := ba h3
      obtain ⟨h6, h8⟩ := ba h6
      cases eq_of_beq h1
      obtain ⟨x, p, rfl, g1, g2, g3, g4⟩ := nm_ok h2
      exact OkX.val (re_sdf C (by rw [C.N]; exact g1) (by rw [C.scp]; exact g2) g3 g4 h4 (iha.1 X c cf W Y _ C hG hA h3).1 (ihb.1 X c cf W Y _ C hG hA h6).1 h7 h8 h5) rfl
    · cases h
  | sdt i a b iha ihb =>
    refine ⟨fun X c cf W Y e C hG hA h => ?_, SA.no fun _ _ => rfl, SQ.no fun _ _ => rfl, SI.no fun _ _ _ => rfl, Sb.no fun _ _ => rfl⟩
    unfold ckE at h; split at h
    · obtain ⟨h1, h2⟩ := ba h
      obtain ⟨h2, h3⟩ := ba h2
      obtain ⟨h2, h4⟩ := ba h2
      obtain ⟨h3, h5⟩ := ba h3
      obtain ⟨h3, h6⟩ := ba h3
      obtain ⟨h3, h7⟩ := ba h3
      obtain ⟨h6, h8⟩ := ba h6
      cases eq_of_beq h1
      obtain ⟨x, p, rfl, g1, g2, g3, g4⟩ := nm_ok h2
      exact OkX.val (re_sdt C (by rw [C.N]; exact g1) (by rw [C.scp]; exact g2) g3 g4 h4 (iha.1 X c cf W Y _ C hG hA h3).1 (ihb.1 X c cf W Y _ C hG hA h6).1 h7 h8 h5) rfl
    · cases h
  | rev a iha =>
    refine ⟨fun X c cf W Y e C hG hA h => ?_, SA.no fun _ _ => rfl, SQ.no fun _ _ => rfl, SI.no fun _ _ _ => rfl, Sb.no fun _ _ => rfl⟩
    unfold ckE at h; split at h
    · obtain ⟨h1, h2⟩ := ba h
      obtain ⟨h2, h3⟩ := ba h2
      obtain ⟨h3, h4⟩ := ba h3
      obtain ⟨e1, g1, g2⟩ := bname h1
      obtain ⟨e2, g3, g4⟩ := bname h2
      exact OkX.val (re_rev C e1 (e1 ▸ g1) (e1 ▸ g2) e2 (e2 ▸ g3) (e2 ▸ g4) (iha.1 X c cf W Y _ C hG hA h3).1 h4) rfl
    · cases h
  | cl a iha =>
    refine ⟨fun X c cf W Y e C hG hA h => ?_, SA.no fun _ _ => rfl, SQ.no fun _ _ => rfl, SI.no fun _ _ _ => rfl, Sb.no fun _ _ => rfl⟩
    unfold ckE at h; split at h
    · obtain ⟨h1, h2⟩ := ba h
      obtain ⟨h3, h4⟩ := ba h2
      obtain ⟨e1, g1, g2⟩ := bname h1
      exact OkX.val (re_cl C e1 (e1 ▸ g1) (e1 ▸ g2) (iha.1 X c cf W Y _ C hG hA h3).1 h4) rfl
    · cases h
  | cs a i iha ihi =>
    refine ⟨fun X c cf W Y e C hG hA h => ?_, SA.no fun _ _ => rfl, SQ.no fun _ _ => rfl, SI.no fun _ _ _ => rfl, Sb.no fun _ _ => rfl⟩
    unfold ckE at h; split at h
    · obtain ⟨h1, h2⟩ := ba h
      obtain ⟨h2, h3⟩ := ba h2
      exact OkX.val (re_cs C (iha.1 X c cf W Y _ C hG hA h1).1 (ihi.1 X c cf W Y _ C hG hA h2).1 h3) rfl
    · cases h
  | ci neg a b iha ihb =>
    refine ⟨fun X c cf W Y e C hG hA h => ?_, SA.no fun _ _ => rfl, SQ.no fun _ _ => rfl, SI.no fun _ _ _ => rfl, Sb.no fun _ _ => rfl⟩
    unfold ckE at h; split at h
    · rename_i x op y p
      obtain ⟨h1, hh⟩ := ba h
      obtain ⟨h2, h3⟩ := ba hh
      obtain ⟨h3, h4⟩ := ba h3
      have hop : op = if neg then .NotIn else .In := by
        cases neg <;> cases op <;> first | rfl | exact (Bool.false_ne_true h1).elim
      obtain ⟨k1, k2⟩ := re_ci (pos := p) C hop (iha.1 X c cf W Y _ C hG hA h2).1 (ihb.1 X c cf W Y _ C hG hA h3).1 h4
      exact ⟨k1, fun _ => k2, fun _ _ _ z => by cases z⟩
    · cases h
  | pk i =>
    refine ⟨fun X c cf W Y e C hG hA h => (Bool.false_ne_true h).elim, SA.no fun _ _ => rfl, SQ.no fun _ _ => rfl, fun X c cf W Y tg e C hG hA h => ?_, Sb.no fun _ _ => rfl⟩
    obtain ⟨x, p, rfl, g1, g2, g3, g4⟩ := nm_ok (show ckNm c i e = true from h)
    exact ri_pk C (by rw [C.N]; exact g1) (by rw [C.scp]; exact g2) g3 g4
  | comp el tg it q ihe ihi ihq =>
    refine ⟨fun X c cf W Y e C hG hA h => ?_, SA.no fun _ _ => rfl, SQ.no fun _ _ => rfl, SI.no fun _ _ _ => rfl, Sb.no fun _ _ => rfl⟩
    unfold ckE at h; split at h
    · rename_i x t i ifs scope pos
      obtain ⟨h0, h5⟩ := ba h
      obtain ⟨h1, h2⟩ := ba h0
      obtain ⟨h2, h3⟩ := ba h2
      obtain ⟨h5, h7⟩ := ba h5
      obtain ⟨h5, h6⟩ := ba h5
      obtain ⟨h7, h8⟩ := ba h7
      have h2 := of_decide_eq_true h2
      have hown : ((tgN t).zip tg).map (·.2) = tg := by rw [List.map_snd_zip (by rw [h2]; exact Nat.le_refl _)]
      have Cb : ∀ w0 H0 (s : Shared) (H : Hp) (Cl : Addr) (cl : List (Str × Addr)) (fp : List Addr), Cc (X.fr w0 H0) n fA (c.blk scope).fre (fun x => scope.names.lookup x == some .cell) (c.blk scope).sc (c.blk scope).Nm WF (Y.blk s H scope (compEnvC scope cl Cl Y.env) fp) := fun w0 H0 s H Cl cl fp =>
        ⟨C.K, C.wd, ⟨C.gf.fns, C.gf.glo, C.gf.cls, C.gf.mth, C.gf.mks, C.gf.clr, C.gf.cmt, C.gf.noat, C.gf.inj, C.gf.cn, C.gf.fre, C.gf.kit, C.gf.kiB, C.gf.kiO, C.gf.kiG, C.gf.xs⟩, C.N, C.nd, (show relS scope Y.env.scope = relS scope c.sc by rw [C.scp]), C.calm, C.room, takes0, fun x h => h⟩
      have he : ∀ (s : Shared) (H : Hp) (Cl : Addr) (cl : List (Str × Addr)) (fp : List Addr), PE (Y.blk s H scope (compEnvC scope cl Cl Y.env) fp) x (tEx X el) := fun s H Cl cl fp =>
        ⟨fun pins s' σ H' Q I ⟨w0, H0, z⟩ => (ihe.1 (X.fr w0 H0) (c.blk scope) _ WF _ x (Cb w0 H0 s H Cl cl fp) hG hA h7).1.run pins s' σ H' Q I z⟩
      have hg : ∀ (s : Shared) (H : Hp) (Cl : Addr) (cl : List (Str × Addr)) (fp : List Addr), PG (Y.blk s H scope (compEnvC scope cl Cl Y.env) fp) t (gTG X.T.K tg) := fun s H Cl cl fp => by
        have C0 := Cb X.w0 X.H0 s H Cl cl fp
        have e0 : X.T.K = (Y.blk s H scope (compEnvC scope cl Cl Y.env) fp).K := C.K.symm
        rw [e0]
        refine pg_gen (f := slotC (c.blk scope)) (by rw [C0.N]; exact C0.nd) C0.calm (fun i x hx => ?_) h3
        obtain ⟨k1, k2⟩ := ba hx
        have k3 : (c.blk scope).sc.names.lookup x = some .local := by
          split at k2
          · assumption
          · cases k2
        exact ⟨by rw [C0.N]; exact eq_of_beq k1, .inl (by rw [C0.scp]; exact k3), .inr (by rw [C0.scp]; exact k3)⟩
      have ok : BlkOk Y.N Y.env.scope scope ((tgN t).zip tg) := by rw [C.N, C.scp]; exact blkOk_by h1
      have hi := ihi.2.2.2.1 X c cf W Y t i C hG hA h5
      have hN : Y.N.Nodup := by rw [C.N]; exact C.nd
      have fin : ∀ {tt : TT}, (∀ (s : Shared) (H : Hp) (Cl : Addr) (cl : List (Str × Addr)) (fp : List Addr), PTs (Y.blk s H scope (compEnvC scope cl Cl Y.env) fp) ifs tt) → tt = tTx X q → PE Y (.ListComp x [⟨t, i, ifs, 0⟩] scope pos) (tE X W (.comp el tg it q)) := fun {tt} ht e0 => by
        subst e0
        have k := pe_lc (pos := pos) C.calm hN hi ok hg ht he (fun x => fs_ok h6 x)
        rw [hown] at k
        exact k.imp fun σ H Q z => rd_comp z
      refine OkX.val ?_ rfl
      split at h8
      · refine fin (fun s H Cl cl fp => ?_) rfl
        cases q with
        | bl b => cases b with
          | true => exact pts_0
          | false => cases h8
        | _ => exact (Bool.false_ne_true h8).elim
      · rename_i y
        obtain ⟨h8, h9⟩ := ba h8
        refine fin (fun s H Cl cl fp => pts_t ⟨fun pins s' σ H' Q I ⟨w0, H0, z⟩ => ((ihq.1 (X.fr w0 H0) (c.blk scope) _ WF _ y (Cb w0 H0 s H Cl cl fp) hG hA h8).2.1 h9).run pins s' σ H' Q I z⟩) rfl
      · cases h8
    · cases h
  | rng a iha =>
    refine ⟨fun X c cf W Y e C hG hA h => (Bool.false_ne_true h).elim, SA.no fun _ _ => rfl, SQ.no fun _ _ => rfl, fun X c cf W Y tg e C hG hA h => ?_, Sb.no fun _ _ => rfl⟩
    unfold ckI at h; split at h
    · obtain ⟨h1, h2⟩ := ba h
      obtain ⟨rfl, h3, h4⟩ := bname h1
      obtain ⟨k1, k2, _⟩ := iha.2.1 X c cf W Y _ C hG hA h2
      exact ri_rng1 C h3 h4 (by simpa using k2) k1
    · cases h
  | rng2 a iha =>
    refine ⟨fun X c cf W Y e C hG hA h => (Bool.false_ne_true h).elim, SA.no fun _ _ => rfl, SQ.no fun _ _ => rfl, fun X c cf W Y tg e C hG hA h => ?_, Sb.no fun _ _ => rfl⟩
    unfold ckI at h; split at h
    · obtain ⟨h1, h2⟩ := ba h
      obtain ⟨rfl, h3, h4⟩ := bname h1
      obtain ⟨k1, k2, _⟩ := iha.2.1 X c cf W Y _ C hG hA h2
      simp only [List.all_cons, List.all_nil, Bool.and_true, Bool.and_eq_true] at k2
      exact ri_rng2 C h3 h4 k2.1 k2.2 k1
    · cases h
  | enu a iha =>
    refine ⟨fun X c cf W Y e C hG hA h => (Bool.false_ne_true h).elim, SA.no fun _ _ => rfl, SQ.no fun _ _ => rfl, fun X c cf W Y tg e C hG hA h => ?_, Sb.no fun _ _ => rfl⟩
    unfold ckI at h
    obtain ⟨ht, hq⟩ := ba h
    clear h
    cases tg with
    | Tuple es k pt =>
      split at hq
      · obtain ⟨h1, h2⟩ := ba hq
        obtain ⟨h2, h5⟩ := ba h2
        obtain ⟨rfl, h3, h4⟩ := bname h1
        exact ri_enu C h3 h4 h5 (iha.1 X c cf W Y _ C hG hA h2).1
      · cases hq
    | _ => exact (Bool.false_ne_true ht).elim
  | zip a iha =>
    refine ⟨fun X c cf W Y e C hG hA h => (Bool.false_ne_true h).elim, SA.no fun _ _ => rfl, SQ.no fun _ _ => rfl, fun X c cf W Y tg e C hG hA h => ?_, Sb.no fun _ _ => rfl⟩
    unfold ckI at h
    obtain ⟨ht, hq⟩ := ba h
    clear h
    cases tg with
    | Tuple es k pt =>
      split at hq
      · obtain ⟨h1, h2⟩ := ba hq
        obtain ⟨h2, h5⟩ := ba h2
        obtain ⟨h5, h6⟩ := ba h5
        obtain ⟨rfl, h3, h4⟩ := bname h1
        exact ri_zip C h3 h4 h5 h6 (iha.2.1 X c cf W Y _ C hG hA h2).1
      · cases hq
    | _ => exact (Bool.false_ne_true ht).elim
  | pl a iha => exact ⟨fun X c cf W Y e C hG hA h => (Bool.false_ne_true h).elim, SA.no fun _ _ => rfl, SQ.no fun _ _ => rfl, fun X c cf W Y tg e C hG hA h => ri_pl C (iha.1 X c cf W Y _ C hG hA h).1, Sb.no fun _ _ => rfl⟩
  | pt a iha => exact ⟨fun X c cf W Y e C hG hA h => (Bool.false_ne_true h).elim, SA.no fun _ _ => rfl, SQ.no fun _ _ => rfl, fun X c cf W Y tg e C hG hA h => ri_pt C (iha.1 X c cf W Y _ C hG hA h).1, Sb.no fun _ _ => rfl⟩
  | ps a iha => exact ⟨fun X c cf W Y e C hG hA h => (Bool.false_ne_true h).elim, SA.no fun _ _ => rfl, SQ.no fun _ _ => rfl, fun X c cf W Y tg e C hG hA h => ri_ps C (iha.1 X c cf W Y _ C hG hA h).1, Sb.no fun _ _ => rfl⟩
end
end Mp
namespace Mp
open PySem L2
def ckTg (c : Ct) (is : List Nat) (e : Expr) : Bool := ckTgP (slotL c) is e
def isComp : E → Bool
  | .comp _ _ _ _ => true
  | .compm _ _ _ => true
  | _ => false
def isNon : E → Bool
  | .non => true
  | _ => false
def ckH1 (c : Ct) : E → Expr → Bool
  | .nm i, e => ckNm c i e
  | .xat (.nm i) f, .Attribute x g _ => (f == g) && (ckNm c i x && notSup x)
  | .bl b, .Constant (.bool d) _ _ => b == d
  | .non, .Constant .none _ _ => true
  | .str x, .Constant (.str y) _ _ => x == y
  | .int x, .Constant (.int y) _ _ => decide (x = y)
  | _, _ => false
def ckH (c : Ct) : E → Expr → Bool
  | .tup (.cons a (.cons b .nil)), .Tuple [x, y] _ _ => (ckH1 c a x && tame x) && (ckH1 c b y && tame y)
  | a, x => ckH1 c a x
mutual
def ckS (c : Ct) : S → Stmt → Bool
  | .skip, st => (match st with
    | .Pass _ => true
    | .Expr (.Constant (.str _) _ _) _ => true
    | _ => false)
  | .seq _ _, _ => false
  | .asg i e, st => (match st with
    | .Assign [.Name x _] a _ => slotL c i x && (ckE c e a && (tame a && (notLc a || (isComp e && decide (c.sc.kind = .function)))))
    | _ => false)
  | .mv i j, st => (match st with
    | .Assign [.Name x _] a _ => slotL c i x && ckNm c j a
    | _ => false)
  | .ast is e, st => (match st with
    | .Assign [.Tuple es k p] a _ => ckTg c is (.Tuple es k p) && (ckE c e a && (tame a && (notLc a && notTup a)))
    | _ => false)
  | .aug i o e, st => (match o, st with
    | .add, .AugAssign (.Name x _) .Add a _ => slotL c i x && ckE c e a
    | _, _ => false)
  | .seta i k e, st => (match st with
    | .Assign [.Attribute y f _] a _ => (anB c k f && ckNm c i y) && (ckE c e a && tame a)
    | _ => false)
  | .setam i k e, st => (match st with
    | .Assign [.Attribute y f _] a _ => (anB c k f && ckNm c i y) && (ckE c e a && tame a)
    | _ => false)
  | .sets i j e, st => (match st with
    | .Assign [.Subscript y b _] a _ => (ckNm c i y && (ckE c j b && tame b)) && (ckE c e a && tame a)
    | _ => false)
  | .setv b j e, st => (match st with
    | .Assign [.Subscript y d _] a _ => (ckE c b y && (ckE c j d && tame d)) && (ckE c e a && tame a)
    | _ => false)
  | .asm i e, st => (match st with
    | .Assign [.Name x _] a _ => slotL c i x && (ckE c e a && (tame a && notLc a))
    | _ => false)
  | .ifs q a b, st => (match st with
    | .If x ss ts _ => (ckE c q x && tst x) && (ckB c a ss && ckB c b ts)
    | _ => false)
  | .whl q a, st => (match st with
    | .While x ss [] _ => (ckE c q x && tst x) && ckB c a ss
    | _ => false)
  | .fors tg it a, st => (match st with
    | .For t x ss [] _ => (ckTg c tg t && (ckI c it t x && tame x)) && ckB c a ss
    | _ => false)
  | .form i j a, st => (match st with
    | .For t x ss [] _ => (ckTg c [i] t && ckNm c j x) && ckB c a ss
    | _ => false)
  | .ret e, st => (match st with
    | .Return (some a) _ => ckE c e a
    | .Return none _ => isNon e
    | _ => false)
  | .retm i, st => (match st with
    | .Return (some y) _ => ckNm c i y
    | _ => false)
  | .exp e, st => (match st with
    | .Expr a _ => ckE c e a && (tame a && notLc a)
    | _ => false)
  | .never, _ => true
  | .rse k a, st => (match st with
    | .Raise (some (.Call (.Name x _) (y :: es) [] _)) none _ => xlB c k x && (gloB c.sc x && ckA c a (y :: es))
    | _ => false)
  | .tr b k i j e, st => (match st with
    | .Try body [.ExceptHandler (some (.Name x _)) (some m) [.Assign [.Name y _] ex _] _] [] [] _ => (xlB c k x && gloB c.sc x) && ((slotC c i m && slotC c j y) && (ckB c b body && (ckH c e ex && (tame ex && notLc ex))))
    | _ => false)
  | .brk, st => (match st with
    | .Break _ => true
    | _ => false)
  | .cnt, st => (match st with
    | .Continue _ => true
    | _ => false)
def ckB (c : Ct) : S → List Stmt → Bool
  | .skip, sts => sts.isEmpty
  | .seq a b, sts => (match sts with
    | st :: r => ckS c a st && ckB c b r
    | [] => false)
  | _, _ => false
end
section
variable {X : Fx} {n : Nat} {fA : Nat → Addr} {fre : List Str} {cf : Str → Bool} {sc : Scope} {Nm : List Str} {W : WX} {Y : Cx} {e : Expr} {c : Ct} {ad : Addr} {pn : List (Addr × Obj)}
theorem slotC_ok {i : Nat} {x : Str} (h : slotC c i x = true) : c.Nm[i]? = some x ∧ c.sc.names.lookup x = some .local := by
  obtain ⟨h1, h2⟩ := ba h
  refine ⟨eq_of_beq h1, ?_⟩
  split at h2
  · assumption
  · cases h2
theorem ckH1_ok {e' : E} (C : Cc X n fA c.fre cf c.sc c.Nm W Y) (h : ckH1 c e' e = true) : PE (Y.suite ad pn) e (tE X WF e') := by
  unfold ckH1 at h
  split at h
  · obtain ⟨x, p, rfl, h1, h2, h3, h4⟩ := nm_ok h
    exact re_nm (Y := Y.suite ad pn) (by show Y.N[_]? = _; rw [C.N]; exact h1) (by show Vis Y.env.scope x; rw [C.scp]; exact h2) h3 h4
  · obtain ⟨q0, q1⟩ := ba h
    obtain ⟨q1, h5⟩ := ba q1
    cases eq_of_beq q0
    obtain ⟨x, p, rfl, h1, h2, h3, h4⟩ := nm_ok q1
    exact re_xat (Y := Y.suite ad pn) C.K C.gf.xs (re_nm (Y := Y.suite ad pn) (by show Y.N[_]? = _; rw [C.N]; exact h1) (by show Vis Y.env.scope x; rw [C.scp]; exact h2) h3 h4) h5
  · cases eq_of_beq h; exact re_bl
  · exact re_non
  · cases eq_of_beq h; exact re_str
  · cases of_decide_eq_true h; exact re_int
  · cases h
theorem ckH_ok {e' : E} (C : Cc X n fA c.fre cf c.sc c.Nm W Y) (h : ckH c e' e = true) : PE (Y.suite ad pn) e (tE X WF e') := by
  unfold ckH at h
  split at h
  · obtain ⟨h1, h2⟩ := ba h
    obtain ⟨h1, h3⟩ := ba h1
    obtain ⟨h2, h4⟩ := ba h2
    exact re_tup (ra_cons (ckH1_ok C h1) (ra_cons (ckH1_ok C h2) ra_nil h4) h3)
  · exact ckH1_ok C h
end
section
variable {X : Fx} {n : Nat} {fA : Nat → Addr} {fre : List Str} {cf : Str → Bool} {sc : Scope} {Nm : List Str} {W : WX} {Y : Cx} {pos p p2 : Pos} {a b e tg : Expr} {a' b' : E} {x y : Str} {c : Ct} {an : List Str} {u v : S}
theorem slotL_ok {i : Nat} (h : slotL c i x = true) : c.Nm[i]? = some x ∧ Loc c.sc x := ⟨eq_of_beq (ba h).1, loc_ok (ba h).2⟩
theorem comp_parts {el it q : E} {tg : List Nat} {x t i : Expr} {ifs : List Expr} {scope : Scope} (C : Cc X n fA c.fre cf c.sc c.Nm W Y) (hG : X.G = c.G) (hA : ∀ k x, X.G.an[k]? = some x → X.T.aN k = x) (h : ckE c (.comp el tg it q) (.ListComp x [⟨t, i, ifs, 0⟩] scope pos) = true) :
    ∃ own : List (Str × Nat), own.map (·.2) = tg ∧ BlkOk Y.N Y.env.scope scope own ∧ PI Y t i (tI X W it) ∧ tame i = true ∧ (∀ (s : Shared) (H : Hp) (Cl : Addr) (cl : List (Str × Addr)) (fp : List Addr), PG (Y.blk s H scope (compEnvC scope cl Cl Y.env) fp) t (gTG X.T.K tg)) ∧
      (∀ (s : Shared) (H : Hp) (Cl : Addr) (cl : List (Str × Addr)) (fp : List Addr), PTs (Y.blk s H scope (compEnvC scope cl Cl Y.env) fp) ifs (tTx X q)) ∧ ∀ (s : Shared) (H : Hp) (Cl : Addr) (cl : List (Str × Addr)) (fp : List Addr), PE (Y.blk s H scope (compEnvC scope cl Cl Y.env) fp) x (tEx X el) := by
  unfold ckE at h
  obtain ⟨h0, h5⟩ := ba h
  obtain ⟨h1, h2⟩ := ba h0
  obtain ⟨h2, h3⟩ := ba h2
  obtain ⟨h5, h7⟩ := ba h5
  obtain ⟨h5, h6⟩ := ba h5
  obtain ⟨h7, h8⟩ := ba h7
  have h2 := of_decide_eq_true h2
  have hown : ((tgN t).zip tg).map (·.2) = tg := by rw [List.map_snd_zip (by rw [h2]; exact Nat.le_refl _)]
  have Cb : ∀ w0 H0 (s : Shared) (H : Hp) (Cl : Addr) (cl : List (Str × Addr)) (fp : List Addr), Cc (X.fr w0 H0) n fA (c.blk scope).fre (fun x => scope.names.lookup x == some .cell) (c.blk scope).sc (c.blk scope).Nm WF (Y.blk s H scope (compEnvC scope cl Cl Y.env) fp) := fun w0 H0 s H Cl cl fp =>
    ⟨C.K, C.wd, ⟨C.gf.fns, C.gf.glo, C.gf.cls, C.gf.mth, C.gf.mks, C.gf.clr, C.gf.cmt, C.gf.noat, C.gf.inj, C.gf.cn, C.gf.fre, C.gf.kit, C.gf.kiB, C.gf.kiO, C.gf.kiG, C.gf.xs⟩, C.N, C.nd, (show relS scope Y.env.scope = relS scope c.sc by rw [C.scp]), C.calm, C.room, takes0, fun x h => h⟩
  have he : ∀ (s : Shared) (H : Hp) (Cl : Addr) (cl : List (Str × Addr)) (fp : List Addr), PE (Y.blk s H scope (compEnvC scope cl Cl Y.env) fp) x (tEx X el) := fun s H Cl cl fp =>
    ⟨fun pins s' σ H' Q I ⟨w0, H0, z⟩ => ((ck_ok (an := []) el).1 (X.fr w0 H0) (c.blk scope) _ WF _ x (Cb w0 H0 s H Cl cl fp) hG hA h7).1.run pins s' σ H' Q I z⟩
  have hg : ∀ (s : Shared) (H : Hp) (Cl : Addr) (cl : List (Str × Addr)) (fp : List Addr), PG (Y.blk s H scope (compEnvC scope cl Cl Y.env) fp) t (gTG X.T.K tg) := fun s H Cl cl fp => by
    have C0 := Cb X.w0 X.H0 s H Cl cl fp
    have e0 : X.T.K = (Y.blk s H scope (compEnvC scope cl Cl Y.env) fp).K := C.K.symm
    rw [e0]
    refine pg_gen (f := slotC (c.blk scope)) (by rw [C0.N]; exact C0.nd) C0.calm (fun i x hx => ?_) h3
    obtain ⟨k1, k2⟩ := ba hx
    have k3 : (c.blk scope).sc.names.lookup x = some .local := by
      split at k2
      · assumption
      · cases k2
    exact ⟨by rw [C0.N]; exact eq_of_beq k1, .inl (by rw [C0.scp]; exact k3), .inr (by rw [C0.scp]; exact k3)⟩
  refine ⟨(tgN t).zip tg, hown, by rw [C.N, C.scp]; exact blkOk_by h1, (ck_ok (an := []) it).2.2.2.1 X c cf W Y t i C hG hA h5, h6, hg, fun s H Cl cl fp => ?_, he⟩
  split at h8
  · cases q with
    | bl b => cases b with
      | true => exact pts_0
      | false => cases h8
    | _ => exact (Bool.false_ne_true h8).elim
  · rename_i y
    obtain ⟨h8, h9⟩ := ba h8
    exact pts_t ⟨fun pins s' σ H' Q I ⟨w0, H0, z⟩ => (((ck_ok (an := []) q).1 (X.fr w0 H0) (c.blk scope) _ WF _ y (Cb w0 H0 s H Cl cl fp) hG hA h8).2.1 h9).run pins s' σ H' Q I z⟩
  · cases h8
def swb (sc : Scope) (y : Str) (py lp : Pos) (scope : Scope) : Bool := (decide (sc.names.lookup y = some .local) && (py.line == lp.line)) && !(scope.names.any fun (n, k) => n == y && (k == .local || k == .cell))
theorem sw_lc {elt : Expr} {gs : List Comprehension} {scope : Scope} {py lp : Pos} {l : Nat} {env : Env} (hk : env.scope.kind = .function) : swapsWith (.ListComp elt gs scope lp) (some (.Name y py)) l env = pure (swb env.scope y py lp scope) := by
  have hb : env.blockKind = .function := by unfold Env.blockKind; rw [hk]; rfl
  unfold swapsWith swb
  have e : (env.kindOf y == some .local) = decide (env.scope.names.lookup y = some .local) := by
    show (env.scope.names.lookup y == some .local) = _
    cases env.scope.names.lookup y with
    | none => rfl
    | some k => cases k <;> rfl
  simp only [hb, e]
  rfl
theorem rs_asgLc {i : Nat} {el it q : E} {tg : List Nat} {ex t ie : Expr} {ifs : List Expr} {scope : Scope} {lp : Pos} (C : Cc X n fA c.fre cf c.sc c.Nm W Y) (hk : c.sc.kind = .function) (hi : c.Nm[i]? = some x) (hx : Loc c.sc x) (hf : cf x = true ∨ c.sc.names.lookup x = some .local) (hG : X.G = c.G) (hA : ∀ k x, X.G.an[k]? = some x → X.T.aN k = x) (h : ckE c (.comp el tg it q) (.ListComp ex [⟨t, ie, ifs, 0⟩] scope lp) = true) :
    PS Y (.Assign [.Name x p] (.ListComp ex [⟨t, ie, ifs, 0⟩] scope lp) pos) (tS X W (.asg i (.comp el tg it q))) := by
  have hN : Y.N.Nodup := by rw [C.N]; exact C.nd
  have hi' : Y.N[i]? = some x := by rw [C.N]; exact hi
  have hx' : Loc Y.env.scope x := by rw [C.scp]; exact hx
  have hk' : Y.env.scope.kind = .function := by rw [C.scp]; exact hk
  have rd : ∀ (t0 : TE), PS Y (.Assign [.Name x p] (.ListComp ex [⟨t, ie, ifs, 0⟩] scope lp) pos) (tAsg t0 (gName i)) → (∀ σ H Q, tE X W (.comp el tg it q) σ H Q → t0 σ H Q) → PS Y (.Assign [.Name x p] (.ListComp ex [⟨t, ie, ifs, 0⟩] scope lp) pos) (tS X W (.asg i (.comp el tg it q))) := fun t0 hp hr =>
    hp.imp fun D σ H ⟨w, al, sg, P, h⟩ => hr _ _ _ (onOut_ok P h fun r v s1 w1 al1 H1 P1 L1 hv h1 => by
      obtain ⟨w2, P2, L2⟩ := P1.take (i := i) hv
      exact h1 _ _ _ _ P2 L2)
  have sw := sw_lc (elt := ex) (gs := [⟨t, ie, ifs, 0⟩]) (scope := scope) (py := p) (lp := lp) (y := x) (l := pos.line) hk'
  cases hs : swb Y.env.scope x p lp scope with
  | false =>
    rw [hs] at sw
    exact rd _ (ps_set hN hi' hx' ((ck_ok (an := []) (.comp el tg it q)).1 X c cf W Y _ C hG hA h).1 sw (hf.elim (fun z => .inl (C.fn x z)) fun z => .inr (by rw [C.scp]; exact z))) fun _ _ _ z => z
  | true =>
    rw [hs] at sw
    obtain ⟨own, g1, g2, g3, g4, g5, g6, g7⟩ := comp_parts C hG hA h
    have hl : Y.env.scope.names.lookup x = some .local := of_decide_eq_true (ba (ba hs).1).1
    have k := ps_setLc (pos := lp) (spos := pos) (py := p) C.calm hN hi' hl sw g3 g2 g5 g6 g7 (fun x => fs_ok g4 x)
    rw [g1] at k
    exact rd _ k fun σ H Q z => rd_comp z
theorem rs_asgLcM {i : Nat} {el it : E} {tg : List Nat} {ex t ie : Expr} {scope : Scope} {lp : Pos} (C : Cc X n fA c.fre cf c.sc c.Nm W Y) (hk : c.sc.kind = .function) (hi : c.Nm[i]? = some x) (hx : Loc c.sc x) (hf : cf x = true ∨ c.sc.names.lookup x = some .local) (hG : X.G = c.G) (hA : ∀ k x, X.G.an[k]? = some x → X.T.aN k = x) (h : ckE c (.compm el tg it) (.ListComp ex [⟨t, ie, [], 0⟩] scope lp) = true) :
    PS Y (.Assign [.Name x p] (.ListComp ex [⟨t, ie, [], 0⟩] scope lp) pos) (tS X W (.asg i (.compm el tg it))) := by
  have hN : Y.N.Nodup := by rw [C.N]; exact C.nd
  have hi' : Y.N[i]? = some x := by rw [C.N]; exact hi
  have hx' : Loc Y.env.scope x := by rw [C.scp]; exact hx
  have hk' : Y.env.scope.kind = .function := by rw [C.scp]; exact hk
  have rd : ∀ (t0 : TE), PS Y (.Assign [.Name x p] (.ListComp ex [⟨t, ie, [], 0⟩] scope lp) pos) (tAsg t0 (gName i)) → (∀ σ H Q, tE X W (.compm el tg it) σ H Q → t0 σ H Q) → PS Y (.Assign [.Name x p] (.ListComp ex [⟨t, ie, [], 0⟩] scope lp) pos) (tS X W (.asg i (.compm el tg it))) := fun t0 hp hr =>
    hp.imp fun D σ H ⟨w, al, sg, P, h⟩ => hr _ _ _ (onOut_ok P h fun r v s1 w1 al1 H1 P1 L1 hv h1 => by
      obtain ⟨w2, P2, L2⟩ := P1.take (i := i) hv
      exact h1 _ _ _ _ P2 L2)
  have sw := sw_lc (elt := ex) (gs := [⟨t, ie, [], 0⟩]) (scope := scope) (py := p) (lp := lp) (y := x) (l := pos.line) hk'
  cases hs : swb Y.env.scope x p lp scope with
  | false =>
    rw [hs] at sw
    exact rd _ (ps_set hN hi' hx' ((ck_ok (an := []) (.compm el tg it)).1 X c cf W Y _ C hG hA h).1 sw (hf.elim (fun z => .inl (C.fn x z)) fun z => .inr (by rw [C.scp]; exact z))) fun _ _ _ z => z
  | true =>
    rw [hs] at sw
    obtain ⟨own, g1, g2, g3, g4, g5, g7⟩ := compm_parts0 (an := []) C hG hA (ck_ok el).1 (ck_ok it).2.2.2.1 (by unfold ckE at h; exact h)
    have hl : Y.env.scope.names.lookup x = some .local := of_decide_eq_true (ba (ba hs).1).1
    have k := ps_setLc (pos := lp) (spos := pos) (py := p) C.calm hN hi' hl sw g3 g2 g5 (fun _ _ _ _ _ => pts_nil) g7 (fun x => fs_ok g4 x)
    rw [g1] at k
    exact rd _ k fun σ H Q z => rd_compm z
theorem pg_ok (C : Cc X n fA c.fre (fun _ => true) c.sc c.Nm W Y) {is : List Nat} (h : ckTg c is tg = true) : PG Y tg (gTG X.T.K is) := by
  rw [← C.K]
  refine pg_gen (by rw [C.N]; exact C.nd) C.calm (fun i x hx => ?_) h
  obtain ⟨g1, g2⟩ := slotL_ok hx
  exact ⟨by rw [C.N]; exact g1, by rw [C.scp]; exact g2, .inl (C.fn x rfl)⟩
theorem rs_ast {es : List Expr} {k : Nat} {is : List Nat} (hg : PG Y (.Tuple es k p) (gTG X.T.K is)) (ha : PE Y a (tE X W a')) (ht : tame a = true) (hl : notLc a = true) (hn : notTup a = true) : PS Y (.Assign [.Tuple es k p] a pos) (tS X W (.ast is a')) :=
  (ps_asg ha hg (sws_ok ht hl) (ss_ok hn)).imp fun D σ H ⟨w, al, sg, P, h⟩ => by
  refine onD_ok P h fun x v s1 w1 al1 H1 P1 L1 hx h1 => ?_
  cases z : setT is x s1.st with
  | none => simp only [z] at h1; exact (show False from h1).elim
  | some st =>
    simp only [z] at h1
    obtain ⟨σ2, _, P3, g⟩ := setT_ok z P1 hx
    exact g _ (h1 _ _ _ _ P3 Le.refl)
end
end Mp
namespace Mp
open PySem L2
section
variable {X : Fx} {n : Nat} {fA : Nat → Addr} {fre : List Str} {cf : Str → Bool} {sc : Scope} {Nm : List Str} {W : WX} {Y : Cx} {pos p p2 : Pos} {a b e tg : Expr} {a' b' : E} {x y : Str} {c : Ct} {an : List Str} {u v : S}
def SS (n : Nat) (fA : Nat → Addr) (u : S) : Prop := ∀ (X : Fx) (c : Ct) (W : WX) (Y : Cx) (st : Stmt), Cc X n fA c.fre (fun _ => true) c.sc c.Nm W Y → X.G = c.G → (∀ k x, X.G.an[k]? = some x → X.T.aN k = x) → Sk Y → ckS c u st = true → PS Y st (tS X W u)
def SB (n : Nat) (fA : Nat → Addr) (u : S) : Prop := ∀ (X : Fx) (c : Ct) (W : WX) (Y : Cx) (sts : List Stmt), Cc X n fA c.fre (fun _ => true) c.sc c.Nm W Y → X.G = c.G → (∀ k x, X.G.an[k]? = some x → X.T.aN k = x) → Sk Y → ckB c u sts = true → PSs Y sts (tS X W u)
theorem SB.no (h : ∀ c es, ckB c u es = false) : SB n fA u := fun X c W Y es _ _ _ _ k => by rw [h] at k; cases k
theorem cs_ok : ∀ u : S, SS n fA u ∧ SB n fA u := by
  intro u
  induction u with
  | skip =>
    refine ⟨fun X c W Y st C hG hA hp h => ?_, fun X c W Y sts C hG hA hp h => ?_⟩
    · unfold ckS at h; split at h
      · exact rs_pass
      · exact rs_doc
      · cases h
    · cases sts with
      | nil => exact ss_nil
      | cons _ _ => exact (Bool.false_ne_true h).elim
  | seq a b iha ihb =>
    refine ⟨fun X c W Y st C hG hA hp h => (Bool.false_ne_true h).elim, fun X c W Y sts C hG hA hp h => ?_⟩
    cases sts with
    | nil => exact (Bool.false_ne_true h).elim
    | cons st r =>
      obtain ⟨h1, h2⟩ := ba (show (ckS c a st && ckB c b r) = true from h)
      exact ss_cons (iha.1 X c W Y _ C hG hA hp h1) (ihb.2 X c W Y _ C hG hA hp h2)
  | asg i e =>
    refine ⟨fun X c W Y st C hG hA hp h => ?_, SB.no fun _ _ => rfl⟩
    unfold ckS at h; split at h
    · obtain ⟨h1, h2⟩ := ba h
      obtain ⟨h2, h3⟩ := ba h2
      obtain ⟨h3, h4⟩ := ba h3
      obtain ⟨g1, g2⟩ := slotL_ok h1
      cases h5 : notLc _ with
      | true => exact rs_asg C g1 g2 (.inl rfl) ((ck_ok (an := []) e).1 X c _ W Y _ C hG hA h2).1 h3 h5
      | false =>
        rw [h5, Bool.false_or] at h4
        obtain ⟨h6, h7⟩ := ba h4
        cases e with
        | comp el tg it q =>
          have h8 := h2
          unfold ckE at h8; split at h8
          · exact rs_asgLc C (of_decide_eq_true h7) g1 g2 (.inl rfl) hG hA h2
          · cases h8
        | compm el tg it =>
          have h8 := h2
          unfold ckE at h8; split at h8
          · exact rs_asgLcM C (of_decide_eq_true h7) g1 g2 (.inl rfl) hG hA h2
          · cases h8
        | _ => exact (Bool.false_ne_true h6).elim
    · cases h
  | mv i j =>
    refine ⟨fun X c W Y st C hG hA hp h => ?_, SB.no fun _ _ => rfl⟩
    unfold ckS at h; split at h
    · obtain ⟨h1, h2⟩ := ba h
      obtain ⟨g1, g2⟩ := slotL_ok h1
      obtain ⟨x2, p2, rfl, k1, k2, k3, k4⟩ := nm_ok h2
      exact rs_mv C g1 g2 (.inl rfl) (by rw [C.N]; exact k1) (by rw [C.scp]; exact k2) k3 k4
    · cases h
  | ast is e =>
    refine ⟨fun X c W Y st C hG hA hp h => ?_, SB.no fun _ _ => rfl⟩
    unfold ckS at h; split at h
    · obtain ⟨h1, h2⟩ := ba h
      obtain ⟨h2, h3⟩ := ba h2
      obtain ⟨h3, h4⟩ := ba h3
      obtain ⟨h4, h5⟩ := ba h4
      exact rs_ast (pg_ok C h1) ((ck_ok (an := []) e).1 X c _ W Y _ C hG hA h2).1 h3 h4 h5
    · cases h
  | aug i o e =>
    refine ⟨fun X c W Y st C hG hA hp h => ?_, SB.no fun _ _ => rfl⟩
    unfold ckS at h; split at h
    · obtain ⟨h1, h2⟩ := ba h
      obtain ⟨g1, g2⟩ := slotL_ok h1
      exact rs_aug C g1 g2 (.inl rfl) ((ck_ok (an := []) e).1 X c _ W Y _ C hG hA h2).1
    · cases h
  | seta i k e =>
    refine ⟨fun X c W Y st C hG hA hp h => ?_, SB.no fun _ _ => rfl⟩
    unfold ckS at h; split at h
    · obtain ⟨h0, h2⟩ := ba h
      obtain ⟨h1, h5⟩ := ba h0
      clear h0 h
      obtain ⟨h2, h3⟩ := ba h2
      obtain ⟨x2, p2, rfl, g1, g2, g3, g4⟩ := nm_ok h5
      exact rs_seta C (hA _ _ (by rw [hG]; exact eq_of_beq h1)) (by rw [C.N]; exact g1) (by rw [C.scp]; exact g2) g3 g4 ((ck_ok (an := []) e).1 X c _ W Y _ C hG hA h2).1 h3
    · cases h
  | setam i k e =>
    refine ⟨fun X c W Y st C hG hA hp h => ?_, SB.no fun _ _ => rfl⟩
    unfold ckS at h; split at h
    · obtain ⟨h0, h2⟩ := ba h
      obtain ⟨h1, h5⟩ := ba h0
      clear h0 h
      obtain ⟨h2, h3⟩ := ba h2
      obtain ⟨x2, p2, rfl, g1, g2, g3, g4⟩ := nm_ok h5
      exact rs_setam C (hA _ _ (by rw [hG]; exact eq_of_beq h1)) (by rw [C.N]; exact g1) (by rw [C.scp]; exact g2) g3 g4 ((ck_ok (an := []) e).1 X c _ W Y _ C hG hA h2).1 h3
    · cases h
  | sets i j e =>
    refine ⟨fun X c W Y st C hG hA hp h => ?_, SB.no fun _ _ => rfl⟩
    unfold ckS at h; split at h
    · obtain ⟨h1, h2⟩ := ba h
      obtain ⟨h1, h5⟩ := ba h1
      obtain ⟨h5, h6⟩ := ba h5
      obtain ⟨h2, h3⟩ := ba h2
      obtain ⟨x2, p2, rfl, g1, g2, g3, g4⟩ := nm_ok h1
      exact rs_sets C (by rw [C.N]; exact g1) (by rw [C.scp]; exact g2) g3 g4 ((ck_ok (an := []) e).1 X c _ W Y _ C hG hA h2).1 ((ck_ok (an := []) j).1 X c _ W Y _ C hG hA h5).1 h3 h6
    · cases h
  | setv b j e =>
    refine ⟨fun X c W Y st C hG hA hp h => ?_, SB.no fun _ _ => rfl⟩
    unfold ckS at h; split at h
    · obtain ⟨h1, h2⟩ := ba h
      obtain ⟨h1, h5⟩ := ba h1
      obtain ⟨h5, h6⟩ := ba h5
      obtain ⟨h2, h3⟩ := ba h2
      exact rs_setv C ((ck_ok (an := []) b).1 X c _ W Y _ C hG hA h1).1 ((ck_ok (an := []) j).1 X c _ W Y _ C hG hA h5).1 ((ck_ok (an := []) e).1 X c _ W Y _ C hG hA h2).1 h3 h6
    · cases h
  | asm i e =>
    refine ⟨fun X c W Y st C hG hA hp h => ?_, SB.no fun _ _ => rfl⟩
    unfold ckS at h; split at h
    · obtain ⟨h1, h2⟩ := ba h
      obtain ⟨h2, h3⟩ := ba h2
      obtain ⟨h3, h4⟩ := ba h3
      obtain ⟨g1, g2⟩ := slotL_ok h1
      exact rs_asm C g1 g2 (.inl rfl) ((ck_ok (an := []) e).1 X c _ W Y _ C hG hA h2).1 h3 h4
    · cases h
  | ifs q a b iha ihb =>
    refine ⟨fun X c W Y st C hG hA hp h => ?_, SB.no fun _ _ => rfl⟩
    unfold ckS at h; split at h
    · obtain ⟨h1, h2⟩ := ba h
      obtain ⟨h1, h3⟩ := ba h1
      obtain ⟨h2, h4⟩ := ba h2
      exact rs_if (((ck_ok (an := []) q).1 X c _ W Y _ C hG hA h1).2.1 h3) (iha.2 X c W Y _ C hG hA hp h2) (ihb.2 X c W Y _ C hG hA hp h4)
    · cases h
  | whl q a iha =>
    refine ⟨fun X c W Y st C hG hA hp h => ?_, SB.no fun _ _ => rfl⟩
    unfold ckS at h; split at h
    · obtain ⟨h1, h2⟩ := ba h
      obtain ⟨h1, h3⟩ := ba h1
      exact rs_while hp.pass (((ck_ok (an := []) q).1 X c _ W Y _ C hG hA h1).2.1 h3) (iha.2 X c W Y _ C hG hA hp h2)
    · cases h
  | form i j u ihu =>
    refine ⟨fun X c W Y st C hG hA hp h => ?_, SB.no fun _ _ => rfl⟩
    unfold ckS at h; split at h
    · obtain ⟨q1, h2⟩ := ba h
      obtain ⟨h1, h3⟩ := ba q1
      obtain ⟨x2, p2, rfl, g1, g2, g3, g4⟩ := nm_ok h3
      exact rs_form C hp.pass (by rw [C.N]; exact g1) (by rw [C.scp]; exact g2) g3 g4 (pg_ok C h1) (ihu.2 X c W Y _ C hG hA hp h2)
    · cases h
  | fors tg it a iha =>
    refine ⟨fun X c W Y st C hG hA hp h => ?_, SB.no fun _ _ => rfl⟩
    unfold ckS at h; split at h
    · obtain ⟨h1, h2⟩ := ba h
      obtain ⟨h1, h3⟩ := ba h1
      obtain ⟨h3, h4⟩ := ba h3
      exact rs_for C hp.pass ((ck_ok (an := []) it).2.2.2.1 X c _ W Y _ _ C hG hA h3) (pg_ok C h1) (iha.2 X c W Y _ C hG hA hp h2) h4
    · cases h
  | ret e =>
    refine ⟨fun X c W Y st C hG hA hp h => ?_, SB.no fun _ _ => rfl⟩
    unfold ckS at h; split at h
    · exact rs_ret ((ck_ok (an := []) e).1 X c _ W Y _ C hG hA h).1
    · cases e with
      | non => exact rs_retN
      | _ => exact (Bool.false_ne_true h).elim
    · cases h
  | retm i =>
    refine ⟨fun X c W Y st C hG hA hp h => ?_, SB.no fun _ _ => rfl⟩
    unfold ckS at h; split at h
    · obtain ⟨x2, p2, rfl, g1, g2, g3, g4⟩ := nm_ok h
      exact rs_retm C (by rw [C.N]; exact g1) (by rw [C.scp]; exact g2) g3 g4
    · cases h
  | exp e =>
    refine ⟨fun X c W Y st C hG hA hp h => ?_, SB.no fun _ _ => rfl⟩
    unfold ckS at h; split at h
    · obtain ⟨h1, h2⟩ := ba h
      obtain ⟨h2, h3⟩ := ba h2
      exact rs_exp ((ck_ok (an := []) e).1 X c _ W Y _ C hG hA h1).1 h2 h3
    · cases h
  | never => exact ⟨fun X c W Y st C hG hA hp h => rs_never, SB.no fun _ _ => rfl⟩
  | rse k a =>
    refine ⟨fun X c W Y st C hG hA hp h => ?_, SB.no fun _ _ => rfl⟩
    unfold ckS at h; split at h
    · obtain ⟨h1, h2⟩ := ba h
      obtain ⟨h2, h3⟩ := ba h2
      obtain ⟨h4, h5⟩ := glo_ok h2
      obtain ⟨k1, k2, _⟩ := (ck_ok (an := []) a).2.1 X c _ W Y _ C hG hA h3
      unfold xlB at h1
      split at h1
      · rename_i F eF
        cases eq_of_beq h1
        have hk : X.G.xs[k]? = some F := by rw [hG]; exact eF
        cases hi : F.ini with
        | some i0 => exact rs_rseI C hk hi h4 h5 k1 k2
        | none => exact rs_rseN C hk hi h4 h5 k1 k2
      · cases h1
    · cases h
  | tr b k i j e ihb =>
    refine ⟨fun X c W Y st C hG hA hp h => ?_, SB.no fun _ _ => rfl⟩
    unfold ckS at h; split at h
    · obtain ⟨h1, h2⟩ := ba h
      obtain ⟨h1, h3⟩ := ba h1
      obtain ⟨h4, h5⟩ := glo_ok h3
      obtain ⟨h2, h6⟩ := ba h2
      obtain ⟨h2, h7⟩ := ba h2
      obtain ⟨h6, h8⟩ := ba h6
      obtain ⟨h8, h9⟩ := ba h8
      obtain ⟨h9, h10⟩ := ba h9
      obtain ⟨g1, g2⟩ := slotC_ok h2
      obtain ⟨g3, g4⟩ := slotC_ok h7
      unfold xlB at h1
      split at h1
      · rename_i F eF
        cases eq_of_beq h1
        have hk : X.G.xs[k]? = some F := by rw [hG]; exact eF
        refine rs_tr C hp hk h4 h5 g1 g2 g3 g4 (fun W' pn xe tk ps => ihb.2 X c W' (Y.tr pn xe) _ ?_ hG hA ⟨ps, hp.stk, hp.fr, hp.ex⟩ h6) (fun ad pn => ckH_ok C h8) h9 h10
        exact ⟨C.K, C.wd, C.gf, C.N, C.nd, C.scp, C.calm, C.room, tk, C.fn⟩
      · cases h1
    · cases h
  | brk =>
    refine ⟨fun X c W Y st C hG hA hp h => ?_, SB.no fun _ _ => rfl⟩
    unfold ckS at h; split at h
    · exact rs_brk
    · cases h
  | cnt =>
    refine ⟨fun X c W Y st C hG hA hp h => ?_, SB.no fun _ _ => rfl⟩
    unfold ckS at h; split at h
    · exact rs_cnt
    · cases h
end
end Mp
namespace Mp
open PySem L2
def isStr : Expr → Option Str
  | .Constant (.str m) _ _ => some m
  | _ => none
def fldB (c : Ct) : Nat → List Str → List Stmt → Bool
  | _, [], sts => sts.isEmpty
  | k, f :: fs, sts => (match sts with
    | .Assign [.Attribute (.Name s _) g _] (.Name v _) _ :: r => (g == f) && (slotB c 0 s && (slotB c k v && fldB c (k + 1) fs r))
    | _ => false)
def iniB (c : Ct) (hn : Str) (fs : List Str) : List Stmt → Bool
  | .Expr (.Call (.Attribute (.Name h ph) f ap) [.Name s ps, e] [] p) _ :: r => ((h == hn) && (gloB c.sc h && notSup (.Name h ph))) && (((f == ("__init__" : Str)) && (slotB c 0 s && (isStr e).isSome)) && ((ap.endLine == p.line) && fldB c 1 fs r))
  | _ => false
theorem XlOk.mono {T : Tb} {G : Tab} {P : Program} {w : World} {mg : Str → Option Value} {base : Heap} {m m' c : Nat} {k : Xl} (h : XlOk T G P w mg base m c k) (hm : m ≤ m') : XlOk T G P w mg base m' c k := by
  refine ⟨h.glo, h.kp, h.be, h.ty, h.exm, h.kit, h.kiV, h.kiN, h.ec, h.xf, h.na, h.nm, ?_⟩
  have own := h.own
  cases hi : k.ini with
  | none => rw [hi] at own; exact own
  | some f =>
    rw [hi] at own
    obtain ⟨g1, fI, fd, ps, g2, g3, g4, g5⟩ := own
    exact ⟨g1, fI, fd, ps, g2, g3, g4.mono hm, g5⟩
section
variable {Y : Cx} {T : Tb} {P : Program} {w0 : World} {mg : Str → Option Value} {base : Heap} {c : Ct} {C C0 : Addr} {hn : Str} {fs : List Str}
theorem pe_slot {i : Nat} {x : Str} {p : Pos} (hN : Y.N = c.Nm) (hs : Y.env.scope = c.sc) (h : slotB c i x = true) : PE Y (.Name x p) (tVar i) := by
  obtain ⟨h1, h2, h3, h4⟩ := slot_ok h
  exact pe_var (by rw [hN]; exact h1) (by rw [hs]; exact h2) h3 h4
theorem fldB_ok (hN : Y.N = c.Nm) (hs : Y.env.scope = c.sc) : ∀ (fs : List Str) (k : Nat) (sts : List Stmt), fldB c k fs sts = true → PSs Y sts (tFl Y.K k fs)
  | [], _, sts, h => by
    cases sts with
    | nil => exact pss_nil
    | cons _ _ => cases h
  | f :: fs, k, sts, h => by
    unfold fldB at h
    split at h
    · rename_i s p1 g p2 v p3 p4 r
      obtain ⟨h1, h⟩ := ba h
      obtain ⟨h2, h⟩ := ba h
      obtain ⟨h3, h4⟩ := ba h
      cases eq_of_beq h1
      exact pss_cons (ps_ost (pe_slot hN hs h2) (pe_slot hN hs h3) rfl) (fldB_ok hN hs fs (k + 1) r h4)
    · cases h
theorem ini_ok {d : He.DefD} {f : Addr} {fd : FuncData} {ps N : List Str} (F : FunD T.K d.name d.qual d.params d.body d.scope [] [] f fd) (S : FnScope N ps d.scope) (hsc : c.sc = d.scope) (hNm : c.Nm = N) (ck : iniB c hn fs d.body = true)
    (g0 : mg hn = some (.ref C0)) (cr : ClX.CRead T.K C0 (.type "type")) (fc : PySem.W.findCls T.K (.ref C0) (.type "type") "__init__" = some (.val (.builtin "ValueError.__init__"))) (ox : OexC T.K C) (na : ∀ f ∈ fs, PySem.W.findIn T.K (.ref C) f = some none)
    (hp : fs ≠ []) (hl : fs.length ≤ 900) (hps : ps.length = fs.length + 1) : FnOk P w0 T.K mg base (L2.CX P w0) 1 f fd ps (spI C fs) := by
  refine F.ok (N := N) (k := 0) S (fun vs H Q E ⟨a, ws, e, hw, _⟩ => by rw [e, List.length_cons, hw, hps]) fun cdv A outer s H vs Q E hr ⟨a, ws, e, hw, ea, hk⟩ => ?_
  subst e
  have hd : ∀ (i : Nat) (y : V), (V.ref a :: ws)[i]? = some y → (start N (V.ref a :: ws))[i]? = some (some y) := fun i y e => by
    show ((V.ref a :: ws).map some ++ List.replicate (N.length - (V.ref a :: ws).length) none)[i]? = _
    have hi := (List.getElem?_eq_some_iff.mp e).1
    rw [List.getElem?_append_left (by rw [List.length_map]; exact hi), List.getElem?_map, e] <;> rfl
  generalize hb : d.body = body at ck ⊢
  unfold iniB at ck
  split at ck
  · rename_i h ph f1 ap s1 p1 e p pe r
    obtain ⟨h1, h⟩ := ba ck
    obtain ⟨h1, h2⟩ := ba h1
    obtain ⟨h2, h3⟩ := ba h2
    obtain ⟨h4, h5⟩ := ba h
    obtain ⟨h4, h6⟩ := ba h4
    obtain ⟨k6, h7⟩ := ba h6
    obtain ⟨h5, h8⟩ := ba h5
    cases eq_of_beq h1
    cases eq_of_beq h4
    obtain ⟨g1, g2⟩ := glo_ok h2
    obtain ⟨m, hm⟩ := Option.isSome_iff_exists.mp h7
    have he : ∃ j pp, e = .Constant (.str m) j pp := by
      unfold isStr at hm
      split at hm
      · cases hm; exact ⟨_, _, rfl⟩
      · cases hm
    obtain ⟨j, pp, rfl⟩ := he
    refine ⟨_, pss_cons (ps_expr (pe_oinit (C0 := C0) (pe_glob (v := V.ref C0) (by show d.scope.names.lookup _ = _; rw [← hsc]; exact g1) g0 rfl g2) cr fc (pa_cons (pe_slot (c := c) hNm.symm hsc.symm k6) (pa_cons pe_str pa_nil)) rfl rfl
      (meth_ok h3 rfl (show 2 < 30 by decide) h5)) rfl) (fldB_ok (c := c) hNm.symm hsc.symm fs 1 r h8), ?_⟩
    refine ⟨V.ref a, hd 0 _ rfl, a, C, _, rfl, by show 1 ≤ 1000; omega, ox, ea, ?_⟩
    exact tFl_ok (Q := Q) ox (hd 0 _ rfl) na hp hw (fun i y e => by rw [Nat.add_comm]; exact hd (i + 1) y (by simpa using e)) hl ea fun dx H' k1 k2 k3 k4 k5 => hk dx H' k1 k2 k3 k4 k5
  · cases ck
end
end Mp
namespace Mp
open PySem L2
structure GS (T : Tb) (G : Tab) (mg : Str → Option Value) (fA : Nat → Addr) (fre : List Str) : Prop where
  glo : ∀ f F, G.fns[f]? = some F → F.cl = none → mg F.nm = some (.ref (fA f))
  cls : ∀ c k, G.cls[c]? = some k → Cls T.K (T.cA c)
  mth : ∀ c k m f, G.cls[c]? = some k → k.meths.lookup m = some f → Meth T.K (T.cA c) (T.aN m) (fA f) ∧ ∃ F, G.fns[f]? = some F
  mks : ∀ c k, G.cls[c]? = some k → Mk T.K (T.cA c) (fA k.ini) ∧ (∃ F, G.fns[k.ini]? = some F) ∧ mg k.nm = some (.ref (T.cA c))
  clr : ∀ (c : Nat) (k : Cl), G.cls[c]? = some k → k.cms ≠ [] → ClX.CRead T.K (T.cA c) (.type "type")
  cmt : ∀ (c : Nat) (k : Cl) (m f : Nat), G.cls[c]? = some k → k.cms.contains m = true → k.meths.lookup m = some f → PySem.W.findCls T.K (.ref (T.cA c)) (.type "type") (T.aN m) = some (.val (.ref (fA f)))
  noat : ∀ c k a, G.cls[c]? = some k → a ∈ k.atts → NoAttr T.K (T.cA c) (T.aN a)
  inj : ∀ i j, T.aN i = T.aN j → i = j
  cn : ∀ (k : Nat) (x : Str) (d : D), G.cn[k]? = some (x, d) → ∃ u v, mg x = some u ∧ RelV v u ∧ ∀ w H, Val T w H d v
  fre : ∀ x ∈ fre, mg x = none
  kit : ∀ c k c', G.cls[c]? = some k → (∃ k', G.cls[c']? = some k') → PySem.W.kitOne T.K (.ref (T.cA c)) (.ref (T.cA c')) = some (k.sup.contains c')
  kiB : ∀ c k, G.cls[c]? = some k → ∀ t ∈ ["NoneType", "bool", "int", "str", "list", "tuple", "dict"], PySem.W.kitOne T.K (.type t) (.ref (T.cA c)) = some false ∧ PySem.W.kitOne T.K (.ref (T.cA c)) (.type t) = some false
  kiO : ∀ c k, G.cls[c]? = some k → PySem.W.findIn T.K (.ref (T.cA c)) "__class__" = some (some (.builtin "object.__class__")) ∧ PySem.W.mroIn T.K (T.cA c) (.type "object") = some true
  kiG : PySem.W.specialIn T.K (.builtin "object.__class__") "__get__" = some (some (.builtin "getset_descriptor.__get__")) ∧ PySem.W.takesIn T.K (.builtin "object.__class__") = some true
  an : ∀ k x, G.an[k]? = some x → T.aN k = x
def BA (d : He.DefD) (ps : List Str) : Prop := ∀ (kV doc pm : Value) (an : Option Addr) (cdv ct : Value) (us : List Value), us.length = ps.length → bindArgs (PySem.W.fnOf d.name d.qual d.params d.body d.scope .none kV doc pm an cdv ct) ⟨us, []⟩ = pure (ps.zip us)
structure DOk (T : Tb) (G : Tab) (fre : List Str) (f : Addr) (F : Fn) (d : He.DefD) (fd : FuncData) : Prop where
  fun_ : FunD T.K d.name d.qual d.params d.body d.scope [] [] f fd
  sc : FnScope F.N F.ps d.scope
  ck : ckB ⟨G, fre, d.scope, F.N⟩ F.body d.body = true
  bd : Binds T.K fd F.ps []
  ba : BA d F.ps
section
variable {T : Tb} {G : Tab} {fre : List Str} {fA : Nat → Addr} {P : Program} {w0 : World} {mg : Str → Option Value} {base : Heap}
theorem pt_start {w : Wt} {al : List Addr} {mu : List Nd} {rs : List Rv} {vs : List V} {H : Hp} {rc : Rec} {N : List Str} (hv : Cvs T w al H rs vs) (hm : MuR T w al mu H) (ht : Trk w H) (hl : rs.length ≤ N.length) :
    Pt ⟨T, G, rc, w, H⟩ (start N vs) ⟨rs.map some ++ List.replicate (N.length - rs.length) none, mu⟩ w al H := by
  have get : ∀ {rs : List Rv} {vs : List V} {i : Nat} {r : Rv}, Cvs T w al H rs vs → rs[i]? = some r → ∃ v, vs[i]? = some v ∧ Cv T w al H r v := by
    intro rs
    induction rs with
    | nil => intro vs i r _ e; simp at e
    | cons q qs ih =>
      intro vs i r ⟨v, t, e1, h1, h2⟩ e
      subst e1
      cases i with
      | zero => simp at e; subst e; exact ⟨v, rfl, h1⟩
      | succ i => obtain ⟨u, g1, g2⟩ := ih (i := i) h2 (by simpa using e); exact ⟨u, by simpa using g1, g2⟩
  have hlen := Cvs.length hv
  refine ⟨⟨fun i r e => ?_, hm.2, ht, ?_, hm.1⟩, fun a u h1 h2 => ⟨h2, h1⟩⟩
  · have e : (rs.map some ++ List.replicate (N.length - rs.length) none)[i]? = some (some r) := e
    by_cases c : i < rs.length
    · rw [List.getElem?_append_left (by simpa using c), List.getElem?_map] at e
      cases z : rs[i]? with
      | none => rw [z] at e; cases e
      | some q =>
        rw [z] at e
        have : q = r := by simpa using e
        subst this
        obtain ⟨v, g1, g2⟩ := get hv z
        refine ⟨v, ?_, ?_⟩
        · show (vs.map some ++ List.replicate (N.length - vs.length) none)[i]? = _
          rw [List.getElem?_append_left (by rw [List.length_map, ← hlen]; exact c), List.getElem?_map, g1] <;> rfl
        · cases q with
          | d x => exact g2
          | m x => exact g2
          | o x => exact g2.elim
    · rw [List.getElem?_append_right (by simpa using Nat.le_of_not_lt c), List.getElem?_replicate] at e
      split at e <;> cases e
  · show (rs.map some ++ List.replicate (N.length - rs.length) none).length = (vs.map some ++ List.replicate (N.length - vs.length) none).length
    simp [hlen]
theorem lev_succ {n f : Nat} {F : Fn} {d : He.DefD} {fd : FuncData} (hw : w0 = T.wd) (S : GS T G mg fA fre) (hF : G.fns[f]? = some F) (D : DOk T G fre (fA f) F d fd) (ih : ∀ w H, GF ⟨T, G, run G n, w, H⟩ n P w0 mg base fA fre) :
    FnOk P w0 T.K mg base (L2.CX P w0) (2 * (n + 1) + 2) (fA f) fd F.ps (spG T (run G (n + 1)) F.ps.length f) := by
  refine D.fun_.ok D.sc (fun vs H Q E h => ?_) (fun cdv A outer s H vs Q E hr h => ?_)
  · obtain ⟨w, al, mu, rs, h1, _, _, _, h2, _⟩ := h
    rw [← Cvs.length h1, h2]
  · obtain ⟨w, al, mu, rs, h1, h2, h3, h4, h5, h6⟩ := h
    have hN : rs.length ≤ F.N.length := by
      have := congrArg List.length D.sc.pre
      rw [List.length_take] at this
      omega
    refine ⟨tS ⟨T, G, run G n, w, H⟩ (fun cls d _ H' => E cls d H') F.body, ?_, ?_⟩
    · refine (cs_ok (n := n) (fA := fA) F.body).2 _ ⟨G, fre, d.scope, F.N⟩ _ _ _ ?_ rfl S.an ⟨passes_of rfl, rfl, rfl, rfl⟩ D.ck
      exact ⟨rfl, hw, ih w H, rfl, D.sc.nd, rfl, rfl, hr, takes_of rfl rfl rfl rfl, fun _ _ => rfl⟩
    · refine ⟨w, al, _, pt_start h1 h2 h4 hN, ?_⟩
      simp only [run, hF, decide_eq_true h5] at h6
      cases e : ex G (run G n) F.body ⟨rs.map some ++ List.replicate (F.N.length - rs.length) none, mu⟩ with
      | nx sg =>
        rw [e] at h6
        exact fun σ' w' al' H' P L => h6 _ w' al' H' ⟨P.1.alen, P.1.muts⟩ L.1 L.2 P.2 P.1.trk ⟨.res, .inl rfl, rfl⟩
      | rt r sg =>
        rw [e] at h6
        exact fun σ' w' al' H' v P L hr => h6 _ w' al' H' ⟨P.1.alen, P.1.muts⟩ L.1 L.2 P.2 P.1.trk hr
      | exc c fs sg =>
        rw [e] at h6
        exact fun σ' cls d w' al' H' P L x => h6 cls d w' al' H' ⟨P.1.alen, P.1.muts⟩ L.1 L.2 P.2 P.1.trk x
      | bk sg => rw [e] at h6; exact (show False from h6).elim
      | ct sg => rw [e] at h6; exact (show False from h6).elim
      | stuck => rw [e] at h6; exact h6
theorem GS.gf {rc : Rec} {w : Wt} {H : Hp} {n : Nat} (S : GS T G mg fA fre) (hx : ∀ c k, G.xs[c]? = some k → XlOk T G P w0 mg base 1 c k)
    (h : ∀ f F, G.fns[f]? = some F → ∃ fd, FnOk P w0 T.K mg base (L2.CX P w0) (2 * n + 2) (fA f) fd F.ps (spG T rc F.ps.length f) ∧ Binds T.K fd F.ps [] ∧ PySem.W.keepIn T.K (.ref (fA f)) = true) : GF ⟨T, G, rc, w, H⟩ n P w0 mg base fA fre :=
  ⟨h, S.glo, S.cls, S.mth, S.mks, S.clr, S.cmt, S.noat, S.inj, S.cn, S.fre, S.kit, S.kiB, S.kiO, S.kiG, fun c k e => (hx c k e).mono (by omega)⟩
theorem lev (hw : w0 = T.wd) (S : GS T G mg fA fre) (hx : ∀ c k, G.xs[c]? = some k → XlOk T G P w0 mg base 1 c k) (hd : ∀ f F, G.fns[f]? = some F → ∃ d fd, DOk T G fre (fA f) F d fd) : ∀ (n : Nat) (f : Nat) (F : Fn), G.fns[f]? = some F → ∃ fd, FnOk P w0 T.K mg base (L2.CX P w0) (2 * n + 2) (fA f) fd F.ps (spG T (run G n) F.ps.length f) ∧ Binds T.K fd F.ps [] ∧ PySem.W.keepIn T.K (.ref (fA f)) = true
  | 0, f, F, hF => by
    obtain ⟨d, fd, D⟩ := hd f F hF
    refine ⟨fd, ⟨fun vs H Q E h => ?_, fun A outer s H args us vs Q E _ _ _ _ h => ?_⟩, D.bd, D.fun_.kp⟩
    · obtain ⟨w, al, mu, rs, _, _, _, _, _, h⟩ := h
      exact (show False from h).elim
    · obtain ⟨w, al, mu, rs, _, _, _, _, _, h⟩ := h
      exact (show False from h).elim
  | n + 1, f, F, hF => by
    obtain ⟨d, fd, D⟩ := hd f F hF
    exact ⟨fd, lev_succ hw S hF D fun w H => S.gf hx (lev hw S hx hd n), D.bd, D.fun_.kp⟩
theorem lev_at {n f : Nat} {F : Fn} {d : He.DefD} {fd : FuncData} (hw : w0 = T.wd) (S : GS T G mg fA fre) (hx : ∀ c k, G.xs[c]? = some k → XlOk T G P w0 mg base 1 c k) (hd : ∀ f F, G.fns[f]? = some F → ∃ d fd, DOk T G fre (fA f) F d fd) (hF : G.fns[f]? = some F) (D : DOk T G fre (fA f) F d fd) :
    FnOk P w0 T.K mg base (L2.CX P w0) (2 * (n + 1) + 2) (fA f) fd F.ps (spG T (run G (n + 1)) F.ps.length f) := lev_succ hw S hF D fun w H => S.gf hx (lev hw S hx hd n)
end
theorem walk_my {l : PySem.W.OpenLaw} {n k : Nat} {q : Program} {loose : List Str} {XP : (Str → Option Value) → Heap → Prop} {YP : World → Heap → Prop} {d : DefRec} {CX : World → CXT} {x : Str}
    (hn : l.most = some n) (hn2 : n ≤ sizeLine) (hdf : d.params.defaults = []) (hr : Room k callerA)
    (F : ∀ (w : World) (mg : Str → Option Value) (fa : Addr) (h : Heap), YP w h → h.Ns mainGlobals mg → mg d.name = some (.ref fa) →
      ∃ (K : PySem.W.Frag) (fd : FuncData) (sp : Sp), K.In h ∧ (∀ (s : Shared) (u : Value), BindsTo s fd ⟨[u], []⟩ [(x, u)]) ∧
        (∀ (H : Hp) (a : Addr) (ns : List Int), ns.length ≤ n → (∀ z ∈ ns, Builtin.Int.intBits z ≤ 1048576) → Only H → SqL K H a (ns.map V.int) → sp [.ref a] H (fun v _ => v = .bl true) fun _ _ _ => False) ∧
        ∀ base : Heap, K.In base → base.Ns mainGlobals mg → FnOk l.prog w K mg base (CX w) k fa fd [x] sp)
    (hCX : ∀ (w : World) (H : Hp) (s : Shared) (e : Value) (s' : Shared), CX w [] H s (fun _ _ _ => False) e s' → False) :
    PySem.W.WalkO q loose XP YP l.row.toRowW d [] (fun f vs => PySem.call f vs) := by
  refine Att.attach_callB hn hdf fun w s₀ s₁ mg mb fa o pm cd doc a vs ns G Y ho hd hcd hmg hobj hints hlen hbits hg => ?_
  obtain ⟨K, fd, sp, KX, hb, hsp, hF⟩ := F w mg fa _ Y G.T.g hmg
  exact law_call KX G.T.g G.T.b G.T.builtins G.T.nolimit hg hobj hints (Nat.le_trans hlen hn2) hr hF hb (fun H hO hS => hsp H a ns hlen hbits hO hS) fun H e s' => hCX w H s₁ e s'
theorem cx_no {P : Program} {w : World} {H : Hp} {s s' : Shared} {e : Value} (h : L2.CX P w [] H s (fun _ _ _ => False) e s') : False := by
  obtain ⟨_, _, _, _, _, _, _, _, _, _, _, _, z⟩ := h
  exact z
theorem sp_law {T : Tb} {G : Tab} {n f : Nat} {H : Hp} {a : Addr} {ns : List Int} (hS : SqL T.K H a (ns.map V.int)) (h : ∃ mu, run G n f [.d (.scr ns)] [] = .ok (.d (.bl true)) mu) : spG T (run G n) 1 f [.ref a] H (fun v _ => v = .bl true) fun _ _ _ => False := by
  obtain ⟨mu, h⟩ := h
  have go : ∀ (w : Wt), ScrAt T w H a ns → Lent w → Trk w H → spG T (run G n) 1 f [.ref a] H (fun v _ => v = .bl true) fun _ _ _ => False := fun w h1 h2 h3 => by
    refine ⟨w, [], [], [.d (.scr ns)], ⟨_, [], rfl, ⟨a, rfl, h1⟩, rfl⟩, ⟨rfl, fun n d e => by simp at e⟩, h2, h3, rfl, ?_⟩
    rw [h]
    exact fun v w' al' H' _ _ _ _ _ ⟨ow, _, hr⟩ => hr
  rcases hS with hS | hS
  · refine go (fun b => if b = a then some .frz else none) (.inl ⟨if_pos rfl, hS⟩) (fun b o e => ?_) fun b o e => ?_
    · simp only at e
      by_cases c : b = a
      · rw [if_pos c] at e; cases e; exact .inl rfl
      · rw [if_neg c] at e; cases e
    · simp only at e
      by_cases c : b = a
      · subst c
        rcases hS with h | ⟨o, h⟩
        · exact ⟨_, h⟩
        · exact ⟨_, h⟩
      · rw [if_neg c] at e; cases e
  · exact go (fun _ => none) (.inr fun H' => .inr hS) (fun b o e => by cases e) fun b o e => by cases e
end Mp
namespace Mp
open PySem L2
open He (Fa DefD)
def aNx (an : List Str) (i : Nat) : Str := match an[i]? with
  | some x => x
  | none => ⟨(List.replicate (i + 1) 0).toArray⟩
def anOk (an : List Str) : Bool := decide an.Nodup && an.all fun x => !(x.cps[0]? == some 0)
theorem aNx_inj {an : List Str} (h : anOk an = true) : ∀ i j, aNx an i = aNx an j → i = j := by
  obtain ⟨h1, h2⟩ := ba h
  have h1 := of_decide_eq_true h1
  have fresh : ∀ (i j : Nat) (x : Str), an[i]? = some x → x = ⟨(List.replicate (j + 1) 0).toArray⟩ → False := fun i j x e z => by
    have := List.all_eq_true.mp h2 x (List.mem_of_getElem? e)
    rw [z] at this
    simp [List.replicate_succ] at this
  intro i j e
  unfold aNx at e
  cases a : an[i]? with
  | some x =>
    cases b : an[j]? with
    | some y =>
      rw [a, b] at e
      have e : x = y := e
      subst e
      exact (List.getElem?_inj (List.getElem?_eq_some_iff.mp a).1 h1).mp (a.trans b.symm)
    | none =>
      rw [a, b] at e
      exact (fresh i j x a e).elim
  | none =>
    cases b : an[j]? with
    | some y =>
      rw [a, b] at e
      exact (fresh j i y b e.symm).elim
    | none =>
      rw [a, b] at e
      have e : (⟨(List.replicate (i + 1) 0).toArray⟩ : Str) = ⟨(List.replicate (j + 1) 0).toArray⟩ := e
      have e2 : (List.replicate (i + 1) (0 : Nat)).toArray.size = (List.replicate (j + 1) 0).toArray.size := by
        have := congrArg (fun z : Str => z.cps.size) e
        exact this
      simpa using e2
def cAx (G : Tab) (K : PySem.W.Frag) (c : Nat) : Addr := match G.cls[c]? with
  | some k => He.ga K k.nm
  | none => 0
def fAx (dl : List DefD) (K : PySem.W.Frag) (f : Nat) : Addr := match dl[f]? with
  | some d => He.fAd K d.at_
  | none => 0
def cnB (K : PySem.W.Frag) : Str × D → Bool
  | (x, .int i) => (Fa.int x i).ok K
  | (x, .str z) => (Fa.str x z).ok K
  | _ => false
def valB (o : Option PySem.W.CFound) (a : Addr) : Bool := match o with
  | some (.val v) => decide (v = .ref a)
  | _ => false
def xAx (G : Tab) (K : PySem.W.Frag) (c : Nat) : Addr := match G.xs[c]? with
  | some k => He.ga K k.nm
  | none => 0
def xNx (G : Tab) (c : Nat) : List Str := match G.xs[c]? with
  | some k => k.fs
  | none => []
def oexB (K : PySem.W.Frag) (C : Addr) : Bool := match K.lookup C with
  | some ⟨.type t, _, .cls cd, sl⟩ => (match cd.mro, sl.toList with
    | .ref C' :: bm, [_, _, _, _, some (.builtin n), _] => t == "type" && (C' == C && (n == "ValueError.__new__" && (!cd.hasDel && (cd.hasDict && PySem.HandSPX.refsVE bm))))
    | _, _ => false)
  | _ => false
def optB (o : Option Bool) (b : Bool) : Bool := match o with
  | some c => c == b
  | none => false
def ecB (K : PySem.W.Frag) (C : Addr) : Bool := (He.eqO (PySem.W.findIn K (.ref C) "__getattribute__") (some (some (.builtin "BaseException.__getattribute__"))) && He.eqO (PySem.W.findIn K (.ref C) "__getattr__") (some none)) && ((optB (PySem.W.subIn K (.ref C) (.type "BaseException")) true && PySem.W.hasDictIn K C) &&
  ((He.eqO (PySem.W.findIn K (.ref C) "__class__") (some (some (.builtin "object.__class__"))) && He.eqO (PySem.W.specialIn K (.builtin "object.__class__") "__get__") (some (some (.builtin "getset_descriptor.__get__")))) && (optB (PySem.W.takesIn K (.builtin "object.__class__")) true && optB (PySem.W.mroIn K C (.type "object")) true)))
def xoB (G : Tab) (fre : List Str) (dl : List DefD) (K : PySem.W.Frag) (k : Xl) : Bool := match k.ini with
  | none => PySem.W.excIn K (He.ga K k.nm) He.veBase "ValueError.__new__"
  | some f => ((oexB K (He.ga K k.nm) && He.eqO (PySem.W.findIn K (.ref (He.ga K k.nm)) "__setattr__") (some (some (.builtin "object.__setattr__")))) && (He.eqO (PySem.W.findIn K (.ref (He.ga K k.nm)) "__init__") (some (some (.ref (fAx dl K f)))) && decide (PySem.W.typeIn K (.ref (fAx dl K f)) = some (.type "function")))) &&
    ((!k.fs.isEmpty && decide (k.fs.length ≤ 900)) && (match dl[f]?, G.fns[f]?, G.xs[0]? with
      | some d, some F, some k0 => iniB ⟨G, fre, d.scope, F.N⟩ k0.nm k.fs.reverse d.body && decide (F.ps.length = k.fs.length + 1)
      | _, _, _ => false))
def xcK (G : Tab) (fre : List Str) (dl : List DefD) (K : PySem.W.Frag) (k : Xl) : Bool :=
  ((Fa.glo k.nm).ok K && PySem.W.keepIn K (.ref (He.ga K k.nm))) && ((decide (PySem.W.typeIn K (.ref (He.ga K k.nm)) = some (.type "type")) &&
  ((List.range G.xs.length).all fun c' => optB (PySem.W.exmOne K (.ref (He.ga K k.nm)) (.ref (xAx G K c'))) (k.sup.contains c') && optB (PySem.W.kitOne K (.ref (He.ga K k.nm)) (.ref (xAx G K c'))) (k.sup.contains c'))) &&
  ((optB (PySem.W.kitOne K (.ref (He.ga K k.nm)) (.type "ValueError")) true && optB (PySem.W.kitOne K (.type "NoneType") (.ref (He.ga K k.nm))) false) && (ecB K (He.ga K k.nm) &&
  ((k.fs.all fun f => He.eqO (PySem.W.findIn K (.ref (He.ga K k.nm)) f) (some none)) && xoB G fre dl K k))))
def hallB (G : Tab) (K : PySem.W.Frag) : Bool := match G.xs[0]? with
  | some k => (PySem.W.readsIn K (He.ga K k.nm) (.type "type") && He.eqO (PySem.W.specialIn K (.ref (He.ga K k.nm)) "__getattribute__") (some (some (.builtin "type.__getattribute__")))) && (match PySem.W.findCls K (.ref (He.ga K k.nm)) (.type "type") "__init__" with
    | some (.val v) => decide (v = .builtin "ValueError.__init__")
    | _ => false)
  | none => true
def tyNs : List String := ["NoneType", "bool", "int", "str", "list", "tuple", "dict"]
def clsK (G : Tab) (dl : List DefD) (K : PySem.W.Frag) (k : Cl) : Bool :=
  ((Fa.cls k.nm).ok K && ((Fa.mkr k.nm).ok K && (Fa.glo k.nm).ok K)) && ((decide (He.ma K (He.ga K k.nm) "__init__" = fAx dl K k.ini) && decide (k.ini < G.fns.length)) &&
  ((k.meths.all fun p => (Fa.meth k.nm (aNx G.an p.1)).ok K && (decide (He.ma K (He.ga K k.nm) (aNx G.an p.1) = fAx dl K p.2) && decide (p.2 < G.fns.length))) &&
  ((k.atts.all fun a => (Fa.noat k.nm (aNx G.an a)).ok K) &&
  ((k.cms.isEmpty || (PySem.W.readsIn K (He.ga K k.nm) (.type "type") && He.eqO (PySem.W.specialIn K (.ref (He.ga K k.nm)) "__getattribute__") (some (some (.builtin "type.__getattribute__"))))) &&
  ((k.cms.all fun m => match k.meths.lookup m with
    | some f => valB (PySem.W.findCls K (.ref (He.ga K k.nm)) (.type "type") (aNx G.an m)) (fAx dl K f)
    | none => true) &&
  (((List.range G.cls.length).all fun c' => decide (PySem.W.kitOne K (.ref (He.ga K k.nm)) (.ref (cAx G K c')) = some (k.sup.contains c'))) &&
  ((tyNs.all fun t => decide (PySem.W.kitOne K (.type t) (.ref (He.ga K k.nm)) = some false) && decide (PySem.W.kitOne K (.ref (He.ga K k.nm)) (.type t) = some false)) &&
  (He.eqO (PySem.W.findIn K (.ref (He.ga K k.nm)) "__class__") (some (some (.builtin "object.__class__"))) && decide (PySem.W.mroIn K (He.ga K k.nm) (.type "object") = some true)))))))))
def fnsB (K : PySem.W.Frag) : List Fn → List DefD → Bool
  | [], ds => ds.isEmpty
  | F :: Fs, d :: ds => (match F.cl with
    | none => (Fa.glo F.nm).ok K && decide (d.at_ = (F.nm, none))
    | some _ => true) && fnsB K Fs ds
  | _ :: _, [] => false
def allB (G : Tab) (fre : List Str) (dl : List DefD) (K : PySem.W.Frag) : Bool :=
  ((G.xs.all fun k => xcK G fre dl K k) && hallB G K) && (fnsB K G.fns dl && ((G.cls.all fun k => clsK G dl K k) && ((G.cn.all fun p => cnB K p) && ((fre.all fun x => (Fa.free x).ok K) &&
  (He.eqO (PySem.W.specialIn K (.builtin "object.__class__") "__get__") (some (some (.builtin "getset_descriptor.__get__"))) && decide (PySem.W.takesIn K (.builtin "object.__class__") = some true))))))
def Tx (G : Tab) (K : PySem.W.Frag) (w : World) : Tb := ⟨K, cAx G K, aNx G.an, xAx G K, xNx G, w⟩
section
variable {G : Tab} {fre : List Str} {dl : List DefD} {K : PySem.W.Frag} {h : Heap} {mg : Str → Option Value}
theorem fnsB_at : ∀ {Fs : List Fn} {ds : List DefD}, fnsB K Fs ds = true → ∀ (f : Nat) (F : Fn), Fs[f]? = some F → ∃ d : DefD, ds[f]? = some d ∧ (F.cl = none → (Fa.glo F.nm).ok K = true ∧ d.at_ = (F.nm, none))
  | [], _, _, f, F, e => by simp at e
  | F0 :: Fs, [], h, _, _, _ => (Bool.false_ne_true h).elim
  | F0 :: Fs, d :: ds, h, 0, F, e => by
    simp at e; subst e
    obtain ⟨h1, _⟩ := ba h
    refine ⟨d, rfl, fun z => ?_⟩
    rw [z] at h1
    obtain ⟨h1, h2⟩ := ba h1
    exact ⟨h1, of_decide_eq_true h2⟩
  | F0 :: Fs, d :: ds, h, f + 1, F, e => by
    obtain ⟨_, h2⟩ := ba h
    obtain ⟨d', g1, g2⟩ := fnsB_at h2 f F (by simpa using e)
    exact ⟨d', by simpa using g1, g2⟩
theorem lk_mem {α β : Type} [BEq α] [LawfulBEq α] {a : α} {b : β} : ∀ {l : List (α × β)}, l.lookup a = some b → (a, b) ∈ l
  | [], e => by cases e
  | (x, y) :: l, e => by
    rw [List.lookup_cons] at e
    cases q : (a == x) with
    | true => rw [q] at e; cases e; rw [eq_of_beq q]; exact List.mem_cons_self ..
    | false => rw [q] at e; exact List.mem_cons_of_mem _ (lk_mem e)
theorem gs_of {w : World} (X : K.In h) (N : h.Ns mainGlobals mg) (c : allB G fre dl K = true) (ca : anOk G.an = true) : GS (Tx G K w) G mg (fAx dl K) fre := by
  obtain ⟨_, c⟩ := ba c
  obtain ⟨c1, c⟩ := ba c
  obtain ⟨c2, c⟩ := ba c
  obtain ⟨c3, c⟩ := ba c
  obtain ⟨c4, c⟩ := ba c
  obtain ⟨c5, c6⟩ := ba c
  have cl : ∀ c k, G.cls[c]? = some k → clsK G dl K k = true := fun c k e => List.all_eq_true.mp c2 k (List.mem_of_getElem? e)
  have ca1 : ∀ c k, G.cls[c]? = some k → cAx G K c = He.ga K k.nm := fun c k e => by unfold cAx; rw [e]
  refine ⟨fun f F e hc => ?_, fun c k e => ?_, fun c k m f e hm => ?_, fun c k e => ?_, fun c k e hc => ?_, fun c k m f e hm hf => ?_, fun c k a e ha => ?_, aNx_inj ca, fun k x d e => ?_, fun x hx => He.free_ok X N (List.all_eq_true.mp c4 x hx), fun c k c' e he => ?_, fun c k e t ht => ?_, fun c k e => ?_, ⟨He.eqO_ok c5, of_decide_eq_true c6⟩, fun k x e => by show aNx G.an k = x; unfold aNx; rw [e]⟩
  · obtain ⟨d, e1, e2⟩ := fnsB_at c1 f F e
    obtain ⟨h1, h2⟩ := e2 hc
    have : fAx dl K f = He.ga K F.nm := by unfold fAx; rw [e1]; show He.fAd K d.at_ = _; rw [h2]; rfl
    rw [this]
    exact He.glo_ok X N h1
  · show Cls K (cAx G K c)
    rw [ca1 c k e]
    have z := (ba (ba (cl c k e)).1).1
    exact He.cls_ok z
  · have z := (ba (ba (ba (cl c k e)).2).2).1
    have z2 := List.all_eq_true.mp z (m, f) (lk_mem hm)
    obtain ⟨z3, z4⟩ := ba z2
    obtain ⟨z4, z5⟩ := ba z4
    have z4 := of_decide_eq_true z4
    have z5 := of_decide_eq_true z5
    refine ⟨?_, G.fns[f], List.getElem?_eq_getElem z5⟩
    show Meth K (cAx G K c) (aNx G.an m) (fAx dl K f)
    rw [ca1 c k e, ← z4]
    exact He.meth_ok z3
  · obtain ⟨y1, y2⟩ := ba (cl c k e)
    obtain ⟨y1, y3⟩ := ba y1
    obtain ⟨y3, y4⟩ := ba y3
    obtain ⟨y2, _⟩ := ba y2
    obtain ⟨y5, y6⟩ := ba y2
    have y5 := of_decide_eq_true y5
    refine ⟨?_, ⟨_, List.getElem?_eq_getElem (of_decide_eq_true y6)⟩, ?_⟩
    · show Mk K (cAx G K c) (fAx dl K k.ini)
      rw [ca1 c k e, ← y5]
      exact He.mkr_ok y3
    · show mg k.nm = some (.ref (cAx G K c))
      rw [ca1 c k e]
      exact He.glo_ok X N y4
  · have z := (ba (ba (ba (ba (ba (cl c k e)).2).2).2).2).1
    have hn : k.cms.isEmpty = false := by
      cases q : k.cms with
      | nil => exact (hc q).elim
      | cons _ _ => rfl
    rw [hn, Bool.false_or] at z
    obtain ⟨z1, z2⟩ := ba z
    show ClX.CRead K (cAx G K c) _
    rw [ca1 c k e]
    exact ⟨z1, He.eqO_ok z2⟩
  · have z := (ba (ba (ba (ba (ba (ba (cl c k e)).2).2).2).2).2).1
    have z2 := List.all_eq_true.mp z m (by simpa using hm)
    rw [hf] at z2
    show PySem.W.findCls K (.ref (cAx G K c)) _ (aNx G.an m) = some (.val (.ref (fAx dl K f)))
    rw [ca1 c k e]
    have z2 : valB (PySem.W.findCls K (.ref (He.ga K k.nm)) (.type "type") (aNx G.an m)) (fAx dl K f) = true := z2
    unfold valB at z2
    split at z2
    · rename_i v e1
      rw [e1, of_decide_eq_true z2]
    · cases z2
  · have z := (ba (ba (ba (ba (cl c k e)).2).2).2).1
    show NoAttr K (cAx G K c) (aNx G.an a)
    rw [ca1 c k e]
    exact He.noat_ok (List.all_eq_true.mp z a ha)
  · have z := List.all_eq_true.mp c3 (x, d) (List.mem_of_getElem? e)
    cases d with
    | int i =>
      obtain ⟨t, ht⟩ := He.int_ok X N z
      exact ⟨_, V.int i, ht, ⟨_, rfl⟩, fun _ _ => rfl⟩
    | str y =>
      obtain ⟨t, ht⟩ := He.str_ok X N z
      exact ⟨_, V.str y, ht, ⟨_, rfl⟩, fun _ _ => rfl⟩
    | _ => exact (Bool.false_ne_true z).elim
  · have z := (ba (ba (ba (ba (ba (ba (ba (cl c k e)).2).2).2).2).2).2).1
    obtain ⟨k', hk'⟩ := he
    have z2 := List.all_eq_true.mp z c' (List.mem_range.mpr (List.getElem?_eq_some_iff.mp hk').1)
    show PySem.W.kitOne K (.ref (cAx G K c)) (.ref (cAx G K c')) = _
    rw [ca1 c k e]
    exact of_decide_eq_true z2
  · have z := (ba (ba (ba (ba (ba (ba (ba (ba (cl c k e)).2).2).2).2).2).2).2).1
    obtain ⟨z1, z2⟩ := ba (List.all_eq_true.mp z t ht)
    show PySem.W.kitOne K (.type t) (.ref (cAx G K c)) = _ ∧ PySem.W.kitOne K (.ref (cAx G K c)) (.type t) = _
    rw [ca1 c k e]
    exact ⟨of_decide_eq_true z1, of_decide_eq_true z2⟩
  · have z := (ba (ba (ba (ba (ba (ba (ba (ba (cl c k e)).2).2).2).2).2).2).2).2
    obtain ⟨z1, z2⟩ := ba z
    show PySem.W.findIn K (.ref (cAx G K c)) "__class__" = _ ∧ PySem.W.mroIn K (cAx G K c) (.type "object") = _
    rw [ca1 c k e]
    exact ⟨He.eqO_ok z1, of_decide_eq_true z2⟩
def scB (F : Fn) (sc : Scope) : Bool := decide (sc.kind = .function) && (!sc.isCoroutine && (!sc.isGenerator && (decide F.N.Nodup && ((F.N.take F.ps.length == F.ps) && ((F.ps.all fun x => locB sc x) && (sc.names.all fun y => decide (y.2 ≠ .free)))))))
theorem scB_ok {F : Fn} {sc : Scope} (h : scB F sc = true) : FnScope F.N F.ps sc := by
  obtain ⟨h1, h⟩ := ba h
  obtain ⟨h2, h⟩ := ba h
  obtain ⟨h3, h⟩ := ba h
  obtain ⟨h4, h⟩ := ba h
  obtain ⟨h5, h⟩ := ba h
  obtain ⟨h6, h7⟩ := ba h
  exact ⟨of_decide_eq_true h1, nb h2, nb h3, of_decide_eq_true h4, eq_of_beq h5, fun x hx => loc_ok (List.all_eq_true.mp h6 x hx), fun y hy => of_decide_eq_true (List.all_eq_true.mp h7 y hy)⟩
def txB (G : Tab) (fre : List Str) (F : Fn) (d : DefD) : Bool := (d.dfl.isEmpty && d.kwd.isEmpty) && (scB F d.scope && ckB ⟨G, fre, d.scope, F.N⟩ F.body d.body)
def txsB (G : Tab) (fre : List Str) : List Fn → List DefD → Bool
  | F :: Fs, d :: ds => txB G fre F d && txsB G fre Fs ds
  | [], _ => true
  | _ :: _, [] => false
def BAs : List Fn → List DefD → Prop
  | F :: Fs, d :: ds => BA d F.ps ∧ BAs Fs ds
  | [], _ => True
  | _ :: _, [] => False
theorem tx_at : ∀ {Fs : List Fn} {ds : List DefD}, txsB G fre Fs ds = true → BAs Fs ds → ∀ (f : Nat) (F : Fn), Fs[f]? = some F → ∃ d : DefD, ds[f]? = some d ∧ txB G fre F d = true ∧ BA d F.ps
  | [], _, _, _, f, F, e => by simp at e
  | F0 :: Fs, [], h, _, _, _, _ => (Bool.false_ne_true h).elim
  | F0 :: Fs, d :: ds, h, ⟨b1, _⟩, 0, F, e => by
    simp at e; subst e
    exact ⟨d, rfl, (ba h).1, b1⟩
  | F0 :: Fs, d :: ds, h, ⟨_, b2⟩, f + 1, F, e => by
    obtain ⟨d', g1, g2⟩ := tx_at (ba h).2 b2 f F (by simpa using e)
    exact ⟨d', by simpa using g1, g2⟩
def obK (G : Tab) (fre : List Str) (dl : List DefD) (K : PySem.W.Frag) : Bool × List He.FnW := (allB G fre dl K && dl.all fun d => d.ok K, dl.map fun d => He.fnW K d.at_)
def obM (n : Nat) (G : Tab) (fre : List Str) (dl : List DefD) (g : Addr → Option Obj) : Bool × List He.FnW := obK G fre dl (He.frG g (cStatics :: He.asD g n))
def hookM (n : Nat) (G : Tab) (fre : List Str) (dl : List DefD) : PySem.W.Hook where
  α := Bool × List He.FnW
  obs := fun s => obM n G fre dl s.heap.get?
  val := fun _ => (true, dl.map DefD.val)
  says := fun _ h => ∃ K : PySem.W.Frag, K.In h ∧ obK G fre dl K = (true, dl.map DefD.val)
  of := fun _ _ e => ⟨_, He.frG_in, e⟩
  keeps := fun _ _ _ ⟨K, hK, c⟩ k => ⟨K, PySem.W.Frag.In.keeps hK k, c⟩
theorem obM_eq {n : Nat} {g : Addr → Option Obj} {s : Shared} (h : ∀ a, g a = s.heap.get? a) : obM n G fre dl g = (hookM n G fre dl).obs s := by
  have e : g = s.heap.get? := funext h
  rw [e] <;> rfl
theorem def_of {w : World} (c : obK G fre dl K = (true, dl.map DefD.val)) (t : txsB G fre G.fns dl = true) (b : BAs G.fns dl) : ∀ f F d, G.fns[f]? = some F → dl[f]? = some d → ∃ fd, DOk (Tx G K w) G fre (fAx dl K f) F d fd := by
  intro f F d e ed
  obtain ⟨d0, e1, e2, e3⟩ := tx_at t b f F e
  cases ed.symm.trans e1
  have c1 : (allB G fre dl K && dl.all fun d => d.ok K) = true := congrArg Prod.fst c
  have c2 : dl.map (fun d => He.fnW K d.at_) = dl.map DefD.val := congrArg Prod.snd c
  have k1 := List.all_eq_true.mp (ba c1).2 d (List.mem_of_getElem? e1)
  have k2 : (dl.map fun d => He.fnW K d.at_)[f]? = (dl.map DefD.val)[f]? := by rw [c2]
  rw [List.getElem?_map, List.getElem?_map, e1] at k2
  obtain ⟨fd, g⟩ := DefD.funD (Option.some.inj k2) k1
  obtain ⟨t1, t2⟩ := ba e2
  obtain ⟨t1, t3⟩ := ba t1
  obtain ⟨t2, t4⟩ := ba t2
  have z1 : d.dvs K = [] := by unfold DefD.dvs; rw [List.isEmpty_iff.mp t1] <;> rfl
  have z2 : d.kws K = [] := by unfold DefD.kws; rw [List.isEmpty_iff.mp t3] <;> rfl
  rw [z1, z2] at g
  have fa : fAx dl K f = He.fAd K d.at_ := by unfold fAx; rw [e1]
  refine ⟨fd, ?_, scB_ok t2, t4, ?_, e3⟩
  · rw [fa]; exact g
  · exact g.bindsN e3
theorem def_at {w : World} (c : obK G fre dl K = (true, dl.map DefD.val)) (t : txsB G fre G.fns dl = true) (b : BAs G.fns dl) : ∀ f F, G.fns[f]? = some F → ∃ d fd, DOk (Tx G K w) G fre (fAx dl K f) F d fd := fun f F e => by
  obtain ⟨d, e1, _⟩ := tx_at t b f F e
  obtain ⟨fd, D⟩ := def_of c t b f F d e e1
  exact ⟨d, fd, D⟩
theorem optB_ok {o : Option Bool} {b : Bool} (h : optB o b = true) : o = some b := by
  unfold optB at h
  split at h
  · rw [eq_of_beq h]
  · cases h
theorem oexB_ok {C : Addr} (h : oexB K C = true) : ∃ nm q N bs bm sn sub ab col dd k0 k1 k2 k3 k5, K.lookup C = some (excClassObj nm q C N bs bm true sn sub ab col dd k0 k1 k2 k3 k5 "ValueError.__new__") ∧ PySem.HandSPX.refsVE bm = true := by
  unfold oexB at h
  split at h
  · rename_i t dd cd sl ho
    split at h
    · rename_i C' bm k0 k1 k2 k3 n k5 hm hs
      obtain ⟨e1, h⟩ := ba h
      obtain ⟨e2, h⟩ := ba h
      obtain ⟨e3, h⟩ := ba h
      obtain ⟨e4, h⟩ := ba h
      obtain ⟨e5, e6⟩ := ba h
      cases eq_of_beq e1
      cases eq_of_beq e2
      cases eq_of_beq e3
      have d4 := nb e4
      clear e4
      obtain ⟨nm, bs, mro, ns, qn, hd, sn, sub, ab, col, del⟩ := cd
      simp only at hm d4 e5
      subst hm d4 e5
      have hsl : sl = #[k0, k1, k2, k3, some (.builtin "ValueError.__new__"), k5] := by
        obtain ⟨l⟩ := sl
        simp only at hs
        rw [hs]
      subst hsl
      exact ⟨_, _, _, _, bm, _, _, _, _, dd, k0, k1, k2, k3, k5, ho, e6⟩
    · cases h
  · cases h
theorem ecB_ok {C : Addr} (h : ecB K C = true) : ExcC K C ∧ XfC K C := by
  obtain ⟨h1, h⟩ := ba h
  obtain ⟨h1, h2⟩ := ba h1
  obtain ⟨h3, h⟩ := ba h
  obtain ⟨h3, h4⟩ := ba h3
  obtain ⟨h5, h⟩ := ba h
  obtain ⟨h5, h6⟩ := ba h5
  obtain ⟨h7, h8⟩ := ba h
  exact ⟨⟨He.eqO_ok h1, He.eqO_ok h2, optB_ok h3, h4, He.eqO_ok h5, He.eqO_ok h6, optB_ok h7, optB_ok h8⟩, ⟨He.eqO_ok h1, He.eqO_ok h2, optB_ok h3, h4⟩⟩
theorem xl_of {P : Program} {w : World} {base : Heap} (X : K.In h) (N : h.Ns mainGlobals mg) (c : allB G fre dl K = true) (hd : ∀ f F d, G.fns[f]? = some F → dl[f]? = some d → ∃ fd, DOk (Tx G K w) G fre (fAx dl K f) F d fd) : ∀ c k, G.xs[c]? = some k → XlOk (Tx G K w) G P w mg base 1 c k := by
  obtain ⟨c, _⟩ := ba c
  obtain ⟨c1, c2⟩ := ba c
  intro i k e
  have z := List.all_eq_true.mp c1 k (List.mem_of_getElem? e)
  have ex1 : ∀ c k, G.xs[c]? = some k → xAx G K c = He.ga K k.nm := fun c k e => by unfold xAx; rw [e]
  have ex := ex1 i k e
  obtain ⟨z1, z⟩ := ba z
  obtain ⟨z1, z2⟩ := ba z1
  obtain ⟨z3, z⟩ := ba z
  obtain ⟨z3, z4⟩ := ba z3
  obtain ⟨z5, z⟩ := ba z
  obtain ⟨z5, z6⟩ := ba z5
  obtain ⟨z7, z⟩ := ba z
  obtain ⟨z8, z9⟩ := ba z
  obtain ⟨ec, xf⟩ := ecB_ok z7
  have z3 := of_decide_eq_true z3
  have al : ∀ c' k', G.xs[c']? = some k' → _ := fun c' k' e' => ba (List.all_eq_true.mp z4 c' (List.mem_range.mpr (List.getElem?_eq_some_iff.mp e').1))
  have na : ∀ f ∈ k.fs, PySem.W.findIn K (.ref (He.ga K k.nm)) f = some none := fun f hf => He.eqO_ok (List.all_eq_true.mp z8 f hf)
  refine ⟨?_, ?_, ?_, ?_, fun c' k' e' => ?_, fun c' k' e' => ?_, ?_, ?_, ?_, ?_, ?_, by show xNx G i = _; unfold xNx; rw [e], ?_⟩ <;> (try (show _; simp only [Tx, ex]))
  · exact He.glo_ok X N z1
  · exact z2
  · exact ec.hs
  · exact z3
  · exact optB_ok (al c' k' e').1
  · exact optB_ok (al c' k' e').2
  · exact optB_ok z5
  · exact optB_ok z6
  · exact ec
  · exact xf
  · exact na
  · unfold xoB at z9
    cases hi : k.ini with
    | none => rw [hi] at z9; exact z9
    | some f =>
      rw [hi] at z9
      simp only at z9
      obtain ⟨y1, y⟩ := ba z9
      obtain ⟨y1, y2⟩ := ba y1
      obtain ⟨y1, y3⟩ := ba y1
      obtain ⟨y2, y4⟩ := ba y2
      obtain ⟨y5, y6⟩ := ba y
      obtain ⟨y5, y7⟩ := ba y5
      have y7 := of_decide_eq_true y7
      have ox : OexC K (He.ga K k.nm) := ⟨oexB_ok y1, He.eqO_ok y3, ec.hs, z3, z2⟩
      split at y6
      · rename_i d F k0 e1 e2 e3
        obtain ⟨y6, y8⟩ := ba y6
        obtain ⟨fd, D⟩ := hd f F d e2 e1
        unfold hallB at c2
        rw [e3] at c2
        obtain ⟨q1, q2⟩ := ba c2
        obtain ⟨q1, q3⟩ := ba q1
        have z0 := List.all_eq_true.mp c1 k0 (List.mem_of_getElem? e3)
        have fc : PySem.W.findCls K (.ref (He.ga K k0.nm)) (.type "type") "__init__" = some (.val (.builtin "ValueError.__init__")) := by
          split at q2
          · rename_i v ev; rw [ev, of_decide_eq_true q2]
          · cases q2
        refine ⟨ox, fAx dl K f, fd, F.ps, He.eqO_ok y2, of_decide_eq_true y4, ?_, D.bd, y7⟩
        refine ini_ok (T := Tx G K w) (c := ⟨G, fre, d.scope, F.N⟩) (C0 := He.ga K k0.nm) D.fun_ D.sc rfl rfl y6 (He.glo_ok X N (ba (ba z0).1).1) ⟨q1, He.eqO_ok q3⟩ fc ox (fun f hf => na f (List.mem_reverse.mp hf)) (fun z => ?_) (by rw [List.length_reverse]; exact y7) (by rw [List.length_reverse]; exact of_decide_eq_true y8)
        have z : k.fs = [] := by simpa using z
        rw [z] at y5
        cases y5
      · cases y6
theorem law_end {P : Program} {w : World} {fa : Addr} {f n : Nat} {F : Fn} {x : Str} (X : K.In h) (N : h.Ns mainGlobals mg) (c : obK G fre dl K = (true, dl.map DefD.val)) (ca : anOk G.an = true) (t : txsB G fre G.fns dl = true) (b : BAs G.fns dl)
    (hF : G.fns[f]? = some F) (hcl : F.cl = none) (hps : F.ps = [x]) (hm : mg F.nm = some (.ref fa)) (k : Nat)
    (law : ∀ ns : List Int, ns.length ≤ k → (∀ z ∈ ns, Builtin.Int.intBits z ≤ 1048576) → ∃ mu, run G (n + 1) f [.d (.scr ns)] [] = .ok (.d (.bl true)) mu) :
    ∃ (K : PySem.W.Frag) (fd : FuncData) (sp : Sp), K.In h ∧ (∀ (s : Shared) (u : Value), BindsTo s fd ⟨[u], []⟩ [(x, u)]) ∧
      (∀ (H : Hp) (a : Addr) (ns : List Int), ns.length ≤ k → (∀ z ∈ ns, Builtin.Int.intBits z ≤ 1048576) → Only H → SqL K H a (ns.map V.int) → sp [.ref a] H (fun v _ => v = .bl true) fun _ _ _ => False) ∧
      ∀ base : Heap, K.In base → base.Ns mainGlobals mg → FnOk P w K mg base (L2.CX P w) (2 * (n + 1) + 2) fa fd [x] sp := by
  have S := gs_of (w := w) (fre := fre) (dl := dl) X N (ba (congrArg Prod.fst c)).1 ca
  have hd := def_at (w := w) c t b
  have hd2 : ∀ f F d, G.fns[f]? = some F → dl[f]? = some d → ∃ fd, DOk (Tx G K w) G fre (fAx dl K f) F d fd := def_of c t b
  obtain ⟨d, fd, D⟩ := hd f F hF
  have ef : fAx dl K f = fa := by
    have := S.glo f F hF hcl
    rw [hm] at this
    cases this; rfl
  refine ⟨K, fd, spG (Tx G K w) (run G (n + 1)) 1 f, X, fun s u => ?_, fun H a ns h1 h2 _ hS => sp_law (T := Tx G K w) hS (law ns h1 h2), fun base _ _ => ?_⟩
  · have h1 := D.fun_.bindsA D.ba s [u] (by rw [hps] <;> rfl)
    rw [hps] at h1
    exact h1
  · have := lev_at (P := P) (w0 := w) (base := base) (n := n) rfl S (xl_of X N (ba (congrArg Prod.fst c)).1 hd2) hd hF D
    rw [ef, hps] at this
    exact this
end
end Mp
namespace Mp
open PySem L2
def outS : SO → Out (List Nd) Rv
  | .nx s => .ok (.d .non) s.mu
  | .rt r s => .ok r s.mu
  | .exc c fs s => .exc c fs s.mu
  | _ => .stuck
theorem run_at {Γ : Tab} {n f : Nat} {F : Fn} {args : List Rv} {mu : List Nd} (hF : Γ.fns[f]? = some F) (hl : args.length = F.ps.length) : run Γ (n + 1) f args mu = outS (ex Γ (run Γ n) F.body ⟨args.map some ++ List.replicate (F.N.length - args.length) none, mu⟩) := by
  simp only [run, hF, decide_eq_true hl]
  cases ex Γ (run Γ n) F.body ⟨args.map some ++ List.replicate (F.N.length - args.length) none, mu⟩ <;> rfl
section
variable {Γ : Tab} {rec : Rec} {s s' : Sg} {a b c e : E} {u v : S} {r : Rv} {x y z : D} {f i k : Nat}
theorem seq_nx (h : ex Γ rec u s = .nx s') : ex Γ rec (.seq u v) s = ex Γ rec v s' := by simp only [ex, h]
theorem seq_rt (h : ex Γ rec u s = .rt r s') : ex Γ rec (.seq u v) s = .rt r s' := by simp only [ex, h]
theorem ex_asg (h : ev Γ rec e s = .ok [r] s') : ex Γ rec (.asg i e) s = .nx { s' with st := setS s'.st i r } := by simp only [ex, h, onOut]
theorem ex_ret (h : ev Γ rec e s = .ok [r] s') : ex Γ rec (.ret e) s = .rt r s' := by simp only [ex, h, onOut]
theorem ex_ift (h : ev Γ rec c s = .ok [.d (.bl true)] s') : ex Γ rec (.ifs c u v) s = ex Γ rec u s' := by simp only [ex, h, onB, onOut]
theorem ex_iff (h : ev Γ rec c s = .ok [.d (.bl false)] s') : ex Γ rec (.ifs c u v) s = ex Γ rec v s' := by simp only [ex, h, onB, onOut]
theorem ev_call {ds : List D} {mu : List Nd} (ha : ev Γ rec a s = .ok (ds.map .d) s') (har : arOk Γ f ds.length = true) (h : rec f (ds.map .d) [] = .ok (.d x) mu) : ev Γ rec (.call f a) s = .ok [.d x] s' := by
  have g : ∀ ds : List D, getDs (ds.map .d) = some ds := by
    intro ds
    induction ds with
    | nil => rfl
    | cons y ys ih => simp [getDs, ih]
  simp only [ev, ha, Out.bind, callG, List.length_map, har, g, callD, h]
theorem getDs_d : ∀ ds : List D, getDs (ds.map .d) = some ds := by
  intro ds
  induction ds with
  | nil => rfl
  | cons y ys ih => simp [getDs, ih]
theorem ev_rng {j : Int} (h : ev Γ rec a s = .ok [.d (.int j)] s') (hk : rngOk j = true) : ev Γ rec (.rng a) s = .ok ((dints j.toNat 0).map .d) s' := by simp only [ev, h, manyD, Out.bind, getDs, Option.map, if_pos hk]
theorem ex_fors {tg : List Nat} {ds : List D} (h : ev Γ rec a s = .ok (ds.map .d) s') : ex Γ rec (.fors tg a u) s = forF (ex Γ rec u) tg ds s' := by simp only [ex, h, onDs, getDs_d]
theorem ev_no {k : Bool} (h : ev Γ rec a s = .ok [.d (.bl k)] s') : ev Γ rec (.no a) s = .ok [.d (.bl (!k))] s' := by simp only [ev, h, oneB, Out.bind]
theorem ev_or_f (h : ev Γ rec a s = .ok [.d (.bl false)] s') : ev Γ rec (.or a b) s = ev Γ rec b s' := by simp only [ev, h, oneB, Out.bind]
theorem ev_an_t (h : ev Γ rec a s = .ok [.d (.bl true)] s') : ev Γ rec (.an a b) s = ev Γ rec b s' := by simp only [ev, h, oneB, Out.bind]
theorem ev_la : ev Γ rec (.la a) s = ev Γ rec a s := by simp only [ev]
theorem beq_list {α : Type} [BEq α] [LawfulBEq α] (x : α) : (x == x) = true := beq_self_eq_true x
mutual
theorem eqB_self : ∀ (n : Nat) (x : D), okN n x = true → eqB x x = true
  | _, .non, _ => rfl
  | _, .bl b, _ => by simp [eqB]
  | _, .int i, _ => by simp [eqB]
  | _, .str z, _ => by simp [eqB]
  | n + 1, .tup xs, h => by simp only [eqB]; exact eqBs_self n xs (by simpa only [okN] using h)
  | n + 1, .lst xs, h => by simp only [eqB]; exact eqBs_self n xs (by simpa only [okN] using h)
  | 0, .tup _, h => by simp [okN] at h
  | 0, .lst _, h => by simp [okN] at h
  | n, .dct _ _, h => by cases n <;> simp [okN] at h
  | n, .obj _ _ _, h => by cases n <;> simp [okN] at h
  | n, .scr _, h => by cases n <;> simp [okN] at h
  | n, .rl _, h => by cases n <;> simp [okN] at h
  | n, .xc _ _, h => by cases n <;> simp [okN] at h
  | n, .tdc _ _, h => by cases n <;> simp [okN] at h
theorem eqBs_self : ∀ (n : Nat) (xs : List D), xs.all (okN n) = true → eqBs xs xs = true
  | _, [], _ => rfl
  | n, x :: xs, h => by
    rw [List.all_cons, Bool.and_eq_true] at h
    simp only [eqBs]
    rw [eqB_self n x h.1, eqBs_self n xs h.2]
    rfl
end
theorem eqF_self (h : okN 8 x = true) : eqF x x = some true := by unfold eqF; rw [h, eqB_self 8 x h]; rfl
theorem ev_eq {k : Bool} {s1 s2 : Sg} (ha : ev Γ rec a s = .ok [.d x] s1) (hb : ev Γ rec b s1 = .ok [.d y] s2) (h : eqF x y = some k) : ev Γ rec (.o2 .eq a b) s = .ok [.d (.bl k)] s2 := by
  have e : o2F .eq x y = some (.d (.bl k)) := by
    have e0 : o2F .eq x y = (eqF x y).map fun b => .d (.bl b) := by cases x <;> rfl
    rw [e0, h] <;> rfl
  simp only [ev, ha, hb, oneD, Out.bind, e, ofO]
theorem ev_o2 {o : O2} {r : Rv} {s1 s2 : Sg} (ha : ev Γ rec a s = .ok [.d x] s1) (hb : ev Γ rec b s1 = .ok [.d y] s2) (h : o2F o x y = some r) : ev Γ rec (.o2 o a b) s = .ok [r] s2 := by
  simp only [ev, ha, hb, oneD, Out.bind, h, ofO]
end
theorem for_all {f : Sg → SO} {tg : Nat} {I : Sg → Prop} : ∀ {ds : List D} {s : Sg}, I s → (∀ d ∈ ds, ∀ s, I s → ∃ s', f { s with st := setS s.st tg (.d d) } = .nx s' ∧ I s') → ∃ s', forF f [tg] ds s = .nx s' ∧ I s'
  | [], s, h, _ => ⟨s, rfl, h⟩
  | d :: ds, s, h, hs => by
    obtain ⟨s1, e1, h1⟩ := hs d (List.mem_cons_self ..) s h
    obtain ⟨s2, e2, h2⟩ := for_all h1 fun d hd => hs d (List.mem_cons_of_mem _ hd)
    refine ⟨s2, ?_, h2⟩
    simp only [forF, setT, e1]
    exact e2
theorem dints_mem {n : Nat} {lo : Int} {d : D} (h : d ∈ dints n lo) : ∃ i : Nat, d = .int (lo + (i : Int)) := by
  unfold dints at h
  obtain ⟨i, _, e⟩ := List.mem_map.mp h
  exact ⟨i, e.symm⟩
theorem mod_ok {i j : Int} (h : j ≠ 0) : o2F .mod (.int i) (.int j) = some (.d (.int (i.fmod j))) := if_pos h
theorem mul_r {i j : Int} (h : -(2 ^ 64) < j ∧ j < 2 ^ 64) : o2F .mul (.int i) (.int j) = some (.d (.int (i * j))) := by
  show (if mulOk i j then _ else _) = _
  rw [if_pos (mulOk_r h)]
theorem fmod_small {i j : Int} (h : 0 < j) (h2 : j < 2 ^ 64) : -(2 ^ 64) < i.fmod j ∧ i.fmod j < 2 ^ 64 := by
  have a := Int.fmod_nonneg_of_pos i h
  have b := Int.fmod_lt_of_pos i h
  omega
end Mp
namespace Mp
open PySem L2
section
variable {Γ : Tab} {rec : Rec} {s s' s1 s2 : Sg} {a b c e it el : E} {u v : S} {r : Rv} {x y z : D} {f i k : Nat} {ds : List D}
theorem ev_bi {bi : Bi} {ds : List D} {r : Rv} (ha : ev Γ rec a s = .ok (ds.map .d) s') (h : biF bi ds = some r) : ev Γ rec (.bi bi a) s = .ok [r] s' := by simp only [ev, ha, manyD, Out.bind, getDs_d, h, ofO]
theorem ev_cons {ra : Rv} {rb : List Rv} (ha : ev Γ rec a s = .ok [ra] s1) (hb : ev Γ rec b s1 = .ok rb s2) : ev Γ rec (.cons a b) s = .ok (ra.sh :: rb) s2 := by simp only [ev, ha, Out.bind, hb]
theorem ev_nil : ev Γ rec .nil s = .ok [] s := by simp only [ev]
theorem ev_consb (ha : ev Γ rec a s = .ok [r] s1) (hr : r.sh = .d x) {rb : List Rv} (hb : ev Γ rec b s1 = .ok rb s2) : ev Γ rec (.consb a b) s = .ok (.d x :: rb) s2 := by
  cases r with
  | d w => cases hr; simp only [ev, ha, oneD, Out.bind, hb]
  | o w => cases hr; simp only [ev, ha, oneD, Out.bind, hb]
  | m w => cases hr
theorem ev_callb {rs : List Rv} {ds : List D} {mu : List Nd} (ha : ev Γ rec a s = .ok rs s') (hd : resB s' rs = some ds) (har : arOk Γ f rs.length = true) (h : rec f (ds.map .d) [] = .ok (.d x) mu) (hf : flatD x = true) : ev Γ rec (.callb f a) s = .ok [.d x] s' := by
  simp only [ev, ha, Out.bind, callB, har, hd, h, if_pos hf]
theorem ev_callo {ds : List D} {mu : List Nd} (ha : ev Γ rec a s = .ok (ds.map .d) s') (har : arOk Γ f ds.length = true) (h : rec f (ds.map .d) [] = .ok (.o x) mu) : ev Γ rec (.call f a) s = .ok [.o x] s' := by
  simp only [ev, ha, Out.bind, callG, List.length_map, har, getDs_d, callD, h]
theorem ev_or_t (h : ev Γ rec a s = .ok [.d (.bl true)] s') : ev Γ rec (.or a b) s = .ok [.d (.bl true)] s' := by simp only [ev, h, oneB, Out.bind]
theorem ev_an_f (h : ev Γ rec a s = .ok [.d (.bl false)] s') : ev Γ rec (.an a b) s = .ok [.d (.bl false)] s' := by simp only [ev, h, oneB, Out.bind]
theorem ev_ps {w : Str} (h : ev Γ rec a s = .ok [.d (.str w)] s') : ev Γ rec (.ps a) s = .ok ((w.cps.toList.map fun c => D.str ⟨#[c]⟩).map .d) s' := by simp only [ev, h, oneD, Out.bind]
theorem ev_pl {xs : List D} {x : D} (h : ev Γ rec a s = .ok [.d x] s') (hx : lsD x = some xs := by rfl) : ev Γ rec (.pl a) s = .ok (xs.map .d) s' := by
  cases x with
  | lst ys => cases hx; simp only [ev, h, oneD, Out.bind]
  | rl ys => cases hx; simp only [ev, h, oneD, Out.bind]
  | _ => cases hx
theorem ev_plo {xs : List D} (h : ev Γ rec a s = .ok [.o (.lst xs)] s') : ev Γ rec (.pl a) s = .ok (xs.map .d) s' := by simp only [ev, h, oneD, Out.bind]
theorem ev_enu {xs : List D} {x : D} (h : ev Γ rec a s = .ok [.d x] s') (hx : lsD x = some xs := by rfl) : ev Γ rec (.enu a) s = .ok ((enumD 0 xs).map .d) s' := by simp only [ev, h, oneD, Out.bind, hx]
theorem set_self {st : List (Option Rv)} {i : Nat} {o : Option Rv} (h : st[i]? = some o) : st.set i o = st := by
  apply List.ext_getElem?
  intro j
  rw [List.getElem?_set]
  by_cases e : i = j
  · subst e; rw [if_pos rfl, if_pos (List.getElem?_eq_some_iff.mp h).1, h]
  · rw [if_neg e]
theorem comp_go {st : List (Option Rv)} {mu : List Nd} {i : Nat} {p : D → Bool} {g : D → D} {f c : Sg → Out Sg (List Rv)} (hi : i < st.length) (hc : ∀ d ∈ ds, c ⟨st.set i (some (.d d)), mu⟩ = .ok [.d (.bl (p d))] ⟨st.set i (some (.d d)), mu⟩)
    (hf : ∀ d ∈ ds, p d = true → ∃ r, f ⟨st.set i (some (.d d)), mu⟩ = .ok [r] ⟨st.set i (some (.d d)), mu⟩ ∧ r.sh = .d (g d)) : ∀ (acc : List D) (o : Option Rv), acc.length + ds.length ≤ sizeLine → ∃ o', compF f c [i] ds acc ⟨st.set i o, mu⟩ = .ok [.o (.lst (acc ++ (ds.filter p).map g))] ⟨st.set i o', mu⟩ := by
  induction ds with
  | nil => intro acc o _; exact ⟨o, by simp [compF]⟩
  | cons d ds ih =>
    intro acc o hl
    have hl : acc.length + (ds.length + 1) ≤ sizeLine := hl
    have e1 : setT [i] d (wipeS (st.set i o) [i]) = some (st.set i (some (.d d))) := by
      simp [setT, setS, wipeS]
    have hc1 := hc d (List.mem_cons_self ..)
    have ih' := ih (fun d hd => hc d (List.mem_cons_of_mem _ hd)) fun d hd => hf d (List.mem_cons_of_mem _ hd)
    cases hp : p d with
    | false =>
      obtain ⟨o', e⟩ := ih' acc (some (.d d)) (by omega)
      refine ⟨o', ?_⟩
      simp only [compF, e1, hc1, hp, noX, oneB, Out.bind, List.filter_cons, Bool.false_eq_true, if_false]
      exact e
    | true =>
      obtain ⟨r, e2, e3⟩ := hf d (List.mem_cons_self ..) hp
      obtain ⟨o', e⟩ := ih' (acc ++ [g d]) (some (.d d)) (by simp; omega)
      refine ⟨o', ?_⟩
      have cl : acc.length < sizeLine := by omega
      cases r with
      | m _ => cases e3
      | d w =>
        cases e3
        simp only [compF, e1, hc1, hp, noX, oneB, oneD, Out.bind, e2, if_pos cl, List.filter_cons, if_true, List.map_cons]
        rw [e]; simp
      | o w =>
        cases e3
        simp only [compF, e1, hc1, hp, noX, oneB, oneD, Out.bind, e2, if_pos cl, List.filter_cons, if_true, List.map_cons]
        rw [e]; simp
theorem ev_compf {i : Nat} {p : D → Bool} {g : D → D} {o : Option Rv} (hit : ev Γ rec it s = .ok (ds.map .d) s') (hi : s'.st[i]? = some o) (ho : ∀ x, o ≠ some (.o x)) (hl : ds.length ≤ sizeLine)
    (hc : ∀ d ∈ ds, ev Γ rec c ⟨s'.st.set i (some (.d d)), s'.mu⟩ = .ok [.d (.bl (p d))] ⟨s'.st.set i (some (.d d)), s'.mu⟩)
    (hf : ∀ d ∈ ds, p d = true → ∃ r, ev Γ rec el ⟨s'.st.set i (some (.d d)), s'.mu⟩ = .ok [r] ⟨s'.st.set i (some (.d d)), s'.mu⟩ ∧ r.sh = .d (g d)) : ev Γ rec (.comp el [i] it c) s = .ok [.o (.lst ((ds.filter p).map g))] s' := by
  have hi2 : i < s'.st.length := (List.getElem?_eq_some_iff.mp hi).1
  obtain ⟨o', e⟩ := comp_go (p := p) (g := g) (f := ev Γ rec el) (c := ev Γ rec c) hi2 hc hf [] o (by simpa using hl)
  rw [set_self hi] at e
  have e : compF (ev Γ rec el) (ev Γ rec c) [i] ds [] s' = .ok [.o (.lst ([] ++ (ds.filter p).map g))] ⟨s'.st.set i o', s'.mu⟩ := e
  have hk : okT s'.st [i] = true := by
    cases o with
    | none => simp [okT, hi]
    | some r => cases r with
      | o x => exact (ho x rfl).elim
      | d x => simp [okT, hi]
      | m x => simp [okT, hi]
  simp only [ev, hit, manyD, Out.bind, getDs_d, hk, e]
  congr 1
  have : backS s'.st (s'.st.set i o') [i] = s'.st := by
    simp only [backS, hi, Option.getD_some, List.set_set]
    exact set_self hi
  rw [this]
theorem ev_comp {i : Nat} {g : D → D} {o : Option Rv} (hit : ev Γ rec it s = .ok (ds.map .d) s') (hi : s'.st[i]? = some o) (ho : ∀ x, o ≠ some (.o x)) (hl : ds.length ≤ sizeLine)
    (hf : ∀ d ∈ ds, ∃ r, ev Γ rec el ⟨s'.st.set i (some (.d d)), s'.mu⟩ = .ok [r] ⟨s'.st.set i (some (.d d)), s'.mu⟩ ∧ r.sh = .d (g d)) : ev Γ rec (.comp el [i] it (.bl true)) s = .ok [.o (.lst (ds.map g))] s' := by
  have := ev_compf (p := fun _ => true) (g := g) (c := .bl true) (el := el) hit hi ho hl (fun d _ => by simp only [ev]) fun d hd _ => hf d hd
  rw [List.filter_eq_self.mpr (fun _ _ => rfl)] at this
  exact this
end
theorem for_inv {f : Sg → SO} {tg : List Nat} {I : Nat → Sg → Prop} : ∀ {ds : List D} {s : Sg} (k : Nat), I k s → (∀ (i : Nat) (d : D), ds[i]? = some d → ∀ s, I (k + i) s → ∃ st s', setT tg d s.st = some st ∧ (f { s with st := st } = .nx s' ∨ f { s with st := st } = .ct s') ∧ I (k + i + 1) s') → ∃ s', forF f tg ds s = .nx s' ∧ I (k + ds.length) s'
  | [], s, k, h, _ => ⟨s, rfl, h⟩
  | d :: ds, s, k, h, hs => by
    obtain ⟨st, s1, e0, e1, h1⟩ := hs 0 d rfl s h
    obtain ⟨s2, e2, h2⟩ := for_inv (k + 1) h1 fun i d hd s hi => by
      have := hs (i + 1) d (by simpa using hd) s (by rw [show k + (i + 1) = k + 1 + i by omega]; exact hi)
      rw [show k + (i + 1) + 1 = k + 1 + i + 1 by omega] at this
      exact this
    refine ⟨s2, ?_, by rw [List.length_cons, show k + (ds.length + 1) = k + 1 + ds.length by omega]; exact h2⟩
    simp only [forF, e0]
    rcases e1 with e1 | e1
    · rw [e1]; exact e2
    · rw [e1]; exact e2
theorem bools_all : ∀ {bs : List Bool}, bools (bs.map .bl) = some bs
  | [] => rfl
  | b :: bs => by simp [bools, bools_all]
theorem dedup_nodup {l : List Str} (h : l.Nodup) : dedup l = l := by
  have go : ∀ (l acc : List Str), (acc ++ l).Nodup → l.foldl PyProof.Rows.step_dedup acc = acc ++ l := by
    intro l
    induction l with
    | nil => intro acc _; simp
    | cons x l ih =>
      intro acc h
      have hx : (acc.any fun y => y == x) = false := by
        rw [List.any_eq_false]
        intro y hy e
        have e : y = x := eq_of_beq e
        subst e
        rw [List.nodup_append] at h
        exact h.2.2 y hy y (List.mem_cons_self ..) rfl
      have hs : PyProof.Rows.step_dedup acc x = acc ++ [x] := by
        unfold PyProof.Rows.step_dedup
        rw [if_neg (by rw [hx]; decide)]
      rw [List.foldl_cons, hs, ih _ (by simpa using h)]
      simp
  have := go l [] (by simpa using h)
  simpa [dedup] using this
theorem strsD_strs : ∀ (l : List Str), strsD (l.map .str) = some l
  | [] => rfl
  | x :: l => by simp [strsD, strsD_strs]
end Mp
namespace Mp
open PySem L2
section
variable {Γ : Tab} {rec : Rec} {s s' s1 s2 s3 : Sg} {a b c e it el as : E} {u v : S} {r : Rv} {x y z : D} {f i k : Nat} {ds : List D} {o o' : O2}
theorem ev_ch_t (ha : ev Γ rec a s = .ok [.d x] s1) (hb : ev Γ rec b s1 = .ok [.d y] s2) (h : o2F o x y = some (.d (.bl true))) (hc : ev Γ rec c s2 = .ok [.d z] s3) (h2 : o2F o' y z = some r) : ev Γ rec (.ch o o' a b c) s = .ok [r] s3 := by
  simp only [ev, ha, hb, oneD, Out.bind, h, hc, h2, ofO]
theorem ev_ch_f (ha : ev Γ rec a s = .ok [.d x] s1) (hb : ev Γ rec b s1 = .ok [.d y] s2) (h : o2F o x y = some (.d (.bl false))) : ev Γ rec (.ch o o' a b c) s = .ok [.d (.bl false)] s2 := by
  simp only [ev, ha, hb, oneD, Out.bind, h]
theorem ev_ins {neg : Bool} (ha : ev Γ rec a s = .ok [.d x] s1) (hp : peek s1 i = some y) (h : o2F (match neg with
    | true => .ntin
    | false => .isin) x y = some r) : ev Γ rec (.ins neg a i) s = .ok [r] s1 := by
  cases neg <;> (simp only at h; simp only [ev, ha, oneD, Out.bind, hp, h, ofO])
theorem eqF_int (i j : Int) : eqF (.int i) (.int j) = some (i == j) := rfl
theorem o2_eqI (i j : Int) : o2F .eq (.int i) (.int j) = some (.d (.bl (i == j))) := rfl
theorem o2_neI (i j : Int) : o2F .ne (.int i) (.int j) = some (.d (.bl (!(i == j)))) := rfl
theorem ev_methM {rs : List Rv} {cl : Nat} {ns : List Nat} {mu : List Nd} (ha : ev Γ rec a s = .ok [.m k] s1) (hr : recvOf s1 (.m k) = some (cl, ns)) (hm : methOf Γ cl i = some f) (hn : ns.contains i = false) (has : ev Γ rec as s1 = .ok rs s2) (har : arOk Γ f (rs.length + 1) = true) (h : rec f (.m k :: rs) s2.mu = .ok r mu) :
    ev Γ rec (.meth a i as) s = .ok [r] ⟨s2.st, mu⟩ := by
  simp only [ev, ha, oneR, Out.bind, Rv.sh, hr, hm, hn, has, callG, List.length_cons, har, getDs, callM, h]
theorem ev_methD {ds : List D} {cl : Nat} {ns : List Nat} {vs : List D} {mu : List Nd} (ha : ev Γ rec a s = .ok [.d (.obj cl ns vs)] s1) (hm : methOf Γ cl i = some f) (hn : ns.contains i = false) (has : ev Γ rec as s1 = .ok (ds.map .d) s2) (har : arOk Γ f (ds.length + 1) = true) (h : rec f ((.obj cl ns vs :: ds).map .d) [] = .ok r mu) (hr : ∀ n, r ≠ .m n) :
    ev Γ rec (.meth a i as) s = .ok [r] s2 := by
  have g : getDs (.d (.obj cl ns vs) :: ds.map .d) = some (.obj cl ns vs :: ds) := getDs_d (.obj cl ns vs :: ds)
  simp only [ev, ha, oneR, Out.bind, Rv.sh, recvOf, hm, hn, has, callG, List.length_cons, List.length_map, har, g, callD, h]
  cases r with
  | m n => exact (hr n rfl).elim
  | d _ => rfl
  | o _ => rfl
theorem ev_bms {xs0 xs : List D} (hs : s.st[i]? = some (some (.o (.lst xs0)))) (ha : ev Γ rec as s = .ok [.d y] s1) (hs1 : s1.st[i]? = some (some (.o (.lst xs)))) (hl : xs.length < sizeLine) : ev Γ rec (.bms .append i as) s = .ok [.d .non] { s1 with st := setS s1.st i (.o (.lst (xs ++ [y]))) } := by
  simp only [ev, hs, ha, manyD, Out.bind, getDs, Option.map, hs1, bmF, if_pos hl]
theorem ev_bm {xs0 xs : List Rv} (ha : ev Γ rec a s = .ok [.m k] s1) (hs : s1.mu[k]? = some (.lst xs0)) (hb : ev Γ rec as s1 = .ok [.d y] s2) (hs2 : s2.mu[k]? = some (.lst xs)) (hl : xs.length < sizeLine) : ev Γ rec (.bm .append a as) s = .ok [.d .non] { s2 with mu := s2.mu.set k (.lst (xs ++ [.d y])) } := by
  simp only [ev, ha, oneR, Out.bind, Rv.sh, hs, hb, manyD, getDs, Option.map, hs2, if_pos hl]
theorem ev_subs {x0 : D} (hp : peek s i = some x0) (ha : ev Γ rec a s = .ok [.d y] s1) (hp1 : peek s1 i = some x) (h : subF x y = some z) : ev Γ rec (.subs i a) s = .ok [.d z] s1 := by
  simp only [ev, hp, ha, oneD, Out.bind, hp1, h, Option.map, ofO]
theorem ev_join {w : Str} {xs : List D} {ss : List Str} (ha : ev Γ rec a s = .ok [.d (.str w)] s1) (hb : ev Γ rec b s1 = .ok [.d (.lst xs)] s2) (hs : strsD xs = some ss) (hl : (ss.map (·.length)).sum + ss.length * w.length ≤ 16777216) : ev Γ rec (.join a b) s = .ok [.d (.str (PySem.Txt.join w ss))] s2 := by
  simp only [ev, ha, oneD, Out.bind, hb, hs, if_pos hl]
theorem ev_rng2' {lo hi : Int} (h : ev Γ rec a s = .ok [.d (.int lo), .d (.int hi)] s1) (h1 : rngOk lo = true) (h2 : rngOk hi = true) : ev Γ rec (.rng2 a) s = .ok ((dints (hi - lo).toNat lo).map .d) s1 := by
  simp only [ev, h, manyD, Out.bind, getDs, Option.map, h1, h2, Bool.and_self, if_true]
theorem dints_at {n : Nat} {lo : Int} {d : D} {i : Nat} (h : (dints n lo)[i]? = some d) : i < n ∧ d = .int (lo + (i : Int)) := by
  unfold dints at h
  rw [List.getElem?_map] at h
  cases q : (List.range n)[i]? with
  | none => rw [q] at h; cases h
  | some j =>
    rw [q] at h
    obtain ⟨h1, h2⟩ := List.getElem?_eq_some_iff.mp q
    simp at h1 h2
    subst h2
    cases h
    exact ⟨h1, rfl⟩
theorem dints_len {n : Nat} {lo : Int} : (dints n lo).length = n := by simp [dints]
theorem ev_tup (ha : ev Γ rec a s = .ok (ds.map .d) s') (hl : ds.length ≤ sizeLine) : ev Γ rec (.tup a) s = .ok [.d (.tup ds)] s' := by simp only [ev, ha, manyD, Out.bind, getDs_d, if_pos hl]
theorem fdiv_ok {i j : Int} (h : j ≠ 0 ∧ j.natAbs < 1073741824) : o2F .fdiv (.int i) (.int j) = some (.d (.int (i.fdiv j))) := if_pos h
theorem mul_l {i j : Int} (h : -(2 ^ 64) < i ∧ i < 2 ^ 64) : o2F .mul (.int i) (.int j) = some (.d (.int (i * j))) := by
  show (if mulOk i j then _ else _) = _
  rw [if_pos (mulOk_l h)]
theorem lt_ok (i j : Int) : o2F .lt (.int i) (.int j) = some (.d (.bl (decide (i < j)))) := rfl
theorem gt_ok (i j : Int) : o2F .gt (.int i) (.int j) = some (.d (.bl (decide (j < i)))) := rfl
theorem ge_ok (i j : Int) : o2F .ge (.int i) (.int j) = some (.d (.bl (decide (j ≤ i)))) := rfl
theorem le_ok (i j : Int) : o2F .le (.int i) (.int j) = some (.d (.bl (decide (i ≤ j)))) := rfl
theorem ev_o2o {xx : D} {rr : Rv} (ha : ev Γ rec a s = .ok [rr] s1) (hr : rr.sh = .d xx) (hb : ev Γ rec b s1 = .ok [.d y] s2) (h : o2F o xx y = some r) : ev Γ rec (.o2 o a b) s = .ok [r] s2 := by
  cases rr with
  | d w => cases hr; simp only [ev, ha, hb, oneD, Out.bind, h, ofO]
  | o w => cases hr; simp only [ev, ha, hb, oneD, Out.bind, h, ofO]
  | m w => cases hr
theorem ev_o2b {xx yy : D} {rr qq : Rv} (ha : ev Γ rec a s = .ok [rr] s1) (hr : rr.sh = .d xx) (hb : ev Γ rec b s1 = .ok [qq] s2) (hq : qq.sh = .d yy) (h : o2F o xx yy = some r) : ev Γ rec (.o2 o a b) s = .ok [r] s2 := by
  cases rr with
  | m w => cases hr
  | d w => cases hr; cases qq with
    | m w => cases hq
    | d w => cases hq; simp only [ev, ha, hb, oneD, Out.bind, h, ofO]
    | o w => cases hq; simp only [ev, ha, hb, oneD, Out.bind, h, ofO]
  | o w => cases hr; cases qq with
    | m w => cases hq
    | d w => cases hq; simp only [ev, ha, hb, oneD, Out.bind, h, ofO]
    | o w => cases hq; simp only [ev, ha, hb, oneD, Out.bind, h, ofO]
theorem ev_consp {rb : List Rv} (hp : peek s i = some x) (hb : ev Γ rec b s = .ok rb s1) : ev Γ rec (.consp i b) s = .ok (.m i :: rb) s1 := by
  have e : ∃ r, s.st[i]? = some (some r) := by
    unfold peek at hp
    split at hp <;> first | exact ⟨_, ‹_›⟩ | cases hp
  obtain ⟨r, e⟩ := e
  simp only [ev, e, hb, Out.bind]
theorem ev_slc {xs rl rh : List D} {lo hi : Option Int} {l h : E} (ha : ev Γ rec a s = .ok [r] s1) (hr : r.sh = .d (.lst xs)) (hl : ev Γ rec l s1 = .ok (rl.map .d) s2) (pl : partL rl = some lo) (hh : ev Γ rec h s2 = .ok (rh.map .d) s3) (ph : partL rh = some hi) : ev Γ rec (.slc a l h) s = .ok [.o (.lst (cutD xs lo hi))] s3 := by
  cases r with
  | m w => cases hr
  | d w => cases hr; simp only [ev, ha, oneD, Out.bind, manyD, hl, getDs_d, pl, hh, ph, slcF, ofO]
  | o w => cases hr; simp only [ev, ha, oneD, Out.bind, manyD, hl, getDs_d, pl, hh, ph, slcF, ofO]
theorem cutD_to {α : Type} (xs : List α) {k : Nat} (h : k ≤ xs.length) : cutD xs none (some (k : Int)) = xs.take k := by
  unfold cutD
  rw [HT.sIx_none, HT.sIx_nat, Nat.min_eq_left h]
  rfl
theorem cutD_from {α : Type} (xs : List α) {k : Nat} (h : k ≤ xs.length) : cutD xs (some (k : Int)) none = xs.drop k := by
  unfold cutD
  rw [HT.sIx_none, HT.sIx_nat, Nat.min_eq_left h]
  exact List.take_of_length_le (by simp)
theorem cutD_both {α : Type} (xs : List α) (i j : Nat) : cutD xs (some (i : Int)) (some (j : Int)) = (xs.drop (min i xs.length)).take (min j xs.length - min i xs.length) := by
  unfold cutD
  rw [HT.sIx_nat, HT.sIx_nat]
theorem add_lst {xs ys : List D} (h : xs.length + ys.length ≤ sizeLine) : o2F .add (.lst xs) (.lst ys) = some (.o (.lst (xs ++ ys))) := if_pos h
theorem ev_lst1 {rr : Rv} (ha : ev Γ rec a s = .ok [rr] s1) (hr : rr.sh = .d x) : ev Γ rec (.lst (.cons a .nil)) s = .ok [.o (.lst [x])] s1 := by
  have h1 : 1 ≤ sizeLine := by rw [sizeLine_eq]; decide
  simp only [ev, ha, Out.bind, hr, manyD, getDs, Option.map, List.length_cons, List.length_nil, Nat.zero_add, if_pos h1]
theorem ex_ast {st : List (Option Rv)} {is : List Nat} (ha : ev Γ rec e s = .ok [.d x] s1) (h : setT is x s1.st = some st) : ex Γ rec (.ast is e) s = .nx { s1 with st := st } := by
  simp only [ex, ha, onD, onOut, h]
theorem ex_if0 (h : ev Γ rec c s = .ok [.d (.bl false)] s') : ex Γ rec (.ifs c u .skip) s = .nx s' := by simp only [ex, h, onB, onOut]
theorem ex_exp (h : ev Γ rec e s = .ok [r] s') : ex Γ rec (.exp e) s = .nx s' := by simp only [ex, h, onOut]
theorem ev_attrM {ns : List Nat} {vs : List Rv} {cl : Nat} (ha : ev Γ rec a s = .ok [.m k] s1) (hs : s1.mu[k]? = some (.obj cl ns vs)) (hat : attOk Γ cl i = true) (h : attM i ns vs = some r) : ev Γ rec (.attr a i) s = .ok [r] s1 := by
  simp only [ev, ha, oneR, Out.bind, Rv.sh, fldOf, hs, if_pos hat, h, ofO]
theorem enumD_at : ∀ {xs : List D} {k i : Nat} {d : D}, (enumD k xs)[i]? = some d → ∃ x, xs[i]? = some x ∧ d = .tup [.int ((k + i : Nat) : Int), x] := fun {xs k i d} e => enumD_get e
end
end Mp
namespace Mp
open PySem L2
abbrev IL : Type := List (Int × Int)
def dk (L : IL) : List D := L.map fun p => .int p.1
def dv (L : IL) : List D := L.map fun p => .int p.2
def lput (L : IL) (t v : Int) : IL := match L.lookup t with
  | some _ => L.map fun p => if p.1 = t then (p.1, v) else p
  | none => L ++ [(t, v)]
theorem lk_cons' {t : Int} {p : Int × Int} {L : IL} : (p :: L).lookup t = if p.1 = t then some p.2 else L.lookup t := by
  obtain ⟨a, b⟩ := p
  rw [List.lookup_cons]
  by_cases h : a = t
  · subst h; simp
  · rw [if_neg h]
    have : (t == a) = false := by simpa using fun e => h e.symm
    rw [this]
theorem dget_L (t : Int) : ∀ L : IL, dget (.int t) (dk L) (dv L) = (L.lookup t).map .int
  | [] => rfl
  | p :: L => by
    show dget (.int t) (.int p.1 :: dk L) (.int p.2 :: dv L) = _
    rw [lk_cons']
    simp only [dget]
    by_cases h : p.1 = t
    · have k : keyEq (.int p.1) (.int t) = true := decide_eq_true h
      rw [if_pos k, if_pos h]; rfl
    · have k : ¬ keyEq (.int p.1) (.int t) = true := fun z => h (of_decide_eq_true z)
      rw [if_neg k, if_neg h]; exact dget_L t L
def someD : D → Bool
  | .non => false
  | _ => true
theorem lput_lookup (L : IL) (t v x : Int) : (lput L t v).lookup x = if t = x then some v else L.lookup x := by
  unfold lput
  have mp : ∀ L : IL, (L.map fun p => if p.1 = t then (p.1, v) else p).lookup x = if t = x ∧ (L.lookup t).isSome = true then some v else L.lookup x := by
    intro L
    induction L with
    | nil => simp
    | cons p L ih =>
      rw [List.map_cons, lk_cons', lk_cons', lk_cons', ih]
      by_cases h1 : p.1 = t
      · by_cases h2 : t = x
        · simp [h1, h2]
        · simp [h1, h2]
      · by_cases h2 : p.1 = x
        · have q : ¬ t = x := fun e => h1 (h2.trans e.symm)
          rw [if_neg h1, if_pos h2, if_pos h2, if_neg (fun z => q z.1)]
        · rw [if_neg h1, if_neg h2, if_neg h2, if_neg h1]
  have ap : ∀ L : IL, L.lookup t = none → (L ++ [(t, v)]).lookup x = if t = x then some v else L.lookup x := by
    intro L
    induction L with
    | nil => intro _; rw [List.nil_append, lk_cons']
    | cons p L ih =>
      intro h
      rw [lk_cons'] at h
      by_cases h1 : p.1 = t
      · rw [if_pos h1] at h; cases h
      · rw [if_neg h1] at h
        rw [List.cons_append, lk_cons', lk_cons', ih h]
        by_cases h2 : p.1 = x
        · have : ¬ t = x := fun e => h1 (h2.trans e.symm)
          simp [h2, this]
        · simp [h2]
  cases e : L.lookup t with
  | none => exact ap L e
  | some w => simp only; rw [mp, e]; simp
theorem dput_L (L : IL) (t v : Int) : dput (.int t) (.int v) (dk L) (dv L) = .dct (dk (lput L t v)) (dv (lput L t v)) := by
  unfold dput lput
  rw [dget_L]
  cases e : L.lookup t with
  | none => simp [dk, dv]
  | some w =>
    have g : ∀ L : IL, dputV (.int t) (.int v) (dk L) (dv L) = dv (L.map fun p => if p.1 = t then (p.1, v) else p) := by
      intro L
      induction L with
      | nil => rfl
      | cons p L ih =>
        show dputV (.int t) (.int v) (.int p.1 :: dk L) (.int p.2 :: dv L) = _
        simp only [dputV]
        by_cases h : p.1 = t
        · have k : keyEq (.int p.1) (.int t) = true := decide_eq_true h
          rw [if_pos k, ih]; simp [dv, h]
        · have k : ¬ keyEq (.int p.1) (.int t) = true := fun z => h (of_decide_eq_true z)
          rw [if_neg k, ih]; simp [dv, h]
    have k : dk (L.map fun p => if p.1 = t then (p.1, v) else p) = dk L := by
      unfold dk
      rw [List.map_map]
      apply List.map_congr_left
      intro p _
      by_cases h : p.1 = t <;> simp [h]
    show Mp.D.dct (dk L) (dputV (.int t) (.int v) (dk L) (dv L)) = .dct (dk (L.map fun p => if p.1 = t then (p.1, v) else p)) (dv (L.map fun p => if p.1 = t then (p.1, v) else p))
    rw [g, k]
section
variable {Γ : Tab} {rec : Rec} {s s' s1 s2 s3 : Sg} {a b c e it el as : E} {u v : S} {r : Rv} {x y z : D} {f i k : Nat} {ds : List D} {o o' : O2}
theorem ev_orB {p q : Bool} (ha : ev Γ rec a s = .ok [.d (.bl p)] s) (hb : ev Γ rec b s = .ok [.d (.bl q)] s) : ev Γ rec (.or a b) s = .ok [.d (.bl (p || q))] s := by
  cases p with
  | true => exact ev_or_t ha
  | false => rw [ev_or_f ha, hb, Bool.false_or]
theorem ev_anB {p q : Bool} (ha : ev Γ rec a s = .ok [.d (.bl p)] s) (hb : p = true → ev Γ rec b s = .ok [.d (.bl q)] s) : ev Γ rec (.an a b) s = .ok [.d (.bl (p && q))] s := by
  cases p with
  | true => rw [ev_an_t ha, hb rfl, Bool.true_and]
  | false => exact ev_an_f ha
theorem ev_laB {p : Bool} (ha : ev Γ rec a s = .ok [.d (.bl p)] s') : ev Γ rec (.la a) s = .ok [.d (.bl p)] s' := by rw [ev_la, ha]
theorem ev_gets {L : IL} {t d : Int} {rest : Prop} (hp : peek s i = some (.dct (dk L) (dv L))) (ha : ev Γ rec a s = .ok [.d (.int t)] s1) (hb : ev Γ rec b s1 = .ok [.d (.int d)] s2) (hp2 : peek s2 i = some (.dct (dk L) (dv L))) : ev Γ rec (.gets i a b) s = .ok [.d (.int ((L.lookup t).getD d))] s2 := by
  simp only [ev, hp, ha, hb, oneD, Out.bind, hp2, keyD, if_true, dget_L]
  cases L.lookup t <;> rfl
theorem ex_sets {L : IL} {t d : Int} {j : E} (he : ev Γ rec e s = .ok [.d (.int d)] s1) (hp : peek s1 i = some x) (hj : ev Γ rec j s1 = .ok [.d (.int t)] s2) (hs : s2.st[i]? = some (some (.o (.dct (dk L) (dv L))))) (hl : L.length < sizeLine) : ex Γ rec (.sets i j e) s = .nx { s2 with st := setS s2.st i (.o (.dct (dk (lput L t d)) (dv (lput L t d)))) } := by
  have hk : (dk L).length < sizeLine := by simpa [dk] using hl
  simp only [ex, onD, onOut, he, hp, hj, hs, setF, keyD, decide_eq_true hk, Bool.and_self, if_true, dput_L]
theorem ev_sub (ha : ev Γ rec a s = .ok [.d x] s1) (hb : ev Γ rec b s1 = .ok [.d y] s2) (h : subF x y = some z) : ev Γ rec (.sub a b) s = .ok [.d z] s2 := by simp only [ev, ha, hb, oneD, Out.bind, h, Option.map, ofO]
theorem ev_chB {p q : Bool} (ha : ev Γ rec a s = .ok [.d x] s1) (hb : ev Γ rec b s1 = .ok [.d y] s2) (h : o2F o x y = some (.d (.bl p))) (hc : ev Γ rec c s2 = .ok [.d z] s2) (h2 : o2F o' y z = some (.d (.bl q))) : ev Γ rec (.ch o o' a b c) s = .ok [.d (.bl (p && q))] s2 := by
  cases p with
  | true => rw [ev_ch_t ha hb h hc h2, Bool.true_and]
  | false => exact ev_ch_f ha hb h
theorem ev_ntN (ha : ev Γ rec a s = .ok [.d x] s1) : ev Γ rec (.ntN a) s = .ok [.d (.bl (someD x))] s1 := by
  simp only [ev, ha, oneD, Out.bind]
  cases x <;> rfl
theorem ev_slcs {xs : List Int} {rl rh : List D} {lo hi : Option Int} {l h : E} (ha : ev Γ rec a s = .ok [.d (.scr xs)] s1) (hl : ev Γ rec l s1 = .ok (rl.map .d) s2) (pl : partL rl = some lo) (hh : ev Γ rec h s2 = .ok (rh.map .d) s3) (ph : partL rh = some hi) : ev Γ rec (.slc a l h) s = .ok [.o (.lst ((cutD xs lo hi).map .int))] s3 := by
  simp only [ev, ha, oneD, Out.bind, manyD, hl, getDs_d, pl, hh, ph, slcF, ofO]
theorem ev_new {ds : List D} {z : Out Sg (List Rv)} (ha : ev Γ rec a s = .ok (ds.map .d) s1) (h : newD Γ rec i ds s1 = z) : ev Γ rec (.new i a) s = z := by
  simp only [ev, ha, manyD, Out.bind, getDs_d, h]
theorem lput_len (L : IL) (t v : Int) : (lput L t v).length ≤ L.length + 1 := by
  unfold lput
  split <;> simp
theorem eqF_str (x y : Str) (hx : PyData.strOk x = true) (hy : PyData.strOk y = true) : eqF (.str x) (.str y) = some (x == y) := by
  unfold eqF
  simp [okN, hx, hy, eqB]
end
end Mp
namespace Mp
open PySem L2
def nxR (P : Sg → Prop) : SO → Prop
  | .nx s => P s
  | .ct s => P s
  | _ => False
def nrR (P : Sg → Prop) (R : Rv → Sg → Prop) : SO → Prop
  | .nx s => P s
  | .ct s => P s
  | .rt r s => R r s
  | _ => False
structure nxOk (P : Sg → Prop) (x : SO) : Prop where
  h : nxR P x
structure nrOk (P : Sg → Prop) (R : Rv → Sg → Prop) (x : SO) : Prop where
  h : nrR P R x
def turnF (f : Sg → SO) (tg : List Nat) (d : D) (s : Sg) : SO := match setT tg d s.st with
  | some st => f { s with st := st }
  | none => .stuck
theorem for_nx {f : Sg → SO} {tg : List Nat} {I : Nat → Sg → Prop} : ∀ {ds : List D} {s : Sg} (k : Nat), I k s → (∀ (i : Nat) (d : D), ds[i]? = some d → ∀ s, I (k + i) s → nxOk (I (k + i + 1)) (turnF f tg d s)) → ∃ s', forF f tg ds s = .nx s' ∧ I (k + ds.length) s'
  | [], s, k, h, _ => ⟨s, rfl, h⟩
  | d :: ds, s, k, h, hs => by
    have h0 := (hs 0 d rfl s h).h
    unfold turnF at h0
    have ih := fun s1 (h1 : I (k + 0 + 1) s1) => for_nx (f := f) (tg := tg) (ds := ds) (s := s1) (k + 1) h1 fun i d hd s hi => by
      have := hs (i + 1) d (by simpa using hd) s (by rw [show k + (i + 1) = k + 1 + i by omega]; exact hi)
      rw [show k + (i + 1) + 1 = k + 1 + i + 1 by omega] at this
      exact this
    cases e0 : setT tg d s.st with
    | none => rw [e0] at h0; exact h0.elim
    | some st =>
      rw [e0] at h0
      simp only at h0
      rw [List.length_cons, show k + (ds.length + 1) = k + 1 + ds.length by omega]
      simp only [forF, e0]
      cases e1 : f { s with st := st } with
      | nx s1 => rw [e1] at h0; exact ih s1 h0
      | ct s1 => rw [e1] at h0; exact ih s1 h0
      | rt r s1 => rw [e1] at h0; exact h0.elim
      | bk s1 => rw [e1] at h0; exact h0.elim
      | exc c fs s1 => rw [e1] at h0; exact h0.elim
      | stuck => rw [e1] at h0; exact h0.elim
theorem for_nr {f : Sg → SO} {tg : List Nat} {I : Nat → Sg → Prop} {R : Rv → Sg → Prop} : ∀ {ds : List D} {s : Sg} (k : Nat), I k s → (∀ (i : Nat) (d : D), ds[i]? = some d → ∀ s, I (k + i) s → nrOk (I (k + i + 1)) R (turnF f tg d s)) → nrOk (I (k + ds.length)) R (forF f tg ds s)
  | [], s, k, h, _ => ⟨h⟩
  | d :: ds, s, k, h, hs => by
    have h0 := (hs 0 d rfl s h).h
    unfold turnF at h0
    have ih := fun s1 (h1 : I (k + 0 + 1) s1) => for_nr (f := f) (tg := tg) (R := R) (ds := ds) (s := s1) (k + 1) h1 fun i d hd s hi => by
      have := hs (i + 1) d (by simpa using hd) s (by rw [show k + (i + 1) = k + 1 + i by omega]; exact hi)
      rw [show k + (i + 1) + 1 = k + 1 + i + 1 by omega] at this
      exact this
    cases e0 : setT tg d s.st with
    | none => rw [e0] at h0; exact h0.elim
    | some st =>
      rw [e0] at h0
      simp only at h0
      rw [List.length_cons, show k + (ds.length + 1) = k + 1 + ds.length by omega]
      simp only [forF, e0]
      cases e1 : f { s with st := st } with
      | nx s1 => rw [e1] at h0; exact ih s1 h0
      | ct s1 => rw [e1] at h0; exact ih s1 h0
      | rt r s1 => rw [e1] at h0; exact ⟨h0⟩
      | bk s1 => rw [e1] at h0; exact h0.elim
      | exc c fs s1 => rw [e1] at h0; exact h0.elim
      | stuck => rw [e1] at h0; exact h0.elim
theorem nr_cases {P : Sg → Prop} {R : Rv → Sg → Prop} {x : SO} (h : nrOk P R x) : (∃ s, (x = .nx s ∨ x = .ct s) ∧ P s) ∨ ∃ r s, x = .rt r s ∧ R r s := by
  have h := h.h
  cases x with
  | nx s => exact .inl ⟨s, .inl rfl, h⟩
  | ct s => exact .inl ⟨s, .inr rfl, h⟩
  | rt r s => exact .inr ⟨r, s, rfl, h⟩
  | bk s => exact h.elim
  | exc c fs s => exact h.elim
  | stuck => exact h.elim
theorem for_noct {f : Sg → SO} {tg : List Nat} : ∀ {ds : List D} {s s1 : Sg}, forF f tg ds s ≠ .ct s1
  | [], s, s1, e => by cases e
  | d :: ds, s, s1, e => by
    simp only [forF] at e
    cases z : setT tg d s.st with
    | none => rw [z] at e; cases e
    | some st =>
      simp only [z] at e
      cases z2 : f { s with st := st } <;> simp only [z2] at e <;> first | exact for_noct e | cases e
theorem for_cases {f : Sg → SO} {tg : List Nat} {I : Nat → Sg → Prop} {R : Rv → Sg → Prop} {ds : List D} {s : Sg} (k : Nat) (h : I k s) (hs : ∀ (i : Nat) (d : D), ds[i]? = some d → ∀ s, I (k + i) s → nrOk (I (k + i + 1)) R (turnF f tg d s)) : (∃ s', forF f tg ds s = .nx s' ∧ I (k + ds.length) s') ∨ ∃ r s', forF f tg ds s = .rt r s' ∧ R r s' := by
  rcases nr_cases (for_nr k h hs) with ⟨s, e | e, q⟩ | q
  · exact .inl ⟨s, e, q⟩
  · exact (for_noct e).elim
  · exact .inr q
theorem whl_nx {c : Sg → Out Sg (List Rv)} {f : Sg → SO} {I : Nat → Sg → Prop} {E : Sg → Prop} (hs : ∀ m s, I m s → ∃ b s1, c s = .ok [.d (.bl b)] s1 ∧ (b = false → E s1) ∧ (b = true → nxOk (fun s2 => ∃ m', m' < m ∧ I m' s2) (f s1))) : ∀ (n m : Nat) (s : Sg), I m s → m < n → ∃ s', whlF c f n s = .nx s' ∧ E s'
  | 0, m, s, _, h => absurd h (Nat.not_lt_zero _)
  | n + 1, m, s, h, hm => by
    obtain ⟨b, s1, e, h0, h1⟩ := hs m s h
    cases b with
    | false => exact ⟨s1, by simp only [whlF, e, onB, onOut], h0 rfl⟩
    | true =>
      have q := (h1 rfl).h
      have go : ∀ s2, (∃ m', m' < m ∧ I m' s2) → ∃ s', whlF c f n s2 = .nx s' ∧ E s' := fun s2 ⟨m', l, hi⟩ => whl_nx hs n m' s2 hi (by omega)
      simp only [whlF, e, onB, onOut]
      cases e1 : f s1 with
      | nx s2 => rw [e1] at q; exact go s2 q
      | ct s2 => rw [e1] at q; exact go s2 q
      | rt r s2 => rw [e1] at q; exact q.elim
      | bk s2 => rw [e1] at q; exact q.elim
      | exc c fs s2 => rw [e1] at q; exact q.elim
      | stuck => rw [e1] at q; exact q.elim
theorem whl_nr {c : Sg → Out Sg (List Rv)} {f : Sg → SO} {I : Nat → Sg → Prop} {E : Sg → Prop} {R : Rv → Sg → Prop} (hs : ∀ m s, I m s → ∃ b s1, c s = .ok [.d (.bl b)] s1 ∧ (b = false → E s1) ∧ (b = true → nrOk (fun s2 => ∃ m', m' < m ∧ I m' s2) R (f s1))) : ∀ (n m : Nat) (s : Sg), I m s → m < n → (∃ s', whlF c f n s = .nx s' ∧ E s') ∨ ∃ r s', whlF c f n s = .rt r s' ∧ R r s'
  | 0, m, s, _, h => absurd h (Nat.not_lt_zero _)
  | n + 1, m, s, h, hm => by
    obtain ⟨b, s1, e, h0, h1⟩ := hs m s h
    cases b with
    | false => exact .inl ⟨s1, by simp only [whlF, e, onB, onOut], h0 rfl⟩
    | true =>
      have q := (h1 rfl).h
      have go : ∀ s2, (∃ m', m' < m ∧ I m' s2) → (∃ s', whlF c f n s2 = .nx s' ∧ E s') ∨ ∃ r s', whlF c f n s2 = .rt r s' ∧ R r s' := fun s2 ⟨m', l, hi⟩ => whl_nr hs n m' s2 hi (by omega)
      simp only [whlF, e, onB, onOut]
      cases e1 : f s1 with
      | nx s2 => rw [e1] at q; exact go s2 q
      | ct s2 => rw [e1] at q; exact go s2 q
      | rt r s2 => rw [e1] at q; exact .inr ⟨r, s2, rfl, q⟩
      | bk s2 => rw [e1] at q; exact q.elim
      | exc c fs s2 => rw [e1] at q; exact q.elim
      | stuck => rw [e1] at q; exact q.elim
theorem rngN_ok (m : Nat) (h : m ≤ 1000000) : rngOk (m : Int) = true := rngOk_of (by omega)
theorem eqII (i j : Int) : eqF (.int i) (.int j) = some (i == j) := rfl
theorem app_ok {xs : List D} {y : D} (h : xs.length < sizeLine) : bmF .append (.lst xs) [y] = some (.non, .lst (xs ++ [y])) := if_pos h
theorem mulOk_lit (i : Int) (j : Int) (h : -(2 ^ 64) < j ∧ j < 2 ^ 64) : mulOk i j = true := mulOk_r h
theorem mulOk_litl (i : Int) (j : Int) (h : -(2 ^ 64) < i ∧ i < 2 ^ 64) : mulOk i j = true := mulOk_l h
theorem atI_nat' {α : Type} (xs : List α) (k : Nat) : L2.atI xs (k : Int) = xs[k]? := by
  unfold L2.atI L2.ixN
  by_cases h : k < xs.length
  · rw [if_pos (by omega), if_pos (by omega)]; simp
  · rw [if_pos (by omega), if_neg (by omega)]
    exact (List.getElem?_eq_none (by omega)).symm
theorem nx_nx (P : Sg → Prop) (s : Sg) : nxOk P (.nx s) = P s := propext ⟨fun h => h.h, fun h => ⟨h⟩⟩
theorem nx_ct (P : Sg → Prop) (s : Sg) : nxOk P (.ct s) = P s := propext ⟨fun h => h.h, fun h => ⟨h⟩⟩
theorem nr_nx (P : Sg → Prop) (R : Rv → Sg → Prop) (s : Sg) : nrOk P R (.nx s) = P s := propext ⟨fun h => h.h, fun h => ⟨h⟩⟩
theorem nr_ct (P : Sg → Prop) (R : Rv → Sg → Prop) (s : Sg) : nrOk P R (.ct s) = P s := propext ⟨fun h => h.h, fun h => ⟨h⟩⟩
theorem nr_rt (P : Sg → Prop) (R : Rv → Sg → Prop) (r : Rv) (s : Sg) : nrOk P R (.rt r s) = R r s := propext ⟨fun h => h.h, fun h => ⟨h⟩⟩
theorem turn_eq (f : Sg → SO) (tg : List Nat) (d : D) (s : Sg) : turnF f tg d s = match setT tg d s.st with
  | some st => f { s with st := st }
  | none => .stuck := rfl
theorem tup2 (x y : D) (st : List (Option Rv)) (i j : Nat) : setT [i, j] (.tup [x, y]) st = some (setS (setS st i (.d x)) j (.d y)) := rfl
theorem tup3 (x y z : D) (st : List (Option Rv)) (i j k : Nat) : setT [i, j, k] (.tup [x, y, z]) st = some (setS (setS (setS st i (.d x)) j (.d y)) k (.d z)) := rfl
end Mp
set_option maxHeartbeats 0
namespace Lk22
open PySem L2 Mp
abbrev pw : Program := PySem.Challenge.pw_mustmay_k22_rooms_alike
def top (i : Nat) : Stmt := pw.main.body.getD i (.Pass ⟨0, 0, 0, 0⟩)
/-- _wall -/
def l0_0 : S := (.seq .skip .skip)
def b0 : S := (.seq (.whl (.bl true) l0_0) .skip)
def F0 : Fn := ⟨"_wall", "_wall", none, ["k"], ["k"], b0⟩
/-- Door.__init__ -/
def b1 : S := (.seq (.seta 0 0 (.nm 1)) .skip)
def F1 : Fn := ⟨"__init__", "Door.__init__", some 0, ["self", "to"], ["self", "to"], b1⟩
/-- Door.word -/
def b2 : S := (.seq (.ret (.str "shut")) .skip)
def F2 : Fn := ⟨"word", "Door.word", some 0, ["self"], ["self"], b2⟩
/-- Door.needs -/
def b3 : S := (.seq (.ret (.bl false)) .skip)
def F3 : Fn := ⟨"needs", "Door.needs", some 0, ["self"], ["self"], b3⟩
/-- Door.allows -/
def b4 : S := (.seq (.ret (.bl false)) .skip)
def F4 : Fn := ⟨"allows", "Door.allows", some 0, ["self"], ["self"], b4⟩
/-- Door.led -/
def b5 : S := (.seq (.exp (.call 0 (.cons (.int 0) .nil))) .skip)
def F5 : Fn := ⟨"led", "Door.led", some 0, ["self", "to"], ["self", "to"], b5⟩
/-- Door.told -/
def b6 : S := (.seq (.ret (.tup (.cons (.meth (.nm 0) 1 .nil) (.cons (.attr (.nm 0) 0) .nil)))) .skip)
def F6 : Fn := ⟨"told", "Door.told", some 0, ["self"], ["self"], b6⟩
/-- Must.word -/
def b7 : S := (.seq (.ret (.str "must")) .skip)
def F7 : Fn := ⟨"word", "Must.word", some 1, ["self"], ["self"], b7⟩
/-- Must.needs -/
def b8 : S := (.seq (.ret (.bl true)) .skip)
def F8 : Fn := ⟨"needs", "Must.needs", some 1, ["self"], ["self"], b8⟩
/-- Must.allows -/
def b9 : S := (.seq (.ret (.bl true)) .skip)
def F9 : Fn := ⟨"allows", "Must.allows", some 1, ["self"], ["self"], b9⟩
/-- Must.led -/
def b10 : S := (.seq (.exp (.call 0 (.cons (.int 1) .nil))) .skip)
def F10 : Fn := ⟨"led", "Must.led", some 1, ["self", "to"], ["self", "to"], b10⟩
/-- May.word -/
def b11 : S := (.seq (.ret (.str "may")) .skip)
def F11 : Fn := ⟨"word", "May.word", some 2, ["self"], ["self"], b11⟩
/-- May.allows -/
def b12 : S := (.seq (.ret (.bl true)) .skip)
def F12 : Fn := ⟨"allows", "May.allows", some 2, ["self"], ["self"], b12⟩
/-- May.led -/
def b13 : S := (.seq (.exp (.call 0 (.cons (.int 2) .nil))) .skip)
def F13 : Fn := ⟨"led", "May.led", some 2, ["self", "to"], ["self", "to"], b13⟩
/-- Shut.__init__ -/
def b14 : S := (.seq (.exp (.clm 0 2 (.cons (.nm 0) (.cons .non .nil)))) .skip)
def F14 : Fn := ⟨"__init__", "Shut.__init__", some 3, ["self"], ["self"], b14⟩
/-- Torn.__init__ -/
def b15 : S := (.seq (.exp (.clm 0 2 (.cons (.nm 0) (.cons .non .nil)))) .skip)
def F15 : Fn := ⟨"__init__", "Torn.__init__", some 4, ["self"], ["self"], b15⟩
/-- Torn.word -/
def b16 : S := (.seq (.ret (.str "torn")) .skip)
def F16 : Fn := ⟨"word", "Torn.word", some 4, ["self"], ["self"], b16⟩
/-- Torn.needs -/
def b17 : S := (.seq (.ret (.bl true)) .skip)
def F17 : Fn := ⟨"needs", "Torn.needs", some 4, ["self"], ["self"], b17⟩
/-- door_of -/
def b18 : S := (.seq (.ifs (.an (.nm 0) (.la (.nm 1))) (.seq (.ret (.new 1 (.cons (.nm 2) .nil))) .skip) .skip) (.seq (.ifs (.nm 1) (.seq (.ret (.new 2 (.cons (.nm 2) .nil))) .skip) .skip) (.seq (.ifs (.nm 0) (.seq (.ret (.new 4 .nil)) .skip) .skip) (.seq (.ret (.new 3 .nil)) .skip))))
def F18 : Fn := ⟨"door_of", "door_of", none, ["needs", "allows", "to"], ["needs", "allows", "to"], b18⟩
/-- BadPlan.__init__ -/
def b19 : S := (.seq .never (.seq .never (.seq .never .skip)))
def F19 : Fn := ⟨"__init__", "BadPlan.__init__", some 0, ["self", "room", "action"], ["self", "room", "action"], b19⟩
/-- is_name -/
def l20_0 : E := (.o2 .isin (.nm 1) (.str "abcdefghijklmnopqrstuvwxyz"))
def b20 : S := (.seq (.ifs (.or (.no (.isi (.nm 0) .str)) (.or (.o2 .lt (.bis .len 0) (.int 1)) (.la (.o2 .gt (.bis .len 0) (.int 8))))) (.seq (.ret (.bl false)) .skip) .skip) (.seq (.ret (.bi .all (.cons (.comp l20_0 [1] (.ps (.nm 0)) (.bl true)) .nil))) .skip))
def F20 : Fn := ⟨"is_name", "is_name", none, ["thing"], ["thing", "sign"], b20⟩
/-- is_actions -/
def b21 : S := (.seq (.ifs (.or (.no (.isi (.nm 0) .list)) (.or (.o2 .lt (.bis .len 0) (.int 1)) (.la (.o2 .gt (.bis .len 0) (.int 8))))) (.seq (.ret (.bl false)) .skip) .skip) (.seq (.ret (.an (.bi .all (.cons (.comp (.callb 20 (.consp 1 .nil)) [1] (.pl (.nm 0)) (.bl true)) .nil)) (.la (.o2 .eq (.sl (.nm 0)) (.bis .len 0))))) .skip))
def F21 : Fn := ⟨"is_actions", "is_actions", none, ["thing"], ["thing", "name"], b21⟩
/-- is_room -/
def b22 : S := (.seq (.ret (.an (.isi (.nm 0) .int) (.an (.no (.isi (.nm 0) .bool)) (.la (.ch .le .lt (.int 0) (.nm 0) (.nm 1)))))) .skip)
def F22 : Fn := ⟨"is_room", "is_room", none, ["thing", "many"], ["thing", "many"], b22⟩
/-- is_told -/
def b23 : S := (.seq (.ifs (.or (.no (.isi (.nm 0) .tuple)) (.or (.o2 .ne (.bis .len 0) (.int 2)) (.or (.no (.isi (.subs 0 (.int 0)) .str)) (.la (.ins true (.subs 0 (.int 0)) 2))))) (.seq (.ret (.bl false)) .skip) .skip) (.seq (.ifs (.or (.o2 .eq (.subs 0 (.int 0)) (.str "must")) (.la (.o2 .eq (.subs 0 (.int 0)) (.str "may")))) (.seq (.ret (.callb 22 (.consb (.subs 0 (.int 1)) (.consp 1 .nil)))) .skip) .skip) (.seq (.ret (.isN (.subs 0 (.int 1)))) .skip)))
def F23 : Fn := ⟨"is_told", "is_told", none, ["thing", "many", "words"], ["thing", "many", "words"], b23⟩
/-- made_door -/
def b24 : S := (.seq (.asg 1 (.or (.o2 .eq (.subs 0 (.int 0)) (.str "must")) (.la (.o2 .eq (.subs 0 (.int 0)) (.str "torn"))))) (.seq (.asg 2 (.or (.o2 .eq (.subs 0 (.int 0)) (.str "must")) (.la (.o2 .eq (.subs 0 (.int 0)) (.str "may"))))) (.seq (.ret (.call 18 (.cons (.nm 1) (.cons (.nm 2) (.cons (.subs 0 (.int 1)) .nil))))) .skip)))
def F24 : Fn := ⟨"made_door", "made_door", none, ["told"], ["told", "needs", "allows"], b24⟩
/-- Draft.__init__ -/
def l25_0 : S := (.seq (.exp (.bm .append (.attr (.nm 0) 3) (.cons (.meth (.nm 0) 4 (.cons (.nm 3) (.cons (.nm 4) (.cons (.bis .len 2) .nil)))) .nil))) .skip)
def b25 : S := (.seq (.ifs (.or (.no (.callb 21 (.consp 1 .nil))) (.or (.no (.isi (.nm 2) .list)) (.or (.o2 .lt (.bis .len 2) (.int 1)) (.la (.o2 .gt (.bis .len 2) (.gl 0)))))) (.seq (.rse 1 (.cons (.neg (.int 1)) (.cons (.neg (.int 1)) .nil))) .skip) .skip) (.seq (.seta 0 5 (.bis .list 1)) (.seq (.setam 0 3 (.lst .nil)) (.seq (.fors [3, 4] (.enu (.nm 2)) l25_0) .skip))))
def F25 : Fn := ⟨"__init__", "Draft.__init__", some 5, ["self", "actions", "rows"], ["self", "actions", "rows", "room", "row"], b25⟩
/-- Draft.words -/
def b26 : S := (.seq (.ret (.lst (.cons (.str "must") (.cons (.str "may") (.cons (.str "shut") (.cons (.str "torn") .nil)))))) .skip)
def F26 : Fn := ⟨"words", "Draft.words", some 5, ["self"], ["self"], b26⟩
/-- Draft.room_of -/
def l27_0 : S := (.seq (.ifs (.no (.callb 23 (.consp 6 (.consp 3 (.consb (.meth (.nm 0) 6 .nil) .nil))))) (.seq (.rse 1 (.cons (.nm 1) (.cons (.nm 5) .nil))) .skip) .skip) (.seq (.exp (.bms .append 4 (.cons (.call 24 (.cons (.nm 6) .nil)) .nil))) .skip))
def b27 : S := (.seq (.ifs (.or (.no (.isi (.nm 2) .list)) (.la (.o2 .ne (.bis .len 2) (.bi .len (.cons (.attr (.nm 0) 5) .nil))))) (.seq (.rse 1 (.cons (.nm 1) (.cons (.neg (.int 1)) .nil))) .skip) .skip) (.seq (.asg 4 (.lst .nil)) (.seq (.fors [5, 6] (.enu (.nm 2)) l27_0) (.seq (.retm 4) .skip))))
def F27 : Fn := ⟨"room_of", "Draft.room_of", some 5, ["self", "room", "row", "many"], ["self", "room", "row", "many", "doors", "action", "told"], b27⟩
/-- Draft.action_list -/
def b28 : S := (.seq (.ret (.bi .list (.cons (.attr (.nm 0) 5) .nil))) .skip)
def F28 : Fn := ⟨"action_list", "Draft.action_list", some 5, ["self"], ["self"], b28⟩
/-- Draft.many -/
def b29 : S := (.seq (.ret (.bi .len (.cons (.attr (.nm 0) 3) .nil))) .skip)
def F29 : Fn := ⟨"many", "Draft.many", some 5, ["self"], ["self"], b29⟩
/-- Draft.door -/
def b30 : S := (.seq (.ret (.sub (.sub (.attr (.nm 0) 3) (.nm 1)) (.nm 2))) .skip)
def F30 : Fn := ⟨"door", "Draft.door", some 5, ["self", "room", "action"], ["self", "room", "action"], b30⟩
/-- Draft.told -/
def b31 : S := (.seq (.ret (.compm (.comp (.meth (.nm 2) 7 .nil) [2] (.pl (.nm 1)) (.bl true)) [1] (.pl (.attr (.nm 0) 3)))) .skip)
def F31 : Fn := ⟨"told", "Draft.told", some 5, ["self"], ["self", "doors", "door"], b31⟩
/-- Draft.after -/
def b32 : S := (.seq (.exp (.call 0 (.cons (.int 3) .nil))) .skip)
def F32 : Fn := ⟨"after", "Draft.after", some 5, ["self", "row"], ["self", "row"], b32⟩
/-- Draft.is_finished -/
def b33 : S := (.seq (.exp (.call 0 (.cons (.int 4) .nil))) .skip)
def F33 : Fn := ⟨"is_finished", "Draft.is_finished", some 5, ["self"], ["self"], b33⟩
/-- Plan.words -/
def b34 : S := (.seq (.ret (.lst (.cons (.str "must") (.cons (.str "may") (.cons (.str "shut") .nil))))) .skip)
def F34 : Fn := ⟨"words", "Plan.words", some 6, ["self"], ["self"], b34⟩
/-- mark_of -/
def l35_0 : S := (.seq (.asg 5 (.meth (.nm 0) 10 (.cons (.nm 1) (.cons (.nm 4) .nil)))) (.seq (.asg 6 .non) (.seq (.ifs (.meth (.nm 5) 9 .nil) (.seq (.asg 6 (.subs 2 (.attr (.nm 5) 0))) .skip) .skip) (.seq (.exp (.bms .append 3 (.cons (.tup (.cons (.meth (.nm 5) 1 .nil) (.cons (.nm 6) .nil))) .nil))) .skip))))
def b35 : S := (.seq (.asg 3 (.lst .nil)) (.seq (.fors [4] (.rng (.cons (.bi .len (.cons (.meth (.nm 0) 8 .nil) .nil)) .nil)) l35_0) (.seq (.ret (.bis .tuple 3)) .skip)))
def F35 : Fn := ⟨"mark_of", "mark_of", none, ["plan", "room", "parts"], ["plan", "room", "parts", "mark", "action", "door", "part"], b35⟩
/-- parted -/
def l36_0 : S := (.seq (.exp (.bms .append 3 (.cons (.sdt 2 (.call 35 (.cons (.nm 0) (.cons (.nm 4) (.cons (.nm 1) .nil)))) (.nm 4)) .nil))) .skip)
def b36 : S := (.seq (.asg 2 .tnew) (.seq (.asg 3 (.lst .nil)) (.seq (.fors [4] (.rng (.cons (.meth (.nm 0) 11 .nil) .nil)) l36_0) (.seq (.retm 3) .skip))))
def F36 : Fn := ⟨"parted", "parted", none, ["plan", "parts"], ["plan", "parts", "first", "found", "room"], b36⟩
/-- classes -/
def l37_0 : S := (.seq (.mv 1 2) (.seq (.asg 2 (.callb 36 (.consp 0 (.consp 1 .nil)))) .skip))
def b37 : S := (.seq (.asg 1 (.o2 .mul (.lst (.cons (.int 0) .nil)) (.meth (.nm 0) 11 .nil))) (.seq (.asg 2 (.callb 36 (.consp 0 (.consp 1 .nil)))) (.seq (.whl (.eqs true 2 1) l37_0) (.seq (.retm 1) .skip))))
def F37 : Fn := ⟨"classes", "classes", none, ["plan"], ["plan", "parts", "finer"], b37⟩
/-- _law_cell_at -/
def b38 : S := (.seq (.ifs (.o2 .lt (.nm 1) (.bis .len 0)) (.seq (.ret (.subs 0 (.nm 1))) .skip) .skip) (.seq (.ret (.int 0)) .skip))
def F38 : Fn := ⟨"_law_cell_at", "_law_cell_at", none, ["_law_script", "_law_k"], ["_law_script", "_law_k"], b38⟩
/-- _law_whole -/
def b39 : S := (.seq (.ret (.an (.isi (.nm 0) .int) (.la (.no (.isi (.nm 0) .bool))))) .skip)
def F39 : Fn := ⟨"_law_whole", "_law_whole", none, ["_law_found"], ["_law_found"], b39⟩
/-- _law_mixed -/
def b40 : S := (.seq (.asg 2 (.o2 .mod (.o2 .add (.o2 .add (.o2 .mul (.nm 0) (.int 48271)) (.o2 .mul (.nm 1) (.int 7919))) (.int 104729)) (.int 2147483647))) (.seq (.asg 2 (.o2 .mod (.o2 .add (.o2 .add (.o2 .mul (.o2 .mod (.o2 .mul (.nm 2) (.nm 2)) (.int 2147483629)) (.int 16807)) (.o2 .mul (.nm 1) (.int 104729))) (.int 11)) (.int 2147483587))) (.seq (.ret (.o2 .mod (.o2 .mul (.nm 2) (.nm 2)) (.int 2147483549))) .skip)))
def F40 : Fn := ⟨"_law_mixed", "_law_mixed", none, ["_law_cell", "_law_k"], ["_law_cell", "_law_k", "_law_number"], b40⟩
/-- _law_actions -/
def l41_0 : S := (.seq (.asg 8 (.o2 .add (.o2 .add (.o2 .fdiv (.nm 2) (.o2 .add (.nm 7) (.int 2))) (.o2 .mul (.int 5) (.nm 7))) (.o2 .mul (.nm 5) (.bi .int (.cons (.o2 .eq (.nm 7) (.o2 .mod (.o2 .fdiv (.nm 2) (.int 8)) (.nm 3))) .nil))))) (.seq (.asg 6 (.o2 .add (.nm 6) (.sub (.str "abcdefghijklmnopqrstuvwxyz") (.o2 .mod (.nm 8) (.int 26))))) .skip))
def l41_1 : S := (.seq (.asg 6 (.str "")) (.seq (.fors [7] (.rng (.cons (.nm 3) .nil)) l41_0) (.seq (.exp (.bms .append 4 (.cons (.nm 6) .nil))) .skip)))
def b41 : S := (.seq (.asg 2 (.callb 40 (.consp 0 (.consb (.int 900) .nil)))) (.seq (.asg 3 (.o2 .add (.int 1) (.o2 .mod (.nm 2) (.int 8)))) (.seq (.asg 4 (.lst .nil)) (.seq (.fors [5] (.rng (.cons (.nm 1) .nil)) l41_1) (.seq (.retm 4) .skip)))))
def F41 : Fn := ⟨"_law_actions", "_law_actions", none, ["_law_cell", "_law_many"], ["_law_cell", "_law_many", "_law_x", "_law_size", "_law_names", "_law_k", "_law_letters", "_law_j", "_law_number"], b41⟩
/-- _law_rows -/
def l42_0 : S := (.seq (.asg 7 (.o2 .add (.o2 .mul (.nm 4) (.nm 2)) (.nm 6))) (.seq (.asg 8 (.callb 40 (.consb (.call 38 (.cons (.nm 0) (.cons (.o2 .add (.int 2) (.nm 7)) .nil))) (.consp 7 .nil)))) (.seq (.asg 9 (.sub (.lst (.cons (.str "must") (.cons (.str "may") (.cons (.str "shut") (.cons (.str "may") (.cons (.str "must") (.cons (.str "shut") (.cons (.str "may") .nil)))))))) (.o2 .mod (.nm 8) (.int 7)))) (.seq (.exp (.bms .append 5 (.cons (.tup (.cons (.nm 9) (.cons (.sub (.lst (.cons (.o2 .mod (.o2 .fdiv (.nm 8) (.int 7)) (.nm 1)) (.cons .non .nil))) (.bi .int (.cons (.o2 .eq (.nm 9) (.str "shut")) .nil))) .nil))) .nil))) .skip))))
def l42_1 : S := (.seq (.asg 5 (.lst .nil)) (.seq (.fors [6] (.rng (.cons (.nm 2) .nil)) l42_0) (.seq (.exp (.bms .append 3 (.cons (.nm 5) .nil))) .skip)))
def b42 : S := (.seq (.asg 3 (.lst .nil)) (.seq (.fors [4] (.rng (.cons (.nm 1) .nil)) l42_1) (.seq (.retm 3) .skip)))
def F42 : Fn := ⟨"_law_rows", "_law_rows", none, ["_law_script", "_law_many", "_law_acts"], ["_law_script", "_law_many", "_law_acts", "_law_rows_here", "_law_room", "_law_doors", "_law_action", "_law_k", "_law_x", "_law_word"], b42⟩
/-- _law_kinds -/
def l43_0 : S := (.seq (.asg 6 (.o2 .add (.int 1) (.o2 .mod (.o2 .fdiv (.nm 4) (.o2 .add (.int 3) (.nm 5))) (.bis .len 2)))) (.seq (.asg 2 (.o2 .add (.o2 .add (.slc (.nm 2) .nil (.cons (.nm 6) .nil)) (.lst (.cons (.nm 3) .nil))) (.slc (.nm 2) (.cons (.nm 6) .nil) .nil))) .skip))
def l43_1 : S := (.seq (.asg 4 (.callb 40 (.consp 1 (.consb (.o2 .add (.int 300) (.nm 3)) .nil)))) (.seq (.fors [5] (.rng (.cons (.o2 .add (.o2 .mod (.nm 4) (.int 3)) (.bi .int (.cons (.o2 .gt (.nm 3) (.int 0)) .nil))) .nil)) l43_0) .skip))
def b43 : S := (.seq (.asg 2 (.lst (.cons (.int 0) .nil))) (.seq (.fors [3] (.rng (.cons (.nm 0) .nil)) l43_1) (.seq (.retm 2) .skip)))
def F43 : Fn := ⟨"_law_kinds", "_law_kinds", none, ["_law_many", "_law_cell"], ["_law_many", "_law_cell", "_law_kinds_here", "_law_k", "_law_x", "_law_j", "_law_at"], b43⟩
/-- _law_blown -/
def l44_0 : S := (.seq (.asg 8 (.comp (.nm 9) [9] (.rng (.cons (.bis .len 2) .nil)) (.o2 .eq (.subs 2 (.nm 9)) (.nm 7)))) (.seq (.ifs (.o2 .ne (.nm 6) (.str "shut")) (.seq (.asg 7 (.subs 8 (.o2 .mod (.callb 40 (.consp 1 (.consb (.o2 .add (.o2 .add (.int 400) (.o2 .mul (.int 9) (.nm 4))) (.bis .len 5)) .nil))) (.bis .len 8)))) .skip) .skip) (.seq (.exp (.bms .append 5 (.cons (.tup (.cons (.nm 6) (.cons (.nm 7) .nil))) .nil))) .skip)))
def l44_1 : S := (.seq (.asg 5 (.lst .nil)) (.seq (.fors [6, 7] (.pl (.subs 0 (.subs 2 (.nm 4)))) l44_0) (.seq (.exp (.bms .append 3 (.cons (.nm 5) .nil))) .skip)))
def b44 : S := (.seq (.asg 2 (.call 43 (.cons (.bis .len 0) (.cons (.nm 1) .nil)))) (.seq (.asg 3 (.lst .nil)) (.seq (.fors [4] (.rng (.cons (.bis .len 2) .nil)) l44_1) (.seq (.retm 3) .skip))))
def F44 : Fn := ⟨"_law_blown", "_law_blown", none, ["_law_rows_here", "_law_cell"], ["_law_rows_here", "_law_cell", "_law_kinds_here", "_law_found", "_law_i", "_law_doors", "_law_word", "_law_to", "_law_some", "_law_number"], b44⟩
/-- _law_apart -/
def l45_0 : S := (.seq (.ifs (.an (.ins true (.tup (.cons (.nm 3) (.cons (.nm 6) .nil))) 2) (.la (.callb 46 (.consp 0 (.consp 3 (.consp 6 (.consp 2 (.consp 5 .nil)))))))) (.seq (.sets 2 (.tup (.cons (.nm 3) (.cons (.nm 6) .nil))) (.nm 5)) .skip) .skip) .skip)
def l45_1 : S := (.seq (.fors [6] (.rng (.cons (.nm 1) .nil)) l45_0) .skip)
def l45_2 : S := (.seq (.asg 4 (.bis .len 2)) (.seq (.asg 5 (.o2 .add (.nm 5) (.int 1))) (.seq (.fors [3] (.rng (.cons (.nm 1) .nil)) l45_1) .skip)))
def l45_3 : S := (.seq (.ifs (.o2 .ne (.comp (.subs 7 (.int 0)) [7] (.pl (.subs 0 (.nm 3))) (.bl true)) (.comp (.subs 7 (.int 0)) [7] (.pl (.subs 0 (.nm 6))) (.bl true))) (.seq (.sets 2 (.tup (.cons (.nm 3) (.cons (.nm 6) .nil))) (.int 0)) .skip) .skip) .skip)
def l45_4 : S := (.seq (.fors [6] (.rng (.cons (.nm 1) .nil)) l45_3) .skip)
def b45 : S := (.seq (.asg 1 (.bis .len 0)) (.seq (.asg 2 .tnew) (.seq (.fors [3] (.rng (.cons (.nm 1) .nil)) l45_4) (.seq (.asg 4 (.neg (.int 1))) (.seq (.asg 5 (.int 0)) (.seq (.whl (.o2 .lt (.nm 4) (.bis .len 2)) l45_2) (.seq (.retm 2) .skip)))))))
def F45 : Fn := ⟨"_law_apart", "_law_apart", none, ["_law_rows_here"], ["_law_rows_here", "_law_many", "_law_far", "_law_room", "_law_size", "_law_turn", "_law_other", "_law_told"], b45⟩
/-- _law_leads -/
def l46_0 : S := (.seq (.ifs (.an (.ntN (.subs 5 (.int 1))) (.la (.o2 .lt (.gets 3 (.tup (.cons (.subs 5 (.int 1)) (.cons (.subs 6 (.int 1)) .nil))) (.nm 4)) (.nm 4)))) (.seq (.ret (.bl true)) .skip) .skip) .skip)
def b46 : S := (.seq (.fors [5, 6] (.zip (.cons (.subs 0 (.nm 1)) (.cons (.subs 0 (.nm 2)) .nil))) l46_0) (.seq (.ret (.bl false)) .skip))
def F46 : Fn := ⟨"_law_leads", "_law_leads", none, ["_law_rows_here", "_law_room", "_law_other", "_law_far", "_law_turn"], ["_law_rows_here", "_law_room", "_law_other", "_law_far", "_law_turn", "_law_one", "_law_two"], b46⟩
/-- _law_right -/
def l47_0 : S := (.seq (.ifs (.o2 .ne (.o2 .eq (.subs 2 (.nm 4)) (.subs 2 (.nm 5))) (.ins true (.tup (.cons (.nm 4) (.cons (.nm 5) .nil))) 3)) (.seq (.ret (.bl false)) .skip) .skip) .skip)
def l47_1 : S := (.seq (.ifs (.or (.no (.call 39 (.cons (.subs 2 (.nm 4)) .nil))) (.or (.o2 .lt (.subs 2 (.nm 4)) (.int 0)) (.or (.o2 .gt (.subs 2 (.nm 4)) (.nm 4)) (.la (.o2 .ne (.subs 2 (.subs 2 (.nm 4))) (.subs 2 (.nm 4))))))) (.seq (.ret (.bl false)) .skip) .skip) (.seq (.fors [5] (.rng (.cons (.nm 4) .nil)) l47_0) .skip))
def b47 : S := (.seq (.asg 2 (.call 37 (.cons (.nm 0) .nil))) (.seq (.asg 3 (.call 45 (.cons (.nm 1) .nil))) (.seq (.ifs (.or (.no (.isis 2 .list)) (.la (.o2 .ne (.bis .len 2) (.bis .len 1)))) (.seq (.ret (.bl false)) .skip) .skip) (.seq (.fors [4] (.rng (.cons (.bis .len 1) .nil)) l47_1) (.seq (.exp (.bms .clear 2 .nil)) (.seq (.ret (.bl true)) .skip))))))
def F47 : Fn := ⟨"_law_right", "_law_right", none, ["_law_plan", "_law_rows_here"], ["_law_plan", "_law_rows_here", "_law_found", "_law_far", "_law_room", "_law_other"], b47⟩
/-- law -/
def l48_0 : S := (.seq (.ifs (.o2 .ne (.subs 10 (.nm 11)) (.subs 10 (.ixs 9 (.cons (.subs 9 (.nm 11)) .nil)))) (.seq (.ret (.bl false)) .skip) .skip) .skip)
def b48 : S := (.seq (.asg 1 (.call 40 (.cons (.call 38 (.cons (.nm 0) (.cons (.int 0) .nil))) (.cons (.int 0) .nil)))) (.seq (.asg 2 (.o2 .add (.int 1) (.o2 .mod (.o2 .fdiv (.nm 1) (.int 5)) (.int 3)))) (.seq (.asg 3 (.call 42 (.cons (.nm 0) (.cons (.o2 .add (.int 1) (.o2 .mod (.nm 1) (.int 5))) (.cons (.nm 2) .nil))))) (.seq (.asg 4 (.call 38 (.cons (.nm 0) (.cons (.int 1) .nil)))) (.seq (.asg 5 (.call 44 (.cons (.nm 3) (.cons (.nm 4) .nil)))) (.seq (.asg 6 (.call 41 (.cons (.nm 4) (.cons (.nm 2) .nil)))) (.seq (.asg 7 (.new 6 (.cons (.nm 6) (.cons (.comp (.bis .list 12) [12] (.pl (.nm 3)) (.bl true)) .nil)))) (.seq (.asg 8 (.new 6 (.cons (.nm 6) (.cons (.comp (.bis .list 12) [12] (.pl (.nm 5)) (.bl true)) .nil)))) (.seq (.ifs (.or (.no (.callb 47 (.consp 7 (.consp 3 .nil)))) (.or (.no (.callb 47 (.consp 8 (.consp 5 .nil)))) (.la (.no (.callb 47 (.consp 7 (.consp 3 .nil))))))) (.seq (.ret (.bl false)) .skip) .skip) (.seq (.asg 9 (.call 43 (.cons (.bis .len 3) (.cons (.nm 4) .nil)))) (.seq (.asg 10 (.call 37 (.cons (.nm 8) .nil))) (.seq (.fors [11] (.rng (.cons (.bis .len 9) .nil)) l48_0) (.seq (.ret (.an (.o2 .eq (.meth (.nm 7) 7 .nil) (.nm 3)) (.la (.o2 .eq (.meth (.nm 8) 7 .nil) (.nm 5))))) .skip)))))))))))))
def F48 : Fn := ⟨"law", "law", none, ["_law_script"], ["_law_script", "_law_x", "_law_acts", "_law_rows_here", "_law_cell", "_law_more", "_law_actions_here", "_law_plan", "_law_other", "_law_kinds_here", "_law_found", "_law_room", "_law_doors"], b48⟩
def C0 : Cl := ⟨"Door", [0], [(1, 2), (2, 1), (7, 6), (9, 4), (12, 3), (13, 5)], 1, [0], [2]⟩
def C1 : Cl := ⟨"Must", [0], [(1, 7), (7, 6), (9, 9), (12, 8), (13, 10)], 1, [0, 1], []⟩
def C2 : Cl := ⟨"May", [0], [(1, 11), (7, 6), (9, 12), (12, 3), (13, 13)], 1, [0, 2], []⟩
def C3 : Cl := ⟨"Shut", [0], [(1, 2), (7, 6), (9, 4), (12, 3), (13, 5)], 14, [0, 3], []⟩
def C4 : Cl := ⟨"Torn", [0], [(1, 16), (7, 6), (9, 4), (12, 17), (13, 5)], 15, [0, 4], []⟩
def C5 : Cl := ⟨"Draft", [3, 5], [(4, 27), (6, 26), (7, 31), (8, 28), (10, 30), (11, 29), (14, 32), (15, 33)], 25, [5], []⟩
def C6 : Cl := ⟨"Plan", [3, 5], [(4, 27), (6, 34), (7, 31), (8, 28), (10, 30), (11, 29), (14, 32), (15, 33)], 25, [5, 6], []⟩
def an : List Str := ["to", "word", "__init__", "rooms", "room_of", "acts", "words", "told", "action_list", "allows", "door", "many", "needs", "led", "after", "is_finished"]
def cn : List (Str × D) := [("MOST", .int 2000)]
def X0 : Xl := ⟨"HallError", [0], [], none⟩
def X1 : Xl := ⟨"BadPlan", [0, 1], ["action", "room"], some 19⟩
def G : Tab := ⟨[F0, F1, F2, F3, F4, F5, F6, F7, F8, F9, F10, F11, F12, F13, F14, F15, F16, F17, F18, F19, F20, F21, F22, F23, F24, F25, F26, F27, F28, F29, F30, F31, F32, F33, F34, F35, F36, F37, F38, F39, F40, F41, F42, F43, F44, F45, F46, F47, F48], [C0, C1, C2, C3, C4, C5, C6], an, cn, [X0, X1]⟩
def fre : List Str := ["all", "bool", "enumerate", "int", "isinstance", "len", "list", "range", "set", "str", "tuple", "zip"]
def d0 : He.DefD := ⟨("_wall", none), "_wall", "_wall", defArgs (top 0), defBody (top 0), defScope (top 0), [], []⟩
def d1 : He.DefD := ⟨("Door", some "__init__"), "__init__", "Door.__init__", defArgs (inClass (top 2) 0), defBody (inClass (top 2) 0), defScope (inClass (top 2) 0), [], []⟩
def d2 : He.DefD := ⟨("Door", some "word"), "word", "Door.word", defArgs (inClass (top 2) 1), defBody (inClass (top 2) 1), defScope (inClass (top 2) 1), [], []⟩
def d3 : He.DefD := ⟨("Door", some "needs"), "needs", "Door.needs", defArgs (inClass (top 2) 2), defBody (inClass (top 2) 2), defScope (inClass (top 2) 2), [], []⟩
def d4 : He.DefD := ⟨("Door", some "allows"), "allows", "Door.allows", defArgs (inClass (top 2) 3), defBody (inClass (top 2) 3), defScope (inClass (top 2) 3), [], []⟩
def d5 : He.DefD := ⟨("Door", some "led"), "led", "Door.led", defArgs (inClass (top 2) 4), defBody (inClass (top 2) 4), defScope (inClass (top 2) 4), [], []⟩
def d6 : He.DefD := ⟨("Door", some "told"), "told", "Door.told", defArgs (inClass (top 2) 5), defBody (inClass (top 2) 5), defScope (inClass (top 2) 5), [], []⟩
def d7 : He.DefD := ⟨("Must", some "word"), "word", "Must.word", defArgs (inClass (top 3) 0), defBody (inClass (top 3) 0), defScope (inClass (top 3) 0), [], []⟩
def d8 : He.DefD := ⟨("Must", some "needs"), "needs", "Must.needs", defArgs (inClass (top 3) 1), defBody (inClass (top 3) 1), defScope (inClass (top 3) 1), [], []⟩
def d9 : He.DefD := ⟨("Must", some "allows"), "allows", "Must.allows", defArgs (inClass (top 3) 2), defBody (inClass (top 3) 2), defScope (inClass (top 3) 2), [], []⟩
def d10 : He.DefD := ⟨("Must", some "led"), "led", "Must.led", defArgs (inClass (top 3) 3), defBody (inClass (top 3) 3), defScope (inClass (top 3) 3), [], []⟩
def d11 : He.DefD := ⟨("May", some "word"), "word", "May.word", defArgs (inClass (top 4) 0), defBody (inClass (top 4) 0), defScope (inClass (top 4) 0), [], []⟩
def d12 : He.DefD := ⟨("May", some "allows"), "allows", "May.allows", defArgs (inClass (top 4) 1), defBody (inClass (top 4) 1), defScope (inClass (top 4) 1), [], []⟩
def d13 : He.DefD := ⟨("May", some "led"), "led", "May.led", defArgs (inClass (top 4) 2), defBody (inClass (top 4) 2), defScope (inClass (top 4) 2), [], []⟩
def d14 : He.DefD := ⟨("Shut", some "__init__"), "__init__", "Shut.__init__", defArgs (inClass (top 5) 0), defBody (inClass (top 5) 0), defScope (inClass (top 5) 0), [], []⟩
def d15 : He.DefD := ⟨("Torn", some "__init__"), "__init__", "Torn.__init__", defArgs (inClass (top 6) 0), defBody (inClass (top 6) 0), defScope (inClass (top 6) 0), [], []⟩
def d16 : He.DefD := ⟨("Torn", some "word"), "word", "Torn.word", defArgs (inClass (top 6) 1), defBody (inClass (top 6) 1), defScope (inClass (top 6) 1), [], []⟩
def d17 : He.DefD := ⟨("Torn", some "needs"), "needs", "Torn.needs", defArgs (inClass (top 6) 2), defBody (inClass (top 6) 2), defScope (inClass (top 6) 2), [], []⟩
def d18 : He.DefD := ⟨("door_of", none), "door_of", "door_of", defArgs (top 7), defBody (top 7), defScope (top 7), [], []⟩
def d19 : He.DefD := ⟨("BadPlan", some "__init__"), "__init__", "BadPlan.__init__", defArgs (inClass (top 10) 0), defBody (inClass (top 10) 0), defScope (inClass (top 10) 0), [], []⟩
def d20 : He.DefD := ⟨("is_name", none), "is_name", "is_name", defArgs (top 13), defBody (top 13), defScope (top 13), [], []⟩
def d21 : He.DefD := ⟨("is_actions", none), "is_actions", "is_actions", defArgs (top 14), defBody (top 14), defScope (top 14), [], []⟩
def d22 : He.DefD := ⟨("is_room", none), "is_room", "is_room", defArgs (top 15), defBody (top 15), defScope (top 15), [], []⟩
def d23 : He.DefD := ⟨("is_told", none), "is_told", "is_told", defArgs (top 16), defBody (top 16), defScope (top 16), [], []⟩
def d24 : He.DefD := ⟨("made_door", none), "made_door", "made_door", defArgs (top 17), defBody (top 17), defScope (top 17), [], []⟩
def d25 : He.DefD := ⟨("Draft", some "__init__"), "__init__", "Draft.__init__", defArgs (inClass (top 18) 0), defBody (inClass (top 18) 0), defScope (inClass (top 18) 0), [], []⟩
def d26 : He.DefD := ⟨("Draft", some "words"), "words", "Draft.words", defArgs (inClass (top 18) 1), defBody (inClass (top 18) 1), defScope (inClass (top 18) 1), [], []⟩
def d27 : He.DefD := ⟨("Draft", some "room_of"), "room_of", "Draft.room_of", defArgs (inClass (top 18) 2), defBody (inClass (top 18) 2), defScope (inClass (top 18) 2), [], []⟩
def d28 : He.DefD := ⟨("Draft", some "action_list"), "action_list", "Draft.action_list", defArgs (inClass (top 18) 3), defBody (inClass (top 18) 3), defScope (inClass (top 18) 3), [], []⟩
def d29 : He.DefD := ⟨("Draft", some "many"), "many", "Draft.many", defArgs (inClass (top 18) 4), defBody (inClass (top 18) 4), defScope (inClass (top 18) 4), [], []⟩
def d30 : He.DefD := ⟨("Draft", some "door"), "door", "Draft.door", defArgs (inClass (top 18) 5), defBody (inClass (top 18) 5), defScope (inClass (top 18) 5), [], []⟩
def d31 : He.DefD := ⟨("Draft", some "told"), "told", "Draft.told", defArgs (inClass (top 18) 6), defBody (inClass (top 18) 6), defScope (inClass (top 18) 6), [], []⟩
def d32 : He.DefD := ⟨("Draft", some "after"), "after", "Draft.after", defArgs (inClass (top 18) 7), defBody (inClass (top 18) 7), defScope (inClass (top 18) 7), [], []⟩
def d33 : He.DefD := ⟨("Draft", some "is_finished"), "is_finished", "Draft.is_finished", defArgs (inClass (top 18) 8), defBody (inClass (top 18) 8), defScope (inClass (top 18) 8), [], []⟩
def d34 : He.DefD := ⟨("Plan", some "words"), "words", "Plan.words", defArgs (inClass (top 19) 0), defBody (inClass (top 19) 0), defScope (inClass (top 19) 0), [], []⟩
def d35 : He.DefD := ⟨("mark_of", none), "mark_of", "mark_of", defArgs (top 21), defBody (top 21), defScope (top 21), [], []⟩
def d36 : He.DefD := ⟨("parted", none), "parted", "parted", defArgs (top 22), defBody (top 22), defScope (top 22), [], []⟩
def d37 : He.DefD := ⟨("classes", none), "classes", "classes", defArgs (top 23), defBody (top 23), defScope (top 23), [], []⟩
def d38 : He.DefD := ⟨("_law_cell_at", none), "_law_cell_at", "_law_cell_at", defArgs (top 25), defBody (top 25), defScope (top 25), [], []⟩
def d39 : He.DefD := ⟨("_law_whole", none), "_law_whole", "_law_whole", defArgs (top 26), defBody (top 26), defScope (top 26), [], []⟩
def d40 : He.DefD := ⟨("_law_mixed", none), "_law_mixed", "_law_mixed", defArgs (top 27), defBody (top 27), defScope (top 27), [], []⟩
def d41 : He.DefD := ⟨("_law_actions", none), "_law_actions", "_law_actions", defArgs (top 28), defBody (top 28), defScope (top 28), [], []⟩
def d42 : He.DefD := ⟨("_law_rows", none), "_law_rows", "_law_rows", defArgs (top 29), defBody (top 29), defScope (top 29), [], []⟩
def d43 : He.DefD := ⟨("_law_kinds", none), "_law_kinds", "_law_kinds", defArgs (top 30), defBody (top 30), defScope (top 30), [], []⟩
def d44 : He.DefD := ⟨("_law_blown", none), "_law_blown", "_law_blown", defArgs (top 31), defBody (top 31), defScope (top 31), [], []⟩
def d45 : He.DefD := ⟨("_law_apart", none), "_law_apart", "_law_apart", defArgs (top 32), defBody (top 32), defScope (top 32), [], []⟩
def d46 : He.DefD := ⟨("_law_leads", none), "_law_leads", "_law_leads", defArgs (top 33), defBody (top 33), defScope (top 33), [], []⟩
def d47 : He.DefD := ⟨("_law_right", none), "_law_right", "_law_right", defArgs (top 34), defBody (top 34), defScope (top 34), [], []⟩
def d48 : He.DefD := ⟨("law", none), "law", "law", defArgs (top 35), defBody (top 35), defScope (top 35), [], []⟩
def dl : List He.DefD := [d0, d1, d2, d3, d4, d5, d6, d7, d8, d9, d10, d11, d12, d13, d14, d15, d16, d17, d18, d19, d20, d21, d22, d23, d24, d25, d26, d27, d28, d29, d30, d31, d32, d33, d34, d35, d36, d37, d38, d39, d40, d41, d42, d43, d44, d45, d46, d47, d48]
theorem ru0 (n : Nat) (a0 : Rv) (mu : List Nd) : Mp.run G (n + 1) 0 [a0] mu = outS (ex G (Mp.run G n) b0 ⟨[some a0], mu⟩) := run_at (F := F0) rfl rfl
@[simp] theorem ar0 : arOk G 0 1 = true := rfl
theorem ru1 (n : Nat) (a0 a1 : Rv) (mu : List Nd) : Mp.run G (n + 1) 1 [a0, a1] mu = outS (ex G (Mp.run G n) b1 ⟨[some a0, some a1], mu⟩) := run_at (F := F1) rfl rfl
@[simp] theorem ar1 : arOk G 1 2 = true := rfl
theorem ru2 (n : Nat) (a0 : Rv) (mu : List Nd) : Mp.run G (n + 1) 2 [a0] mu = outS (ex G (Mp.run G n) b2 ⟨[some a0], mu⟩) := run_at (F := F2) rfl rfl
@[simp] theorem ar2 : arOk G 2 1 = true := rfl
theorem ru3 (n : Nat) (a0 : Rv) (mu : List Nd) : Mp.run G (n + 1) 3 [a0] mu = outS (ex G (Mp.run G n) b3 ⟨[some a0], mu⟩) := run_at (F := F3) rfl rfl
@[simp] theorem ar3 : arOk G 3 1 = true := rfl
theorem ru4 (n : Nat) (a0 : Rv) (mu : List Nd) : Mp.run G (n + 1) 4 [a0] mu = outS (ex G (Mp.run G n) b4 ⟨[some a0], mu⟩) := run_at (F := F4) rfl rfl
@[simp] theorem ar4 : arOk G 4 1 = true := rfl
theorem ru5 (n : Nat) (a0 a1 : Rv) (mu : List Nd) : Mp.run G (n + 1) 5 [a0, a1] mu = outS (ex G (Mp.run G n) b5 ⟨[some a0, some a1], mu⟩) := run_at (F := F5) rfl rfl
@[simp] theorem ar5 : arOk G 5 2 = true := rfl
theorem ru6 (n : Nat) (a0 : Rv) (mu : List Nd) : Mp.run G (n + 1) 6 [a0] mu = outS (ex G (Mp.run G n) b6 ⟨[some a0], mu⟩) := run_at (F := F6) rfl rfl
@[simp] theorem ar6 : arOk G 6 1 = true := rfl
theorem ru7 (n : Nat) (a0 : Rv) (mu : List Nd) : Mp.run G (n + 1) 7 [a0] mu = outS (ex G (Mp.run G n) b7 ⟨[some a0], mu⟩) := run_at (F := F7) rfl rfl
@[simp] theorem ar7 : arOk G 7 1 = true := rfl
theorem ru8 (n : Nat) (a0 : Rv) (mu : List Nd) : Mp.run G (n + 1) 8 [a0] mu = outS (ex G (Mp.run G n) b8 ⟨[some a0], mu⟩) := run_at (F := F8) rfl rfl
@[simp] theorem ar8 : arOk G 8 1 = true := rfl
theorem ru9 (n : Nat) (a0 : Rv) (mu : List Nd) : Mp.run G (n + 1) 9 [a0] mu = outS (ex G (Mp.run G n) b9 ⟨[some a0], mu⟩) := run_at (F := F9) rfl rfl
@[simp] theorem ar9 : arOk G 9 1 = true := rfl
theorem ru10 (n : Nat) (a0 a1 : Rv) (mu : List Nd) : Mp.run G (n + 1) 10 [a0, a1] mu = outS (ex G (Mp.run G n) b10 ⟨[some a0, some a1], mu⟩) := run_at (F := F10) rfl rfl
@[simp] theorem ar10 : arOk G 10 2 = true := rfl
theorem ru11 (n : Nat) (a0 : Rv) (mu : List Nd) : Mp.run G (n + 1) 11 [a0] mu = outS (ex G (Mp.run G n) b11 ⟨[some a0], mu⟩) := run_at (F := F11) rfl rfl
@[simp] theorem ar11 : arOk G 11 1 = true := rfl
theorem ru12 (n : Nat) (a0 : Rv) (mu : List Nd) : Mp.run G (n + 1) 12 [a0] mu = outS (ex G (Mp.run G n) b12 ⟨[some a0], mu⟩) := run_at (F := F12) rfl rfl
@[simp] theorem ar12 : arOk G 12 1 = true := rfl
theorem ru13 (n : Nat) (a0 a1 : Rv) (mu : List Nd) : Mp.run G (n + 1) 13 [a0, a1] mu = outS (ex G (Mp.run G n) b13 ⟨[some a0, some a1], mu⟩) := run_at (F := F13) rfl rfl
@[simp] theorem ar13 : arOk G 13 2 = true := rfl
theorem ru14 (n : Nat) (a0 : Rv) (mu : List Nd) : Mp.run G (n + 1) 14 [a0] mu = outS (ex G (Mp.run G n) b14 ⟨[some a0], mu⟩) := run_at (F := F14) rfl rfl
@[simp] theorem ar14 : arOk G 14 1 = true := rfl
theorem ru15 (n : Nat) (a0 : Rv) (mu : List Nd) : Mp.run G (n + 1) 15 [a0] mu = outS (ex G (Mp.run G n) b15 ⟨[some a0], mu⟩) := run_at (F := F15) rfl rfl
@[simp] theorem ar15 : arOk G 15 1 = true := rfl
theorem ru16 (n : Nat) (a0 : Rv) (mu : List Nd) : Mp.run G (n + 1) 16 [a0] mu = outS (ex G (Mp.run G n) b16 ⟨[some a0], mu⟩) := run_at (F := F16) rfl rfl
@[simp] theorem ar16 : arOk G 16 1 = true := rfl
theorem ru17 (n : Nat) (a0 : Rv) (mu : List Nd) : Mp.run G (n + 1) 17 [a0] mu = outS (ex G (Mp.run G n) b17 ⟨[some a0], mu⟩) := run_at (F := F17) rfl rfl
@[simp] theorem ar17 : arOk G 17 1 = true := rfl
theorem ru18 (n : Nat) (a0 a1 a2 : Rv) (mu : List Nd) : Mp.run G (n + 1) 18 [a0, a1, a2] mu = outS (ex G (Mp.run G n) b18 ⟨[some a0, some a1, some a2], mu⟩) := run_at (F := F18) rfl rfl
@[simp] theorem ar18 : arOk G 18 3 = true := rfl
theorem ru19 (n : Nat) (a0 a1 a2 : Rv) (mu : List Nd) : Mp.run G (n + 1) 19 [a0, a1, a2] mu = outS (ex G (Mp.run G n) b19 ⟨[some a0, some a1, some a2], mu⟩) := run_at (F := F19) rfl rfl
@[simp] theorem ar19 : arOk G 19 3 = true := rfl
theorem ru20 (n : Nat) (a0 : Rv) (mu : List Nd) : Mp.run G (n + 1) 20 [a0] mu = outS (ex G (Mp.run G n) b20 ⟨[some a0, none], mu⟩) := run_at (F := F20) rfl rfl
@[simp] theorem ar20 : arOk G 20 1 = true := rfl
theorem ru21 (n : Nat) (a0 : Rv) (mu : List Nd) : Mp.run G (n + 1) 21 [a0] mu = outS (ex G (Mp.run G n) b21 ⟨[some a0, none], mu⟩) := run_at (F := F21) rfl rfl
@[simp] theorem ar21 : arOk G 21 1 = true := rfl
theorem ru22 (n : Nat) (a0 a1 : Rv) (mu : List Nd) : Mp.run G (n + 1) 22 [a0, a1] mu = outS (ex G (Mp.run G n) b22 ⟨[some a0, some a1], mu⟩) := run_at (F := F22) rfl rfl
@[simp] theorem ar22 : arOk G 22 2 = true := rfl
theorem ru23 (n : Nat) (a0 a1 a2 : Rv) (mu : List Nd) : Mp.run G (n + 1) 23 [a0, a1, a2] mu = outS (ex G (Mp.run G n) b23 ⟨[some a0, some a1, some a2], mu⟩) := run_at (F := F23) rfl rfl
@[simp] theorem ar23 : arOk G 23 3 = true := rfl
theorem ru24 (n : Nat) (a0 : Rv) (mu : List Nd) : Mp.run G (n + 1) 24 [a0] mu = outS (ex G (Mp.run G n) b24 ⟨[some a0, none, none], mu⟩) := run_at (F := F24) rfl rfl
@[simp] theorem ar24 : arOk G 24 1 = true := rfl
theorem ru25 (n : Nat) (a0 a1 a2 : Rv) (mu : List Nd) : Mp.run G (n + 1) 25 [a0, a1, a2] mu = outS (ex G (Mp.run G n) b25 ⟨[some a0, some a1, some a2, none, none], mu⟩) := run_at (F := F25) rfl rfl
@[simp] theorem ar25 : arOk G 25 3 = true := rfl
theorem ru26 (n : Nat) (a0 : Rv) (mu : List Nd) : Mp.run G (n + 1) 26 [a0] mu = outS (ex G (Mp.run G n) b26 ⟨[some a0], mu⟩) := run_at (F := F26) rfl rfl
@[simp] theorem ar26 : arOk G 26 1 = true := rfl
theorem ru27 (n : Nat) (a0 a1 a2 a3 : Rv) (mu : List Nd) : Mp.run G (n + 1) 27 [a0, a1, a2, a3] mu = outS (ex G (Mp.run G n) b27 ⟨[some a0, some a1, some a2, some a3, none, none, none], mu⟩) := run_at (F := F27) rfl rfl
@[simp] theorem ar27 : arOk G 27 4 = true := rfl
theorem ru28 (n : Nat) (a0 : Rv) (mu : List Nd) : Mp.run G (n + 1) 28 [a0] mu = outS (ex G (Mp.run G n) b28 ⟨[some a0], mu⟩) := run_at (F := F28) rfl rfl
@[simp] theorem ar28 : arOk G 28 1 = true := rfl
theorem ru29 (n : Nat) (a0 : Rv) (mu : List Nd) : Mp.run G (n + 1) 29 [a0] mu = outS (ex G (Mp.run G n) b29 ⟨[some a0], mu⟩) := run_at (F := F29) rfl rfl
@[simp] theorem ar29 : arOk G 29 1 = true := rfl
theorem ru30 (n : Nat) (a0 a1 a2 : Rv) (mu : List Nd) : Mp.run G (n + 1) 30 [a0, a1, a2] mu = outS (ex G (Mp.run G n) b30 ⟨[some a0, some a1, some a2], mu⟩) := run_at (F := F30) rfl rfl
@[simp] theorem ar30 : arOk G 30 3 = true := rfl
theorem ru31 (n : Nat) (a0 : Rv) (mu : List Nd) : Mp.run G (n + 1) 31 [a0] mu = outS (ex G (Mp.run G n) b31 ⟨[some a0, none, none], mu⟩) := run_at (F := F31) rfl rfl
@[simp] theorem ar31 : arOk G 31 1 = true := rfl
theorem ru32 (n : Nat) (a0 a1 : Rv) (mu : List Nd) : Mp.run G (n + 1) 32 [a0, a1] mu = outS (ex G (Mp.run G n) b32 ⟨[some a0, some a1], mu⟩) := run_at (F := F32) rfl rfl
@[simp] theorem ar32 : arOk G 32 2 = true := rfl
theorem ru33 (n : Nat) (a0 : Rv) (mu : List Nd) : Mp.run G (n + 1) 33 [a0] mu = outS (ex G (Mp.run G n) b33 ⟨[some a0], mu⟩) := run_at (F := F33) rfl rfl
@[simp] theorem ar33 : arOk G 33 1 = true := rfl
theorem ru34 (n : Nat) (a0 : Rv) (mu : List Nd) : Mp.run G (n + 1) 34 [a0] mu = outS (ex G (Mp.run G n) b34 ⟨[some a0], mu⟩) := run_at (F := F34) rfl rfl
@[simp] theorem ar34 : arOk G 34 1 = true := rfl
theorem ru35 (n : Nat) (a0 a1 a2 : Rv) (mu : List Nd) : Mp.run G (n + 1) 35 [a0, a1, a2] mu = outS (ex G (Mp.run G n) b35 ⟨[some a0, some a1, some a2, none, none, none, none], mu⟩) := run_at (F := F35) rfl rfl
@[simp] theorem ar35 : arOk G 35 3 = true := rfl
theorem ru36 (n : Nat) (a0 a1 : Rv) (mu : List Nd) : Mp.run G (n + 1) 36 [a0, a1] mu = outS (ex G (Mp.run G n) b36 ⟨[some a0, some a1, none, none, none], mu⟩) := run_at (F := F36) rfl rfl
@[simp] theorem ar36 : arOk G 36 2 = true := rfl
theorem ru37 (n : Nat) (a0 : Rv) (mu : List Nd) : Mp.run G (n + 1) 37 [a0] mu = outS (ex G (Mp.run G n) b37 ⟨[some a0, none, none], mu⟩) := run_at (F := F37) rfl rfl
@[simp] theorem ar37 : arOk G 37 1 = true := rfl
theorem ru38 (n : Nat) (a0 a1 : Rv) (mu : List Nd) : Mp.run G (n + 1) 38 [a0, a1] mu = outS (ex G (Mp.run G n) b38 ⟨[some a0, some a1], mu⟩) := run_at (F := F38) rfl rfl
@[simp] theorem ar38 : arOk G 38 2 = true := rfl
theorem ru39 (n : Nat) (a0 : Rv) (mu : List Nd) : Mp.run G (n + 1) 39 [a0] mu = outS (ex G (Mp.run G n) b39 ⟨[some a0], mu⟩) := run_at (F := F39) rfl rfl
@[simp] theorem ar39 : arOk G 39 1 = true := rfl
theorem ru40 (n : Nat) (a0 a1 : Rv) (mu : List Nd) : Mp.run G (n + 1) 40 [a0, a1] mu = outS (ex G (Mp.run G n) b40 ⟨[some a0, some a1, none], mu⟩) := run_at (F := F40) rfl rfl
@[simp] theorem ar40 : arOk G 40 2 = true := rfl
theorem ru41 (n : Nat) (a0 a1 : Rv) (mu : List Nd) : Mp.run G (n + 1) 41 [a0, a1] mu = outS (ex G (Mp.run G n) b41 ⟨[some a0, some a1, none, none, none, none, none, none, none], mu⟩) := run_at (F := F41) rfl rfl
@[simp] theorem ar41 : arOk G 41 2 = true := rfl
theorem ru42 (n : Nat) (a0 a1 a2 : Rv) (mu : List Nd) : Mp.run G (n + 1) 42 [a0, a1, a2] mu = outS (ex G (Mp.run G n) b42 ⟨[some a0, some a1, some a2, none, none, none, none, none, none, none], mu⟩) := run_at (F := F42) rfl rfl
@[simp] theorem ar42 : arOk G 42 3 = true := rfl
theorem ru43 (n : Nat) (a0 a1 : Rv) (mu : List Nd) : Mp.run G (n + 1) 43 [a0, a1] mu = outS (ex G (Mp.run G n) b43 ⟨[some a0, some a1, none, none, none, none, none], mu⟩) := run_at (F := F43) rfl rfl
@[simp] theorem ar43 : arOk G 43 2 = true := rfl
theorem ru44 (n : Nat) (a0 a1 : Rv) (mu : List Nd) : Mp.run G (n + 1) 44 [a0, a1] mu = outS (ex G (Mp.run G n) b44 ⟨[some a0, some a1, none, none, none, none, none, none, none, none], mu⟩) := run_at (F := F44) rfl rfl
@[simp] theorem ar44 : arOk G 44 2 = true := rfl
theorem ru45 (n : Nat) (a0 : Rv) (mu : List Nd) : Mp.run G (n + 1) 45 [a0] mu = outS (ex G (Mp.run G n) b45 ⟨[some a0, none, none, none, none, none, none, none], mu⟩) := run_at (F := F45) rfl rfl
@[simp] theorem ar45 : arOk G 45 1 = true := rfl
theorem ru46 (n : Nat) (a0 a1 a2 a3 a4 : Rv) (mu : List Nd) : Mp.run G (n + 1) 46 [a0, a1, a2, a3, a4] mu = outS (ex G (Mp.run G n) b46 ⟨[some a0, some a1, some a2, some a3, some a4, none, none], mu⟩) := run_at (F := F46) rfl rfl
@[simp] theorem ar46 : arOk G 46 5 = true := rfl
theorem ru47 (n : Nat) (a0 a1 : Rv) (mu : List Nd) : Mp.run G (n + 1) 47 [a0, a1] mu = outS (ex G (Mp.run G n) b47 ⟨[some a0, some a1, none, none, none, none], mu⟩) := run_at (F := F47) rfl rfl
@[simp] theorem ar47 : arOk G 47 2 = true := rfl
theorem ru48 (n : Nat) (a0 : Rv) (mu : List Nd) : Mp.run G (n + 1) 48 [a0] mu = outS (ex G (Mp.run G n) b48 ⟨[some a0, none, none, none, none, none, none, none, none, none, none, none, none], mu⟩) := run_at (F := F48) rfl rfl
@[simp] theorem ar48 : arOk G 48 1 = true := rfl
@[simp] theorem me0_2 : methOf G 0 2 = some 1 := rfl
@[simp] theorem me0_1 : methOf G 0 1 = some 2 := rfl
@[simp] theorem me0_12 : methOf G 0 12 = some 3 := rfl
@[simp] theorem me0_9 : methOf G 0 9 = some 4 := rfl
@[simp] theorem me0_13 : methOf G 0 13 = some 5 := rfl
@[simp] theorem me0_7 : methOf G 0 7 = some 6 := rfl
@[simp] theorem at0_0 : attOk G 0 0 = true := rfl
@[simp] theorem is0_0 (ns : List Nat) (vs : List Mp.D) : isiF G (.cls 0) (.obj 0 ns vs) = some true := rfl
@[simp] theorem is0_1 (ns : List Nat) (vs : List Mp.D) : isiF G (.cls 1) (.obj 0 ns vs) = some false := rfl
@[simp] theorem is0_2 (ns : List Nat) (vs : List Mp.D) : isiF G (.cls 2) (.obj 0 ns vs) = some false := rfl
@[simp] theorem is0_3 (ns : List Nat) (vs : List Mp.D) : isiF G (.cls 3) (.obj 0 ns vs) = some false := rfl
@[simp] theorem is0_4 (ns : List Nat) (vs : List Mp.D) : isiF G (.cls 4) (.obj 0 ns vs) = some false := rfl
@[simp] theorem is0_5 (ns : List Nat) (vs : List Mp.D) : isiF G (.cls 5) (.obj 0 ns vs) = some false := rfl
@[simp] theorem is0_6 (ns : List Nat) (vs : List Mp.D) : isiF G (.cls 6) (.obj 0 ns vs) = some false := rfl
@[simp] theorem me1_1 : methOf G 1 1 = some 7 := rfl
@[simp] theorem me1_12 : methOf G 1 12 = some 8 := rfl
@[simp] theorem me1_9 : methOf G 1 9 = some 9 := rfl
@[simp] theorem me1_13 : methOf G 1 13 = some 10 := rfl
@[simp] theorem me1_7 : methOf G 1 7 = some 6 := rfl
@[simp] theorem at1_0 : attOk G 1 0 = true := rfl
@[simp] theorem is1_0 (ns : List Nat) (vs : List Mp.D) : isiF G (.cls 0) (.obj 1 ns vs) = some true := rfl
@[simp] theorem is1_1 (ns : List Nat) (vs : List Mp.D) : isiF G (.cls 1) (.obj 1 ns vs) = some true := rfl
@[simp] theorem is1_2 (ns : List Nat) (vs : List Mp.D) : isiF G (.cls 2) (.obj 1 ns vs) = some false := rfl
@[simp] theorem is1_3 (ns : List Nat) (vs : List Mp.D) : isiF G (.cls 3) (.obj 1 ns vs) = some false := rfl
@[simp] theorem is1_4 (ns : List Nat) (vs : List Mp.D) : isiF G (.cls 4) (.obj 1 ns vs) = some false := rfl
@[simp] theorem is1_5 (ns : List Nat) (vs : List Mp.D) : isiF G (.cls 5) (.obj 1 ns vs) = some false := rfl
@[simp] theorem is1_6 (ns : List Nat) (vs : List Mp.D) : isiF G (.cls 6) (.obj 1 ns vs) = some false := rfl
@[simp] theorem me2_1 : methOf G 2 1 = some 11 := rfl
@[simp] theorem me2_12 : methOf G 2 12 = some 3 := rfl
@[simp] theorem me2_9 : methOf G 2 9 = some 12 := rfl
@[simp] theorem me2_13 : methOf G 2 13 = some 13 := rfl
@[simp] theorem me2_7 : methOf G 2 7 = some 6 := rfl
@[simp] theorem at2_0 : attOk G 2 0 = true := rfl
@[simp] theorem is2_0 (ns : List Nat) (vs : List Mp.D) : isiF G (.cls 0) (.obj 2 ns vs) = some true := rfl
@[simp] theorem is2_1 (ns : List Nat) (vs : List Mp.D) : isiF G (.cls 1) (.obj 2 ns vs) = some false := rfl
@[simp] theorem is2_2 (ns : List Nat) (vs : List Mp.D) : isiF G (.cls 2) (.obj 2 ns vs) = some true := rfl
@[simp] theorem is2_3 (ns : List Nat) (vs : List Mp.D) : isiF G (.cls 3) (.obj 2 ns vs) = some false := rfl
@[simp] theorem is2_4 (ns : List Nat) (vs : List Mp.D) : isiF G (.cls 4) (.obj 2 ns vs) = some false := rfl
@[simp] theorem is2_5 (ns : List Nat) (vs : List Mp.D) : isiF G (.cls 5) (.obj 2 ns vs) = some false := rfl
@[simp] theorem is2_6 (ns : List Nat) (vs : List Mp.D) : isiF G (.cls 6) (.obj 2 ns vs) = some false := rfl
@[simp] theorem me3_1 : methOf G 3 1 = some 2 := rfl
@[simp] theorem me3_12 : methOf G 3 12 = some 3 := rfl
@[simp] theorem me3_9 : methOf G 3 9 = some 4 := rfl
@[simp] theorem me3_13 : methOf G 3 13 = some 5 := rfl
@[simp] theorem me3_7 : methOf G 3 7 = some 6 := rfl
@[simp] theorem at3_0 : attOk G 3 0 = true := rfl
@[simp] theorem is3_0 (ns : List Nat) (vs : List Mp.D) : isiF G (.cls 0) (.obj 3 ns vs) = some true := rfl
@[simp] theorem is3_1 (ns : List Nat) (vs : List Mp.D) : isiF G (.cls 1) (.obj 3 ns vs) = some false := rfl
@[simp] theorem is3_2 (ns : List Nat) (vs : List Mp.D) : isiF G (.cls 2) (.obj 3 ns vs) = some false := rfl
@[simp] theorem is3_3 (ns : List Nat) (vs : List Mp.D) : isiF G (.cls 3) (.obj 3 ns vs) = some true := rfl
@[simp] theorem is3_4 (ns : List Nat) (vs : List Mp.D) : isiF G (.cls 4) (.obj 3 ns vs) = some false := rfl
@[simp] theorem is3_5 (ns : List Nat) (vs : List Mp.D) : isiF G (.cls 5) (.obj 3 ns vs) = some false := rfl
@[simp] theorem is3_6 (ns : List Nat) (vs : List Mp.D) : isiF G (.cls 6) (.obj 3 ns vs) = some false := rfl
@[simp] theorem me4_1 : methOf G 4 1 = some 16 := rfl
@[simp] theorem me4_12 : methOf G 4 12 = some 17 := rfl
@[simp] theorem me4_9 : methOf G 4 9 = some 4 := rfl
@[simp] theorem me4_13 : methOf G 4 13 = some 5 := rfl
@[simp] theorem me4_7 : methOf G 4 7 = some 6 := rfl
@[simp] theorem at4_0 : attOk G 4 0 = true := rfl
@[simp] theorem is4_0 (ns : List Nat) (vs : List Mp.D) : isiF G (.cls 0) (.obj 4 ns vs) = some true := rfl
@[simp] theorem is4_1 (ns : List Nat) (vs : List Mp.D) : isiF G (.cls 1) (.obj 4 ns vs) = some false := rfl
@[simp] theorem is4_2 (ns : List Nat) (vs : List Mp.D) : isiF G (.cls 2) (.obj 4 ns vs) = some false := rfl
@[simp] theorem is4_3 (ns : List Nat) (vs : List Mp.D) : isiF G (.cls 3) (.obj 4 ns vs) = some false := rfl
@[simp] theorem is4_4 (ns : List Nat) (vs : List Mp.D) : isiF G (.cls 4) (.obj 4 ns vs) = some true := rfl
@[simp] theorem is4_5 (ns : List Nat) (vs : List Mp.D) : isiF G (.cls 5) (.obj 4 ns vs) = some false := rfl
@[simp] theorem is4_6 (ns : List Nat) (vs : List Mp.D) : isiF G (.cls 6) (.obj 4 ns vs) = some false := rfl
@[simp] theorem me5_6 : methOf G 5 6 = some 26 := rfl
@[simp] theorem me5_4 : methOf G 5 4 = some 27 := rfl
@[simp] theorem me5_8 : methOf G 5 8 = some 28 := rfl
@[simp] theorem me5_11 : methOf G 5 11 = some 29 := rfl
@[simp] theorem me5_10 : methOf G 5 10 = some 30 := rfl
@[simp] theorem me5_7 : methOf G 5 7 = some 31 := rfl
@[simp] theorem me5_14 : methOf G 5 14 = some 32 := rfl
@[simp] theorem me5_15 : methOf G 5 15 = some 33 := rfl
@[simp] theorem at5_3 : attOk G 5 3 = true := rfl
@[simp] theorem at5_5 : attOk G 5 5 = true := rfl
@[simp] theorem is5_0 (ns : List Nat) (vs : List Mp.D) : isiF G (.cls 0) (.obj 5 ns vs) = some false := rfl
@[simp] theorem is5_1 (ns : List Nat) (vs : List Mp.D) : isiF G (.cls 1) (.obj 5 ns vs) = some false := rfl
@[simp] theorem is5_2 (ns : List Nat) (vs : List Mp.D) : isiF G (.cls 2) (.obj 5 ns vs) = some false := rfl
@[simp] theorem is5_3 (ns : List Nat) (vs : List Mp.D) : isiF G (.cls 3) (.obj 5 ns vs) = some false := rfl
@[simp] theorem is5_4 (ns : List Nat) (vs : List Mp.D) : isiF G (.cls 4) (.obj 5 ns vs) = some false := rfl
@[simp] theorem is5_5 (ns : List Nat) (vs : List Mp.D) : isiF G (.cls 5) (.obj 5 ns vs) = some true := rfl
@[simp] theorem is5_6 (ns : List Nat) (vs : List Mp.D) : isiF G (.cls 6) (.obj 5 ns vs) = some false := rfl
@[simp] theorem me6_6 : methOf G 6 6 = some 34 := rfl
@[simp] theorem me6_4 : methOf G 6 4 = some 27 := rfl
@[simp] theorem me6_8 : methOf G 6 8 = some 28 := rfl
@[simp] theorem me6_11 : methOf G 6 11 = some 29 := rfl
@[simp] theorem me6_10 : methOf G 6 10 = some 30 := rfl
@[simp] theorem me6_7 : methOf G 6 7 = some 31 := rfl
@[simp] theorem me6_14 : methOf G 6 14 = some 32 := rfl
@[simp] theorem me6_15 : methOf G 6 15 = some 33 := rfl
@[simp] theorem at6_3 : attOk G 6 3 = true := rfl
@[simp] theorem at6_5 : attOk G 6 5 = true := rfl
@[simp] theorem is6_0 (ns : List Nat) (vs : List Mp.D) : isiF G (.cls 0) (.obj 6 ns vs) = some false := rfl
@[simp] theorem is6_1 (ns : List Nat) (vs : List Mp.D) : isiF G (.cls 1) (.obj 6 ns vs) = some false := rfl
@[simp] theorem is6_2 (ns : List Nat) (vs : List Mp.D) : isiF G (.cls 2) (.obj 6 ns vs) = some false := rfl
@[simp] theorem is6_3 (ns : List Nat) (vs : List Mp.D) : isiF G (.cls 3) (.obj 6 ns vs) = some false := rfl
@[simp] theorem is6_4 (ns : List Nat) (vs : List Mp.D) : isiF G (.cls 4) (.obj 6 ns vs) = some false := rfl
@[simp] theorem is6_5 (ns : List Nat) (vs : List Mp.D) : isiF G (.cls 5) (.obj 6 ns vs) = some true := rfl
@[simp] theorem is6_6 (ns : List Nat) (vs : List Mp.D) : isiF G (.cls 6) (.obj 6 ns vs) = some true := rfl
def loose : List Str := [("_wall" : Str), ("Door" : Str), ("Must" : Str), ("May" : Str), ("Shut" : Str), ("Torn" : Str), ("door_of" : Str), ("HallError" : Str), ("BadPlan" : Str), ("MOST" : Str), ("is_name" : Str), ("is_actions" : Str), ("is_room" : Str), ("is_told" : Str), ("made_door" : Str), ("Draft" : Str), ("Plan" : Str), ("mark_of" : Str), ("parted" : Str), ("classes" : Str), ("_law_cell_at" : Str), ("_law_whole" : Str), ("_law_mixed" : Str), ("_law_actions" : Str), ("_law_rows" : Str), ("_law_kinds" : Str), ("_law_blown" : Str), ("_law_apart" : Str), ("_law_leads" : Str), ("_law_right" : Str)]
theorem tx : txsB G fre G.fns dl = true := by decide +kernel
theorem bas : BAs G.fns dl := ⟨fun _ _ _ _ _ _ us hl => match us, hl with | [_], _ => rfl, ⟨fun _ _ _ _ _ _ us hl => match us, hl with | [_, _], _ => rfl, ⟨fun _ _ _ _ _ _ us hl => match us, hl with | [_], _ => rfl, ⟨fun _ _ _ _ _ _ us hl => match us, hl with | [_], _ => rfl, ⟨fun _ _ _ _ _ _ us hl => match us, hl with | [_], _ => rfl, ⟨fun _ _ _ _ _ _ us hl => match us, hl with | [_, _], _ => rfl, ⟨fun _ _ _ _ _ _ us hl => match us, hl with | [_], _ => rfl, ⟨fun _ _ _ _ _ _ us hl => match us, hl with | [_], _ => rfl, ⟨fun _ _ _ _ _ _ us hl => match us, hl with | [_], _ => rfl, ⟨fun _ _ _ _ _ _ us hl => match us, hl with | [_], _ => rfl, ⟨fun _ _ _ _ _ _ us hl => match us, hl with | [_, _], _ => rfl, ⟨fun _ _ _ _ _ _ us hl => match us, hl with | [_], _ => rfl, ⟨fun _ _ _ _ _ _ us hl => match us, hl with | [_], _ => rfl, ⟨fun _ _ _ _ _ _ us hl => match us, hl with | [_, _], _ => rfl, ⟨fun _ _ _ _ _ _ us hl => match us, hl with | [_], _ => rfl, ⟨fun _ _ _ _ _ _ us hl => match us, hl with | [_], _ => rfl, ⟨fun _ _ _ _ _ _ us hl => match us, hl with | [_], _ => rfl, ⟨fun _ _ _ _ _ _ us hl => match us, hl with | [_], _ => rfl, ⟨fun _ _ _ _ _ _ us hl => match us, hl with | [_, _, _], _ => rfl, ⟨fun _ _ _ _ _ _ us hl => match us, hl with | [_, _, _], _ => rfl, ⟨fun _ _ _ _ _ _ us hl => match us, hl with | [_], _ => rfl, ⟨fun _ _ _ _ _ _ us hl => match us, hl with | [_], _ => rfl, ⟨fun _ _ _ _ _ _ us hl => match us, hl with | [_, _], _ => rfl, ⟨fun _ _ _ _ _ _ us hl => match us, hl with | [_, _, _], _ => rfl, ⟨fun _ _ _ _ _ _ us hl => match us, hl with | [_], _ => rfl, ⟨fun _ _ _ _ _ _ us hl => match us, hl with | [_, _, _], _ => rfl, ⟨fun _ _ _ _ _ _ us hl => match us, hl with | [_], _ => rfl, ⟨fun _ _ _ _ _ _ us hl => match us, hl with | [_, _, _, _], _ => rfl, ⟨fun _ _ _ _ _ _ us hl => match us, hl with | [_], _ => rfl, ⟨fun _ _ _ _ _ _ us hl => match us, hl with | [_], _ => rfl, ⟨fun _ _ _ _ _ _ us hl => match us, hl with | [_, _, _], _ => rfl, ⟨fun _ _ _ _ _ _ us hl => match us, hl with | [_], _ => rfl, ⟨fun _ _ _ _ _ _ us hl => match us, hl with | [_, _], _ => rfl, ⟨fun _ _ _ _ _ _ us hl => match us, hl with | [_], _ => rfl, ⟨fun _ _ _ _ _ _ us hl => match us, hl with | [_], _ => rfl, ⟨fun _ _ _ _ _ _ us hl => match us, hl with | [_, _, _], _ => rfl, ⟨fun _ _ _ _ _ _ us hl => match us, hl with | [_, _], _ => rfl, ⟨fun _ _ _ _ _ _ us hl => match us, hl with | [_], _ => rfl, ⟨fun _ _ _ _ _ _ us hl => match us, hl with | [_, _], _ => rfl, ⟨fun _ _ _ _ _ _ us hl => match us, hl with | [_], _ => rfl, ⟨fun _ _ _ _ _ _ us hl => match us, hl with | [_, _], _ => rfl, ⟨fun _ _ _ _ _ _ us hl => match us, hl with | [_, _], _ => rfl, ⟨fun _ _ _ _ _ _ us hl => match us, hl with | [_, _, _], _ => rfl, ⟨fun _ _ _ _ _ _ us hl => match us, hl with | [_, _], _ => rfl, ⟨fun _ _ _ _ _ _ us hl => match us, hl with | [_, _], _ => rfl, ⟨fun _ _ _ _ _ _ us hl => match us, hl with | [_], _ => rfl, ⟨fun _ _ _ _ _ _ us hl => match us, hl with | [_, _, _, _, _], _ => rfl, ⟨fun _ _ _ _ _ _ us hl => match us, hl with | [_, _], _ => rfl, ⟨fun _ _ _ _ _ _ us hl => match us, hl with | [_], _ => rfl, trivial⟩⟩⟩⟩⟩⟩⟩⟩⟩⟩⟩⟩⟩⟩⟩⟩⟩⟩⟩⟩⟩⟩⟩⟩⟩⟩⟩⟩⟩⟩⟩⟩⟩⟩⟩⟩⟩⟩⟩⟩⟩⟩⟩⟩⟩⟩⟩⟩⟩
abbrev R : PySem.W.OpenRow := PySem.W.OpenLaw.row PySem.Challenge.rw_mustmay_k22_rooms_alike
abbrev hk : PySem.W.Hook := hookM 5 G fre dl
def ob (s : PySem.W.SharedT) : Bool × List He.FnW := obM 5 G fre dl (HandSHeadRun.getT s)
theorem ob_eq (s : PySem.W.SharedT) : ob s = hk.obs s.abs := obM_eq (HandSHeadRun.getT_eq s)
theorem run (w : World) : HandSHeadRun.RunEq R (PySem.W.view R.prog [35]) hk ob 16000 loose w := by
  intro os
  kernel_rfl
/-! the program's plans, by values -/
/-- a door as it is told -/
inductive Dr where
  | must (t : Nat) | may (t : Nat) | shut | torn
def tD : Dr → Mp.D
  | .must t => .tup [.str "must", .int (t : Int)]
  | .may t => .tup [.str "may", .int (t : Int)]
  | .shut => .tup [.str "shut", .non]
  | .torn => .tup [.str "torn", .non]
def oD : Dr → Mp.D
  | .must t => .obj 1 [0] [.int (t : Int)]
  | .may t => .obj 2 [0] [.int (t : Int)]
  | .shut => .obj 3 [0] [.non]
  | .torn => .obj 4 [0] [.non]
def Dr.ok (m : Nat) : Dr → Bool
  | .must t => decide (t < m)
  | .may t => decide (t < m)
  | _ => true
def nmOk (z : Str) : Bool := (decide (1 ≤ z.length) && decide (z.length ≤ 8)) && z.cps.toList.all fun c => decide (97 ≤ c) && decide (c ≤ 122)
theorem sl_big : 3000 ≤ sizeLine := by rw [sizeLine_eq]; decide
theorem letter0 : ∀ i : Fin 26, (!(Builtin.Str.occurrences (Str.ofString "abcdefghijklmnopqrstuvwxyz") ⟨#[97 + i.val]⟩ 0 (Str.ofString "abcdefghijklmnopqrstuvwxyz").length 1).isEmpty) = true := by decide +kernel
theorem letter (i : Fin 26) : o2F .isin (.str ⟨#[97 + i.val]⟩) (.str "abcdefghijklmnopqrstuvwxyz") = some (.d (.bl true)) := by
  show some (Rv.d (Mp.D.bl _)) = _
  rw [letter0 i]
theorem p_name (n : Nat) (z : Str) (h : nmOk z = true) : Mp.run G (n + 1) 20 [.d (.str z)] [] = .ok (.d (.bl true)) [] := by
  obtain ⟨h1, h2⟩ := ba h
  obtain ⟨h0, h1⟩ := ba h1
  have h0 := of_decide_eq_true h0
  have h1 := of_decide_eq_true h1
  have hz : z.length ≤ sizeLine := by have := sl_big; omega
  rw [run_at (F := F20) rfl rfl]
  have el : ev G (Mp.run G n) (.bis .len 0) ⟨[some (.d (.str z)), none], []⟩ = .ok [.d (.int (z.length : Int))] ⟨[some (.d (.str z)), none], []⟩ := by simp [ev, peek, biF, hz, ofO]
  have e1 : ev G (Mp.run G n) (.or (.no (.isi (.nm 0) .str)) (.or (.o2 .lt (.bis .len 0) (.int 1)) (.la (.o2 .gt (.bis .len 0) (.int 8))))) ⟨[some (.d (.str z)), none], []⟩ = .ok [.d (.bl false)] ⟨[some (.d (.str z)), none], []⟩ := by
    rw [ev_or_f (s' := ⟨[some (.d (.str z)), none], []⟩) (by kernel_rfl), ev_or_f (ev_o2 el rfl (r := .d (.bl false)) (by simp [o2F]; omega)), ev_la]
    exact ev_o2 el rfl (by simp [o2F]; omega)
  have e2 := ev_comp (Γ := G) (rec := Mp.run G n) (el := .o2 .isin (.nm 1) (.str "abcdefghijklmnopqrstuvwxyz")) (i := 1) (g := fun _ => .bl true) (o := none) (ev_ps (a := .nm 0) (s := ⟨[some (.d (.str z)), none], []⟩) rfl) rfl (fun x e => by cases e) (by simp; have := sl_big; have e : z.cps.size = z.length := rfl; omega) (fun d hd => by
    obtain ⟨c, hc, rfl⟩ := List.mem_map.mp hd
    obtain ⟨c1, c2⟩ := ba (List.all_eq_true.mp h2 c hc)
    have c1 := of_decide_eq_true c1
    have c2 := of_decide_eq_true c2
    have := letter ⟨c - 97, by omega⟩
    rw [show 97 + (⟨c - 97, by omega⟩ : Fin 26).val = c by simp; omega] at this
    exact ⟨.d (.bl true), ev_o2 rfl rfl this, rfl⟩)
  have e3 : ev G (Mp.run G n) (.bi .all (.cons (.comp (.o2 .isin (.nm 1) (.str "abcdefghijklmnopqrstuvwxyz")) [1] (.ps (.nm 0)) (.bl true)) .nil)) ⟨[some (.d (.str z)), none], []⟩ = .ok [.d (.bl true)] ⟨[some (.d (.str z)), none], []⟩ := by
    refine ev_bi (ds := [.lst ((z.cps.toList.map fun c => Mp.D.str ⟨#[c]⟩).map fun _ => .bl true)]) (ev_cons e2 ev_nil) ?_
    have q := bools_all (bs := (z.cps.toList.map fun c => Mp.D.str ⟨#[c]⟩).map fun _ => true)
    rw [List.map_map] at q
    show (bools _).map _ = _
    rw [show ((z.cps.toList.map fun c => Mp.D.str ⟨#[c]⟩).map fun _ => Mp.D.bl true) = ((z.cps.toList.map fun c => Mp.D.str ⟨#[c]⟩).map (Mp.D.bl ∘ fun _ => true)) from rfl, q]
    simp
  exact (congrArg outS ((seq_nx (v := .seq (.ret _) .skip) ((ex_iff e1).trans rfl)).trans (seq_rt (ex_ret e3)))).trans rfl
theorem p_room (n t m : Nat) (h : t < m) : Mp.run G (n + 1) 22 [.d (.int (t : Int)), .d (.int (m : Int))] [] = .ok (.d (.bl true)) [] := by
  rw [run_at (F := F22) rfl rfl]
  have e : ev G (Mp.run G n) (.an (.isi (.nm 0) .int) (.an (.no (.isi (.nm 0) .bool)) (.la (.ch .le .lt (.int 0) (.nm 0) (.nm 1))))) ⟨[some (.d (.int (t : Int))), some (.d (.int (m : Int)))], []⟩ = .ok [.d (.bl true)] ⟨[some (.d (.int (t : Int))), some (.d (.int (m : Int)))], []⟩ := by
    rw [ev_an_t (s' := ⟨[some (.d (.int (t : Int))), some (.d (.int (m : Int)))], []⟩) (by kernel_rfl), ev_an_t (s' := ⟨[some (.d (.int (t : Int))), some (.d (.int (m : Int)))], []⟩) (by kernel_rfl), ev_la]
    exact ev_ch_t rfl rfl (by simp [o2F]) rfl (by simp [o2F]; omega)
  exact (congrArg outS (seq_rt (ex_ret e))).trans rfl
/-- the words of a kind of plan -/
def wdD : Dr → Str
  | .must _ => "must"
  | .may _ => "may"
  | .shut => "shut"
  | .torn => "torn"
def toD : Dr → Mp.D
  | .must t => .int (t : Int)
  | .may t => .int (t : Int)
  | _ => .non
theorem tD_eq (d : Dr) : tD d = .tup [.str (wdD d), toD d] := by cases d <;> rfl
theorem p_told (n m : Nat) (ws : List Mp.D) (d : Dr) (hw : o2F .ntin (.str (wdD d)) (.lst ws) = some (.d (.bl false))) (ok : d.ok m = true) : Mp.run G (n + 2) 23 [.d (tD d), .d (.int (m : Int)), .d (.lst ws)] [] = .ok (.d (.bl true)) [] := by
  rw [run_at (F := F23) rfl rfl]
  have e1 : ev G (Mp.run G (n + 1)) (.or (.no (.isi (.nm 0) .tuple)) (.or (.o2 .ne (.bis .len 0) (.int 2)) (.or (.no (.isi (.subs 0 (.int 0)) .str)) (.la (.ins true (.subs 0 (.int 0)) 2))))) ⟨[some (.d (tD d)), some (.d (.int (m : Int))), some (.d (.lst ws))], []⟩ = .ok [.d (.bl false)] ⟨[some (.d (tD d)), some (.d (.int (m : Int))), some (.d (.lst ws))], []⟩ := by
    rw [tD_eq]
    rw [ev_or_f (s' := ⟨[some (.d (.tup [.str (wdD d), toD d])), some (.d (.int (m : Int))), some (.d (.lst ws))], []⟩) (by kernel_rfl), ev_or_f (s' := ⟨[some (.d (.tup [.str (wdD d), toD d])), some (.d (.int (m : Int))), some (.d (.lst ws))], []⟩) (by kernel_rfl), ev_or_f (s' := ⟨[some (.d (.tup [.str (wdD d), toD d])), some (.d (.int (m : Int))), some (.d (.lst ws))], []⟩) (by kernel_rfl), ev_la]
    exact ev_ins (x := .str (wdD d)) (by kernel_rfl) rfl hw
  show outS (ex G (Mp.run G (n + 1)) (.seq (.ifs _ _ .skip) (.seq (.ifs _ (.seq (.ret _) .skip) .skip) (.seq (.ret _) .skip))) ⟨[some (.d (tD d)), some (.d (.int (m : Int))), some (.d (.lst ws))], []⟩) = _
  refine (congrArg outS (seq_nx ((ex_iff e1).trans rfl))).trans ?_
  cases d with
  | must t =>
    have ok : t < m := of_decide_eq_true ok
    exact (congrArg outS (seq_rt ((ex_ift (s' := ⟨[some (.d (tD (.must t))), some (.d (.int (m : Int))), some (.d (.lst ws))], []⟩) (by kernel_rfl)).trans (seq_rt (ex_ret (ev_callb (s' := ⟨[some (.d (tD (.must t))), some (.d (.int (m : Int))), some (.d (.lst ws))], []⟩) (rs := [.d (.int (t : Int)), .m 1]) (ds := [.int (t : Int), .int (m : Int)]) (by kernel_rfl) rfl rfl (p_room n t m ok) rfl)))))).trans rfl
  | may t =>
    have ok : t < m := of_decide_eq_true ok
    exact (congrArg outS (seq_rt ((ex_ift (s' := ⟨[some (.d (tD (.may t))), some (.d (.int (m : Int))), some (.d (.lst ws))], []⟩) (by kernel_rfl)).trans (seq_rt (ex_ret (ev_callb (s' := ⟨[some (.d (tD (.may t))), some (.d (.int (m : Int))), some (.d (.lst ws))], []⟩) (rs := [.d (.int (t : Int)), .m 1]) (ds := [.int (t : Int), .int (m : Int)]) (by kernel_rfl) rfl rfl (p_room n t m ok) rfl)))))).trans rfl
  | shut => exact (congrArg outS (seq_nx ((ex_iff (s' := ⟨[some (.d (tD .shut)), some (.d (.int (m : Int))), some (.d (.lst ws))], []⟩) (by kernel_rfl)).trans rfl))).trans (by kernel_rfl)
  | torn => exact (congrArg outS (seq_nx ((ex_iff (s' := ⟨[some (.d (tD .torn)), some (.d (.int (m : Int))), some (.d (.lst ws))], []⟩) (by kernel_rfl)).trans rfl))).trans (by kernel_rfl)
theorem p_made (n : Nat) (d : Dr) : Mp.run G (n + 5) 24 [.d (tD d)] [] = .ok (.d (oD d)) [] := by cases d <;> kernel_rfl
theorem p_actions (n : Nat) (ns : List Str) (h : ns.all nmOk = true) (h1 : 1 ≤ ns.length) (h8 : ns.length ≤ 8) (hd : ns.Nodup) : Mp.run G (n + 2) 21 [.d (.lst (ns.map .str))] [] = .ok (.d (.bl true)) [] := by
  rw [run_at (F := F21) rfl rfl]
  have hz : ns.length ≤ sizeLine := by have := sl_big; omega
  have el : ev G (Mp.run G (n + 1)) (.bis .len 0) ⟨[some (.d (.lst (ns.map .str))), none], []⟩ = .ok [.d (.int (ns.length : Int))] ⟨[some (.d (.lst (ns.map .str))), none], []⟩ := by simp [ev, peek, biF, ofO]
  have e1 : ev G (Mp.run G (n + 1)) (.or (.no (.isi (.nm 0) .list)) (.or (.o2 .lt (.bis .len 0) (.int 1)) (.la (.o2 .gt (.bis .len 0) (.int 8))))) ⟨[some (.d (.lst (ns.map .str))), none], []⟩ = .ok [.d (.bl false)] ⟨[some (.d (.lst (ns.map .str))), none], []⟩ := by
    rw [ev_or_f (s' := ⟨[some (.d (.lst (ns.map .str))), none], []⟩) (by kernel_rfl), ev_or_f (ev_o2 el rfl (r := .d (.bl false)) (by simp [o2F]; omega)), ev_la]
    exact ev_o2 el rfl (by simp [o2F]; omega)
  have e2 := ev_comp (Γ := G) (rec := Mp.run G (n + 1)) (el := .callb 20 (.consp 1 .nil)) (i := 1) (g := fun _ => .bl true) (o := none) (ev_pl (a := .nm 0) (s := ⟨[some (.d (.lst (ns.map .str))), none], []⟩) rfl) rfl (fun x e => by cases e) (by simpa using hz) (fun d hd => by
    obtain ⟨c, hc, rfl⟩ := List.mem_map.mp hd
    exact ⟨.d (.bl true), ev_callb (rs := [.m 1]) (ds := [.str c]) rfl rfl rfl (p_name n c (List.all_eq_true.mp h c hc)) rfl, rfl⟩)
  have e3 : ev G (Mp.run G (n + 1)) (.bi .all (.cons (.comp (.callb 20 (.consp 1 .nil)) [1] (.pl (.nm 0)) (.bl true)) .nil)) ⟨[some (.d (.lst (ns.map .str))), none], []⟩ = .ok [.d (.bl true)] ⟨[some (.d (.lst (ns.map .str))), none], []⟩ := by
    refine ev_bi (ds := [.lst ((ns.map Mp.D.str).map fun _ => .bl true)]) (ev_cons e2 ev_nil) ?_
    have q := bools_all (bs := (ns.map Mp.D.str).map fun _ => true)
    rw [List.map_map] at q
    show (bools _).map _ = _
    rw [show ((ns.map Mp.D.str).map fun _ => Mp.D.bl true) = ((ns.map Mp.D.str).map (Mp.D.bl ∘ fun _ => true)) from rfl, q]
    simp
  have e4 : ev G (Mp.run G (n + 1)) (.la (.o2 .eq (.sl (.nm 0)) (.bis .len 0))) ⟨[some (.d (.lst (ns.map .str))), none], []⟩ = .ok [.d (.bl true)] ⟨[some (.d (.lst (ns.map .str))), none], []⟩ := by
    rw [ev_la]
    have es : ev G (Mp.run G (n + 1)) (.sl (.nm 0)) ⟨[some (.d (.lst (ns.map .str))), none], []⟩ = .ok [.d (.int (ns.length : Int))] ⟨[some (.d (.lst (ns.map .str))), none], []⟩ := by
      simp [ev, oneD, Out.bind, lsD, strsD_strs, dedup_nodup hd]
      omega
    exact ev_o2 es el (by rw [o2_eqI]; simp)
  exact (congrArg outS ((seq_nx (v := .seq (.ret _) .skip) ((ex_iff e1).trans rfl)).trans (seq_rt (ex_ret ((ev_an_t e3).trans e4))))).trans rfl
/-! a plan made -/
def wsD : List Mp.D := [.str "must", .str "may", .str "shut"]
theorem ws_in (d : Dr) (h : d ≠ .torn) : o2F .ntin (.str (wdD d)) (.lst wsD) = some (.d (.bl false)) := by
  cases d <;> first | exact absurd rfl (h : _ ≠ _) | kernel_rfl
/-- the store while it is made -/
abbrev mS (ns : List Str) (q : List Rv) : List Nd := [.obj 6 [5, 3] [.d (.lst (ns.map .str)), .m 1], .lst q]
theorem p_roomof (n m i : Nat) (ns : List Str) (q : List Rv) (row : List Dr) (hl : row.length = ns.length) (hs : row.length ≤ 3000) (ok : ∀ d ∈ row, d.ok m = true) (hw : ∀ d ∈ row, o2F .ntin (.str (wdD d)) (.lst wsD) = some (.d (.bl false))) :
    Mp.run G (n + 6) 27 [.m 0, .d (.int (i : Int)), .d (.lst (row.map tD)), .d (.int (m : Int))] (mS ns q) = .ok (.o (.lst (row.map oD))) (mS ns q) := by
  rw [run_at (F := F27) rfl rfl]
  have e1 : ev G (Mp.run G (n + 5)) (.or (.no (.isi (.nm 2) .list)) (.la (.o2 .ne (.bis .len 2) (.bi .len (.cons (.attr (.nm 0) 5) .nil))))) ⟨[some (.m 0), some (.d (.int (i : Int))), some (.d (.lst (row.map tD))), some (.d (.int (m : Int))), none, none, none], mS ns q⟩ = .ok [.d (.bl false)] ⟨[some (.m 0), some (.d (.int (i : Int))), some (.d (.lst (row.map tD))), some (.d (.int (m : Int))), none, none, none], mS ns q⟩ := by
    rw [ev_or_f (s' := ⟨[some (.m 0), some (.d (.int (i : Int))), some (.d (.lst (row.map tD))), some (.d (.int (m : Int))), none, none, none], mS ns q⟩) (by kernel_rfl), ev_la]
    exact ev_o2 (x := .int ((row.map tD).length : Int)) (s1 := ⟨[some (.m 0), some (.d (.int (i : Int))), some (.d (.lst (row.map tD))), some (.d (.int (m : Int))), none, none, none], mS ns q⟩) (by kernel_rfl) (y := .int ((ns.map Mp.D.str).length : Int)) (s2 := ⟨[some (.m 0), some (.d (.int (i : Int))), some (.d (.lst (row.map tD))), some (.d (.int (m : Int))), none, none, none], mS ns q⟩) (by kernel_rfl) (by rw [o2_neI]; simp [hl])
  obtain ⟨s', e2, r5, r6, h2⟩ := for_inv (f := ex G (Mp.run G (n + 5)) (match b27 with | .seq _ (.seq _ (.seq (.fors _ _ b) _)) => b | _ => .skip)) (tg := [5, 6]) (ds := enumD 0 (row.map tD)) (s := ⟨[some (.m 0), some (.d (.int (i : Int))), some (.d (.lst (row.map tD))), some (.d (.int (m : Int))), some (.o (.lst [])), none, none], mS ns q⟩)
    (I := fun k s => ∃ r5 r6, s = ⟨[some (.m 0), some (.d (.int (i : Int))), some (.d (.lst (row.map tD))), some (.d (.int (m : Int))), some (.o (.lst ((row.take k).map oD))), r5, r6], mS ns q⟩) 0 ⟨none, none, rfl⟩ (by
    rintro k d hd s ⟨r5, r6, rfl⟩
    obtain ⟨x, hx, rfl⟩ := enumD_at hd
    rw [List.getElem?_map, Option.map_eq_some_iff] at hx
    obtain ⟨dr, hdr, rfl⟩ := hx
    have hm : dr ∈ row := List.mem_of_getElem? hdr
    have hk : k < row.length := (List.getElem?_eq_some_iff.mp hdr).1
    refine ⟨_, _, rfl, .inl ?_, some (.d (.int ((0 + k : Nat) : Int))), some (.d (tD dr)), rfl⟩
    show ex G (Mp.run G (n + 5)) (.seq (.ifs _ (.seq _ .skip) .skip) (.seq (.exp (.bms .append 4 _)) .skip)) ⟨[some (.m 0), some (.d (.int (i : Int))), some (.d (.lst (row.map tD))), some (.d (.int (m : Int))), some (.o (.lst ((row.take (0 + k)).map oD))), some (.d (.int ((0 + k : Nat) : Int))), some (.d (tD dr))], mS ns q⟩ = _
    rw [seq_nx ((ex_iff (ev_no (ev_callb (rs := [.m 6, .m 3, .d (.lst wsD)]) (ds := [tD dr, .int (m : Int), .lst wsD]) (s' := ⟨[some (.m 0), some (.d (.int (i : Int))), some (.d (.lst (row.map tD))), some (.d (.int (m : Int))), some (.o (.lst ((row.take (0 + k)).map oD))), some (.d (.int ((0 + k : Nat) : Int))), some (.d (tD dr))], mS ns q⟩) (by kernel_rfl) rfl rfl (p_told (n + 3) m wsD dr (hw dr hm) (ok dr hm)) rfl))).trans rfl)]
    rw [seq_nx (ex_exp (ev_bms (xs0 := (row.take (0 + k)).map oD) (xs := (row.take (0 + k)).map oD) (y := oD dr) rfl (ev_cons (ev_call (ds := [tD dr]) rfl rfl (p_made n dr)) ev_nil) rfl (by simp; have := sl_big; omega)))]
    show SO.nx _ = SO.nx _
    congr 3
    simp [setS, List.take_succ, hdr])
  subst h2
  have e3 : ex G (Mp.run G (n + 5)) (.fors [5, 6] (.enu (.nm 2)) (match b27 with | .seq _ (.seq _ (.seq (.fors _ _ b) _)) => b | _ => .skip)) ⟨[some (.m 0), some (.d (.int (i : Int))), some (.d (.lst (row.map tD))), some (.d (.int (m : Int))), some (.o (.lst [])), none, none], mS ns q⟩ = _ := (ex_fors (ev_enu rfl)).trans e2
  refine (congrArg outS ((seq_nx (v := .seq (.asg 4 (.lst .nil)) (.seq (.fors [5, 6] (.enu (.nm 2)) _) (.seq (.retm 4) .skip))) ((ex_iff e1).trans rfl)).trans ((seq_nx rfl).trans (seq_nx e3)))).trans ?_
  show Out.ok (Rv.o (Mp.D.lst ((row.take (0 + (enumD 0 (row.map tD)).length)).map oD))) _ = _
  rw [enumD_len, List.length_map, Nat.zero_add, List.take_length]
abbrev rwD (r : List Dr) : Mp.D := .lst (r.map tD)
abbrev rwH (r : List Dr) : Mp.D := .lst (r.map tD)
abbrev drD (r : List Dr) : Mp.D := .lst (r.map oD)
/-- what a plan's parts must be -/
structure PlanOk (ns : List Str) (rows : List (List Dr)) : Prop where
  nm : ns.all nmOk = true
  n1 : 1 ≤ ns.length
  n8 : ns.length ≤ 8
  nd : ns.Nodup
  r1 : 1 ≤ rows.length
  r2 : rows.length ≤ 2000
  len : ∀ r ∈ rows, r.length = ns.length
  ok : ∀ r ∈ rows, ∀ d ∈ r, d.ok rows.length = true
  wd : ∀ r ∈ rows, ∀ d ∈ r, o2F .ntin (.str (wdD d)) (.lst wsD) = some (.d (.bl false))
abbrev iS (ns : List Str) (rows : List (List Dr)) (r3 r4 : Option Rv) : List (Option Rv) := [some (.m 0), some (.d (.lst (ns.map .str))), some (.d (.lst (rows.map rwH))), r3, r4]
theorem p_init (n : Nat) (ns : List Str) (rows : List (List Dr)) (h : PlanOk ns rows) : Mp.run G (n + 8) 25 [.m 0, .d (.lst (ns.map .str)), .d (.lst (rows.map rwH))] [.obj 6 [] []] = .ok (.d .non) (mS ns (rows.map fun r => .d (drD r))) := by
  rw [run_at (F := F25) rfl rfl]
  have el : ∀ mu, ev G (Mp.run G (n + 7)) (.bis .len 2) ⟨iS ns rows none none, mu⟩ = .ok [.d (.int (rows.length : Int))] ⟨iS ns rows none none, mu⟩ := fun mu => by simp [ev, peek, biF, ofO]
  have e1 : ev G (Mp.run G (n + 7)) (.or (.no (.callb 21 (.consp 1 .nil))) (.or (.no (.isi (.nm 2) .list)) (.or (.o2 .lt (.bis .len 2) (.int 1)) (.la (.o2 .gt (.bis .len 2) (.gl 0)))))) ⟨iS ns rows none none, [.obj 6 [] []]⟩ = .ok [.d (.bl false)] ⟨iS ns rows none none, [.obj 6 [] []]⟩ := by
    have r1 := h.r1
    have r2 := h.r2
    rw [ev_or_f (ev_no (ev_callb (rs := [.m 1]) (ds := [.lst (ns.map .str)]) (s' := ⟨iS ns rows none none, [.obj 6 [] []]⟩) (by kernel_rfl) rfl rfl (p_actions (n + 5) ns h.nm h.n1 h.n8 h.nd) rfl)), ev_or_f (s' := ⟨iS ns rows none none, [.obj 6 [] []]⟩) (by kernel_rfl), ev_or_f (ev_o2 (el _) rfl (r := .d (.bl false)) (by simp [o2F]; omega)), ev_la]
    exact ev_o2 (y := .int 2000) (el _) rfl (by simp [o2F]; omega)
  obtain ⟨s', e2, r5, r6, h2⟩ := for_inv (f := ex G (Mp.run G (n + 7)) (match b25 with | .seq _ (.seq _ (.seq _ (.seq (.fors _ _ b) _))) => b | _ => .skip)) (tg := [3, 4]) (ds := enumD 0 (rows.map rwH)) (s := ⟨iS ns rows none none, mS ns []⟩)
    (I := fun k s => ∃ r5 r6, s = ⟨iS ns rows r5 r6, mS ns ((rows.take k).map fun r => .d (drD r))⟩) 0 ⟨none, none, rfl⟩ (by
    rintro k d hd s ⟨r5, r6, rfl⟩
    obtain ⟨x, hx, rfl⟩ := enumD_at hd
    rw [List.getElem?_map, Option.map_eq_some_iff] at hx
    obtain ⟨row, hdr, rfl⟩ := hx
    have hm : row ∈ rows := List.mem_of_getElem? hdr
    have hk : k < rows.length := (List.getElem?_eq_some_iff.mp hdr).1
    have r2 := h.r2
    have n8 := h.n8
    refine ⟨_, _, rfl, .inl ?_, some (.d (.int ((0 + k : Nat) : Int))), some (.d (rwH row)), rfl⟩
    show ex G (Mp.run G (n + 7)) (.seq (.exp (.bm .append (.attr (.nm 0) 3) _)) .skip) ⟨iS ns rows (some (.d (.int ((0 + k : Nat) : Int)))) (some (.d (rwH row))), mS ns ((rows.take (0 + k)).map fun r => .d (drD r))⟩ = _
    have hl := h.len row hm
    rw [seq_nx (ex_exp (ev_bm (k := 1) (s1 := ⟨iS ns rows (some (.d (.int ((0 + k : Nat) : Int)))) (some (.d (rwH row))), mS ns ((rows.take (0 + k)).map fun r => .d (drD r))⟩) (by kernel_rfl) rfl (ev_cons (ev_methM (k := 0) (f := 27) (rs := [.d (.int ((0 + k : Nat) : Int)), .d (rwH row), .d (.int ((rows.map rwH).length : Int))]) (s1 := ⟨iS ns rows (some (.d (.int ((0 + k : Nat) : Int)))) (some (.d (rwH row))), mS ns ((rows.take (0 + k)).map fun r => .d (drD r))⟩) rfl rfl rfl rfl (s2 := ⟨iS ns rows (some (.d (.int ((0 + k : Nat) : Int)))) (some (.d (rwH row))), mS ns ((rows.take (0 + k)).map fun r => .d (drD r))⟩) (by kernel_rfl) rfl
      (p_roomof (n + 1) (rows.map rwH).length (0 + k) ns _ row hl (by omega) (by rw [List.length_map]; exact h.ok row hm) (h.wd row hm))) ev_nil) rfl (by simp; have := sl_big; omega)))]
    show SO.nx _ = SO.nx _
    congr 3
    simp [List.take_succ, hdr])
  subst h2
  have e3 : ex G (Mp.run G (n + 7)) (.fors [3, 4] (.enu (.nm 2)) (match b25 with | .seq _ (.seq _ (.seq _ (.seq (.fors _ _ b) _))) => b | _ => .skip)) ⟨iS ns rows none none, mS ns []⟩ = _ := (ex_fors (ev_enu rfl)).trans e2
  refine (congrArg outS ((seq_nx (v := .seq (.seta 0 5 (.bis .list 1)) (.seq (.setam 0 3 (.lst .nil)) (.seq (.fors [3, 4] (.enu (.nm 2)) _) .skip))) ((ex_iff e1).trans rfl)).trans ((seq_nx (s' := ⟨iS ns rows none none, [.obj 6 [5] [.d (.lst (ns.map .str))]]⟩) (by kernel_rfl)).trans ((seq_nx (s' := ⟨iS ns rows none none, mS ns []⟩) (by kernel_rfl)).trans (seq_nx e3))))).trans ?_
  show Out.ok (Rv.d Mp.D.non) (mS ns ((rows.take (0 + (enumD 0 (rows.map rwH)).length)).map fun r => .d (drD r))) = _
  rw [enumD_len, List.length_map, Nat.zero_add, List.take_length]
/-- the plan -/
def plD (ns : List Str) (rows : List (List Dr)) : Mp.D := .obj 6 [5, 3] [.lst (ns.map .str), .lst (rows.map drD)]
theorem dfzs_d {f : Rv → Option Mp.D} (hf : ∀ x, f (.d x) = some x) : ∀ xs : List Mp.D, dfzs f (xs.map .d) = some xs
  | [] => rfl
  | x :: xs => by simp [dfzs, hf, dfzs_d hf xs]
theorem p_plan (n : Nat) (ns : List Str) (rows : List (List Dr)) (h : PlanOk ns rows) (s : Sg) : newD G (Mp.run G (n + 8)) 6 [.lst (ns.map .str), .lst (rows.map rwD)] s = .ok [.d (plD ns rows)] s := by
  have e := p_init n ns rows h
  have z : dfz (mS ns (rows.map fun r => .d (drD r))) 8 (.m 0) = some (plD ns rows) := by
    have q := dfzs_d (f := dfz (mS ns (rows.map fun r => .d (drD r))) 6) (fun x => rfl) (rows.map drD)
    rw [List.map_map] at q
    have q : dfzs (dfz (mS ns (rows.map fun r => .d (drD r))) 6) (rows.map fun r => .d (drD r)) = some (rows.map drD) := q
    have z1 : dfz (mS ns (rows.map fun r => .d (drD r))) 7 (.m 1) = some (.lst (rows.map drD)) := by
      show (dfzs (dfz (mS ns (rows.map fun r => .d (drD r))) 6) (rows.map fun r => .d (drD r))).map Mp.D.lst = _
      rw [q] <;> rfl
    show (dfzs (dfz (mS ns (rows.map fun r => .d (drD r))) 7) [.d (.lst (ns.map .str)), .m 1]).map _ = _
    simp only [dfzs, z1]
    rfl
  show (match (true : Bool) with
    | true => (match Mp.run G (n + 8) 25 (.m 0 :: [Mp.D.lst (ns.map .str), .lst (rows.map rwD)].map .d) [.obj 6 [] []] with
      | .ok (.d .non) mu => (match dfz mu 8 (.m 0) with
        | some x => (.ok [.d x] s : Out Sg (List Rv))
        | none => .stuck)
      | .ok _ _ => .stuck
      | .exc c fs _ => .exc c fs s
      | .stuck => .stuck)
    | false => .stuck) = _
  rw [show Mp.run G (n + 8) 25 (.m 0 :: [Mp.D.lst (ns.map .str), .lst (rows.map rwD)].map .d) [.obj 6 [] []] = _ from e]
  simp only [z]
theorem fm (i : Int) {j : Int} (h : 0 < j) : 0 ≤ i.fmod j ∧ i.fmod j < j := ⟨Int.fmod_nonneg_of_pos i h, Int.fmod_lt_of_pos i h⟩
/-- one of the 26 letters -/
def lt26 (i : Int) : Str := ⟨#[97 + (i.fmod 26).toNat]⟩
theorem abc : (Str.ofString "abcdefghijklmnopqrstuvwxyz") = ⟨((List.range 26).map fun i => 97 + i).toArray⟩ := by decide +kernel
theorem sub_lt (i : Int) : subF (.str "abcdefghijklmnopqrstuvwxyz") (.int (i.fmod 26)) = some (.str (lt26 i)) := by
  obtain ⟨h1, h2⟩ := fm i (j := 26) (by decide)
  have hz : (Str.ofString "abcdefghijklmnopqrstuvwxyz").length ≤ sizeLine := by rw [abc, sizeLine_eq]; decide
  show (if (Str.ofString "abcdefghijklmnopqrstuvwxyz").length ≤ sizeLine then (L2.atI (Str.ofString "abcdefghijklmnopqrstuvwxyz").cps.toList (i.fmod 26)).map fun c => Mp.D.str ⟨#[c]⟩ else none) = _
  rw [if_pos hz]
  have e : L2.atI (Str.ofString "abcdefghijklmnopqrstuvwxyz").cps.toList (i.fmod 26) = some (97 + (i.fmod 26).toNat) := by
    rw [abc]
    unfold L2.atI L2.ixN
    have l : ((List.range 26).map fun i => 97 + i).toArray.toList.length = 26 := by simp
    rw [l, if_pos h1, if_pos (by omega)]
    show ((List.range 26).map fun i => 97 + i).toArray.toList[(i.fmod 26).toNat]? = _
    have h3 : (i.fmod 26).toNat < 26 := by omega
    simp [h3]
  rw [e]
  rfl
theorem join1 (l : List Str) (h : ∀ x ∈ l, x.cps.size = 1) : (Txt.join "" l).cps.toList = (l.map fun x => x.cps.toList).flatten := by
  cases l with
  | nil => decide +kernel
  | cons x l =>
    have go : ∀ (l : List Str) (a : Array Nat), (l.foldl (fun acc p => acc ++ (Str.ofString "").cps ++ p.cps) a).toList = a.toList ++ (l.map fun x => x.cps.toList).flatten := by
      intro l
      induction l with
      | nil => intro a; simp
      | cons y l ih =>
        intro a
        rw [List.foldl_cons, ih]
        have e : (Str.ofString "").cps = #[] := by decide +kernel
        simp [e]
    show (List.foldl (fun acc p => acc ++ (Str.ofString "").cps ++ p.cps) x.cps l).toList = _
    rw [go]
    simp
theorem flat1 {α β : Type} (f : α → β) : ∀ l : List α, (l.map fun x => [f x]).flatten = l.map f
  | [] => rfl
  | x :: l => by simp [flat1 f l]
theorem nodup_map {f : Nat → Str} : ∀ (n : Nat), (∀ i j, i < n → j < n → f i = f j → i = j) → ((List.range n).map f).Nodup := by
  intro n h
  rw [List.nodup_iff_pairwise_ne, List.pairwise_map]
  refine List.Pairwise.imp_of_mem ?_ (List.nodup_range (n := n))
  intro a b ha hb ne e
  exact ne (h a b (List.mem_range.mp ha) (List.mem_range.mp hb) e)
/-! the evaluator by equations, more; lists of own lists -/
section
variable {Γ : Tab} {rec : Rec} {s s' s1 s2 s3 : Sg} {a b c e it el as j : E} {u v : S} {r : Rv} {x y z : Mp.D} {f i k : Nat} {ds : List Mp.D}
theorem ev_lstD (ha : ev Γ rec a s = .ok (ds.map .d) s') (hl : ds.length ≤ sizeLine) : ev Γ rec (.lst a) s = .ok [.o (.lst ds)] s' := by simp only [ev, ha, manyD, Out.bind, getDs_d, if_pos hl]
theorem ev_subO {rr : Rv} (ha : ev Γ rec a s = .ok [rr] s1) (hr : rr.sh = .d x) (hb : ev Γ rec b s1 = .ok [.d y] s2) (h : subF x y = some z) : ev Γ rec (.sub a b) s = .ok [.d z] s2 := by
  cases rr with
  | m w => cases hr
  | d w => cases hr; simp only [ev, ha, hb, oneD, Out.bind, h, Option.map, ofO]
  | o w => cases hr; simp only [ev, ha, hb, oneD, Out.bind, h, Option.map, ofO]
theorem ex_setsG {x0 : Mp.D} (he : ev Γ rec e s = .ok [.d y] s1) (hp : peek s1 i = some x) (hj : ev Γ rec j s1 = .ok [.d z] s2) (hs : s2.st[i]? = some (some (.o x0))) {w : Mp.D} (hw : setF x0 z y = some w) : ex Γ rec (.sets i j e) s = .nx { s2 with st := setS s2.st i (.o w) } := by
  simp only [ex, onD, onOut, he, hp, hj, hs, hw]
end
/-- rooms and their doors -/
structure RowsOk (m a : Nat) (rows : List (List Dr)) : Prop where
  len : rows.length = m
  row : ∀ r ∈ rows, r.length = a
  ok : ∀ r ∈ rows, ∀ d ∈ r, d.ok m = true
abbrev iD (t : Nat) : Mp.D := .int (t : Int)
def toN : Dr → Option Nat
  | .must t => some t
  | .may t => some t
  | _ => none
section
variable {f : Sg → SO} {c : Sg → Out Sg (List Rv)} {s s' s1 : Sg} {n : Nat}
theorem whl_f (h : c s = .ok [.d (.bl false)] s') : whlF c f (n + 1) s = .nx s' := by simp only [whlF, h, onB, onOut]
theorem whl_t (h : c s = .ok [.d (.bl true)] s') (h2 : f s' = .nx s1) : whlF c f (n + 1) s = whlF c f n s1 := by simp only [whlF, h, onB, onOut, h2]
end
theorem atI_nat {α : Type} {xs : List α} {k : Nat} {x : α} (h : xs[k]? = some x) : L2.atI xs (k : Int) = some x := by
  have hk := (List.getElem?_eq_some_iff.mp h).1
  unfold L2.atI L2.ixN
  rw [if_pos (by omega), if_pos (by omega)]
  simpa using h
theorem p_dtold (n : Nat) (d : Dr) : Mp.run G (n + 3) 6 [.d (oD d)] [] = .ok (.d (tD d)) [] := by cases d <;> kernel_rfl
def gT : Mp.D → Mp.D
  | .obj c _ [v] => if c = 1 then .tup [.str "must", v] else if c = 2 then .tup [.str "may", v] else if c = 4 then .tup [.str "torn", v] else .tup [.str "shut", v]
  | x => x
theorem gT_o (d : Dr) : gT (oD d) = tD d := by cases d <;> rfl
def gR : Mp.D → Mp.D
  | .lst ds => .lst (ds.map gT)
  | x => x
theorem gR_r (r : List Dr) : gR (drD r) = rwD r := by
  show Mp.D.lst ((r.map oD).map gT) = _
  rw [List.map_map]
  congr 1
  apply List.map_congr_left
  intro d _
  exact gT_o d
theorem ok_tD (k : Nat) (d : Dr) : okN (k + 1) (tD d) = true := by cases d <;> cases k <;> kernel_rfl
theorem ok_rows (rows : List (List Dr)) : okN 8 (.lst (rows.map rwD)) = true := by
  show (rows.map rwD).all (okN 7) = true
  rw [List.all_eq_true]
  intro x hx
  obtain ⟨r, _, rfl⟩ := List.mem_map.mp hx
  show (r.map tD).all (okN 6) = true
  rw [List.all_eq_true]
  intro y hy
  obtain ⟨d, _, rfl⟩ := List.mem_map.mp hy
  exact ok_tD 5 d
theorem o2_self (x : Mp.D) (h : okN 8 x = true) : o2F .eq x x = some (.d (.bl true)) := by
  have e0 : o2F .eq x x = (eqF x x).map fun b => .d (.bl b) := by cases x <;> rfl
  rw [e0, eqF_self h]; rfl
theorem o2_selfn (x : Mp.D) (h : okN 8 x = true) : o2F .ne x x = some (.d (.bl false)) := by
  have e0 : o2F .ne x x = (eqF x x).map fun b => .d (.bl (!b)) := by cases x <;> rfl
  rw [e0, eqF_self h]; rfl
/-! ### lists of own lists -/
abbrev clN (a k : Nat) : List Rv := (List.range k).map fun j => Rv.m (a + j)
theorem clN_succ (a k : Nat) : clN a (k + 1) = .m a :: clN (a + 1) k := by
  unfold clN
  rw [List.range_succ_eq_map, List.map_cons, List.map_map]
  congr 1
  apply List.map_congr_left
  intro j _
  show Rv.m (a + (j + 1)) = Rv.m (a + 1 + j)
  rw [show a + (j + 1) = a + 1 + j by omega]
section
variable {Γ : Tab} {rec : Rec} {s s' : Sg} {it el : E}
theorem cm_go {f : Sg → Out Sg (List Rv)} {st : List (Option Rv)} {i : Nat} {g : Mp.D → List Mp.D} (hi : i < st.length) : ∀ (ds : List Mp.D) (acc : List Rv) (mu : List Nd) (o : Option Rv), (∀ d ∈ ds, ∀ mu, f ⟨st.set i (some (.d d)), mu⟩ = .ok [.o (.lst (g d))] ⟨st.set i (some (.d d)), mu⟩) → acc.length + ds.length ≤ sizeLine →
    ∃ o', compMF f [i] ds acc ⟨st.set i o, mu⟩ = .ok [.m (mu.length + ds.length)] ⟨st.set i o', mu ++ ds.map (fun d => Nd.lst ((g d).map .d)) ++ [.lst (acc ++ clN mu.length ds.length)]⟩
  | [], acc, mu, o, _, _ => ⟨o, by simp [compMF]⟩
  | d :: ds, acc, mu, o, hf, hl => by
    have e1 : setT [i] d (wipeS (st.set i o) [i]) = some (st.set i (some (.d d))) := by simp [setT, setS, wipeS]
    have hl2 : acc.length + (ds.length + 1) ≤ sizeLine := hl
    obtain ⟨o', e⟩ := cm_go hi ds (acc ++ [.m mu.length]) (mu ++ [.lst ((g d).map .d)]) (some (.d d)) (fun d hd => hf d (List.mem_cons_of_mem _ hd)) (by simp; omega)
    refine ⟨o', ?_⟩
    simp only [compMF, e1, hf d (List.mem_cons_self ..) mu, noX, Out.bind, if_pos (show acc.length < sizeLine by omega)]
    rw [e, List.length_append, List.length_singleton, List.length_cons, clN_succ]
    congr 1
    · congr 2; omega
    · simp
theorem ev_compm {i : Nat} {g : Mp.D → List Mp.D} {ds : List Mp.D} {o : Option Rv} (hit : ev Γ rec it s = .ok (ds.map .d) s') (hi : s'.st[i]? = some o) (ho : ∀ x, o ≠ some (.o x)) (hl : ds.length ≤ sizeLine)
    (hf : ∀ d ∈ ds, ∀ mu, ev Γ rec el ⟨s'.st.set i (some (.d d)), mu⟩ = .ok [.o (.lst (g d))] ⟨s'.st.set i (some (.d d)), mu⟩) :
    ev Γ rec (.compm el [i] it) s = .ok [.m (s'.mu.length + ds.length)] ⟨s'.st, s'.mu ++ ds.map (fun d => Nd.lst ((g d).map .d)) ++ [.lst (clN s'.mu.length ds.length)]⟩ := by
  have hi2 : i < s'.st.length := (List.getElem?_eq_some_iff.mp hi).1
  obtain ⟨o', e⟩ := cm_go (f := ev Γ rec el) (g := g) hi2 ds [] s'.mu o hf (by simpa using hl)
  rw [set_self hi] at e
  have hk : okT s'.st [i] = true := by
    cases o with
    | none => simp [okT, hi]
    | some r => cases r with
      | o x => exact (ho x rfl).elim
      | d x => simp [okT, hi]
      | m x => simp [okT, hi]
  have e : compMF (ev Γ rec el) [i] ds [] s' = _ := e
  simp only [ev, hit, manyD, Out.bind, getDs_d, hk, e, List.nil_append]
  have : backS s'.st (s'.st.set i o') [i] = s'.st := by
    simp only [backS, hi, Option.getD_some, List.set_set]
    exact set_self hi
  rw [this]
end
theorem dfzs_eq {f : Rv → Option Mp.D} : ∀ (rs : List Rv) (ys : List Mp.D), rs.length = ys.length → (∀ (i : Nat) (r : Rv) (y : Mp.D), rs[i]? = some r → ys[i]? = some y → f r = some y) → dfzs f rs = some ys
  | [], [], _, _ => rfl
  | [], _ :: _, e, _ => by cases e
  | _ :: _, [], e, _ => by cases e
  | r :: rs, y :: ys, e, h => by
    have h0 := h 0 r y rfl rfl
    have ih := dfzs_eq rs ys (by simpa using e) fun i r y hr hy => h (i + 1) r y (by simpa using hr) (by simpa using hy)
    simp only [dfzs, h0, ih]
/-- the store behind it -/
abbrev muR (rows : List (List Dr)) : List Nd := rows.map (fun r => Nd.lst ((r.map tD).map .d)) ++ [.lst (clN 0 rows.length)]
section
variable {Γ : Tab} {rec : Rec} {s s' s1 : Sg} {a : E} {i k : Nat} {ds : List Mp.D}
theorem ev_newb {rs : List Rv} {z : Out Sg (List Rv)} (ha : ev Γ rec a s = .ok rs s1) (hr : resL s1 rs = some ds) (h : newB Γ rec i ds s1 = z) : ev Γ rec (.newb i a) s = z := by
  simp only [ev, ha, Out.bind, hr, h]
theorem ev_bmc {xs : List Rv} (ha : ev Γ rec a s = .ok [.m k] s1) (hs : s1.mu[k]? = some (.lst xs)) : ev Γ rec (.bm .clear a .nil) s = .ok [.d .non] { s1 with mu := s1.mu.set k (.lst []) } := by
  simp only [ev, ha, oneR, Out.bind, Rv.sh, hs, manyD, getDs]
theorem ev_bmsc {xs : List Mp.D} (hs : s.st[i]? = some (some (.o (.lst xs)))) : ev Γ rec (.bms .clear i .nil) s = .ok [.d .non] { s with st := setS s.st i (.o (.lst [])) } := by
  simp only [ev, hs, manyD, Out.bind, getDs, bmF]
end
def gL : Mp.D → List Mp.D
  | .lst xs => xs
  | _ => []
/-! what is asked of a plan -/
abbrev plC (c : Nat) (ns : List Str) (rows : List (List Dr)) : Mp.D := .obj c [5, 3] [.lst (ns.map .str), .lst (rows.map drD)]
def opD : Option Nat → Mp.D
  | none => .non
  | some r => iD r
theorem toD_op (d : Dr) : toD d = opD (toN d) := by cases d <;> rfl
theorem toN_lt {m : Nat} {d : Dr} (h : d.ok m = true) {t : Nat} (e : toN d = some t) : t < m := by
  cases d with
  | must u => cases e; exact of_decide_eq_true h
  | may u => cases e; exact of_decide_eq_true h
  | shut => cases e
  | torn => cases e
theorem at_row {m a : Nat} {rows : List (List Dr)} (h : RowsOk m a rows) {r k : Nat} (hr : r < m) (hk : k < a) : ∃ row d, rows[r]? = some row ∧ row[k]? = some d ∧ row.length = a ∧ d.ok m = true := by
  obtain ⟨row, hrow⟩ : ∃ row, rows[r]? = some row := ⟨_, List.getElem?_eq_getElem (by rw [h.len]; exact hr)⟩
  have hm := List.mem_of_getElem? hrow
  have hl := h.row row hm
  obtain ⟨d, hd⟩ : ∃ d, row[k]? = some d := ⟨_, List.getElem?_eq_getElem (by omega)⟩
  exact ⟨row, d, hrow, hd, hl, h.ok row hm d (List.mem_of_getElem? hd)⟩
/-! ### the plan's own -/
theorem at_rooms (c : Nat) (hc : c = 5 ∨ c = 6) (n : Nat) (ns : List Str) (rows : List (List Dr)) (st : List (Option Rv)) (mu : List Nd) : ev G (Mp.run G n) (.attr (.nm 0) 3) ⟨some (.d (plC c ns rows)) :: st, mu⟩ = .ok [.d (.lst (rows.map drD))] ⟨some (.d (plC c ns rows)) :: st, mu⟩ := by
  rcases hc with rfl | rfl <;> kernel_rfl
theorem p_alist (c : Nat) (hc : c = 5 ∨ c = 6) (n : Nat) (ns : List Str) (rows : List (List Dr)) : Mp.run G (n + 1) 28 [.d (plC c ns rows)] [] = .ok (.o (.lst (ns.map .str))) [] := by
  rcases hc with rfl | rfl <;> kernel_rfl
theorem p_many (c : Nat) (hc : c = 5 ∨ c = 6) (n : Nat) (ns : List Str) (rows : List (List Dr)) : Mp.run G (n + 1) 29 [.d (plC c ns rows)] [] = .ok (.d (.int (rows.length : Int))) [] := by
  rw [← List.length_map (f := drD) (as := rows)]
  rcases hc with rfl | rfl <;> kernel_rfl
theorem p_doorP (c : Nat) (hc : c = 5 ∨ c = 6) (n : Nat) (ns : List Str) (rows : List (List Dr)) (r k : Nat) (row : List Dr) (d : Dr) (hr : rows[r]? = some row) (hk : row[k]? = some d) : Mp.run G (n + 1) 30 [.d (plC c ns rows), .d (iD r), .d (iD k)] [] = .ok (.d (oD d)) [] := by
  rw [run_at (F := F30) rfl rfl]
  have e1 := at_rooms c hc n ns rows [some (.d (iD r)), some (.d (iD k))] []
  have e2 := ev_sub (b := .nm 1) (y := iD r) (z := drD row) e1 rfl (by show L2.atI _ (r : Int) = _; exact atI_nat (by rw [List.getElem?_map, hr]; rfl))
  have e3 := ev_sub (b := .nm 2) (y := iD k) (z := oD d) e2 rfl (by show L2.atI _ (k : Int) = _; exact atI_nat (by rw [List.getElem?_map, hk]; rfl))
  exact (congrArg outS (seq_rt (ex_ret e3))).trans rfl
theorem p_toldP (c : Nat) (hc : c = 5 ∨ c = 6) (n m a : Nat) (ns : List Str) (rows : List (List Dr)) (h : RowsOk m a rows) (h60 : m ≤ 60) (h8 : a ≤ 8) : Mp.run G (n + 4) 31 [.d (plC c ns rows)] [] = .ok (.m rows.length) (muR rows) := by
  have sl := sl_big
  rw [run_at (F := F31) rfl rfl]
  have e := ev_compm (Γ := G) (rec := Mp.run G (n + 3)) (it := .pl (.attr (.nm 0) 3)) (el := .comp (.meth (.nm 2) 7 .nil) [2] (.pl (.nm 1)) (.bl true)) (i := 1) (o := none) (g := fun x => gL (gR x)) (s := ⟨[some (.d (plC c ns rows)), none, none], []⟩) (s' := ⟨[some (.d (plC c ns rows)), none, none], []⟩) (ds := rows.map drD)
    (ev_pl (x := .lst (rows.map drD)) (at_rooms c hc _ _ _ _ _)) rfl (fun x e => by cases e) (by rw [List.length_map, h.len]; omega) (fun d hd mu => by
      obtain ⟨r, hr, rfl⟩ := List.mem_map.mp hd
      have hl := h.row r hr
      exact ev_comp (Γ := G) (rec := Mp.run G (n + 3)) (it := .pl (.nm 1)) (el := .meth (.nm 2) 7 .nil) (i := 2) (o := none) (g := gT) (s := ⟨[some (.d (plC c ns rows)), some (.d (drD r)), none], mu⟩) (s' := ⟨[some (.d (plC c ns rows)), some (.d (drD r)), none], mu⟩) (ds := r.map oD)
        (ev_pl (x := drD r) rfl) rfl (fun x e => by cases e) (by rw [List.length_map]; omega) (fun d hd => by
          obtain ⟨x, _, rfl⟩ := List.mem_map.mp hd
          refine ⟨.d (tD x), ?_, by rw [gT_o]; rfl⟩
          cases x with
          | must t => exact ev_methD (ds := []) (f := 6) (mu := []) rfl rfl rfl rfl rfl (p_dtold n (.must t)) (fun n => by intro z; cases z)
          | may t => exact ev_methD (ds := []) (f := 6) (mu := []) rfl rfl rfl rfl rfl (p_dtold n (.may t)) (fun n => by intro z; cases z)
          | shut => exact ev_methD (ds := []) (f := 6) (mu := []) rfl rfl rfl rfl rfl (p_dtold n .shut) (fun n => by intro z; cases z)
          | torn => exact ev_methD (ds := []) (f := 6) (mu := []) rfl rfl rfl rfl rfl (p_dtold n .torn) (fun n => by intro z; cases z)))
  have em : ([] : List Nd) ++ (rows.map drD).map (fun d => Nd.lst ((gL (gR d)).map .d)) ++ [.lst (clN ([] : List Nd).length (rows.map drD).length)] = muR rows := by
    rw [List.nil_append, List.length_map, List.map_map]
    show _ = rows.map _ ++ _
    congr 1
    apply List.map_congr_left
    intro r _
    show Nd.lst ((gL (gR (drD r))).map .d) = _
    rw [gR_r]
    rfl
  have el : ([] : List Nd).length + (rows.map drD).length = rows.length := by rw [List.length_map]; exact Nat.zero_add _
  simp only [em, el] at e
  exact (congrArg outS (seq_rt (ex_ret e))).trans rfl
theorem dfz_muR (rows : List (List Dr)) : dfz (muR rows) 8 (.m rows.length) = some (.lst (rows.map rwD)) := by
  have h1 : (muR rows)[rows.length]? = some (.lst (clN 0 rows.length)) := by
    unfold muR
    rw [List.getElem?_append_right (by simp)]
    simp
  show (match (muR rows)[rows.length]? with
    | some (.lst xs) => (dfzs (dfz (muR rows) 7) xs).map Mp.D.lst
    | some (.dct ks vs) => (dfzs (dfz (muR rows) 7) vs).map (.dct ks)
    | some (.tdc ks vs) => (dfzs (dfz (muR rows) 7) vs).map (.tdc ks)
    | some (.obj c ns vs) => (dfzs (dfz (muR rows) 7) vs).map (.obj c ns)
    | none => none) = _
  rw [h1]
  show (dfzs (dfz (muR rows) 7) (clN 0 rows.length)).map Mp.D.lst = _
  rw [dfzs_eq (clN 0 rows.length) (rows.map rwD) (by simp) (fun i r y hr hy => by
    rw [List.getElem?_map, Option.map_eq_some_iff] at hr hy
    obtain ⟨j, hj, rfl⟩ := hr
    obtain ⟨row, hrow, rfl⟩ := hy
    obtain ⟨hj1, hj2⟩ := List.getElem?_eq_some_iff.mp hj
    simp at hj1 hj2
    subst hj2
    have h2 : (muR rows)[0 + i]? = some (.lst ((row.map tD).map .d)) := by
      unfold muR
      rw [Nat.zero_add, List.getElem?_append_left (by simpa using hj1), List.getElem?_map, hrow]
      rfl
    show (match (muR rows)[0 + i]? with
      | some (.lst xs) => (dfzs (dfz (muR rows) 6) xs).map Mp.D.lst
      | some (.dct ks vs) => (dfzs (dfz (muR rows) 6) vs).map (.dct ks)
      | some (.tdc ks vs) => (dfzs (dfz (muR rows) 6) vs).map (.tdc ks)
      | some (.obj c ns vs) => (dfzs (dfz (muR rows) 6) vs).map (.obj c ns)
      | none => none) = _
    rw [h2]
    show (dfzs (dfz (muR rows) 6) ((row.map tD).map .d)).map Mp.D.lst = _
    rw [dfzs_d (fun x => rfl)]
    rfl)]
  rfl
theorem ev_methC {rec : Rec} {ds : List Mp.D} {cl : Nat} {ns : List Nat} {vs : List Mp.D} {mu : List Nd} {a as : E} {s s1 s2 : Sg} {i f k : Nat} {x : Mp.D} (ha : ev G rec a s = .ok [.d (.obj cl ns vs)] s1) (hm : methOf G cl i = some f) (hn : ns.contains i = false) (has : ev G rec as s1 = .ok (ds.map .d) s2) (har : arOk G f (ds.length + 1) = true) (h : rec f ((.obj cl ns vs :: ds).map .d) [] = .ok (.m k) mu) (hz : dfz mu 8 (.m k) = some x) :
    ev G rec (.meth a i as) s = .ok [.d x] s2 := by
  have g : getDs (.d (.obj cl ns vs) :: ds.map .d) = some (.obj cl ns vs :: ds) := getDs_d (.obj cl ns vs :: ds)
  simp only [ev, ha, oneR, Out.bind, Rv.sh, recvOf, hm, hn, has, callG, List.length_cons, List.length_map, har, g, callD, h, hz]
/-- a door's words -/
theorem ev_allows {n : Nat} {a : E} {s s1 : Sg} {d : Dr} (ha : ev G (Mp.run G (n + 1)) a s = .ok [.d (oD d)] s1) : ev G (Mp.run G (n + 1)) (.meth a 9 .nil) s = .ok [.d (.bl (toN d).isSome)] s1 := by
  cases d with
  | must t => exact ev_methD (ds := []) (f := 9) (mu := []) ha rfl rfl rfl rfl (by kernel_rfl) (fun n => by intro z; cases z)
  | may t => exact ev_methD (ds := []) (f := 12) (mu := []) ha rfl rfl rfl rfl (by kernel_rfl) (fun n => by intro z; cases z)
  | shut => exact ev_methD (ds := []) (f := 4) (mu := []) ha rfl rfl rfl rfl (by kernel_rfl) (fun n => by intro z; cases z)
  | torn => exact ev_methD (ds := []) (f := 4) (mu := []) ha rfl rfl rfl rfl (by kernel_rfl) (fun n => by intro z; cases z)
def needB : Dr → Bool
  | .must _ => true
  | .torn => true
  | _ => false
theorem ev_needs {n : Nat} {a : E} {s s1 : Sg} {d : Dr} (ha : ev G (Mp.run G (n + 1)) a s = .ok [.d (oD d)] s1) : ev G (Mp.run G (n + 1)) (.meth a 12 .nil) s = .ok [.d (.bl (needB d))] s1 := by
  cases d with
  | must t => exact ev_methD (ds := []) (f := 8) (mu := []) ha rfl rfl rfl rfl (by kernel_rfl) (fun n => by intro z; cases z)
  | may t => exact ev_methD (ds := []) (f := 3) (mu := []) ha rfl rfl rfl rfl (by kernel_rfl) (fun n => by intro z; cases z)
  | shut => exact ev_methD (ds := []) (f := 3) (mu := []) ha rfl rfl rfl rfl (by kernel_rfl) (fun n => by intro z; cases z)
  | torn => exact ev_methD (ds := []) (f := 17) (mu := []) ha rfl rfl rfl rfl (by kernel_rfl) (fun n => by intro z; cases z)
theorem ev_word {n : Nat} {a : E} {s s1 : Sg} {d : Dr} (ha : ev G (Mp.run G (n + 1)) a s = .ok [.d (oD d)] s1) : ev G (Mp.run G (n + 1)) (.meth a 1 .nil) s = .ok [.d (.str (wdD d))] s1 := by
  cases d with
  | must t => exact ev_methD (ds := []) (f := 7) (mu := []) ha rfl rfl rfl rfl (by kernel_rfl) (fun n => by intro z; cases z)
  | may t => exact ev_methD (ds := []) (f := 11) (mu := []) ha rfl rfl rfl rfl (by kernel_rfl) (fun n => by intro z; cases z)
  | shut => exact ev_methD (ds := []) (f := 2) (mu := []) ha rfl rfl rfl rfl (by kernel_rfl) (fun n => by intro z; cases z)
  | torn => exact ev_methD (ds := []) (f := 16) (mu := []) ha rfl rfl rfl rfl (by kernel_rfl) (fun n => by intro z; cases z)
theorem ev_to {n : Nat} {a : E} {s s1 : Sg} {d : Dr} {t : Nat} (ha : ev G (Mp.run G n) a s = .ok [.d (oD d)] s1) (ht : toN d = some t) : ev G (Mp.run G n) (.attr a 0) s = .ok [.d (iD t)] s1 := by
  cases d with
  | must t => cases ht; simp only [ev, ha, oneR, Out.bind, Rv.sh, oD, fldOf]; kernel_rfl
  | may t => cases ht; simp only [ev, ha, oneR, Out.bind, Rv.sh, oD, fldOf]; kernel_rfl
  | shut => cases ht
  | torn => cases ht
/-! k22 to k25: what is drawn -/
def mxu (c k : Int) : Int :=
  let a := (c * 48271 + k * 7919 + 104729).fmod 2147483647
  let b := ((a * a).fmod 2147483629 * 16807 + k * 104729 + 11).fmod 2147483587
  (b * b).fmod 2147483549
theorem mxu_nn (c k : Int) : 0 ≤ mxu c k := Int.fmod_nonneg_of_pos _ (by decide)
theorem p_mixed (n : Nat) (c k : Int) : Mp.run G (n + 1) 40 [.d (.int (c)), .d (.int (k))] [] = .ok (.d (.int (mxu c k))) [] := by
  have h1 : ∀ i : Int, mulOk i 48271 = true := fun i => mulOk_lit i _ (by decide)
  have h2 : ∀ i : Int, mulOk i 7919 = true := fun i => mulOk_lit i _ (by decide)
  have h3 : ∀ i : Int, mulOk i 16807 = true := fun i => mulOk_lit i _ (by decide)
  have h4 : ∀ i : Int, mulOk i 104729 = true := fun i => mulOk_lit i _ (by decide)
  have h5 : ∀ i j : Int, mulOk i (j.fmod 2147483647) = true := fun i j => mulOk_lit i _ (fmod_small (by decide) (by decide))
  have h6 : ∀ i j : Int, mulOk i (j.fmod 2147483587) = true := fun i j => mulOk_lit i _ (fmod_small (by decide) (by decide))
  have n1 : (2147483647 : Int) ≠ 0 := by decide
  have n2 : (2147483629 : Int) ≠ 0 := by decide
  have n3 : (2147483587 : Int) ≠ 0 := by decide
  have n4 : (2147483549 : Int) ≠ 0 := by decide
  rw [ru40]
  simp only [b40, Nat.zero_le, nx_nx, nx_ct, nr_nx, nr_ct, nr_rt, turn_eq, tup2, tup3, ex, ev, outS, oneD, oneB, oneR, manyD, Out.bind, ofO, getDs, Rv.sh, peek, setS, setT, setN, onOut, onD, onB, onDs, callG, callD, callB, callM, resB, o2F, subF, lsD, keyD, flatD, noX, biF, isiF, isiA, if_true, if_false, List.getElem?_cons_zero, List.getElem?_cons_succ, List.set_cons_zero, List.set_cons_succ, List.map_cons, List.map_nil, List.length_cons, List.length_nil, List.length_map, Option.map_some, Option.map_none, Option.bind_some, Nat.zero_add, Nat.reduceAdd, Nat.reduceSub, Bool.false_eq_true, Bool.not_true, Bool.not_false, Bool.and_true, Bool.true_and, Bool.and_false, Bool.false_and, Bool.or_false, Bool.false_or, Bool.true_or, Bool.or_true, h1, h2, h3, h4, h5, h6, n1, n2, n3, n4, ne_eq, not_false_eq_true]
  rfl
theorem p_whole (n : Nat) (i : Int) : Mp.run G (n + 1) 39 [.d (.int (i))] [] = .ok (.d (.bl true)) [] := by
  rw [ru39]
  simp only [b39, Nat.zero_le, nx_nx, nx_ct, nr_nx, nr_ct, nr_rt, turn_eq, tup2, tup3, ex, ev, outS, oneD, oneB, oneR, manyD, Out.bind, ofO, getDs, Rv.sh, peek, setS, setT, setN, onOut, onD, onB, onDs, callG, callD, callB, callM, resB, o2F, subF, lsD, keyD, flatD, noX, biF, isiF, isiA, if_true, if_false, List.getElem?_cons_zero, List.getElem?_cons_succ, List.set_cons_zero, List.set_cons_succ, List.map_cons, List.map_nil, List.length_cons, List.length_nil, List.length_map, Option.map_some, Option.map_none, Option.bind_some, Nat.zero_add, Nat.reduceAdd, Nat.reduceSub, Bool.false_eq_true, Bool.not_true, Bool.not_false, Bool.and_true, Bool.true_and, Bool.and_false, Bool.false_and, Bool.or_false, Bool.false_or, Bool.true_or, Bool.or_true]
def cel (ns : List Int) (k : Nat) : Int := ns.getD k 0
theorem p_cel (n : Nat) (ns : List Int) (k : Nat) : Mp.run G (n + 1) 38 [.d (.scr ns), .d (.int ((k : Nat) : Int))] [] = .ok (.d (.int (cel ns k))) [] := by
  rw [ru38]
  by_cases h : k < ns.length
  · have e : (decide ((k : Int) < (ns.length : Int))) = true := decide_eq_true (by omega)
    have a : L2.atI ns (k : Int) = some ns[k] := atI_nat (List.getElem?_eq_getElem h)
    simp only [b38, Nat.zero_le, nx_nx, nx_ct, nr_nx, nr_ct, nr_rt, turn_eq, tup2, tup3, ex, ev, outS, oneD, oneB, oneR, manyD, Out.bind, ofO, getDs, Rv.sh, peek, setS, setT, setN, onOut, onD, onB, onDs, callG, callD, callB, callM, resB, o2F, subF, lsD, keyD, flatD, noX, biF, isiF, isiA, if_true, if_false, List.getElem?_cons_zero, List.getElem?_cons_succ, List.set_cons_zero, List.set_cons_succ, List.map_cons, List.map_nil, List.length_cons, List.length_nil, List.length_map, Option.map_some, Option.map_none, Option.bind_some, Nat.zero_add, Nat.reduceAdd, Nat.reduceSub, Bool.false_eq_true, Bool.not_true, Bool.not_false, Bool.and_true, Bool.true_and, Bool.and_false, Bool.false_and, Bool.or_false, Bool.false_or, Bool.true_or, Bool.or_true, e, a]
    simp [cel, h]
  · have e : (decide ((k : Int) < (ns.length : Int))) = false := decide_eq_false (by omega)
    simp only [b38, Nat.zero_le, nx_nx, nx_ct, nr_nx, nr_ct, nr_rt, turn_eq, tup2, tup3, ex, ev, outS, oneD, oneB, oneR, manyD, Out.bind, ofO, getDs, Rv.sh, peek, setS, setT, setN, onOut, onD, onB, onDs, callG, callD, callB, callM, resB, o2F, subF, lsD, keyD, flatD, noX, biF, isiF, isiA, if_true, if_false, List.getElem?_cons_zero, List.getElem?_cons_succ, List.set_cons_zero, List.set_cons_succ, List.map_cons, List.map_nil, List.length_cons, List.length_nil, List.length_map, Option.map_some, Option.map_none, Option.bind_some, Nat.zero_add, Nat.reduceAdd, Nat.reduceSub, Bool.false_eq_true, Bool.not_true, Bool.not_false, Bool.and_true, Bool.true_and, Bool.and_false, Bool.false_and, Bool.or_false, Bool.false_or, Bool.true_or, Bool.or_true, e]
    simp [cel, h]
/-! names letter by letter -/
theorem add_str {x y : Str} (h : x.length + y.length ≤ sizeLine) : o2F .add (.str x) (.str y) = some (.d (.str (x ++ y))) := if_pos h
theorem cps_app (x y : Str) : (x ++ y).cps.toList = x.cps.toList ++ y.cps.toList := by
  show (x.cps ++ y.cps).toList = _
  simp
theorem nmOk_of {z : Str} {l : List Nat} (e : z.cps.toList = l) (h1 : 1 ≤ l.length) (h8 : l.length ≤ 8) (h : ∀ x ∈ l, 97 ≤ x ∧ x ≤ 122) : nmOk z = true := by
  have el : z.length = l.length := by
    show z.cps.size = _
    rw [← e, Array.length_toList]
  unfold nmOk
  rw [el, decide_eq_true h1, decide_eq_true h8, e, Bool.true_and, Bool.true_and, List.all_eq_true]
  intro x hx
  obtain ⟨g1, g2⟩ := h x hx
  rw [decide_eq_true g1, decide_eq_true g2]
  rfl
def nmF (f : Nat → Int) : Nat → Str
  | 0 => ""
  | j + 1 => nmF f j ++ lt26 (f j)
theorem nmF_list (f : Nat → Int) : ∀ j, (nmF f j).cps.toList = (List.range j).map fun i => 97 + ((f i).fmod 26).toNat
  | 0 => by show (Str.ofString "").cps.toList = []; decide +kernel
  | j + 1 => by
    show (nmF f j ++ lt26 (f j)).cps.toList = _
    rw [cps_app, nmF_list f j, List.range_succ, List.map_append]
    rfl
theorem nmF_len (f : Nat → Int) (j : Nat) : (nmF f j).length = j := by
  show (nmF f j).cps.size = j
  rw [← Array.length_toList, nmF_list, List.length_map, List.length_range]
theorem nmF_ok (f : Nat → Int) (j : Nat) (h1 : 1 ≤ j) (h8 : j ≤ 8) : nmOk (nmF f j) = true := by
  refine nmOk_of (nmF_list f j) (by rw [List.length_map, List.length_range]; exact h1) (by rw [List.length_map, List.length_range]; exact h8) fun x hx => ?_
  obtain ⟨i, _, rfl⟩ := List.mem_map.mp hx
  obtain ⟨g1, g2⟩ := fm (f i) (j := 26) (by decide)
  omega
theorem nmF_at {f g : Nat → Int} {at_ sz : Nat} (ha : at_ < sz) (e : nmF f sz = nmF g sz) : (f at_).fmod 26 = (g at_).fmod 26 := by
  have e2 : ((List.range sz).map fun i => 97 + ((f i).fmod 26).toNat) = (List.range sz).map fun i => 97 + ((g i).fmod 26).toNat := by rw [← nmF_list, ← nmF_list, e]
  have e3 := congrArg (fun l => l[at_]?) e2
  simp only [List.getElem?_map, List.getElem?_range ha, Option.map_some, Option.some.injEq] at e3
  obtain ⟨g1, g2⟩ := fm (f at_) (j := 26) (by decide)
  obtain ⟨g3, g4⟩ := fm (g at_) (j := 26) (by decide)
  omega
theorem p_actsW (n : Nat) (c : Int) (many : Nat) (h8 : many ≤ 8) : ∃ ns : List Str, Mp.run G (n + 2) 41 [.d (.int (c)), .d (.int ((many : Nat) : Int))] [] = .ok (.o (.lst (ns.map .str))) [] ∧ ns.all nmOk = true ∧ ns.length = many ∧ ns.Nodup := by
  have sl := sl_big
  generalize hx : mxu c 900 = x
  obtain ⟨g1, g2⟩ := fm x (j := 8) (by decide)
  obtain ⟨sz, hsz⟩ : ∃ sz : Nat, 1 + x.fmod 8 = (sz : Int) := ⟨(1 + x.fmod 8).toNat, by omega⟩
  obtain ⟨g3, g4⟩ := fm (x.fdiv 8) (j := (sz : Int)) (by omega)
  obtain ⟨at_, hat⟩ : ∃ at_ : Nat, (x.fdiv 8).fmod (sz : Int) = (at_ : Int) := ⟨((x.fdiv 8).fmod (sz : Int)).toNat, by omega⟩
  have nz : ¬ (sz : Int) = 0 := by omega
  have n3 : (8 : Int) ≠ 0 := by decide
  have n4 : (26 : Int) ≠ 0 := by decide
  have n5 : (8 : Int).natAbs < 1073741824 := by decide
  generalize hf : (fun (k j : Nat) => x.fdiv ((j : Int) + 2) + 5 * (j : Int) + (k : Int) * (if ((j : Int) == (at_ : Int)) = true then 1 else 0)) = f
  refine ⟨(List.range many).map fun k => nmF (f k) sz, ?_, ?_, by rw [List.length_map, List.length_range], nodup_map many fun i j hi hj e => ?_⟩
  · rw [ru41]
    obtain ⟨s', e1, q6, q7, q8, q5, rfl⟩ := for_nx (f := ex G (Mp.run G (n + 1)) l41_1) (tg := [5]) (ds := dints many 0) (s := ⟨[some (.d (.int (c))), some (.d (.int ((many : Nat) : Int))), some (.d (.int (x))), some (.d (.int ((sz : Nat) : Int))), some (.o (.lst ([]))), none, none, none, none], []⟩)
      (I := fun k s => ∃ q6 q7 q8 q5, s = ⟨[some (.d (.int (c))), some (.d (.int ((many : Nat) : Int))), some (.d (.int (x))), some (.d (.int ((sz : Nat) : Int))), some (.o (.lst ((((List.range k).map fun k => nmF (f k) sz).map .str)))), q5, q6, q7, q8], []⟩) 0 ⟨none, none, none, none, rfl⟩ (by
      rintro k d hd s ⟨q6, q7, q8, q5, rfl⟩
      have hd2 := dints_at hd
      obtain ⟨hk, e0⟩ := hd2
      subst e0
      rw [Nat.zero_add, Int.zero_add]
      obtain ⟨s', e1, q7', q8', rfl⟩ := for_nx (f := ex G (Mp.run G (n + 1)) l41_0) (tg := [7]) (ds := dints sz 0) (s := ⟨[some (.d (.int (c))), some (.d (.int ((many : Nat) : Int))), some (.d (.int (x))), some (.d (.int ((sz : Nat) : Int))), some (.o (.lst ((((List.range k).map fun k => nmF (f k) sz).map .str)))), some (.d (.int ((k : Nat) : Int))), some (.d (.str (""))), q7, q8], []⟩)
        (I := fun j s => ∃ q7 q8, s = ⟨[some (.d (.int (c))), some (.d (.int ((many : Nat) : Int))), some (.d (.int (x))), some (.d (.int ((sz : Nat) : Int))), some (.o (.lst ((((List.range k).map fun k => nmF (f k) sz).map .str)))), some (.d (.int ((k : Nat) : Int))), some (.d (.str (nmF (f k) j))), q7, q8], []⟩) 0 ⟨q7, q8, rfl⟩ (by
        rintro j d hd s ⟨q7, q8, rfl⟩
        obtain ⟨hj, rfl⟩ := dints_at hd
        rw [Nat.zero_add, Int.zero_add]
        have n1 : ¬ (j : Int) + 2 = 0 := by omega
        have n2 : ((j : Int) + 2).natAbs < 1073741824 := by omega
        have m1 : mulOk 5 (j : Int) = true := mulOk_litl _ _ (by decide)
        have m2 : mulOk (k : Int) (if ((j : Int) == (at_ : Int)) = true then 1 else 0) = true := mulOk_lit _ _ (by split <;> decide)
        have ef : x.fdiv ((j : Int) + 2) + 5 * (j : Int) + (k : Int) * (if ((j : Int) == (at_ : Int)) = true then 1 else 0) = f k j := by rw [← hf]
        have ea : o2F .add (.str (nmF (f k) j)) (.str (lt26 (f k j))) = some (.d (.str (nmF (f k) (j + 1)))) := add_str (by rw [nmF_len]; show j + 1 ≤ _; omega)
        simp only [o2F] at ea
        have es := sub_lt (f k j)
        simp only [subF] at es
        simp only [l41_0, Nat.zero_le, nx_nx, nx_ct, nr_nx, nr_ct, nr_rt, turn_eq, tup2, tup3, ex, ev, outS, oneD, oneB, oneR, manyD, Out.bind, ofO, getDs, Rv.sh, peek, setS, setT, setN, onOut, onD, onB, onDs, callG, callD, callB, callM, resB, o2F, subF, lsD, keyD, flatD, noX, biF, isiF, isiA, if_true, if_false, List.getElem?_cons_zero, List.getElem?_cons_succ, List.set_cons_zero, List.set_cons_succ, List.map_cons, List.map_nil, List.length_cons, List.length_nil, List.length_map, Option.map_some, Option.map_none, Option.bind_some, Nat.zero_add, Nat.reduceAdd, Nat.reduceSub, Bool.false_eq_true, Bool.not_true, Bool.not_false, Bool.and_true, Bool.true_and, Bool.and_false, Bool.false_and, Bool.or_false, Bool.false_or, Bool.true_or, Bool.or_true, n1, n2, n3, n4, n5, nz, ne_eq, not_false_eq_true, and_self, and_true, m1, hat, eqII, m2, ef, es, ea]
        exact ⟨_, _, rfl⟩)
      have er : rngOk (sz : Int) = true := rngN_ok sz (by omega)
      have hl : (((List.range k).map fun k => nmF (f k) sz).map Mp.D.str).length < sizeLine := by simp; omega
      simp only [l41_1, Nat.zero_le, nx_nx, nx_ct, nr_nx, nr_ct, nr_rt, turn_eq, tup2, tup3, ex, ev, outS, oneD, oneB, oneR, manyD, Out.bind, ofO, getDs, Rv.sh, peek, setS, setT, setN, onOut, onD, onB, onDs, callG, callD, callB, callM, resB, o2F, subF, lsD, keyD, flatD, noX, biF, isiF, isiA, if_true, if_false, List.getElem?_cons_zero, List.getElem?_cons_succ, List.set_cons_zero, List.set_cons_succ, List.map_cons, List.map_nil, List.length_cons, List.length_nil, List.length_map, Option.map_some, Option.map_none, Option.bind_some, Nat.zero_add, Nat.reduceAdd, Nat.reduceSub, Bool.false_eq_true, Bool.not_true, Bool.not_false, Bool.and_true, Bool.true_and, Bool.and_false, Bool.false_and, Bool.or_false, Bool.false_or, Bool.true_or, Bool.or_true, getDs_d, er, Int.toNat_natCast, e1, app_ok hl, dints_len]
      rw [List.range_succ]
      simp only [List.map_append, List.map_cons, List.map_nil]
      exact ⟨_, _, _, _, rfl⟩)
    have er : rngOk (many : Int) = true := rngN_ok many (by omega)
    have n9 : (8 : Int) ≠ 0 := by decide
    simp only [b41, Nat.zero_le, nx_nx, nx_ct, nr_nx, nr_ct, nr_rt, turn_eq, tup2, tup3, ex, ev, outS, oneD, oneB, oneR, manyD, Out.bind, ofO, getDs, Rv.sh, peek, setS, setT, setN, onOut, onD, onB, onDs, callG, callD, callB, callM, resB, o2F, subF, lsD, keyD, flatD, noX, biF, isiF, isiA, if_true, if_false, List.getElem?_cons_zero, List.getElem?_cons_succ, List.set_cons_zero, List.set_cons_succ, List.map_cons, List.map_nil, List.length_cons, List.length_nil, List.length_map, Option.map_some, Option.map_none, Option.bind_some, Nat.zero_add, Nat.reduceAdd, Nat.reduceSub, Bool.false_eq_true, Bool.not_true, Bool.not_false, Bool.and_true, Bool.true_and, Bool.and_false, Bool.false_and, Bool.or_false, Bool.false_or, Bool.true_or, Bool.or_true, getDs_d, ar40, p_mixed, hx, n3, ne_eq, not_false_eq_true, hsz, er, Int.toNat_natCast, e1]
    rw [dints_len]
  · rw [List.all_eq_true]
    intro x hx
    obtain ⟨k, _, rfl⟩ := List.mem_map.mp hx
    exact nmF_ok _ sz (by omega) (by omega)
  · have e3 := nmF_at (at_ := at_) (by omega) e
    have q : ∀ k : Nat, f k at_ = f 0 at_ + (k : Int) := fun k => by rw [← hf]; simp
    rw [q, q j] at e3
    rw [Int.fmod_eq_emod_of_nonneg _ (by decide), Int.fmod_eq_emod_of_nonneg _ (by decide)] at e3
    omega
/-! rooms apart, turn by turn -/
section
open Classical
def dr (R : List (List Dr)) (r k : Nat) : Dr := (R.getD r []).getD k .shut
def Unl (R : List (List Dr)) (a r o : Nat) : Prop := ∃ k, k < a ∧ wdD (dr R r k) ≠ wdD (dr R o k)
def Ld (R : List (List Dr)) (a : Nat) (P : Nat → Nat → Prop) (r o : Nat) : Prop := ∃ k x y, k < a ∧ toN (dr R r k) = some x ∧ toN (dr R o k) = some y ∧ P x y
def Ap (R : List (List Dr)) (a : Nat) : Nat → Nat → Nat → Prop
  | 0, r, o => Unl R a r o
  | t + 1, r, o => Ap R a t r o ∨ Ld R a (Ap R a t) r o
theorem Ld_mono {R : List (List Dr)} {a : Nat} {P Q : Nat → Nat → Prop} (h : ∀ x y, P x y → Q x y) {r o : Nat} : Ld R a P r o → Ld R a Q r o := fun ⟨k, x, y, hk, h1, h2, h3⟩ => ⟨k, x, y, hk, h1, h2, h x y h3⟩
theorem Ap_step {R : List (List Dr)} {a : Nat} : ∀ {t r o : Nat}, Ap R a (t + 1) r o ↔ Unl R a r o ∨ Ld R a (Ap R a t) r o
  | 0, r, o => Iff.rfl
  | t + 1, r, o => by
    constructor
    · rintro (h | h)
      · rcases Ap_step.mp h with h | h
        · exact .inl h
        · exact .inr (Ld_mono (fun x y q => .inl q) h)
      · exact .inr h
    · rintro (h | h)
      · exact .inl (Ap_step.mpr (.inl h))
      · exact .inr h
theorem Ap_le {R : List (List Dr)} {a s t r o : Nat} (h : s ≤ t) (hs : Ap R a s r o) : Ap R a t r o := by
  induction t with
  | zero => rw [show s = 0 by omega] at hs; exact hs
  | succ t ih =>
    by_cases e : s = t + 1
    · rw [← e]; exact hs
    · exact .inl (ih (by omega))
theorem Ap_refl {R : List (List Dr)} {a : Nat} : ∀ {t r : Nat}, ¬ Ap R a t r r
  | 0, r, ⟨k, _, h⟩ => h rfl
  | t + 1, r, .inl h => Ap_refl h
  | t + 1, r, .inr ⟨k, x, y, _, h1, h2, h3⟩ => by
    rw [h1] at h2
    cases h2
    exact Ap_refl h3
theorem Ap_symm {R : List (List Dr)} {a : Nat} : ∀ {t r o : Nat}, Ap R a t r o → Ap R a t o r
  | 0, r, o, ⟨k, hk, h⟩ => ⟨k, hk, fun e => h e.symm⟩
  | t + 1, r, o, .inl h => .inl (Ap_symm h)
  | t + 1, r, o, .inr ⟨k, x, y, hk, h1, h2, h3⟩ => .inr ⟨k, y, x, hk, h2, h1, Ap_symm h3⟩
theorem toN_wd {d e : Dr} (h : wdD d = wdD e) (x : Nat) (hx : toN d = some x) : ∃ y, toN e = some y := by
  have w1 : ("must" : Str) ≠ "shut" := by decide +kernel
  have w2 : ("must" : Str) ≠ "torn" := by decide +kernel
  have w3 : ("may" : Str) ≠ "shut" := by decide +kernel
  have w4 : ("may" : Str) ≠ "torn" := by decide +kernel
  cases d <;> cases e <;> first | exact ⟨_, rfl⟩ | exact absurd h w1 | exact absurd h w2 | exact absurd h w3 | exact absurd h w4 | cases hx
theorem Ap_trans {R : List (List Dr)} {a : Nat} : ∀ {t r o : Nat} (p : Nat), Ap R a t r o → Ap R a t r p ∨ Ap R a t p o
  | 0, r, o, p, ⟨k, hk, h⟩ => by
    by_cases e : wdD (dr R r k) = wdD (dr R p k)
    · exact .inr ⟨k, hk, fun q => h (e.trans q)⟩
    · exact .inl ⟨k, hk, e⟩
  | t + 1, r, o, p, .inl h => (Ap_trans p h).imp .inl .inl
  | t + 1, r, o, p, .inr ⟨k, x, y, hk, h1, h2, h3⟩ => by
    by_cases e : wdD (dr R r k) = wdD (dr R p k)
    · obtain ⟨z, hz⟩ := toN_wd e x h1
      rcases Ap_trans z h3 with q | q
      · exact .inl (.inr ⟨k, x, z, hk, h1, hz, q⟩)
      · exact .inr (.inr ⟨k, z, y, hk, hz, h2, q⟩)
    · exact .inl (Ap_le (Nat.zero_le _) (show Ap R a 0 r p from ⟨k, hk, e⟩))
/-- apart at last -/
def ApW (R : List (List Dr)) (a r o : Nat) : Prop := ∃ t, Ap R a t r o
theorem dr_at {m a : Nat} {R : List (List Dr)} (h : RowsOk m a R) {r k : Nat} (hr : r < m) (hk : k < a) : ∃ row, R[r]? = some row ∧ row[k]? = some (dr R r k) ∧ row.length = a ∧ (dr R r k).ok m = true := by
  obtain ⟨row, d, h1, h2, h3, h4⟩ := at_row h hr hk
  have : dr R r k = d := by simp [dr, List.getD_eq_getElem?_getD, h1, h2]
  rw [this]
  exact ⟨row, h1, h2, h3, h4⟩
theorem dr_lt {m a : Nat} {R : List (List Dr)} (h : RowsOk m a R) {r k x : Nat} (hr : r < m) (hk : k < a) (e : toN (dr R r k) = some x) : x < m := by
  obtain ⟨_, _, _, _, h4⟩ := dr_at h hr hk
  exact toN_lt h4 e
theorem Ap_stop {m a : Nat} {R : List (List Dr)} (h : RowsOk m a R) {t : Nat} (st : ∀ r o, r < m → o < m → Ap R a (t + 1) r o → Ap R a t r o) : ∀ s r o, r < m → o < m → Ap R a (t + s) r o → Ap R a t r o
  | 0, r, o, hr, ho, q => q
  | s + 1, r, o, hr, ho, q => by
    rcases q with q | ⟨k, x, y, hk, h1, h2, h3⟩
    · exact Ap_stop h st s r o hr ho q
    · exact st r o hr ho (.inr ⟨k, x, y, hk, h1, h2, Ap_stop h st s x y (dr_lt h hr hk h1) (dr_lt h ho hk h2) h3⟩)
theorem ApW_of {m a : Nat} {R : List (List Dr)} (h : RowsOk m a R) {t : Nat} (st : ∀ r o, r < m → o < m → Ap R a (t + 1) r o → Ap R a t r o) {r o : Nat} (hr : r < m) (ho : o < m) : ApW R a r o ↔ Ap R a t r o := by
  refine ⟨fun ⟨s, q⟩ => ?_, fun q => ⟨t, q⟩⟩
  exact Ap_stop h st s r o hr ho (Ap_le (by omega) q)
/-- apart, one turn late -/
def Ea (R : List (List Dr)) (a : Nat) : Nat → Nat → Nat → Prop
  | 0, _, _ => False
  | t + 1, r, o => Ap R a t r o
theorem Ea_step {R : List (List Dr)} {a t r o : Nat} : Ea R a (t + 1) r o ↔ Unl R a r o ∨ Ld R a (Ea R a t) r o := by
  cases t with
  | zero => exact ⟨.inl, fun h => h.elim id fun ⟨_, _, _, _, _, _, h⟩ => h.elim⟩
  | succ t => exact Ap_step
theorem Ea_mono {R : List (List Dr)} {a t r o : Nat} (h : Ea R a t r o) : Ea R a (t + 1) r o := by
  cases t with
  | zero => exact h.elim
  | succ t => exact .inl h
theorem Ea_stop {m a : Nat} {R : List (List Dr)} (h : RowsOk m a R) {t : Nat} (st : ∀ r o, r < m → o < m → Ea R a (t + 1) r o → Ea R a t r o) {r o : Nat} (hr : r < m) (ho : o < m) : ApW R a r o ↔ Ea R a t r o := by
  cases t with
  | zero =>
    refine ⟨fun ⟨s, q⟩ => ?_, fun q => q.elim⟩
    exact st r o hr ho (Ap_stop h (t := 0) (fun r o hr ho q => by
      rcases q with q | ⟨k, x, y, hk, h1, h2, h3⟩
      · exact q
      · exact (st x y (dr_lt h hr hk h1) (dr_lt h ho hk h2) h3).elim) s r o hr ho (by rw [Nat.zero_add]; exact q))
  | succ t => exact ApW_of h st hr ho
theorem Ea_refl {R : List (List Dr)} {a t r : Nat} : ¬ Ea R a t r r := by
  cases t with
  | zero => exact id
  | succ t => exact Ap_refl
theorem Ea_symm {R : List (List Dr)} {a t r o : Nat} (h : Ea R a t r o) : Ea R a t o r := by
  cases t with
  | zero => exact h
  | succ t => exact Ap_symm h
theorem Ea_trans {R : List (List Dr)} {a t r o : Nat} (p : Nat) (h : Ea R a t r o) : Ea R a t r p ∨ Ea R a t p o := by
  cases t with
  | zero => exact h.elim
  | succ t => exact Ap_trans p h
/-- the least that is not apart -/
noncomputable def lst1 (E : Nat → Nat → Prop) (r : Nat) : Nat := ((List.range (r + 1)).find? fun x => decide (¬ E x r)).getD r
noncomputable def can (m : Nat) (E : Nat → Nat → Prop) : List Nat := (List.range m).map (lst1 E)
theorem lst1_spec {E : Nat → Nat → Prop} (hr : ∀ r, ¬ E r r) (r : Nat) : lst1 E r ≤ r ∧ ¬ E (lst1 E r) r ∧ ∀ x, x < lst1 E r → E x r := by
  unfold lst1
  cases q : (List.range (r + 1)).find? fun x => decide (¬ E x r) with
  | none =>
    rw [List.find?_eq_none] at q
    exact absurd (by simpa using hr r) (q r (by simp))
  | some x =>
    rw [List.find?_range_eq_some] at q
    obtain ⟨q1, q2, q3⟩ := q
    have q2 := List.mem_range.mp q2
    refine ⟨by simp; omega, by simpa using q1, fun y hy => ?_⟩
    have := q3 y hy
    simpa using this
theorem lst1_eq {E : Nat → Nat → Prop} (hr : ∀ r, ¬ E r r) (hs : ∀ r o, E r o → E o r) (ht : ∀ r o p, E r o → E r p ∨ E p o) {r o : Nat} : lst1 E r = lst1 E o ↔ ¬ E r o := by
  obtain ⟨a1, a2, a3⟩ := lst1_spec hr r
  obtain ⟨b1, b2, b3⟩ := lst1_spec hr o
  constructor
  · intro e h
    rcases ht r o (lst1 E r) h with q | q
    · exact a2 (hs _ _ q)
    · rw [e] at q; exact b2 q
  · intro h
    rcases Nat.lt_trichotomy (lst1 E r) (lst1 E o) with q | q | q
    · rcases ht _ _ r (b3 _ q) with z | z
      · exact (a2 z).elim
      · exact (h z).elim
    · exact q
    · rcases ht _ _ o (a3 _ q) with z | z
      · exact (b2 z).elim
      · exact (h (hs _ _ z)).elim
theorem can_get {m : Nat} {E : Nat → Nat → Prop} {r : Nat} (h : r < m) : (can m E)[r]? = some (lst1 E r) := by
  unfold can
  rw [List.getElem?_map, List.getElem?_range h]
  rfl
theorem find_congr {α : Type} {p q : α → Bool} : ∀ {l : List α}, (∀ x ∈ l, p x = q x) → l.find? p = l.find? q
  | [], _ => rfl
  | y :: l, h => by
    rw [List.find?_cons, List.find?_cons, h y (List.mem_cons_self ..), find_congr fun x hx => h x (List.mem_cons_of_mem _ hx)]
theorem can_ext {m : Nat} {E F : Nat → Nat → Prop} (h : ∀ r o, r < m → o < m → (E r o ↔ F r o)) : can m E = can m F := by
  unfold can
  apply List.map_congr_left
  intro r hr
  have hr := List.mem_range.mp hr
  unfold lst1
  rw [find_congr (p := fun x => decide (¬ E x r)) (q := fun x => decide (¬ F x r)) fun x hx => by
    have hx := List.mem_range.mp hx
    rw [decide_eq_decide, h x r (by omega) hr]]
theorem countP_lt {α : Type} {p q : α → Bool} : ∀ {l : List α}, (∀ x ∈ l, p x = true → q x = true) → (∃ x ∈ l, q x = true ∧ p x = false) → l.countP p < l.countP q
  | [], _, ⟨x, h, _⟩ => by cases h
  | y :: l, h, ⟨x, hx, h1, h2⟩ => by
    have hle : l.countP p ≤ l.countP q := List.countP_mono_left fun x hx => h x (List.mem_cons_of_mem _ hx)
    rw [List.countP_cons, List.countP_cons]
    rcases List.mem_cons.mp hx with e | e
    · subst e
      rw [h1, h2]
      simp
      omega
    · have ih := countP_lt (l := l) (fun x hx => h x (List.mem_cons_of_mem _ hx)) ⟨x, e, h1, h2⟩
      have hy := h y (List.mem_cons_self ..)
      cases e1 : p y with
      | true => rw [hy e1]; omega
      | false => simp; split <;> omega
end
/-! rooms drawn -/
def drX (x : Int) (m : Nat) : Dr := match (x.fmod 7).toNat with
  | 0 => .must ((x.fdiv 7).fmod (m : Int)).toNat
  | 1 => .may ((x.fdiv 7).fmod (m : Int)).toNat
  | 2 => .shut
  | 3 => .may ((x.fdiv 7).fmod (m : Int)).toNat
  | 4 => .must ((x.fdiv 7).fmod (m : Int)).toNat
  | 5 => .shut
  | _ => .may ((x.fdiv 7).fmod (m : Int)).toNat
def isS : Dr → Bool
  | .shut => true
  | _ => false
theorem eq_shut {d : Dr} (h : d ≠ .torn) : eqF (.str (wdD d)) (.str "shut") = some (isS d) := by
  cases d with
  | must t => show eqF (.str "must") (.str "shut") = some false; kernel_rfl
  | may t => show eqF (.str "may") (.str "shut") = some false; kernel_rfl
  | shut => kernel_rfl
  | torn => exact absurd rfl h
theorem drX_ok (x : Int) (m : Nat) (hm : 1 ≤ m) : (drX x m).ok m = true ∧ drX x m ≠ .torn := by
  obtain ⟨h1, h2⟩ := fm (x.fdiv 7) (j := (m : Int)) (by omega)
  have h3 : decide (((x.fdiv 7).fmod (m : Int)).toNat < m) = true := decide_eq_true (by omega)
  unfold drX
  split <;> first | exact ⟨h3, by intro z; cases z⟩ | exact ⟨rfl, by intro z; cases z⟩
theorem drX_wd (x : Int) (m : Nat) : L2.atI [Mp.D.str "must", .str "may", .str "shut", .str "may", .str "must", .str "shut", .str "may"] (x.fmod 7) = some (.str (wdD (drX x m))) := by
  obtain ⟨g1, g2⟩ := fm x (j := 7) (by decide)
  have : x.fmod 7 = 0 ∨ x.fmod 7 = 1 ∨ x.fmod 7 = 2 ∨ x.fmod 7 = 3 ∨ x.fmod 7 = 4 ∨ x.fmod 7 = 5 ∨ x.fmod 7 = 6 := by omega
  rcases this with h | h | h | h | h | h | h <;> (unfold drX; rw [h]; rfl)
theorem drX_to (x : Int) (m : Nat) (hm : 1 ≤ m) : L2.atI [Mp.D.int ((x.fdiv 7).fmod (m : Int)), .non] (if isS (drX x m) = true then 1 else 0) = some (toD (drX x m)) := by
  obtain ⟨h1, h2⟩ := fm (x.fdiv 7) (j := (m : Int)) (by omega)
  have hv : (((x.fdiv 7).fmod (m : Int)).toNat : Int) = (x.fdiv 7).fmod (m : Int) := by omega
  obtain ⟨t, ht⟩ : ∃ t : Nat, (x.fdiv 7).fmod (m : Int) = (t : Int) := ⟨_, hv.symm⟩
  unfold drX
  rw [ht, Int.toNat_natCast]
  obtain ⟨g1, g2⟩ := fm x (j := 7) (by decide)
  have : x.fmod 7 = 0 ∨ x.fmod 7 = 1 ∨ x.fmod 7 = 2 ∨ x.fmod 7 = 3 ∨ x.fmod 7 = 4 ∨ x.fmod 7 = 5 ∨ x.fmod 7 = 6 := by omega
  rcases this with h | h | h | h | h | h | h <;> (rw [h]; rfl)
def rX (ns : List Int) (m a r : Nat) : List Dr := (List.range a).map fun k => drX (mxu (cel ns (2 + (r * a + k))) ((r * a + k : Nat) : Int)) m
def RX (ns : List Int) (m a : Nat) : List (List Dr) := (List.range m).map (rX ns m a)
theorem RX_ok (ns : List Int) (m a : Nat) (hm : 1 ≤ m) : RowsOk m a (RX ns m a) ∧ ∀ r ∈ RX ns m a, ∀ d ∈ r, d ≠ Dr.torn := by
  have q : ∀ r ∈ RX ns m a, r.length = a ∧ ∀ d ∈ r, d.ok m = true ∧ d ≠ .torn := fun r hr => by
    obtain ⟨i, _, rfl⟩ := List.mem_map.mp hr
    refine ⟨by simp [rX], fun d hd => ?_⟩
    obtain ⟨k, _, rfl⟩ := List.mem_map.mp hd
    exact drX_ok _ m hm
  exact ⟨⟨by simp [RX], fun r hr => (q r hr).1, fun r hr d hd => ((q r hr).2 d hd).1⟩, fun r hr d hd => ((q r hr).2 d hd).2⟩
theorem p_rowsX (n : Nat) (ns : List Int) (m a : Nat) (hm : 1 ≤ m) (h40 : m ≤ 40) (ha : a ≤ 8) : Mp.run G (n + 2) 42 [.d (.scr ns), .d (.int ((m : Nat) : Int)), .d (.int ((a : Nat) : Int))] [] = .ok (.o (.lst ((RX ns m a).map rwD))) [] := by
  have sl := sl_big
  have z7 : (7 : Int) ≠ 0 := by decide
  have z8 : (7 : Int).natAbs < 1073741824 := by decide
  have zm : (m : Int) ≠ 0 := by omega
  rw [ru42]
  obtain ⟨s', e1, q4, q5, q6, q7, q8, q9, rfl⟩ := for_nx (f := ex G (Mp.run G (n + 1)) l42_1) (tg := [4]) (ds := dints m 0) (s := ⟨[some (.d (.scr ns)), some (.d (.int ((m : Nat) : Int))), some (.d (.int ((a : Nat) : Int))), some (.o (.lst ([]))), none, none, none, none, none, none], []⟩)
    (I := fun r s => ∃ q4 q5 q6 q7 q8 q9, s = ⟨[some (.d (.scr ns)), some (.d (.int ((m : Nat) : Int))), some (.d (.int ((a : Nat) : Int))), some (.o (.lst (((List.range r).map (rX ns m a)).map rwD))), q4, q5, q6, q7, q8, q9], []⟩) 0 ⟨none, none, none, none, none, none, rfl⟩ (by
    rintro r d hd s ⟨q4, q5, q6, q7, q8, q9, rfl⟩
    have hd2 := dints_at hd
    have hk := hd2.1
    have e0 := hd2.2
    subst e0
    rw [Nat.zero_add, Int.zero_add]
    obtain ⟨s', e1, q6', q7', q8', q9', rfl⟩ := for_nx (f := ex G (Mp.run G (n + 1)) l42_0) (tg := [6]) (ds := dints a 0) (s := ⟨[some (.d (.scr ns)), some (.d (.int ((m : Nat) : Int))), some (.d (.int ((a : Nat) : Int))), some (.o (.lst (((List.range r).map (rX ns m a)).map rwD))), some (.d (.int ((r : Nat) : Int))), some (.o (.lst ([]))), q6, q7, q8, q9], []⟩)
      (I := fun j s => ∃ q6 q7 q8 q9, s = ⟨[some (.d (.scr ns)), some (.d (.int ((m : Nat) : Int))), some (.d (.int ((a : Nat) : Int))), some (.o (.lst (((List.range r).map (rX ns m a)).map rwD))), some (.d (.int ((r : Nat) : Int))), some (.o (.lst (((List.range j).map fun k => drX (mxu (cel ns (2 + (r * a + k))) ((r * a + k : Nat) : Int)) m).map tD))), q6, q7, q8, q9], []⟩) 0 ⟨q6, q7, q8, q9, rfl⟩ (by
      rintro j d hd s ⟨q6, q7, q8, q9, rfl⟩
      have hd2 := dints_at hd
      have hj := hd2.1
      have e0 := hd2.2
      subst e0
      rw [Nat.zero_add, Int.zero_add]
      have m1 : mulOk (r : Int) (a : Int) = true := mulOk_lit _ _ (by omega)
      have ei : (r : Int) * (a : Int) + (j : Int) = ((r * a + j : Nat) : Int) := by push_cast; rfl
      have ei2 : (2 : Int) + ((r * a + j : Nat) : Int) = ((2 + (r * a + j) : Nat) : Int) := by push_cast; rfl
      have hl : (((List.range j).map fun k => drX (mxu (cel ns (2 + (r * a + k))) ((r * a + k : Nat) : Int)) m).map tD).length < sizeLine := by simp; omega
      have t2 : 2 ≤ sizeLine := by omega
      have t7 : 7 ≤ sizeLine := by omega
      generalize hx : mxu (cel ns (2 + (r * a + j))) ((r * a + j : Nat) : Int) = x
      have d1 := drX_wd x m
      have d2 := eq_shut (drX_ok x m hm).2
      have d3 := drX_to x m hm
      simp only [l42_0, Nat.zero_le, nx_nx, nx_ct, nr_nx, nr_ct, nr_rt, turn_eq, tup2, tup3, ex, ev, outS, oneD, oneB, oneR, manyD, Out.bind, ofO, getDs, Rv.sh, peek, setS, setT, setN, onOut, onD, onB, onDs, callG, callD, callB, callM, resB, o2F, subF, lsD, keyD, flatD, noX, biF, isiF, isiA, if_true, if_false, List.getElem?_cons_zero, List.getElem?_cons_succ, List.set_cons_zero, List.set_cons_succ, List.map_cons, List.map_nil, List.length_cons, List.length_nil, List.length_map, Option.map_some, Option.map_none, Option.bind_some, Nat.zero_add, Nat.reduceAdd, Nat.reduceSub, Bool.false_eq_true, Bool.not_true, Bool.not_false, Bool.and_true, Bool.true_and, Bool.and_false, Bool.false_and, Bool.or_false, Bool.false_or, Bool.true_or, Bool.or_true, m1, ei, ei2, ar40, ar38, p_cel, p_mixed, hx, z7, z8, zm, ne_eq, not_false_eq_true, and_self, d1, d2, d3, app_ok hl, t2, t7, Nat.reduceLeDiff]
      rw [List.range_succ, List.map_append, List.map_append]
      simp only [List.map_cons, List.map_nil, hx, tD_eq]
      exact ⟨_, _, _, _, rfl⟩)
    have er : rngOk (a : Int) = true := rngN_ok a (by omega)
    have hl : (((List.range r).map (rX ns m a)).map rwD).length < sizeLine := by simp; omega
    simp only [l42_1, Nat.zero_le, nx_nx, nx_ct, nr_nx, nr_ct, nr_rt, turn_eq, tup2, tup3, ex, ev, outS, oneD, oneB, oneR, manyD, Out.bind, ofO, getDs, Rv.sh, peek, setS, setT, setN, onOut, onD, onB, onDs, callG, callD, callB, callM, resB, o2F, subF, lsD, keyD, flatD, noX, biF, isiF, isiA, if_true, if_false, List.getElem?_cons_zero, List.getElem?_cons_succ, List.set_cons_zero, List.set_cons_succ, List.map_cons, List.map_nil, List.length_cons, List.length_nil, List.length_map, Option.map_some, Option.map_none, Option.bind_some, Nat.zero_add, Nat.reduceAdd, Nat.reduceSub, Bool.false_eq_true, Bool.not_true, Bool.not_false, Bool.and_true, Bool.true_and, Bool.and_false, Bool.false_and, Bool.or_false, Bool.false_or, Bool.true_or, Bool.or_true, getDs_d, er, Int.toNat_natCast, e1, app_ok hl, dints_len]
    rw [List.range_succ, List.map_append, List.map_append]
    simp only [List.map_cons, List.map_nil]
    exact ⟨_, _, _, _, _, _, rfl⟩)
  have er : rngOk (m : Int) = true := rngN_ok m (by omega)
  simp only [b42, Nat.zero_le, nx_nx, nx_ct, nr_nx, nr_ct, nr_rt, turn_eq, tup2, tup3, ex, ev, outS, oneD, oneB, oneR, manyD, Out.bind, ofO, getDs, Rv.sh, peek, setS, setT, setN, onOut, onD, onB, onDs, callG, callD, callB, callM, resB, o2F, subF, lsD, keyD, flatD, noX, biF, isiF, isiA, if_true, if_false, List.getElem?_cons_zero, List.getElem?_cons_succ, List.set_cons_zero, List.set_cons_succ, List.map_cons, List.map_nil, List.length_cons, List.length_nil, List.length_map, Option.map_some, Option.map_none, Option.bind_some, Nat.zero_add, Nat.reduceAdd, Nat.reduceSub, Bool.false_eq_true, Bool.not_true, Bool.not_false, Bool.and_true, Bool.true_and, Bool.and_false, Bool.false_and, Bool.or_false, Bool.false_or, Bool.true_or, Bool.or_true, getDs_d, er, Int.toNat_natCast, e1, dints_len]
  rfl
/-! kinds drawn -/
def insK (K : List Nat) (p k : Nat) : List Nat := K.take p ++ [k] ++ K.drop p
def kI (x : Int) (k : Nat) : Nat → List Nat → List Nat
  | 0, K => K
  | j + 1, K => insK (kI x k j K) (1 + ((x.fdiv (3 + (j : Int))).fmod ((kI x k j K).length : Int)).toNat) k
def kc (x : Int) (k : Nat) : Nat := (x.fmod 3 + if decide ((0 : Int) < (k : Int)) = true then 1 else 0).toNat
def KS (c : Int) : Nat → List Nat
  | 0 => [0]
  | k + 1 => kI (mxu c (300 + (k : Int))) k (kc (mxu c (300 + (k : Int))) k) (KS c k)
theorem kc_le (x : Int) (k : Nat) : kc x k ≤ 3 ∧ (0 < k → 1 ≤ kc x k) ∧ ((kc x k : Nat) : Int) = x.fmod 3 + if decide ((0 : Int) < (k : Int)) = true then 1 else 0 := by
  obtain ⟨g1, g2⟩ := fm x (j := 3) (by decide)
  unfold kc
  by_cases h : (0 : Int) < (k : Int)
  · rw [decide_eq_true h, if_pos rfl]; omega
  · rw [decide_eq_false h, if_neg (by decide)]; omega
theorem insK_len (K : List Nat) (p k : Nat) : (insK K p k).length = K.length + 1 := by
  unfold insK
  simp
  omega
theorem insK_mem {K : List Nat} {p k x : Nat} : x ∈ insK K p k ↔ x ∈ K ∨ x = k := by
  unfold insK
  rw [List.mem_append, List.mem_append, List.mem_singleton]
  constructor
  · rintro ((h | h) | h)
    · exact .inl (List.mem_of_mem_take h)
    · exact .inr h
    · exact .inl (List.mem_of_mem_drop h)
  · rintro (h | h)
    · rw [← List.take_append_drop p K, List.mem_append] at h
      rcases h with h | h
      · exact .inl (.inl h)
      · exact .inr h
    · exact .inl (.inr h)
theorem insK_hd {K : List Nat} {p k : Nat} (h : K.head? = some 0) : (insK K (1 + p) k).head? = some 0 := by
  cases K with
  | nil => cases h
  | cons y K => rw [Nat.add_comm]; exact h
theorem kI_sp (x : Int) (k : Nat) : ∀ (j : Nat) (K : List Nat), K.head? = some 0 → (kI x k j K).length = K.length + j ∧ (kI x k j K).head? = some 0 ∧ (∀ y, y ∈ kI x k j K ↔ y ∈ K ∨ (y = k ∧ 1 ≤ j))
  | 0, K, h => ⟨rfl, h, fun y => ⟨.inl, fun h => h.elim id fun h => absurd h.2 (by decide)⟩⟩
  | j + 1, K, h => by
    obtain ⟨h1, h2, h3⟩ := kI_sp x k j K h
    refine ⟨by show (insK _ _ _).length = _; rw [insK_len, h1]; omega, insK_hd h2, fun y => ?_⟩
    show y ∈ insK _ _ _ ↔ _
    rw [insK_mem, h3]
    constructor
    · rintro ((q | q) | q)
      · exact .inl q
      · exact .inr ⟨q.1, by omega⟩
      · exact .inr ⟨q, by omega⟩
    · rintro (q | q)
      · exact .inl (.inl q)
      · exact .inr q.1
theorem KS_sp (c : Int) : ∀ k, (KS c k).length ≤ 1 + 3 * k ∧ (KS c k).head? = some 0 ∧ ∀ y, y ∈ KS c k ↔ y = 0 ∨ y < k
  | 0 => ⟨Nat.le_refl _, rfl, fun y => by show y ∈ [0] ↔ _; simp⟩
  | k + 1 => by
    obtain ⟨h1, h2, h3⟩ := KS_sp c k
    obtain ⟨g1, g2, _⟩ := kc_le (mxu c (300 + (k : Int))) k
    obtain ⟨q1, q2, q3⟩ := kI_sp (mxu c (300 + (k : Int))) k (kc (mxu c (300 + (k : Int))) k) (KS c k) h2
    refine ⟨by show (kI _ _ _ _).length ≤ _; omega, q2, fun y => ?_⟩
    show y ∈ kI _ _ _ _ ↔ _
    rw [q3, h3]
    constructor
    · omega
    · rintro (q | q)
      · exact .inl (.inl q)
      · by_cases e : y = k
        · by_cases e0 : k = 0
          · exact .inl (.inl (by omega))
          · exact .inr ⟨e, g2 (by omega)⟩
        · exact .inl (.inr (by omega))
theorem p_kinds (n : Nat) (m : Nat) (c : Int) (hm : m ≤ 40) : Mp.run G (n + 2) 43 [.d (.int ((m : Nat) : Int)), .d (.int (c))] [] = .ok (.o (.lst ((KS c m).map iD))) [] := by
  have sl := sl_big
  have n3 : (3 : Int) ≠ 0 := by decide
  have t1 : 1 ≤ sizeLine := by omega
  rw [ru43]
  obtain ⟨s', e1, q3, q4, q5, q6, rfl⟩ := for_nx (f := ex G (Mp.run G (n + 1)) l43_1) (tg := [3]) (ds := dints m 0) (s := ⟨[some (.d (.int ((m : Nat) : Int))), some (.d (.int (c))), some (.o (.lst ([iD 0]))), none, none, none, none], []⟩)
    (I := fun k s => ∃ q3 q4 q5 q6, s = ⟨[some (.d (.int ((m : Nat) : Int))), some (.d (.int (c))), some (.o (.lst ((KS c k).map iD))), q3, q4, q5, q6], []⟩) 0 ⟨none, none, none, none, rfl⟩ (by
    rintro k d hd s ⟨q3, q4, q5, q6, rfl⟩
    have hd2 := dints_at hd
    have hk := hd2.1
    have e0 := hd2.2
    subst e0
    rw [Nat.zero_add, Int.zero_add]
    obtain ⟨h1, h2, h3⟩ := KS_sp c k
    generalize hK : KS c k = K at h1 h2 h3
    generalize hx : mxu c (300 + (k : Int)) = x
    obtain ⟨g1, g2, g3⟩ := kc_le x k
    generalize hc : kc x k = cn at g1 g2 g3
    have g3 := g3.symm
    obtain ⟨s', e1, q5', q6', rfl⟩ := for_nx (f := ex G (Mp.run G (n + 1)) l43_0) (tg := [5]) (ds := dints cn 0) (s := ⟨[some (.d (.int ((m : Nat) : Int))), some (.d (.int (c))), some (.o (.lst (K.map iD))), some (.d (.int ((k : Nat) : Int))), some (.d (.int (x))), q5, q6], []⟩)
      (I := fun j s => ∃ q5 q6, s = ⟨[some (.d (.int ((m : Nat) : Int))), some (.d (.int (c))), some (.o (.lst ((kI x k j K).map iD))), some (.d (.int ((k : Nat) : Int))), some (.d (.int (x))), q5, q6], []⟩) 0 ⟨q5, q6, rfl⟩ (by
      rintro j d hd s ⟨q5, q6, rfl⟩
      have hd2 := dints_at hd
      have hj := hd2.1
      have e0 := hd2.2
      subst e0
      rw [Nat.zero_add, Int.zero_add]
      obtain ⟨i1, i2, i3⟩ := kI_sp x k j K h2
      show nxOk (fun s => ∃ q5 q6, s = ⟨[some (.d (.int ((m : Nat) : Int))), some (.d (.int (c))), some (.o (.lst ((insK (kI x k j K) (1 + ((x.fdiv (3 + (j : Int))).fmod ((kI x k j K).length : Int)).toNat) k).map iD))), some (.d (.int ((k : Nat) : Int))), some (.d (.int (x))), q5, q6], []⟩) _
      have lp : 0 < (kI x k j K).length := by
        cases z : kI x k j K with
        | nil => rw [z] at i2; cases i2
        | cons _ _ => simp
      generalize kI x k j K = J at i1 i2 i3 lp
      have n1 : ¬ (3 : Int) + (j : Int) = 0 := by omega
      have n2 : ((3 : Int) + (j : Int)).natAbs < 1073741824 := by omega
      have n4 : ¬ (J.length : Int) = 0 := by omega
      obtain ⟨f1, f2⟩ := fm (x.fdiv (3 + (j : Int))) (j := (J.length : Int)) (by omega)
      obtain ⟨p, hp⟩ : ∃ p : Nat, (x.fdiv (3 + (j : Int))).fmod (J.length : Int) = (p : Int) := ⟨((x.fdiv (3 + (j : Int))).fmod (J.length : Int)).toNat, by omega⟩
      have hp1 : 1 + p ≤ J.length := by omega
      have ep : (1 : Int) + (p : Int) = ((1 + p : Nat) : Int) := by push_cast; rfl
      have c1 : cutD (J.map iD) none (some ((1 + p : Nat) : Int)) = (J.map iD).take (1 + p) := cutD_to _ (by rw [List.length_map]; omega)
      have c2 : cutD (J.map iD) (some ((1 + p : Nat) : Int)) none = (J.map iD).drop (1 + p) := cutD_from _ (by rw [List.length_map]; omega)
      have l1 : ((J.map iD).take (1 + p)).length + 1 ≤ sizeLine := by rw [List.length_take, List.length_map]; omega
      have l2 : ((J.map iD).take (1 + p) ++ [iD k]).length + ((J.map iD).drop (1 + p)).length ≤ sizeLine := by rw [List.length_append, List.length_take, List.length_drop, List.length_map]; show min (1 + p) J.length + 1 + _ ≤ _; omega
      simp only [l43_0, Nat.zero_le, nx_nx, nx_ct, nr_nx, nr_ct, nr_rt, turn_eq, tup2, tup3, ex, ev, outS, oneD, oneB, oneR, manyD, Out.bind, ofO, getDs, Rv.sh, peek, setS, setT, setN, onOut, onD, onB, onDs, callG, callD, callB, callM, resB, o2F, subF, lsD, keyD, flatD, noX, biF, isiF, isiA, if_true, if_false, List.getElem?_cons_zero, List.getElem?_cons_succ, List.set_cons_zero, List.set_cons_succ, List.map_cons, List.map_nil, List.length_cons, List.length_nil, List.length_map, Option.map_some, Option.map_none, Option.bind_some, Nat.zero_add, Nat.reduceAdd, Nat.reduceSub, Bool.false_eq_true, Bool.not_true, Bool.not_false, Bool.and_true, Bool.true_and, Bool.and_false, Bool.false_and, Bool.or_false, Bool.false_or, Bool.true_or, Bool.or_true, partL, slcF, n1, n2, n4, ne_eq, not_false_eq_true, and_self, hp, ep, c1, c2, l1, l2, t1, Int.toNat_natCast]
      rw [show insK J (1 + p) k = J.take (1 + p) ++ [k] ++ J.drop (1 + p) from rfl, List.map_append, List.map_append, List.map_take, List.map_drop]
      exact ⟨_, _, rfl⟩)
    have er : rngOk (cn : Int) = true := rngN_ok cn (by omega)
    simp only [l43_1, Nat.zero_le, nx_nx, nx_ct, nr_nx, nr_ct, nr_rt, turn_eq, tup2, tup3, ex, ev, outS, oneD, oneB, oneR, manyD, Out.bind, ofO, getDs, Rv.sh, peek, setS, setT, setN, onOut, onD, onB, onDs, callG, callD, callB, callM, resB, o2F, subF, lsD, keyD, flatD, noX, biF, isiF, isiA, if_true, if_false, List.getElem?_cons_zero, List.getElem?_cons_succ, List.set_cons_zero, List.set_cons_succ, List.map_cons, List.map_nil, List.length_cons, List.length_nil, List.length_map, Option.map_some, Option.map_none, Option.bind_some, Nat.zero_add, Nat.reduceAdd, Nat.reduceSub, Bool.false_eq_true, Bool.not_true, Bool.not_false, Bool.and_true, Bool.true_and, Bool.and_false, Bool.false_and, Bool.or_false, Bool.false_or, Bool.true_or, Bool.or_true, getDs_d, ar40, p_mixed, hx, n3, ne_eq, not_false_eq_true, g3, er, Int.toNat_natCast, e1, dints_len]
    rw [show KS c (k + 1) = kI x k cn K by rw [← hK, ← hc, ← hx]; rfl]
    exact ⟨_, _, _, _, rfl⟩)
  have er : rngOk (m : Int) = true := rngN_ok m (by omega)
  have z0 : (0 : Int) = ((0 : Nat) : Int) := rfl
  simp only [b43, Nat.zero_le, nx_nx, nx_ct, nr_nx, nr_ct, nr_rt, turn_eq, tup2, tup3, ex, ev, outS, oneD, oneB, oneR, manyD, Out.bind, ofO, getDs, Rv.sh, peek, setS, setT, setN, onOut, onD, onB, onDs, callG, callD, callB, callM, resB, o2F, subF, lsD, keyD, flatD, noX, biF, isiF, isiA, if_true, if_false, List.getElem?_cons_zero, List.getElem?_cons_succ, List.set_cons_zero, List.set_cons_succ, List.map_cons, List.map_nil, List.length_cons, List.length_nil, List.length_map, Option.map_some, Option.map_none, Option.bind_some, Nat.zero_add, Nat.reduceAdd, Nat.reduceSub, Bool.false_eq_true, Bool.not_true, Bool.not_false, Bool.and_true, Bool.true_and, Bool.and_false, Bool.false_and, Bool.or_false, Bool.false_or, Bool.true_or, Bool.or_true, getDs_d, er, Int.toNat_natCast, t1]
  rw [show [Mp.D.int 0] = [iD 0] from rfl, e1, dints_len]
  simp only [Nat.zero_le, nx_nx, nx_ct, nr_nx, nr_ct, nr_rt, turn_eq, tup2, tup3, ex, ev, outS, oneD, oneB, oneR, manyD, Out.bind, ofO, getDs, Rv.sh, peek, setS, setT, setN, onOut, onD, onB, onDs, callG, callD, callB, callM, resB, o2F, subF, lsD, keyD, flatD, noX, biF, isiF, isiA, if_true, if_false, List.getElem?_cons_zero, List.getElem?_cons_succ, List.set_cons_zero, List.set_cons_succ, List.map_cons, List.map_nil, List.length_cons, List.length_nil, List.length_map, Option.map_some, Option.map_none, Option.bind_some, Nat.zero_add, Nat.reduceAdd, Nat.reduceSub, Bool.false_eq_true, Bool.not_true, Bool.not_false, Bool.and_true, Bool.true_and, Bool.and_false, Bool.false_and, Bool.or_false, Bool.false_or, Bool.true_or, Bool.or_true]
/-! a plan blown up -/
def occ (K : List Nat) (t : Nat) : List Nat := (List.range K.length).filter fun j => K.getD j 0 == t
def pick (K : List Nat) (t : Nat) (x : Int) : Nat := (occ K t).getD (x.fmod ((occ K t).length : Int)).toNat 0
def reD (d : Dr) (f : Nat → Nat) : Dr := match d with
  | .must t => .must (f t)
  | .may t => .may (f t)
  | d => d
def blD (c : Int) (K : List Nat) (i k : Nat) (d : Dr) : Dr := reD d fun t => pick K t (mxu c (400 + 9 * (i : Int) + (k : Int)))
def blR (c : Int) (K : List Nat) (R : List (List Dr)) (a i : Nat) : List Dr := (List.range a).map fun k => blD c K i k (dr R (K.getD i 0) k)
def BL (c : Int) (K : List Nat) (R : List (List Dr)) (a : Nat) : List (List Dr) := (List.range K.length).map (blR c K R a)
theorem occ_mem {K : List Nat} {t j : Nat} : j ∈ occ K t ↔ j < K.length ∧ K.getD j 0 = t := by
  unfold occ
  rw [List.mem_filter, List.mem_range]
  simp
theorem occ_pos {K : List Nat} {t : Nat} (h : t ∈ K) : 0 < (occ K t).length := by
  obtain ⟨i, hi⟩ := List.getElem?_of_mem h
  have : i ∈ occ K t := occ_mem.mpr ⟨(List.getElem?_eq_some_iff.mp hi).1, by simp [List.getD_eq_getElem?_getD, hi]⟩
  exact List.length_pos_of_mem this
theorem pick_sp {K : List Nat} {t : Nat} (x : Int) (h : t ∈ K) : L2.atI ((occ K t).map iD) (x.fmod ((occ K t).length : Int)) = some (iD (pick K t x)) ∧ pick K t x < K.length ∧ K.getD (pick K t x) 0 = t := by
  have hp := occ_pos h
  obtain ⟨g1, g2⟩ := fm x (j := ((occ K t).length : Int)) (by omega)
  obtain ⟨p, e⟩ : ∃ p : Nat, x.fmod ((occ K t).length : Int) = (p : Int) := ⟨(x.fmod ((occ K t).length : Int)).toNat, by omega⟩
  have hl : p < (occ K t).length := by omega
  have ep : pick K t x = (occ K t)[p] := by
    unfold pick
    rw [e, Int.toNat_natCast]
    simp [List.getD_eq_getElem?_getD, hl]
  have hm : pick K t x ∈ occ K t := by rw [ep]; exact List.getElem_mem hl
  refine ⟨?_, occ_mem.mp hm⟩
  rw [e, atI_nat', List.getElem?_map, List.getElem?_eq_getElem hl, ep]
  rfl
def pK (K : List Nat) (to : Mp.D) : Mp.D → Bool
  | .int j => eqB (iD (K.getD j.toNat 0)) to
  | _ => false
theorem pK_occ (K : List Nat) (t : Nat) : ((dints K.length 0).filter (pK K (iD t))).map (fun d => d) = (occ K t).map iD := by
  unfold dints occ
  rw [List.map_id', List.filter_map]
  rw [List.filter_congr (q := fun j => K.getD j 0 == t) fun j _ => by
    show eqB (iD (K.getD (0 + (j : Int)).toNat 0)) (iD t) = _
    rw [Int.zero_add, Int.toNat_natCast]
    show (((K.getD j 0 : Nat) : Int) == (t : Int)) = _
    rw [Bool.eq_iff_iff, beq_iff_eq, beq_iff_eq]
    omega]
  apply List.map_congr_left
  intro j _
  rw [Int.zero_add]
theorem BL_ok {m a : Nat} {c : Int} {K : List Nat} {R : List (List Dr)} (h : RowsOk m a R) (nt : ∀ r ∈ R, ∀ d ∈ r, d ≠ Dr.torn) (hK : ∀ y, y ∈ K ↔ y < m) : RowsOk K.length a (BL c K R a) ∧ ∀ r ∈ BL c K R a, ∀ d ∈ r, d ≠ Dr.torn := by
  have q : ∀ r ∈ BL c K R a, r.length = a ∧ ∀ d ∈ r, d.ok K.length = true ∧ d ≠ .torn := fun r hr => by
    obtain ⟨i, hi, rfl⟩ := List.mem_map.mp hr
    have hi := List.mem_range.mp hi
    refine ⟨by simp [blR], fun d hd => ?_⟩
    obtain ⟨k, hk, rfl⟩ := List.mem_map.mp hd
    have hk := List.mem_range.mp hk
    have hkm : K.getD i 0 < m := (hK _).mp (by rw [List.getD_eq_getElem?_getD, List.getElem?_eq_getElem hi]; exact List.getElem_mem hi)
    obtain ⟨row, e1, e2, e3, e4⟩ := dr_at h hkm hk
    have hn := nt row (List.mem_of_getElem? e1) _ (List.mem_of_getElem? e2)
    unfold blD reD
    cases z : dr R (K.getD i 0) k with
    | must t =>
      rw [z] at e4
      exact ⟨decide_eq_true (pick_sp _ ((hK t).mpr (of_decide_eq_true e4))).2.1, by intro z; cases z⟩
    | may t =>
      rw [z] at e4
      exact ⟨decide_eq_true (pick_sp _ ((hK t).mpr (of_decide_eq_true e4))).2.1, by intro z; cases z⟩
    | shut => exact ⟨rfl, by intro z; cases z⟩
    | torn => exact absurd z hn
  exact ⟨⟨by simp [BL], fun r hr => (q r hr).1, fun r hr d hd => ((q r hr).2 d hd).1⟩, fun r hr d hd => ((q r hr).2 d hd).2⟩
theorem p_blown (n : Nat) (c : Int) (m a : Nat) (R : List (List Dr)) (hR : RowsOk m a R) (nt : ∀ r ∈ R, ∀ d ∈ r, d ≠ Dr.torn) (hm : 1 ≤ m) (h40 : m ≤ 40) (ha : a ≤ 8) : Mp.run G (n + 3) 44 [.d (.lst (R.map rwD)), .d (.int (c))] [] = .ok (.o (.lst ((BL c (KS c m) R a).map rwD))) [] := by
  have sl := sl_big
  obtain ⟨k1, k2, k3⟩ := KS_sp c m
  have k3 : ∀ y, y ∈ KS c m ↔ y < m := fun y => by rw [k3]; omega
  have pk := p_kinds n m c h40
  have eR := hR.len
  generalize KS c m = K at *
  rw [ru44]
  obtain ⟨s', e1, q4, q5, q6, q7, q8, q9, rfl, _⟩ := for_nx (f := ex G (Mp.run G (n + 2)) l44_1) (tg := [4]) (ds := dints K.length 0) (s := ⟨[some (.d (.lst (R.map rwD))), some (.d (.int (c))), some (.o (.lst (K.map iD))), some (.o (.lst ([]))), none, none, none, none, none, none], []⟩)
    (I := fun i s => ∃ q4 q5 q6 q7 q8 q9, s = ⟨[some (.d (.lst (R.map rwD))), some (.d (.int (c))), some (.o (.lst (K.map iD))), some (.o (.lst (((List.range i).map (blR c K R a)).map rwD))), q4, q5, q6, q7, q8, q9], []⟩ ∧ ∀ x, q9 ≠ some (.o x)) 0 ⟨none, none, none, none, none, none, rfl, fun x e => by cases e⟩ (by
    rintro i d hd s ⟨q4, q5, q6, q7, q8, q9, rfl, hq9⟩
    have hd2 := dints_at hd
    have hi := hd2.1
    have e0 := hd2.2
    subst e0
    rw [Nat.zero_add, Int.zero_add]
    obtain ⟨kd, hkd⟩ : ∃ kd, K[i]? = some kd := ⟨_, List.getElem?_eq_getElem hi⟩
    have ekd : K.getD i 0 = kd := by simp [List.getD_eq_getElem?_getD, hkd]
    have hkm : kd < m := (k3 kd).mp (List.mem_of_getElem? hkd)
    obtain ⟨row, hrow⟩ : ∃ row, R[kd]? = some row := ⟨_, List.getElem?_eq_getElem (by omega)⟩
    have hrm := List.mem_of_getElem? hrow
    have hrl := hR.row row hrm
    have a1 : L2.atI (K.map iD) (i : Int) = some (iD kd) := by rw [atI_nat', List.getElem?_map, hkd]; rfl
    have a2 : L2.atI (R.map rwD) (kd : Int) = some (.lst (row.map tD)) := by rw [atI_nat', List.getElem?_map, hrow]; rfl
    obtain ⟨s', e1, q6', q7', q8', q9', rfl, hq9'⟩ := for_nx (f := ex G (Mp.run G (n + 2)) l44_0) (tg := [6, 7]) (ds := row.map tD) (s := ⟨[some (.d (.lst (R.map rwD))), some (.d (.int (c))), some (.o (.lst (K.map iD))), some (.o (.lst (((List.range i).map (blR c K R a)).map rwD))), some (.d (.int ((i : Nat) : Int))), some (.o (.lst ([]))), q6, q7, q8, q9], []⟩)
      (I := fun k s => ∃ q6 q7 q8 q9, s = ⟨[some (.d (.lst (R.map rwD))), some (.d (.int (c))), some (.o (.lst (K.map iD))), some (.o (.lst (((List.range i).map (blR c K R a)).map rwD))), some (.d (.int ((i : Nat) : Int))), some (.o (.lst (((List.range k).map fun k => blD c K i k (dr R (K.getD i 0) k)).map tD))), q6, q7, q8, q9], []⟩ ∧ ∀ x, q9 ≠ some (.o x)) 0 ⟨q6, q7, q8, q9, rfl, hq9⟩ (by
      rintro k d hd s ⟨q6, q7, q8, q9, rfl, hq9⟩
      rw [Nat.zero_add]
      rw [List.getElem?_map, Option.map_eq_some_iff] at hd
      obtain ⟨dd, hdd, e0⟩ := hd
      subst e0
      have hk : k < row.length := (List.getElem?_eq_some_iff.mp hdd).1
      have edr : dr R (K.getD i 0) k = dd := by simp [dr, List.getD_eq_getElem?_getD, hkd, hrow, hdd]
      have hn := nt row hrm dd (List.mem_of_getElem? hdd)
      have hok := hR.ok row hrm dd (List.mem_of_getElem? hdd)
      have et : turnF (ex G (Mp.run G (n + 2)) l44_0) [6, 7] (tD dd) ⟨[some (.d (.lst (R.map rwD))), some (.d (.int (c))), some (.o (.lst (K.map iD))), some (.o (.lst (((List.range i).map (blR c K R a)).map rwD))), some (.d (.int ((i : Nat) : Int))), some (.o (.lst (((List.range k).map fun k => blD c K i k (dr R (K.getD i 0) k)).map tD))), q6, q7, q8, q9], []⟩ = ex G (Mp.run G (n + 2)) l44_0 ⟨[some (.d (.lst (R.map rwD))), some (.d (.int (c))), some (.o (.lst (K.map iD))), some (.o (.lst (((List.range i).map (blR c K R a)).map rwD))), some (.d (.int ((i : Nat) : Int))), some (.o (.lst (((List.range k).map fun k => blD c K i k (dr R (K.getD i 0) k)).map tD))), some (.d (.str (wdD dd))), some (.d (toD dd)), q8, q9], []⟩ := by
        rw [tD_eq]
        simp only [Nat.zero_le, nx_nx, nx_ct, nr_nx, nr_ct, nr_rt, turn_eq, tup2, tup3, ex, ev, outS, oneD, oneB, oneR, manyD, Out.bind, ofO, getDs, Rv.sh, peek, setS, setT, setN, onOut, onD, onB, onDs, callG, callD, callB, callM, resB, o2F, subF, lsD, keyD, flatD, noX, biF, isiF, isiA, if_true, if_false, List.getElem?_cons_zero, List.getElem?_cons_succ, List.set_cons_zero, List.set_cons_succ, List.map_cons, List.map_nil, List.length_cons, List.length_nil, List.length_map, Option.map_some, Option.map_none, Option.bind_some, Nat.zero_add, Nat.reduceAdd, Nat.reduceSub, Bool.false_eq_true, Bool.not_true, Bool.not_false, Bool.and_true, Bool.true_and, Bool.and_false, Bool.false_and, Bool.or_false, Bool.false_or, Bool.true_or, Bool.or_true]
        rfl
      rw [et]
      have ee : ∀ x : Nat, eqF (iD x) (toD dd) = some (eqB (iD x) (toD dd)) := fun x => by cases dd <;> rfl
      have er : rngOk (K.length : Int) = true := rngN_ok _ (by omega)
      have ec := ev_compf (Γ := G) (rec := Mp.run G (n + 2)) (el := .nm 9) (it := .rng (.cons (.bis .len 2) .nil)) (c := .o2 .eq (.subs 2 (.nm 9)) (.nm 7)) (i := 9) (o := q9) (p := pK K (toD dd)) (g := fun d => d) (ds := dints K.length 0)
        (s := ⟨[some (.d (.lst (R.map rwD))), some (.d (.int (c))), some (.o (.lst (K.map iD))), some (.o (.lst (((List.range i).map (blR c K R a)).map rwD))), some (.d (.int ((i : Nat) : Int))), some (.o (.lst (((List.range k).map fun k => blD c K i k (dr R (K.getD i 0) k)).map tD))), some (.d (.str (wdD dd))), some (.d (toD dd)), q8, q9], []⟩)
        (s' := ⟨[some (.d (.lst (R.map rwD))), some (.d (.int (c))), some (.o (.lst (K.map iD))), some (.o (.lst (((List.range i).map (blR c K R a)).map rwD))), some (.d (.int ((i : Nat) : Int))), some (.o (.lst (((List.range k).map fun k => blD c K i k (dr R (K.getD i 0) k)).map tD))), some (.d (.str (wdD dd))), some (.d (toD dd)), q8, q9], []⟩)
        (by simp only [Nat.zero_le, nx_nx, nx_ct, nr_nx, nr_ct, nr_rt, turn_eq, tup2, tup3, ex, ev, outS, oneD, oneB, oneR, manyD, Out.bind, ofO, getDs, Rv.sh, peek, setS, setT, setN, onOut, onD, onB, onDs, callG, callD, callB, callM, resB, o2F, subF, lsD, keyD, flatD, noX, biF, isiF, isiA, if_true, if_false, List.getElem?_cons_zero, List.getElem?_cons_succ, List.set_cons_zero, List.set_cons_succ, List.map_cons, List.map_nil, List.length_cons, List.length_nil, List.length_map, Option.map_some, Option.map_none, Option.bind_some, Nat.zero_add, Nat.reduceAdd, Nat.reduceSub, Bool.false_eq_true, Bool.not_true, Bool.not_false, Bool.and_true, Bool.true_and, Bool.and_false, Bool.false_and, Bool.or_false, Bool.false_or, Bool.true_or, Bool.or_true, er, Int.toNat_natCast]) rfl hq9 (by rw [dints_len]; omega)
        (fun d hd => by
          obtain ⟨j, hj⟩ := List.getElem?_of_mem hd
          have hj2 := dints_at hj
          have hj3 := hj2.1
          have e0 := hj2.2
          subst e0
          have aj : L2.atI (K.map iD) (0 + (j : Int)) = some (iD (K.getD j 0)) := by rw [Int.zero_add, atI_nat', List.getElem?_map, List.getElem?_eq_getElem hj3]; simp [List.getD_eq_getElem?_getD, hj3]
          simp only [Nat.zero_le, nx_nx, nx_ct, nr_nx, nr_ct, nr_rt, turn_eq, tup2, tup3, ex, ev, outS, oneD, oneB, oneR, manyD, Out.bind, ofO, getDs, Rv.sh, peek, setS, setT, setN, onOut, onD, onB, onDs, callG, callD, callB, callM, resB, o2F, subF, lsD, keyD, flatD, noX, biF, isiF, isiA, if_true, if_false, List.getElem?_cons_zero, List.getElem?_cons_succ, List.set_cons_zero, List.set_cons_succ, List.map_cons, List.map_nil, List.length_cons, List.length_nil, List.length_map, Option.map_some, Option.map_none, Option.bind_some, Nat.zero_add, Nat.reduceAdd, Nat.reduceSub, Bool.false_eq_true, Bool.not_true, Bool.not_false, Bool.and_true, Bool.true_and, Bool.and_false, Bool.false_and, Bool.or_false, Bool.false_or, Bool.true_or, Bool.or_true, List.set_cons_succ, List.set_cons_zero, aj, ee]
          show _ = Out.ok [Rv.d (.bl (eqB (iD (K.getD (0 + (j : Int)).toNat 0)) (toD dd)))] _
          rw [Int.zero_add, Int.toNat_natCast])
        (fun d hd _ => ⟨.d d, rfl, rfl⟩)
      unfold l44_0
      rw [seq_nx (ex_asg ec)]
      have d2 := eq_shut hn
      have hl : (((List.range k).map fun k => blD c K i k (dr R (K.getD i 0) k)).map tD).length < sizeLine := by simp; omega
      have m1 : mulOk 9 (i : Int) = true := mulOk_litl _ _ (by decide)
      have t2 : 2 ≤ sizeLine := by omega
      have fin : ∀ td, tD (blD c K i k dd) = td → ((List.range (k + 1)).map fun k => blD c K i k (dr R (K.getD i 0) k)).map tD = ((List.range k).map fun k => blD c K i k (dr R (K.getD i 0) k)).map tD ++ [td] := fun td h => by
        rw [List.range_succ, List.map_append, List.map_append, ← h, ← edr]
        rfl
      cases hto : toN dd with
      | none =>
        have hs : isS dd = true := by
          cases dd with
          | must t => cases hto
          | may t => cases hto
          | shut => rfl
          | torn => exact absurd rfl hn
        have ef := fin (.tup [.str (wdD dd), toD dd]) (by
          cases dd with
          | must t => cases hto
          | may t => cases hto
          | shut => rfl
          | torn => exact absurd rfl hn)
        simp only [Nat.zero_le, nx_nx, nx_ct, nr_nx, nr_ct, nr_rt, turn_eq, tup2, tup3, ex, ev, outS, oneD, oneB, oneR, manyD, Out.bind, ofO, getDs, Rv.sh, peek, setS, setT, setN, onOut, onD, onB, onDs, callG, callD, callB, callM, resB, o2F, subF, lsD, keyD, flatD, noX, biF, isiF, isiA, if_true, if_false, List.getElem?_cons_zero, List.getElem?_cons_succ, List.set_cons_zero, List.set_cons_succ, List.map_cons, List.map_nil, List.length_cons, List.length_nil, List.length_map, Option.map_some, Option.map_none, Option.bind_some, Nat.zero_add, Nat.reduceAdd, Nat.reduceSub, Bool.false_eq_true, Bool.not_true, Bool.not_false, Bool.and_true, Bool.true_and, Bool.and_false, Bool.false_and, Bool.or_false, Bool.false_or, Bool.true_or, Bool.or_true, d2, hs, app_ok hl, t2]
        rw [ef]
        exact ⟨_, _, _, _, rfl, hq9⟩
      | some t =>
        have htm : t ∈ K := (k3 t).mpr (toN_lt hok hto)
        generalize hx : mxu c (400 + 9 * (i : Int) + (k : Int)) = x
        obtain ⟨p1, p2, p3⟩ := pick_sp x htm
        have po := occ_pos htm
        have nz : ¬ ((occ K t).length : Int) = 0 := by omega
        have hs : isS dd = false := by
          cases dd with
          | must t => rfl
          | may t => rfl
          | shut => cases hto
          | torn => cases hto
        have ef := fin (.tup [.str (wdD dd), iD (pick K t x)]) (by
          cases dd with
          | must t => cases hto; rw [← hx]; rfl
          | may t => cases hto; rw [← hx]; rfl
          | shut => cases hto
          | torn => cases hto)
        have eto : toD dd = iD t := by rw [toD_op, hto]; rfl
        rw [eto, pK_occ]
        simp only [Nat.zero_le, nx_nx, nx_ct, nr_nx, nr_ct, nr_rt, turn_eq, tup2, tup3, ex, ev, outS, oneD, oneB, oneR, manyD, Out.bind, ofO, getDs, Rv.sh, peek, setS, setT, setN, onOut, onD, onB, onDs, callG, callD, callB, callM, resB, o2F, subF, lsD, keyD, flatD, noX, biF, isiF, isiA, if_true, if_false, List.getElem?_cons_zero, List.getElem?_cons_succ, List.set_cons_zero, List.set_cons_succ, List.map_cons, List.map_nil, List.length_cons, List.length_nil, List.length_map, Option.map_some, Option.map_none, Option.bind_some, Nat.zero_add, Nat.reduceAdd, Nat.reduceSub, Bool.false_eq_true, Bool.not_true, Bool.not_false, Bool.and_true, Bool.true_and, Bool.and_false, Bool.false_and, Bool.or_false, Bool.false_or, Bool.true_or, Bool.or_true, d2, hs, app_ok hl, t2, m1, List.length_range, ar40, p_mixed, hx, nz, p1, ne_eq, not_false_eq_true]
        rw [ef]
        exact ⟨_, _, _, _, rfl, hq9⟩)
    have hl : (((List.range i).map (blR c K R a)).map rwD).length < sizeLine := by simp; omega
    simp only [l44_1, Nat.zero_le, nx_nx, nx_ct, nr_nx, nr_ct, nr_rt, turn_eq, tup2, tup3, ex, ev, outS, oneD, oneB, oneR, manyD, Out.bind, ofO, getDs, Rv.sh, peek, setS, setT, setN, onOut, onD, onB, onDs, callG, callD, callB, callM, resB, o2F, subF, lsD, keyD, flatD, noX, biF, isiF, isiA, if_true, if_false, List.getElem?_cons_zero, List.getElem?_cons_succ, List.set_cons_zero, List.set_cons_succ, List.map_cons, List.map_nil, List.length_cons, List.length_nil, List.length_map, Option.map_some, Option.map_none, Option.bind_some, Nat.zero_add, Nat.reduceAdd, Nat.reduceSub, Bool.false_eq_true, Bool.not_true, Bool.not_false, Bool.and_true, Bool.true_and, Bool.and_false, Bool.false_and, Bool.or_false, Bool.false_or, Bool.true_or, Bool.or_true, getDs_d, a1, a2, e1, app_ok hl]
    rw [List.range_succ, List.map_append, List.map_append]
    simp only [List.map_cons, List.map_nil, hrl]
    exact ⟨_, _, _, _, _, _, rfl, hq9'⟩)
  have er : rngOk (K.length : Int) = true := rngN_ok _ (by omega)
  simp only [b44, Nat.zero_le, nx_nx, nx_ct, nr_nx, nr_ct, nr_rt, turn_eq, tup2, tup3, ex, ev, outS, oneD, oneB, oneR, manyD, Out.bind, ofO, getDs, Rv.sh, peek, setS, setT, setN, onOut, onD, onB, onDs, callG, callD, callB, callM, resB, o2F, subF, lsD, keyD, flatD, noX, biF, isiF, isiA, if_true, if_false, List.getElem?_cons_zero, List.getElem?_cons_succ, List.set_cons_zero, List.set_cons_succ, List.map_cons, List.map_nil, List.length_cons, List.length_nil, List.length_map, Option.map_some, Option.map_none, Option.bind_some, Nat.zero_add, Nat.reduceAdd, Nat.reduceSub, Bool.false_eq_true, Bool.not_true, Bool.not_false, Bool.and_true, Bool.true_and, Bool.and_false, Bool.false_and, Bool.or_false, Bool.false_or, Bool.true_or, Bool.or_true, ar43, eR, pk, getDs_d, er, Int.toNat_natCast, e1, dints_len]
  rfl
/-! doors and plans asked, told so that the walk takes it -/
def clD : Dr → Nat
  | .must _ => 1
  | .may _ => 2
  | .shut => 3
  | .torn => 4
theorem rv_oD (s : Sg) (d : Dr) : recvOf s (.d (oD d)) = some (clD d, [0]) := by cases d <;> rfl
theorem rv_ob (s : Sg) (c : Nat) (ns : List Nat) (vs : List Mp.D) : recvOf s (.d (.obj c ns vs)) = some (c, ns) := rfl
theorem rv_oM {s : Sg} {n c : Nat} {ns : List Nat} {vs : List Rv} (h : s.mu[n]? = some (.obj c ns vs)) : recvOf s (.m n) = some (c, ns) := by simp only [recvOf, h]
def fAl : Dr → Nat
  | .must _ => 9
  | .may _ => 12
  | _ => 4
def fWd : Dr → Nat
  | .must _ => 7
  | .may _ => 11
  | .shut => 2
  | .torn => 16
def fNe : Dr → Nat
  | .must _ => 8
  | .torn => 17
  | _ => 3
theorem mo_al (d : Dr) : methOf G (clD d) 9 = some (fAl d) := by cases d <;> kernel_rfl
theorem mo_wd (d : Dr) : methOf G (clD d) 1 = some (fWd d) := by cases d <;> kernel_rfl
theorem mo_ne (d : Dr) : methOf G (clD d) 12 = some (fNe d) := by cases d <;> kernel_rfl
theorem ar_al (d : Dr) : arOk G (fAl d) 1 = true := by cases d <;> kernel_rfl
theorem ar_wd (d : Dr) : arOk G (fWd d) 1 = true := by cases d <;> kernel_rfl
theorem ar_ne (d : Dr) : arOk G (fNe d) 1 = true := by cases d <;> kernel_rfl
theorem ru_al (n : Nat) (d : Dr) : Mp.run G (n + 1) (fAl d) [.d (oD d)] [] = .ok (.d (.bl (toN d).isSome)) [] := by cases d <;> kernel_rfl
theorem ru_wd (n : Nat) (d : Dr) : Mp.run G (n + 1) (fWd d) [.d (oD d)] [] = .ok (.d (.str (wdD d))) [] := by cases d <;> kernel_rfl
theorem ru_ne (n : Nat) (d : Dr) : Mp.run G (n + 1) (fNe d) [.d (oD d)] [] = .ok (.d (.bl (needB d))) [] := by cases d <;> kernel_rfl
theorem fl_to (s : Sg) {d : Dr} {t : Nat} (h : toN d = some t) : fldOf G s 0 (.d (oD d)) = some (.d (iD t)) := by cases d <;> first | (cases h; kernel_rfl) | cases h
theorem ct_al : List.contains [0] 9 = false := rfl
theorem ct_wd : List.contains [0] 1 = false := rfl
theorem ct_ne : List.contains [0] 12 = false := rfl
theorem mp_door : methOf G 6 10 = some 30 := by kernel_rfl
theorem mp_many : methOf G 6 11 = some 29 := by kernel_rfl
theorem mp_acts : methOf G 6 8 = some 28 := by kernel_rfl
theorem mp_told : methOf G 6 7 = some 31 := by kernel_rfl
theorem cp_door : List.contains [5, 3] 10 = false := rfl
theorem cp_many : List.contains [5, 3] 11 = false := rfl
theorem cp_acts : List.contains [5, 3] 8 = false := rfl
theorem cp_told : List.contains [5, 3] 7 = false := rfl
theorem p_al6 (n : Nat) (ns : List Str) (R : List (List Dr)) : Mp.run G (n + 1) 28 [.d (plC 6 ns R)] [] = .ok (.o (.lst (ns.map .str))) [] := p_alist 6 (.inr rfl) n ns R
theorem p_mn6 (n : Nat) (ns : List Str) (R : List (List Dr)) : Mp.run G (n + 1) 29 [.d (plC 6 ns R)] [] = .ok (.d (.int (R.length : Int))) [] := p_many 6 (.inr rfl) n ns R
theorem p_dr6 (n : Nat) (ns : List Str) {R : List (List Dr)} {m a r k : Nat} (h : RowsOk m a R) (hr : r < m) (hk : k < a) : Mp.run G (n + 1) 30 [.d (plC 6 ns R), .d (.int ((r : Nat) : Int)), .d (.int ((k : Nat) : Int))] [] = .ok (.d (oD (dr R r k))) [] := by
  obtain ⟨row, e1, e2, _, _⟩ := dr_at h hr hk
  exact p_doorP 6 (.inr rfl) n ns R r k row _ e1 e2
/-! marks, rooms put together -/
def ptD (R : List (List Dr)) (P : List Nat) (r k : Nat) : Mp.D := match toN (dr R r k) with
  | some t => iD (P.getD t 0)
  | none => .non
def mkL (R : List (List Dr)) (P : List Nat) (r a : Nat) : List Mp.D := (List.range a).map fun k => .tup [.str (wdD (dr R r k)), ptD R P r k]
theorem p_mark (n m a : Nat) (ns : List Str) (R : List (List Dr)) (P : List Nat) (r : Nat) (hR : RowsOk m a R) (ha : a ≤ 8) (hn : ns.length = a) (hP : P.length = m) (hr : r < m) : Mp.run G (n + 3) 35 [.d (plC 6 ns R), .d (.int ((r : Nat) : Int)), .d (.lst (P.map iD))] [] = .ok (.d (.tup (mkL R P r a))) [] := by
  have sl := sl_big
  have t2 : 2 ≤ sizeLine := by omega
  rw [ru35]
  obtain ⟨s', e1, q4, q5, q6, rfl⟩ := for_nx (f := ex G (Mp.run G (n + 2)) l35_0) (tg := [4]) (ds := dints a 0) (s := ⟨[some (.d (plC 6 ns R)), some (.d (.int ((r : Nat) : Int))), some (.d (.lst (P.map iD))), some (.o (.lst ([]))), none, none, none], []⟩)
    (I := fun k s => ∃ q4 q5 q6, s = ⟨[some (.d (plC 6 ns R)), some (.d (.int ((r : Nat) : Int))), some (.d (.lst (P.map iD))), some (.o (.lst (mkL R P r k))), q4, q5, q6], []⟩) 0 ⟨none, none, none, rfl⟩ (by
    rintro k d hd s ⟨q4, q5, q6, rfl⟩
    have hd2 := dints_at hd
    have hk := hd2.1
    have e0 := hd2.2
    subst e0
    rw [Nat.zero_add, Int.zero_add]
    have pd := p_dr6 (n + 1) ns hR hr hk
    have hl : (mkL R P r k).length < sizeLine := by simp [mkL]; omega
    have es : mkL R P r (k + 1) = mkL R P r k ++ [.tup [.str (wdD (dr R r k)), ptD R P r k]] := by
      unfold mkL
      rw [List.range_succ, List.map_append]
      rfl
    cases ht : toN (dr R r k) with
    | none =>
      simp only [l35_0, Nat.zero_le, nx_nx, nx_ct, nr_nx, nr_ct, nr_rt, turn_eq, tup2, tup3, ex, ev, outS, oneD, oneB, oneR, manyD, Out.bind, ofO, getDs, Rv.sh, peek, setS, setT, setN, onOut, onD, onB, onDs, callG, callD, callB, callM, resB, o2F, subF, lsD, keyD, flatD, noX, biF, isiF, isiA, if_true, if_false, List.getElem?_cons_zero, List.getElem?_cons_succ, List.set_cons_zero, List.set_cons_succ, List.map_cons, List.map_nil, List.length_cons, List.length_nil, List.length_map, Option.map_some, Option.map_none, Option.bind_some, Nat.zero_add, Nat.reduceAdd, Nat.reduceSub, Bool.false_eq_true, Bool.not_true, Bool.not_false, Bool.and_true, Bool.true_and, Bool.and_false, Bool.false_and, Bool.or_false, Bool.false_or, Bool.true_or, Bool.or_true, rv_ob, rv_oM, rv_oD, mo_al, mo_wd, mo_ne, ar_al, ar_wd, ar_ne, ru_al, ru_wd, ru_ne, ct_al, ct_wd, ct_ne, mp_door, mp_many, mp_acts, mp_told, cp_door, cp_many, cp_acts, cp_told, ar30, ar29, ar28, p_al6, p_mn6, pd, ht, Option.isSome_none, app_ok hl, t2, es, ptD]
      exact ⟨_, _, _, rfl⟩
    | some t =>
      have htm := dr_lt hR hr hk ht
      have ap : L2.atI (P.map iD) (t : Int) = some (iD (P.getD t 0)) := by rw [atI_nat', List.getElem?_map, List.getElem?_eq_getElem (by omega)]; simp [List.getD_eq_getElem?_getD, show t < P.length by omega]
      simp only [l35_0, Nat.zero_le, nx_nx, nx_ct, nr_nx, nr_ct, nr_rt, turn_eq, tup2, tup3, ex, ev, outS, oneD, oneB, oneR, manyD, Out.bind, ofO, getDs, Rv.sh, peek, setS, setT, setN, onOut, onD, onB, onDs, callG, callD, callB, callM, resB, o2F, subF, lsD, keyD, flatD, noX, biF, isiF, isiA, if_true, if_false, List.getElem?_cons_zero, List.getElem?_cons_succ, List.set_cons_zero, List.set_cons_succ, List.map_cons, List.map_nil, List.length_cons, List.length_nil, List.length_map, Option.map_some, Option.map_none, Option.bind_some, Nat.zero_add, Nat.reduceAdd, Nat.reduceSub, Bool.false_eq_true, Bool.not_true, Bool.not_false, Bool.and_true, Bool.true_and, Bool.and_false, Bool.false_and, Bool.or_false, Bool.false_or, Bool.true_or, Bool.or_true, rv_ob, rv_oM, rv_oD, mo_al, mo_wd, mo_ne, ar_al, ar_wd, ar_ne, ru_al, ru_wd, ru_ne, ct_al, ct_wd, ct_ne, mp_door, mp_many, mp_acts, mp_told, cp_door, cp_many, cp_acts, cp_told, ar30, ar29, ar28, p_al6, p_mn6, pd, ht, Option.isSome_some, fl_to _ ht, ap, app_ok hl, t2, es, ptD]
      exact ⟨_, _, _, rfl⟩)
  have er : rngOk (a : Int) = true := rngN_ok a (by omega)
  simp only [b35, Nat.zero_le, nx_nx, nx_ct, nr_nx, nr_ct, nr_rt, turn_eq, tup2, tup3, ex, ev, outS, oneD, oneB, oneR, manyD, Out.bind, ofO, getDs, Rv.sh, peek, setS, setT, setN, onOut, onD, onB, onDs, callG, callD, callB, callM, resB, o2F, subF, lsD, keyD, flatD, noX, biF, isiF, isiA, if_true, if_false, List.getElem?_cons_zero, List.getElem?_cons_succ, List.set_cons_zero, List.set_cons_succ, List.map_cons, List.map_nil, List.length_cons, List.length_nil, List.length_map, Option.map_some, Option.map_none, Option.bind_some, Nat.zero_add, Nat.reduceAdd, Nat.reduceSub, Bool.false_eq_true, Bool.not_true, Bool.not_false, Bool.and_true, Bool.true_and, Bool.and_false, Bool.false_and, Bool.or_false, Bool.false_or, Bool.true_or, Bool.or_true, rv_ob, rv_oM, rv_oD, mo_al, mo_wd, mo_ne, ar_al, ar_wd, ar_ne, ru_al, ru_wd, ru_ne, ct_al, ct_wd, ct_ne, mp_door, mp_many, mp_acts, mp_told, cp_door, cp_many, cp_acts, cp_told, ar30, ar29, ar28, p_al6, p_mn6, hn, getDs_d, er, Int.toNat_natCast, e1, dints_len]
theorem nks_map {ι : Type} {f : ι → Mp.D} {g : ι → NestedKey} (h : ∀ i, nkOf (f i) = some (g i)) : ∀ l : List ι, nksOf (l.map f) = some (l.map g)
  | [] => rfl
  | x :: l => by rw [List.map_cons, nksOf, h x, nks_map h l]; rfl
theorem depth_all {ι : Type} {g : ι → NestedKey} {n : Nat} (h : ∀ i, (g i).depth ≤ n) : ∀ l : List ι, NestedKey.depthAll (l.map g) ≤ n
  | [] => by rw [List.map_nil, NestedKey.depthAll]; omega
  | x :: l => by
    rw [List.map_cons, NestedKey.depthAll]
    have := h x
    have := depth_all h l
    omega
def ptK (R : List (List Dr)) (P : List Nat) (r k : Nat) : NestedKey := match toN (dr R r k) with
  | some t => .num ((P.getD t 0 : Nat) : Int)
  | none => .none
def mkK (R : List (List Dr)) (P : List Nat) (a r : Nat) : NestedKey := .tup ((List.range a).map fun k => .tup [.text (wdD (dr R r k)), ptK R P r k])
theorem tk_mk (R : List (List Dr)) (P : List Nat) (a r : Nat) : tkOf (.tup (mkL R P r a)) = some (mkK R P a r) := by
  have h1 : ∀ k, nkOf (ptD R P r k) = some (ptK R P r k) := fun k => by
    unfold ptD ptK
    generalize toN (dr R r k) = z
    cases z <;> rfl
  have h2 : ∀ k, (ptK R P r k).depth = 0 := fun k => by
    unfold ptK
    split <;> simp only [NestedKey.depth]
  have h3 : nkOf (.tup (mkL R P r a)) = some (mkK R P a r) := by
    unfold mkL mkK
    rw [nkOf, nks_map (g := fun k => .tup [.text (wdD (dr R r k)), ptK R P r k]) fun k => by
      show nkOf (.tup [.str (wdD (dr R r k)), ptD R P r k]) = _
      rw [nkOf, nksOf, nksOf, nksOf, h1, nkOf]
      rfl]
    rfl
  have h4 : (mkK R P a r).depth ≤ 8 := by
    unfold mkK
    rw [NestedKey.depth]
    have := depth_all (g := fun k => NestedKey.tup [.text (wdD (dr R r k)), ptK R P r k]) (n := 1) (fun k => by
      simp only [NestedKey.depth, NestedKey.depthAll, h2]
      decide) (List.range a)
    omega
  unfold tkOf
  simp only [h3, h4, if_true]
theorem mkK_eq {R : List (List Dr)} {P : List Nat} {a r o : Nat} : mkK R P a r = mkK R P a o ↔ ¬ (Unl R a r o ∨ Ld R a (fun x y => P.getD x 0 ≠ P.getD y 0) r o) := by
  unfold mkK
  rw [NestedKey.tup.injEq]
  constructor
  · intro h
    have hk : ∀ k, k < a → wdD (dr R r k) = wdD (dr R o k) ∧ ptK R P r k = ptK R P o k := fun k hk => by
      have := congrArg (fun l => l[k]?) h
      simp only [List.getElem?_map, List.getElem?_range hk, Option.map_some, Option.some.injEq, NestedKey.tup.injEq, List.cons.injEq, NestedKey.text.injEq, and_true] at this
      exact this
    rintro (⟨k, hka, q⟩ | ⟨k, x, y, hka, h1, h2, h3⟩)
    · exact q (hk k hka).1
    · have := (hk k hka).2
      unfold ptK at this
      rw [h1, h2] at this
      simp only [NestedKey.num.injEq] at this
      exact h3 (by omega)
  · intro h
    apply List.map_congr_left
    intro k hk
    have hk := List.mem_range.mp hk
    have e1 : wdD (dr R r k) = wdD (dr R o k) := Classical.byContradiction fun q => h (.inl ⟨k, hk, q⟩)
    have e2 : ptK R P r k = ptK R P o k := by
      unfold ptK
      cases h1 : toN (dr R r k) with
      | none =>
        cases h2 : toN (dr R o k) with
        | none => rfl
        | some y =>
          obtain ⟨x, hx⟩ := toN_wd e1.symm y h2
          rw [h1] at hx; cases hx
      | some x =>
        obtain ⟨y, h2⟩ := toN_wd e1 x h1
        rw [h2]
        have : P.getD x 0 = P.getD y 0 := Classical.byContradiction fun q => h (.inr ⟨k, x, y, hk, h1, h2, q⟩)
        simp only [this]
    rw [e1, e2]
theorem tget_app {α : Type} {q : NestedKey} {k : Mp.D} {v : α} : ∀ {ks : List Mp.D} {vs : List α}, ks.length = vs.length → tget q (ks ++ [k]) (vs ++ [v]) = (tget q ks vs).or (if tkOf k = some q then some v else none)
  | [], [], _ => by
    show (if tkOf k = some q then some v else tget q [] []) = _
    rfl
  | x :: ks, y :: vs, h => by
    show (if tkOf x = some q then some y else tget q (ks ++ [k]) (vs ++ [v])) = (if tkOf x = some q then some y else tget q ks vs).or _
    rw [tget_app (by simpa using h)]
    split <;> rfl
/-- rooms unlike by their marks -/
def Mk (R : List (List Dr)) (P : List Nat) (a r o : Nat) : Prop := mkK R P a r ≠ mkK R P a o
open Classical in
theorem p_parted (n m a : Nat) (ns : List Str) (R : List (List Dr)) (P : List Nat) (hR : RowsOk m a R) (ha : a ≤ 8) (hm : m ≤ 200) (hn : ns.length = a) (hP : P.length = m) : Mp.run G (n + 4) 36 [.d (plC 6 ns R), .d (.lst (P.map iD))] [] = .ok (.o (.lst ((can m (Mk R P a)).map iD))) [] := by
  have sl := sl_big
  have hRl := hR.len
  rw [ru36]
  obtain ⟨s', e1, q4, ks, vs, ⟨rfl, j1, j2, j3⟩⟩ := for_nx (f := ex G (Mp.run G (n + 3)) l36_0) (tg := [4]) (ds := dints m 0) (s := ⟨[some (.d (plC 6 ns R)), some (.d (.lst (P.map iD))), some (.o (.tdc [] [])), some (.o (.lst ([]))), none], []⟩)
    (I := fun r s => ∃ q4 ks vs, s = ⟨[some (.d (plC 6 ns R)), some (.d (.lst (P.map iD))), some (.o (.tdc ks vs)), some (.o (.lst (((List.range r).map (lst1 (Mk R P a))).map iD))), q4], []⟩ ∧ ks.length = vs.length ∧ ks.length ≤ r ∧ ∀ q, tget q ks vs = ((List.range r).find? fun x => decide (mkK R P a x = q)).map iD) 0 ⟨none, [], [], rfl, rfl, Nat.le_refl _, fun q => rfl⟩ (by
    rintro r d hd s ⟨q4, ks, vs, rfl, j1, j2, j3⟩
    have hd2 := dints_at hd
    have hr := hd2.1
    have e0 := hd2.2
    subst e0
    rw [Nat.zero_add] at j2 j3
    rw [Nat.zero_add, Int.zero_add]
    have pm := p_mark n m a ns R P r hR ha hn hP hr
    have tk := tk_mk R P a r
    have hl : (((List.range r).map (lst1 (Mk R P a))).map iD).length < sizeLine := by simp; omega
    have hk : ks.length < sizeLine := by omega
    have e2 : ∀ z, lst1 (Mk R P a) r = z → ((List.range (r + 1)).map (lst1 (Mk R P a))).map iD = ((List.range r).map (lst1 (Mk R P a))).map iD ++ [iD z] := fun z h => by
      rw [List.range_succ, List.map_append, List.map_append, ← h]
      rfl
    have el : lst1 (Mk R P a) r = (((List.range r).find? fun x => decide (mkK R P a x = mkK R P a r)).or (some r)).getD r := by
      unfold lst1 Mk
      rw [List.range_succ, List.find?_append]
      congr 1
      congr 1
      · exact find_congr fun x _ => by simp
      · simp
    cases ef : (List.range r).find? fun x => decide (mkK R P a x = mkK R P a r) with
    | some v =>
      have tg : tget (mkK R P a r) ks vs = some (iD v) := by rw [j3, ef]; rfl
      rw [ef] at el
      rw [e2 v el]
      simp only [l36_0, Nat.zero_le, nx_nx, nx_ct, nr_nx, nr_ct, nr_rt, turn_eq, tup2, tup3, ex, ev, outS, oneD, oneB, oneR, manyD, Out.bind, ofO, getDs, Rv.sh, peek, setS, setT, setN, onOut, onD, onB, onDs, callG, callD, callB, callM, resB, o2F, subF, lsD, keyD, flatD, noX, biF, isiF, isiA, if_true, if_false, List.getElem?_cons_zero, List.getElem?_cons_succ, List.set_cons_zero, List.set_cons_succ, List.map_cons, List.map_nil, List.length_cons, List.length_nil, List.length_map, Option.map_some, Option.map_none, Option.bind_some, Nat.zero_add, Nat.reduceAdd, Nat.reduceSub, Bool.false_eq_true, Bool.not_true, Bool.not_false, Bool.and_true, Bool.true_and, Bool.and_false, Bool.false_and, Bool.or_false, Bool.false_or, Bool.true_or, Bool.or_true, ar35, pm, tk, hk, tg, app_ok hl]
      refine ⟨_, _, _, rfl, j1, by omega, fun q => ?_⟩
      rw [j3, List.range_succ, List.find?_append]
      cases eq : (List.range r).find? fun x => decide (mkK R P a x = q) with
      | some y => rfl
      | none =>
        have : mkK R P a r ≠ q := fun e => by rw [← e, ef] at eq; cases eq
        simp [this]
    | none =>
      have tg : tget (mkK R P a r) ks vs = none := by rw [j3, ef]; rfl
      rw [ef] at el
      rw [e2 r el]
      simp only [l36_0, Nat.zero_le, nx_nx, nx_ct, nr_nx, nr_ct, nr_rt, turn_eq, tup2, tup3, ex, ev, outS, oneD, oneB, oneR, manyD, Out.bind, ofO, getDs, Rv.sh, peek, setS, setT, setN, onOut, onD, onB, onDs, callG, callD, callB, callM, resB, o2F, subF, lsD, keyD, flatD, noX, biF, isiF, isiA, if_true, if_false, List.getElem?_cons_zero, List.getElem?_cons_succ, List.set_cons_zero, List.set_cons_succ, List.map_cons, List.map_nil, List.length_cons, List.length_nil, List.length_map, Option.map_some, Option.map_none, Option.bind_some, Nat.zero_add, Nat.reduceAdd, Nat.reduceSub, Bool.false_eq_true, Bool.not_true, Bool.not_false, Bool.and_true, Bool.true_and, Bool.and_false, Bool.false_and, Bool.or_false, Bool.false_or, Bool.true_or, Bool.or_true, ar35, pm, tk, hk, tg, app_ok hl]
      refine ⟨_, _, _, rfl, by simp [j1], by simp; omega, fun q => ?_⟩
      rw [tget_app j1, j3, List.range_succ, List.find?_append, tk]
      cases eq : (List.range r).find? fun x => decide (mkK R P a x = q) with
      | some y => rfl
      | none =>
        by_cases e : mkK R P a r = q
        · simp [e]
        · simp [e])
  have er : rngOk (m : Int) = true := rngN_ok m (by omega)
  simp only [b36, Nat.zero_le, nx_nx, nx_ct, nr_nx, nr_ct, nr_rt, turn_eq, tup2, tup3, ex, ev, outS, oneD, oneB, oneR, manyD, Out.bind, ofO, getDs, Rv.sh, peek, setS, setT, setN, onOut, onD, onB, onDs, callG, callD, callB, callM, resB, o2F, subF, lsD, keyD, flatD, noX, biF, isiF, isiA, if_true, if_false, List.getElem?_cons_zero, List.getElem?_cons_succ, List.set_cons_zero, List.set_cons_succ, List.map_cons, List.map_nil, List.length_cons, List.length_nil, List.length_map, Option.map_some, Option.map_none, Option.bind_some, Nat.zero_add, Nat.reduceAdd, Nat.reduceSub, Bool.false_eq_true, Bool.not_true, Bool.not_false, Bool.and_true, Bool.true_and, Bool.and_false, Bool.false_and, Bool.or_false, Bool.false_or, Bool.true_or, Bool.or_true, rv_ob, rv_oM, rv_oD, mo_al, mo_wd, mo_ne, ar_al, ar_wd, ar_ne, ru_al, ru_wd, ru_ne, ct_al, ct_wd, ct_ne, mp_door, mp_many, mp_acts, mp_told, cp_door, cp_many, cp_acts, cp_told, ar30, ar29, ar28, p_al6, p_mn6, hRl, getDs_d, er, Int.toNat_natCast, e1, dints_len]
  rfl
theorem okN_ints (l : List Nat) : okN 8 (.lst (l.map iD)) = true := by
  show (l.map iD).all (okN 7) = true
  rw [List.all_eq_true]
  intro x hx
  obtain ⟨y, _, rfl⟩ := List.mem_map.mp hx
  rfl
theorem eqBs_ints : ∀ (x y : List Nat), eqBs (x.map iD) (y.map iD) = decide (x = y)
  | [], [] => by rfl
  | [], _ :: _ => by rfl
  | _ :: _, [] => by rfl
  | a :: x, b :: y => by
    show ((((a : Nat) : Int) == ((b : Nat) : Int)) && eqBs (x.map iD) (y.map iD)) = _
    rw [eqBs_ints x y, Bool.eq_iff_iff, Bool.and_eq_true, beq_iff_eq, decide_eq_true_iff, decide_eq_true_iff, List.cons.injEq]
    constructor
    · rintro ⟨h1, h2⟩; exact ⟨by omega, h2⟩
    · rintro ⟨h1, h2⟩; exact ⟨by omega, h2⟩
theorem flat_ints (l : List Nat) : (l.map iD).all flatD = true := by
  rw [List.all_eq_true]
  intro x hx
  obtain ⟨y, _, rfl⟩ := List.mem_map.mp hx
  rfl
theorem eqF_ints (x y : List Nat) : eqF (.lst (x.map iD)) (.lst (y.map iD)) = some (decide (x = y)) := by
  unfold eqF
  rw [okN_ints, okN_ints, ← eqBs_ints]
  rfl
theorem can_len {m : Nat} {E : Nat → Nat → Prop} : (can m E).length = m := by simp [can]
theorem can_getD {m : Nat} {E : Nat → Nat → Prop} {r : Nat} (h : r < m) : (can m E).getD r 0 = lst1 E r := by rw [List.getD_eq_getElem?_getD, can_get h]; rfl
theorem can_next {m a i : Nat} {R : List (List Dr)} (h : RowsOk m a R) : can m (Mk R (can m (Ea R a i)) a) = can m (Ea R a (i + 1)) := by
  apply can_ext
  intro r o hr ho
  unfold Mk
  rw [Ne, mkK_eq, Classical.not_not, Ea_step]
  have hx : ∀ x y, x < m → y < m → ((can m (Ea R a i)).getD x 0 ≠ (can m (Ea R a i)).getD y 0 ↔ Ea R a i x y) := fun x y hx hy => by
    rw [can_getD hx, can_getD hy, Ne, lst1_eq (fun _ => Ea_refl) (fun _ _ => Ea_symm) (fun _ _ p => Ea_trans p), Classical.not_not]
  constructor
  · rintro (q | ⟨k, x, y, hk, h1, h2, h3⟩)
    · exact .inl q
    · exact .inr ⟨k, x, y, hk, h1, h2, (hx x y (dr_lt h hr hk h1) (dr_lt h ho hk h2)).mp h3⟩
  · rintro (q | ⟨k, x, y, hk, h1, h2, h3⟩)
    · exact .inl q
    · exact .inr ⟨k, x, y, hk, h1, h2, (hx x y (dr_lt h hr hk h1) (dr_lt h ho hk h2)).mpr h3⟩
theorem can_iff {m a i : Nat} {R : List (List Dr)} (h : can m (Ea R a (i + 1)) = can m (Ea R a i)) {r o : Nat} (hr : r < m) (ho : o < m) : Ea R a (i + 1) r o ↔ Ea R a i r o := by
  have e : ∀ x, x < m → lst1 (Ea R a (i + 1)) x = lst1 (Ea R a i) x := fun x hx => by
    have := can_get (E := Ea R a (i + 1)) hx
    rw [h, can_get hx] at this
    exact (Option.some.inj this).symm
  have q1 := lst1_eq (E := Ea R a (i + 1)) (r := r) (o := o) (fun _ => Ea_refl) (fun _ _ => Ea_symm) (fun _ _ p => Ea_trans p)
  have q2 := lst1_eq (E := Ea R a i) (r := r) (o := o) (fun _ => Ea_refl) (fun _ _ => Ea_symm) (fun _ _ p => Ea_trans p)
  rw [e r hr, e o ho] at q1
  have q := q1.symm.trans q2
  exact ⟨fun h => Classical.byContradiction fun z => q.mpr z h, fun h => Classical.byContradiction fun z => q.mp z h⟩
section
open Classical
noncomputable def eaN (R : List (List Dr)) (a m i : Nat) : Nat := (List.range (m * m)).countP fun p => decide (Ea R a i (p / m) (p % m))
theorem eaN_le {R : List (List Dr)} {a m i : Nat} : eaN R a m i ≤ m * m := by
  unfold eaN
  exact Nat.le_trans List.countP_le_length (by rw [List.length_range]; exact Nat.le_refl _)
theorem eaN_lt {R : List (List Dr)} {a m i : Nat} (h : can m (Ea R a (i + 1)) ≠ can m (Ea R a i)) : eaN R a m i < eaN R a m (i + 1) := by
  have : ∃ r o, r < m ∧ o < m ∧ Ea R a (i + 1) r o ∧ ¬ Ea R a i r o := byContradiction fun q => h (can_ext fun r o hr ho => ⟨fun e => byContradiction fun z => q ⟨r, o, hr, ho, e, z⟩, Ea_mono⟩)
  obtain ⟨r, o, hr, ho, h1, h2⟩ := this
  have d1 : (m * r + o) / m = r := by rw [Nat.mul_add_div (by omega), Nat.div_eq_of_lt ho, Nat.add_zero]
  have d2 : (m * r + o) % m = o := by rw [Nat.mul_add_mod, Nat.mod_eq_of_lt ho]
  have hl : m * r + o < m * m := by
    have : m * (r + 1) ≤ m * m := Nat.mul_le_mul_left m hr
    rw [Nat.mul_add] at this
    omega
  refine countP_lt (fun x _ hx => decide_eq_true (Ea_mono (of_decide_eq_true hx))) ⟨m * r + o, List.mem_range.mpr hl, ?_, ?_⟩
  · rw [d1, d2]; exact decide_eq_true h1
  · rw [d1, d2]; exact decide_eq_false h2
end
theorem zeros (m : Nat) (R : List (List Dr)) (a : Nat) : (List.replicate m [Mp.D.int 0]).flatten = (can m (Ea R a 0)).map iD := by
  have : can m (Ea R a 0) = List.replicate m 0 := by
    unfold can
    rw [List.eq_replicate_iff]
    refine ⟨by simp, fun x hx => ?_⟩
    obtain ⟨r, _, rfl⟩ := List.mem_map.mp hx
    have := (lst1_spec (E := Ea R a 0) (fun _ => Ea_refl) r).2.2 0
    rcases Nat.eq_zero_or_pos (lst1 (Ea R a 0) r) with q | q
    · exact q
    · exact (this q).elim
  rw [this, List.map_replicate]
  clear this
  induction m with
  | zero => rfl
  | succ m ih => rw [List.replicate_succ, List.flatten_cons, ih]; rfl
theorem p_classes (n m a : Nat) (ns : List Str) (R : List (List Dr)) (hR : RowsOk m a R) (ha : a ≤ 8) (hm : m ≤ 200) (hn : ns.length = a) : Mp.run G (n + 5) 37 [.d (plC 6 ns R)] [] = .ok (.o (.lst ((can m (ApW R a)).map iD))) [] := by
  have sl := sl_big
  have hRl := hR.len
  have pp : ∀ i, Mp.run G (n + 4) 36 [.d (plC 6 ns R), .d (.lst ((can m (Ea R a i)).map iD))] [] = .ok (.o (.lst ((can m (Ea R a (i + 1))).map iD))) [] := fun i => by
    rw [p_parted n m a ns R _ hR ha hm hn can_len, can_next hR]
  have t1 : 1 ≤ sizeLine := by omega
  have s1 : smallB (m : Int) 9223372036854775807 = true := small_of (by omega)
  have s2 : m ≤ sizeLine := by omega
  rw [ru37]
  obtain ⟨s', e1, i, rfl, hi⟩ := whl_nx (c := ev G (Mp.run G (n + 4)) (.eqs true 2 1)) (f := ex G (Mp.run G (n + 4)) l37_0)
    (I := fun M s => ∃ i, s = ⟨[some (.d (plC 6 ns R)), some (.o (.lst ((can m (Ea R a i)).map iD))), some (.o (.lst ((can m (Ea R a (i + 1))).map iD)))], []⟩ ∧ M = m * m - eaN R a m i)
    (E := fun s => ∃ i, s = ⟨[some (.d (plC 6 ns R)), some (.o (.lst ((can m (Ea R a i)).map iD))), some (.o (.lst ((can m (Ea R a (i + 1))).map iD)))], []⟩ ∧ can m (Ea R a (i + 1)) = can m (Ea R a i)) (by
    rintro M s ⟨i, rfl, hM⟩
    refine ⟨!decide (can m (Ea R a (i + 1)) = can m (Ea R a i)), _, ?_, fun h => ⟨i, rfl, by simpa using h⟩, fun h => ?_⟩
    · simp only [Nat.zero_le, nx_nx, nx_ct, nr_nx, nr_ct, nr_rt, turn_eq, tup2, tup3, ex, ev, outS, oneD, oneB, oneR, manyD, Out.bind, ofO, getDs, Rv.sh, peek, setS, setT, setN, onOut, onD, onB, onDs, callG, callD, callB, callM, resB, o2F, subF, lsD, keyD, flatD, noX, biF, isiF, isiA, if_true, if_false, List.getElem?_cons_zero, List.getElem?_cons_succ, List.set_cons_zero, List.set_cons_succ, List.map_cons, List.map_nil, List.length_cons, List.length_nil, List.length_map, Option.map_some, Option.map_none, Option.bind_some, Nat.zero_add, Nat.reduceAdd, Nat.reduceSub, Bool.false_eq_true, Bool.not_true, Bool.not_false, Bool.and_true, Bool.true_and, Bool.and_false, Bool.false_and, Bool.or_false, Bool.false_or, Bool.true_or, Bool.or_true, eqF_ints]
    · have hne : can m (Ea R a (i + 1)) ≠ can m (Ea R a i) := by simpa using h
      simp only [l37_0, Nat.zero_le, nx_nx, nx_ct, nr_nx, nr_ct, nr_rt, turn_eq, tup2, tup3, ex, ev, outS, oneD, oneB, oneR, manyD, Out.bind, ofO, getDs, Rv.sh, peek, setS, setT, setN, onOut, onD, onB, onDs, callG, callD, callB, callM, resB, o2F, subF, lsD, keyD, flatD, noX, biF, isiF, isiA, if_true, if_false, List.getElem?_cons_zero, List.getElem?_cons_succ, List.set_cons_zero, List.set_cons_succ, List.map_cons, List.map_nil, List.length_cons, List.length_nil, List.length_map, Option.map_some, Option.map_none, Option.bind_some, Nat.zero_add, Nat.reduceAdd, Nat.reduceSub, Bool.false_eq_true, Bool.not_true, Bool.not_false, Bool.and_true, Bool.true_and, Bool.and_false, Bool.false_and, Bool.or_false, Bool.false_or, Bool.true_or, Bool.or_true, ar36, flat_ints, pp]
      have := eaN_lt hne
      have := eaN_le (R := R) (a := a) (m := m) (i := i + 1)
      exact ⟨_, by omega, i + 1, rfl, rfl⟩) fuel (m * m - eaN R a m 0) ⟨[some (.d (plC 6 ns R)), some (.o (.lst ((can m (Ea R a 0)).map iD))), some (.o (.lst ((can m (Ea R a 1)).map iD)))], []⟩ ⟨0, rfl, rfl⟩ (by
      have : m * m ≤ 200 * 200 := Nat.mul_le_mul hm hm
      unfold fuel
      omega)
  have er : can m (Ea R a i) = can m (ApW R a) := can_ext fun r o hr ho => (Ea_stop hR (fun r o hr ho q => (can_iff hi hr ho).mp q) hr ho).symm
  rw [er] at e1
  simp only [Nat.zero_le, nx_nx, nx_ct, nr_nx, nr_ct, nr_rt, turn_eq, tup2, tup3, ex, ev, outS, oneD, oneB, oneR, manyD, Out.bind, ofO, getDs, Rv.sh, peek, setS, setT, setN, onOut, onD, onB, onDs, callG, callD, callB, callM, resB, o2F, subF, lsD, keyD, flatD, noX, biF, isiF, isiA, if_true, if_false, List.getElem?_cons_zero, List.getElem?_cons_succ, List.set_cons_zero, List.set_cons_succ, List.map_cons, List.map_nil, List.length_cons, List.length_nil, List.length_map, Option.map_some, Option.map_none, Option.bind_some, Nat.zero_add, Nat.reduceAdd, Nat.reduceSub, Bool.false_eq_true, Bool.not_true, Bool.not_false, Bool.and_true, Bool.true_and, Bool.and_false, Bool.false_and, Bool.or_false, Bool.false_or, Bool.true_or, Bool.or_true] at e1
  simp only [b37, Nat.zero_le, nx_nx, nx_ct, nr_nx, nr_ct, nr_rt, turn_eq, tup2, tup3, ex, ev, outS, oneD, oneB, oneR, manyD, Out.bind, ofO, getDs, Rv.sh, peek, setS, setT, setN, onOut, onD, onB, onDs, callG, callD, callB, callM, resB, o2F, subF, lsD, keyD, flatD, noX, biF, isiF, isiA, if_true, if_false, List.getElem?_cons_zero, List.getElem?_cons_succ, List.set_cons_zero, List.set_cons_succ, List.map_cons, List.map_nil, List.length_cons, List.length_nil, List.length_map, Option.map_some, Option.map_none, Option.bind_some, Nat.zero_add, Nat.reduceAdd, Nat.reduceSub, Bool.false_eq_true, Bool.not_true, Bool.not_false, Bool.and_true, Bool.true_and, Bool.and_false, Bool.false_and, Bool.or_false, Bool.false_or, Bool.true_or, Bool.or_true, rv_ob, rv_oM, rv_oD, mo_al, mo_wd, mo_ne, ar_al, ar_wd, ar_ne, ru_al, ru_wd, ru_ne, ct_al, ct_wd, ct_ne, mp_door, mp_many, mp_acts, mp_told, cp_door, cp_many, cp_acts, cp_told, ar30, ar29, ar28, p_al6, p_mn6, hRl, t1, s1, s2, Int.toNat_natCast, Nat.one_mul, and_self, zeros m R a, ar36, flat_ints, pp, e1]
/-! pairs kept -/
abbrev fkD (m : Nat) (L : List (Nat × Nat)) : List Mp.D := L.map fun p => .tup [iD (p.1 / m), iD (p.1 % m)]
abbrev fvD (L : List (Nat × Nat)) : List Mp.D := L.map fun p => iD p.2
def kp (x y : Nat) : NestedKey := .tup [.num (x : Int), .num (y : Int)]
theorem tk_pair (x y : Nat) : tkOf (.tup [iD x, iD y]) = some (kp x y) := by
  have h : nkOf (.tup [iD x, iD y]) = some (kp x y) := rfl
  have d : (kp x y).depth ≤ 8 := by
    unfold kp
    simp only [NestedKey.depth, NestedKey.depthAll]
    decide
  unfold tkOf
  simp only [h, d, if_true]
theorem kp_eq {x y p m : Nat} (hx : x < m) (hy : y < m) : kp (p / m) (p % m) = kp x y ↔ p = m * x + y := by
  unfold kp
  simp only [NestedKey.tup.injEq, List.cons.injEq, NestedKey.num.injEq, and_true]
  constructor
  · rintro ⟨h1, h2⟩
    have h1 : p / m = x := by omega
    have h2 : p % m = y := by omega
    rw [← h1, ← h2, Nat.div_add_mod]
  · intro h
    subst h
    rw [Nat.mul_add_div (by omega), Nat.div_eq_of_lt hy, Nat.mul_add_mod, Nat.mod_eq_of_lt hy]
    exact ⟨rfl, rfl⟩
theorem far_get {m x y : Nat} (hx : x < m) (hy : y < m) : ∀ L : List (Nat × Nat), tget (kp x y) (fkD m L) (fvD L) = (L.lookup (m * x + y)).map iD
  | [] => rfl
  | (p, v) :: L => by
    show (if tkOf (.tup [iD (p / m), iD (p % m)]) = some (kp x y) then some (iD v) else tget (kp x y) (fkD m L) (fvD L)) = _
    rw [tk_pair, far_get hx hy L]
    have q := kp_eq (p := p) hx hy
    by_cases h : p = m * x + y
    · rw [if_pos (congrArg some (q.mpr h)), List.lookup_cons, show (m * x + y == p) = true by simp [h]]; rfl
    · rw [if_neg (fun z => h (q.mp (Option.some.inj z))), List.lookup_cons, show (m * x + y == p) = false by simp; omega]
theorem far_put {m x y v : Nat} {L : List (Nat × Nat)} (hx : x < m) (hy : y < m) (h : L.lookup (m * x + y) = none) : tputK (kp x y) (.tup [iD x, iD y]) (iD v) (fkD m L) (fvD L) = (fkD m (L ++ [(m * x + y, v)]), fvD (L ++ [(m * x + y, v)])) := by
  unfold tputK
  rw [far_get hx hy, h]
  have e1 : (m * x + y) / m = x := by rw [Nat.mul_add_div (by omega), Nat.div_eq_of_lt hy, Nat.add_zero]
  have e2 : (m * x + y) % m = y := by rw [Nat.mul_add_mod, Nat.mod_eq_of_lt hy]
  show (fkD m L ++ _, fvD L ++ _) = _
  unfold fkD fvD
  rw [List.map_append, List.map_append]
  simp only [List.map_cons, List.map_nil, e1, e2]
structure FarOk (m t : Nat) (L : List (Nat × Nat)) (P : Nat → Nat → Prop) : Prop where
  nd : (L.map (·.1)).Nodup
  lt : ∀ p ∈ L, p.1 < m * m ∧ p.2 ≤ t
  ok : ∀ x y, x < m → y < m → ((L.lookup (m * x + y)).isSome = true ↔ P x y)
theorem pair_lt {m x y : Nat} (hx : x < m) (hy : y < m) : m * x + y < m * m := by
  have : m * (x + 1) ≤ m * m := Nat.mul_le_mul_left m hx
  rw [Nat.mul_add] at this
  omega
theorem pair_inj {m x y x' y' : Nat} (hy : y < m) (hy' : y' < m) (h : m * x + y = m * x' + y') : x = x' ∧ y = y' := by
  have a1 : (m * x + y) / m = x := by rw [Nat.mul_add_div (by omega), Nat.div_eq_of_lt hy, Nat.add_zero]
  have a2 : (m * x + y) % m = y := by rw [Nat.mul_add_mod, Nat.mod_eq_of_lt hy]
  have b1 : (m * x' + y') / m = x' := by rw [Nat.mul_add_div (by omega), Nat.div_eq_of_lt hy', Nat.add_zero]
  have b2 : (m * x' + y') % m = y' := by rw [Nat.mul_add_mod, Nat.mod_eq_of_lt hy']
  rw [h, b1] at a1
  rw [h, b2] at a2
  exact ⟨a1.symm, a2.symm⟩
theorem lookup_mem {k v : Nat} : ∀ {L : List (Nat × Nat)}, L.lookup k = some v → (k, v) ∈ L
  | [], h => by cases h
  | (p, w) :: L, h => by
    rw [List.lookup_cons] at h
    by_cases e : (k == p) = true
    · rw [e] at h
      have e := eq_of_beq e
      subst e
      cases h
      exact List.mem_cons_self ..
    · rw [Bool.not_eq_true] at e
      rw [e] at h
      exact List.mem_cons_of_mem _ (lookup_mem h)
theorem lookup_none {k : Nat} : ∀ {L : List (Nat × Nat)}, L.lookup k = none → k ∉ L.map (·.1)
  | [], _, h => by cases h
  | (p, w) :: L, h, q => by
    rw [List.lookup_cons] at h
    by_cases e : (k == p) = true
    · rw [e] at h; cases h
    · rw [Bool.not_eq_true] at e
      rw [e] at h
      rcases List.mem_cons.mp q with q | q
      · rw [show k = p from q] at e; simp at e
      · exact lookup_none h q
theorem lookup_app (k : Nat) (x : Nat × Nat) : ∀ L : List (Nat × Nat), (L ++ [x]).lookup k = (L.lookup k).or (if k = x.1 then some x.2 else none)
  | [] => by
    rw [List.nil_append, List.lookup_cons]
    by_cases e : k = x.1
    · rw [if_pos e, show (k == x.1) = true by simp [e]]; rfl
    · rw [if_neg e, show (k == x.1) = false by simp [e]]; rfl
  | (p, w) :: L => by
    rw [List.cons_append, List.lookup_cons, List.lookup_cons, lookup_app k x L]
    cases k == p <;> rfl
theorem FarOk.put {m t x y v : Nat} {L : List (Nat × Nat)} {P : Nat → Nat → Prop} (h : FarOk m t L P) (hx : x < m) (hy : y < m) (hn : L.lookup (m * x + y) = none) (hv : v ≤ t) : FarOk m t (L ++ [(m * x + y, v)]) fun x' y' => P x' y' ∨ (x' = x ∧ y' = y) := by
  refine ⟨?_, fun p hp => ?_, fun x' y' hx' hy' => ?_⟩
  · rw [List.map_append, List.nodup_append]
    refine ⟨h.nd, by simp, fun a ha b hb e => ?_⟩
    have : b = m * x + y := by simpa using hb
    rw [e, this] at ha
    exact lookup_none hn ha
  · rcases List.mem_append.mp hp with q | q
    · exact h.lt p q
    · rw [List.mem_singleton] at q
      subst q
      exact ⟨pair_lt hx hy, hv⟩
  · rw [lookup_app, ← h.ok x' y' hx' hy']
    cases q : L.lookup (m * x' + y') with
    | some z => simp
    | none =>
      by_cases e : m * x' + y' = m * x + y
      · have := pair_inj hy' hy e
        simp [e, this]
      · have : ¬ (x' = x ∧ y' = y) := fun z => e (by rw [z.1, z.2])
        simp [e, this]
theorem nodup_le {α : Type} [BEq α] [LawfulBEq α] : ∀ (l xs : List α), l.Nodup → (∀ x ∈ l, x ∈ xs) → l.length ≤ xs.length
  | [], _, _, _ => Nat.zero_le _
  | x :: l, xs, h, hs => by
    obtain ⟨h1, h2⟩ := List.nodup_cons.mp h
    have hx := hs x (List.mem_cons_self ..)
    have := nodup_le l (xs.erase x) h2 fun y hy => (List.mem_erase_of_ne (fun e => h1 (by rw [← e]; exact hy))).mpr (hs y (List.mem_cons_of_mem _ hy))
    rw [List.length_erase_of_mem hx] at this
    have := List.length_pos_of_mem hx
    rw [List.length_cons]
    omega
theorem FarOk.len {m t : Nat} {L : List (Nat × Nat)} {P : Nat → Nat → Prop} (h : FarOk m t L P) : L.length ≤ m * m := by
  have := nodup_le (L.map (·.1)) (List.range (m * m)) h.nd fun x hx => by
    obtain ⟨p, hp, rfl⟩ := List.mem_map.mp hx
    exact List.mem_range.mpr (h.lt p hp).1
  simpa using this
theorem FarOk.to {m t t' : Nat} {L : List (Nat × Nat)} {P Q : Nat → Nat → Prop} (h : FarOk m t L P) (ht : t ≤ t') (hq : ∀ x y, x < m → y < m → (P x y ↔ Q x y)) : FarOk m t' L Q := ⟨h.nd, fun p hp => ⟨(h.lt p hp).1, by have := (h.lt p hp).2; omega⟩, fun x y hx hy => (h.ok x y hx hy).trans (hq x y hx hy)⟩
theorem zip_at : ∀ (xs ys : List Mp.D) (i : Nat) (d : Mp.D), (zipD xs ys)[i]? = some d → ∃ x y, xs[i]? = some x ∧ ys[i]? = some y ∧ d = .tup [x, y]
  | [], ys, i, d, h => by rw [zipD] at h; cases h; intros; contradiction
  | x :: xs, [], i, d, h => by rw [zipD] at h; cases h; intros; contradiction
  | x :: xs, y :: ys, 0, d, h => by cases h; exact ⟨x, y, rfl, rfl, rfl⟩
  | x :: xs, y :: ys, i + 1, d, h => zip_at xs ys i d h
theorem zip_len : ∀ (xs ys : List Mp.D), (zipD xs ys).length = min xs.length ys.length
  | [], ys => by simp [zipD]
  | x :: xs, [] => by simp [zipD]
  | x :: xs, y :: ys => by
    rw [zipD, List.length_cons, zip_len xs ys, List.length_cons, List.length_cons]
    omega
/-! ### whether it leads to what is apart -/
def Old (L : List (Nat × Nat)) (m t x y : Nat) : Prop := ∃ v, L.lookup (m * x + y) = some v ∧ v < t
theorem p_leads (n m a r o t : Nat) (R : List (List Dr)) (L : List (Nat × Nat)) (hR : RowsOk m a R) (hr : r < m) (ho : o < m) (hu : ¬ Unl R a r o) : ∃ b : Bool, Mp.run G (n + 1) 46 [.d (.lst (R.map rwD)), .d (.int ((r : Nat) : Int)), .d (.int ((o : Nat) : Int)), .d (.tdc (fkD m L) (fvD L)), .d (.int ((t : Nat) : Int))] [] = .ok (.d (.bl b)) [] ∧ (b = true ↔ Ld R a (Old L m t) r o) := by
  obtain ⟨row, hrow⟩ : ∃ row, R[r]? = some row := ⟨_, List.getElem?_eq_getElem (by rw [hR.len]; exact hr)⟩
  obtain ⟨roo, hroo⟩ : ∃ row, R[o]? = some row := ⟨_, List.getElem?_eq_getElem (by rw [hR.len]; exact ho)⟩
  have l1 := hR.row row (List.mem_of_getElem? hrow)
  have l2 := hR.row roo (List.mem_of_getElem? hroo)
  have a1 : L2.atI (R.map rwD) (r : Int) = some (.lst (row.map tD)) := by rw [atI_nat', List.getElem?_map, hrow]; rfl
  have a2 : L2.atI (R.map rwD) (o : Int) = some (.lst (roo.map tD)) := by rw [atI_nat', List.getElem?_map, hroo]; rfl
  have e1 : ∀ {k d}, row[k]? = some d → dr R r k = d := fun h => by simp [dr, List.getD_eq_getElem?_getD, hrow, h]
  have e2 : ∀ {k d}, roo[k]? = some d → dr R o k = d := fun h => by simp [dr, List.getD_eq_getElem?_getD, hroo, h]
  rw [ru46]
  have lp := for_cases (f := ex G (Mp.run G n) l46_0) (tg := [5, 6]) (ds := zipD (row.map tD) (roo.map tD)) (s := ⟨[some (.d (.lst (R.map rwD))), some (.d (.int ((r : Nat) : Int))), some (.d (.int ((o : Nat) : Int))), some (.d (.tdc (fkD m L) (fvD L))), some (.d (.int ((t : Nat) : Int))), none, none], []⟩)
    (I := fun k s => ∃ q5 q6, s = ⟨[some (.d (.lst (R.map rwD))), some (.d (.int ((r : Nat) : Int))), some (.d (.int ((o : Nat) : Int))), some (.d (.tdc (fkD m L) (fvD L))), some (.d (.int ((t : Nat) : Int))), q5, q6], []⟩ ∧ ∀ j x y, j < k → toN (dr R r j) = some x → toN (dr R o j) = some y → ¬ Old L m t x y)
    (R := fun q s => q = .d (.bl true) ∧ s.mu = [] ∧ Ld R a (Old L m t) r o) 0 ⟨none, none, rfl, fun j x y h => absurd h (Nat.not_lt_zero _)⟩ (by
    rintro k d hd s ⟨q5, q6, rfl, hI⟩
    rw [Nat.zero_add] at hI
    rw [Nat.zero_add]
    obtain ⟨x, y, h1, h2, e0⟩ := zip_at _ _ _ _ hd
    subst e0
    rw [List.getElem?_map, Option.map_eq_some_iff] at h1 h2
    obtain ⟨d1, h1, e0⟩ := h1
    subst e0
    obtain ⟨d2, h2, e0⟩ := h2
    subst e0
    have f1 := e1 h1
    have f2 := e2 h2
    have hk : k < a := by rw [← l1]; exact (List.getElem?_eq_some_iff.mp h1).1
    have hw : wdD d1 = wdD d2 := Classical.byContradiction fun q => hu ⟨k, hk, by rw [f1, f2]; exact q⟩
    have s1 : L2.atI [Mp.D.str (wdD d1), toD d1] 1 = some (toD d1) := rfl
    have s2 : L2.atI [Mp.D.str (wdD d2), toD d2] 1 = some (toD d2) := rfl
    have et : turnF (ex G (Mp.run G n) l46_0) [5, 6] (.tup [tD d1, tD d2]) ⟨[some (.d (.lst (R.map rwD))), some (.d (.int ((r : Nat) : Int))), some (.d (.int ((o : Nat) : Int))), some (.d (.tdc (fkD m L) (fvD L))), some (.d (.int ((t : Nat) : Int))), q5, q6], []⟩ = ex G (Mp.run G n) l46_0 ⟨[some (.d (.lst (R.map rwD))), some (.d (.int ((r : Nat) : Int))), some (.d (.int ((o : Nat) : Int))), some (.d (.tdc (fkD m L) (fvD L))), some (.d (.int ((t : Nat) : Int))), some (.d (.tup [.str (wdD d1), toD d1])), some (.d (.tup [.str (wdD d2), toD d2]))], []⟩ := by
      rw [turn_eq, tup2, tD_eq, tD_eq]
      rfl
    rw [et]
    cases h3 : toN d1 with
    | none =>
      have t1 : toD d1 = .non := by rw [toD_op, h3]; rfl
      simp only [l46_0, Nat.zero_le, nx_nx, nx_ct, nr_nx, nr_ct, nr_rt, turn_eq, tup2, tup3, ex, ev, outS, oneD, oneB, oneR, manyD, Out.bind, ofO, getDs, Rv.sh, peek, setS, setT, setN, onOut, onD, onB, onDs, callG, callD, callB, callM, resB, o2F, subF, lsD, keyD, flatD, noX, biF, isiF, isiA, if_true, if_false, List.getElem?_cons_zero, List.getElem?_cons_succ, List.set_cons_zero, List.set_cons_succ, List.map_cons, List.map_nil, List.length_cons, List.length_nil, List.length_map, Option.map_some, Option.map_none, Option.bind_some, Nat.zero_add, Nat.reduceAdd, Nat.reduceSub, Bool.false_eq_true, Bool.not_true, Bool.not_false, Bool.and_true, Bool.true_and, Bool.and_false, Bool.false_and, Bool.or_false, Bool.false_or, Bool.true_or, Bool.or_true, t1, s1]
      rw [t1] at s1
      simp only [Nat.zero_le, nx_nx, nx_ct, nr_nx, nr_ct, nr_rt, turn_eq, tup2, tup3, ex, ev, outS, oneD, oneB, oneR, manyD, Out.bind, ofO, getDs, Rv.sh, peek, setS, setT, setN, onOut, onD, onB, onDs, callG, callD, callB, callM, resB, o2F, subF, lsD, keyD, flatD, noX, biF, isiF, isiA, if_true, if_false, List.getElem?_cons_zero, List.getElem?_cons_succ, List.set_cons_zero, List.set_cons_succ, List.map_cons, List.map_nil, List.length_cons, List.length_nil, List.length_map, Option.map_some, Option.map_none, Option.bind_some, Nat.zero_add, Nat.reduceAdd, Nat.reduceSub, Bool.false_eq_true, Bool.not_true, Bool.not_false, Bool.and_true, Bool.true_and, Bool.and_false, Bool.false_and, Bool.or_false, Bool.false_or, Bool.true_or, Bool.or_true, s1]
      refine ⟨_, _, rfl, fun j x y hj hx hy => ?_⟩
      by_cases e : j = k
      · rw [e, f1, h3] at hx; cases hx
      · exact hI j x y (by omega) hx hy
    | some x =>
      obtain ⟨y, h4⟩ := toN_wd hw x h3
      have t1 : toD d1 = iD x := by rw [toD_op, h3]; rfl
      have t2 : toD d2 = iD y := by rw [toD_op, h4]; rfl
      have hx : x < m := dr_lt hR hr hk (by rw [f1]; exact h3)
      have hy : y < m := dr_lt hR ho hk (by rw [f2]; exact h4)
      have tk := tk_pair x y
      have tg := far_get hx hy L
      have z2 : 2 ≤ sizeLine := by have := sl_big; omega
      rw [t1] at s1
      rw [t2] at s2
      rw [t1, t2]
      cases hv : L.lookup (m * x + y) with
      | none =>
        rw [hv] at tg
        have lt : decide ((t : Int) < (t : Int)) = false := decide_eq_false (by omega)
        simp only [l46_0, Nat.zero_le, nx_nx, nx_ct, nr_nx, nr_ct, nr_rt, turn_eq, tup2, tup3, ex, ev, outS, oneD, oneB, oneR, manyD, Out.bind, ofO, getDs, Rv.sh, peek, setS, setT, setN, onOut, onD, onB, onDs, callG, callD, callB, callM, resB, o2F, subF, lsD, keyD, flatD, noX, biF, isiF, isiA, if_true, if_false, List.getElem?_cons_zero, List.getElem?_cons_succ, List.set_cons_zero, List.set_cons_succ, List.map_cons, List.map_nil, List.length_cons, List.length_nil, List.length_map, Option.map_some, Option.map_none, Option.bind_some, Nat.zero_add, Nat.reduceAdd, Nat.reduceSub, Bool.false_eq_true, Bool.not_true, Bool.not_false, Bool.and_true, Bool.true_and, Bool.and_false, Bool.false_and, Bool.or_false, Bool.false_or, Bool.true_or, Bool.or_true, s1, s2, z2, tk, tg, Option.getD_none, lt]
        refine ⟨_, _, rfl, fun j x' y' hj hx' hy' => ?_⟩
        by_cases e : j = k
        · rw [e, f1, h3] at hx'
          rw [e, f2, h4] at hy'
          cases hx'
          cases hy'
          rintro ⟨v, q, _⟩
          rw [hv] at q; cases q
        · exact hI j x' y' (by omega) hx' hy'
      | some v =>
        rw [hv] at tg
        by_cases hvt : v < t
        · have lt : decide ((v : Int) < (t : Int)) = true := decide_eq_true (by omega)
          simp only [l46_0, Nat.zero_le, nx_nx, nx_ct, nr_nx, nr_ct, nr_rt, turn_eq, tup2, tup3, ex, ev, outS, oneD, oneB, oneR, manyD, Out.bind, ofO, getDs, Rv.sh, peek, setS, setT, setN, onOut, onD, onB, onDs, callG, callD, callB, callM, resB, o2F, subF, lsD, keyD, flatD, noX, biF, isiF, isiA, if_true, if_false, List.getElem?_cons_zero, List.getElem?_cons_succ, List.set_cons_zero, List.set_cons_succ, List.map_cons, List.map_nil, List.length_cons, List.length_nil, List.length_map, Option.map_some, Option.map_none, Option.bind_some, Nat.zero_add, Nat.reduceAdd, Nat.reduceSub, Bool.false_eq_true, Bool.not_true, Bool.not_false, Bool.and_true, Bool.true_and, Bool.and_false, Bool.false_and, Bool.or_false, Bool.false_or, Bool.true_or, Bool.or_true, s1, s2, z2, tk, tg, Option.getD_some, lt]
          exact ⟨trivial, trivial, k, x, y, hk, by rw [f1]; exact h3, by rw [f2]; exact h4, v, hv, hvt⟩
        · have lt : decide ((v : Int) < (t : Int)) = false := decide_eq_false (by omega)
          simp only [l46_0, Nat.zero_le, nx_nx, nx_ct, nr_nx, nr_ct, nr_rt, turn_eq, tup2, tup3, ex, ev, outS, oneD, oneB, oneR, manyD, Out.bind, ofO, getDs, Rv.sh, peek, setS, setT, setN, onOut, onD, onB, onDs, callG, callD, callB, callM, resB, o2F, subF, lsD, keyD, flatD, noX, biF, isiF, isiA, if_true, if_false, List.getElem?_cons_zero, List.getElem?_cons_succ, List.set_cons_zero, List.set_cons_succ, List.map_cons, List.map_nil, List.length_cons, List.length_nil, List.length_map, Option.map_some, Option.map_none, Option.bind_some, Nat.zero_add, Nat.reduceAdd, Nat.reduceSub, Bool.false_eq_true, Bool.not_true, Bool.not_false, Bool.and_true, Bool.true_and, Bool.and_false, Bool.false_and, Bool.or_false, Bool.false_or, Bool.true_or, Bool.or_true, s1, s2, z2, tk, tg, Option.getD_some, lt]
          refine ⟨_, _, rfl, fun j x' y' hj hx' hy' => ?_⟩
          by_cases e : j = k
          · rw [e, f1, h3] at hx'
            rw [e, f2, h4] at hy'
            cases hx'
            cases hy'
            rintro ⟨w, q, q2⟩
            rw [hv] at q
            cases q
            exact hvt q2
          · exact hI j x' y' (by omega) hx' hy')
  rcases lp with ⟨s', e, q5, q6, rfl, hI⟩ | ⟨q, s', e, rfl, hmu, hl⟩
  · refine ⟨false, ?_, fun h => absurd h (by decide), fun ⟨k, x, y, hk, h1, h2, h3⟩ => ?_⟩
    · simp only [b46, Nat.zero_le, nx_nx, nx_ct, nr_nx, nr_ct, nr_rt, turn_eq, tup2, tup3, ex, ev, outS, oneD, oneB, oneR, manyD, Out.bind, ofO, getDs, Rv.sh, peek, setS, setT, setN, onOut, onD, onB, onDs, callG, callD, callB, callM, resB, o2F, subF, lsD, keyD, flatD, noX, biF, isiF, isiA, if_true, if_false, List.getElem?_cons_zero, List.getElem?_cons_succ, List.set_cons_zero, List.set_cons_succ, List.map_cons, List.map_nil, List.length_cons, List.length_nil, List.length_map, Option.map_some, Option.map_none, Option.bind_some, Nat.zero_add, Nat.reduceAdd, Nat.reduceSub, Bool.false_eq_true, Bool.not_true, Bool.not_false, Bool.and_true, Bool.true_and, Bool.and_false, Bool.false_and, Bool.or_false, Bool.false_or, Bool.true_or, Bool.or_true, a1, a2, getDs_d, e]
    · exact absurd h3 (hI k x y (by rw [zip_len, List.length_map, List.length_map]; omega) h1 h2)
  · refine ⟨true, ?_, fun _ => hl, fun _ => rfl⟩
    simp only [b46, Nat.zero_le, nx_nx, nx_ct, nr_nx, nr_ct, nr_rt, turn_eq, tup2, tup3, ex, ev, outS, oneD, oneB, oneR, manyD, Out.bind, ofO, getDs, Rv.sh, peek, setS, setT, setN, onOut, onD, onB, onDs, callG, callD, callB, callM, resB, o2F, subF, lsD, keyD, flatD, noX, biF, isiF, isiA, if_true, if_false, List.getElem?_cons_zero, List.getElem?_cons_succ, List.set_cons_zero, List.set_cons_succ, List.map_cons, List.map_nil, List.length_cons, List.length_nil, List.length_map, Option.map_some, Option.map_none, Option.bind_some, Nat.zero_add, Nat.reduceAdd, Nat.reduceSub, Bool.false_eq_true, Bool.not_true, Bool.not_false, Bool.and_true, Bool.true_and, Bool.and_false, Bool.false_and, Bool.or_false, Bool.false_or, Bool.true_or, Bool.or_true, a1, a2, getDs_d, e, hmu]
/-! apart, turn by turn -/
theorem ex_seq {rec : Rec} {u v : S} {s : Sg} : ex G rec (.seq u v) s = (match ex G rec u s with
  | .nx s => ex G rec v s
  | r => r) := rfl
theorem wd_ok (d : Dr) : PyData.strOk (wdD d) = true := by
  cases d with
  | must t => exact (by decide +kernel : PyData.strOk (Str.ofString "must") = true)
  | may t => exact (by decide +kernel : PyData.strOk (Str.ofString "may") = true)
  | shut => decide +kernel
  | torn => decide +kernel
def gW : Mp.D → Mp.D
  | .tup (w :: _) => w
  | _ => .non
theorem okN_wds (l : List Dr) : okN 8 (.lst ((l.map tD).map gW)) = true := by
  show ((l.map tD).map gW).all (okN 7) = true
  rw [List.all_eq_true]
  intro x hx
  rw [List.map_map] at hx
  obtain ⟨y, _, rfl⟩ := List.mem_map.mp hx
  show okN 7 (gW (tD y)) = true
  rw [tD_eq]
  exact wd_ok y
theorem eqBs_wds : ∀ (x y : List Dr), eqBs ((x.map tD).map gW) ((y.map tD).map gW) = decide (x.map wdD = y.map wdD)
  | [], [] => by rfl
  | [], _ :: _ => by rfl
  | _ :: _, [] => by rfl
  | a :: x, b :: y => by
    show (eqB (gW (tD a)) (gW (tD b)) && eqBs ((x.map tD).map gW) ((y.map tD).map gW)) = decide (wdD a :: x.map wdD = wdD b :: y.map wdD)
    rw [eqBs_wds x y, tD_eq, tD_eq]
    show ((wdD a == wdD b) && _) = _
    rw [Bool.eq_iff_iff, Bool.and_eq_true, beq_iff_eq, decide_eq_true_iff, decide_eq_true_iff, List.cons.injEq]
theorem eqF_wds (x y : List Dr) : eqF (.lst ((x.map tD).map gW)) (.lst ((y.map tD).map gW)) = some (decide (x.map wdD = y.map wdD)) := by
  unfold eqF
  rw [okN_wds, okN_wds, ← eqBs_wds]
  rfl
theorem wds_iff {m a : Nat} {R : List (List Dr)} (hR : RowsOk m a R) {r o : Nat} {x y : List Dr} (hr : R[r]? = some x) (ho : R[o]? = some y) : x.map wdD = y.map wdD ↔ ¬ Unl R a r o := by
  have l1 := hR.row x (List.mem_of_getElem? hr)
  have l2 := hR.row y (List.mem_of_getElem? ho)
  have e1 : ∀ {k}, k < a → x[k]? = some (dr R r k) := fun {k} hk => by simp [dr, List.getD_eq_getElem?_getD, hr, show k < x.length by omega]
  have e2 : ∀ {k}, k < a → y[k]? = some (dr R o k) := fun {k} hk => by simp [dr, List.getD_eq_getElem?_getD, ho, show k < y.length by omega]
  constructor
  · rintro h ⟨k, hk, q⟩
    have := congrArg (fun l => l[k]?) h
    simp only [List.getElem?_map, e1 hk, e2 hk, Option.map_some, Option.some.injEq] at this
    exact q this
  · intro h
    apply List.ext_getElem?
    intro k
    rw [List.getElem?_map, List.getElem?_map]
    by_cases hk : k < a
    · have q : wdD (dr R r k) = wdD (dr R o k) := Classical.byContradiction fun q => h ⟨k, hk, q⟩
      rw [e1 hk, e2 hk, Option.map_some, Option.map_some, q]
    · rw [List.getElem?_eq_none (by omega), List.getElem?_eq_none (by omega)]
abbrev farD (m : Nat) (L : List (Nat × Nat)) : Mp.D := .tdc (fkD m L) (fvD L)
theorem ev_wdsR {n m a : Nat} {R : List (List Dr)} (hR : RowsOk m a R) (ha : a ≤ 8) {r : Nat} {x : List Dr} (hr : R[r]? = some x) {s : Sg} {e : E} {o : Option Rv} (h0 : s.st[0]? = some (some (.d (.lst (R.map rwD))))) (he : ev G (Mp.run G n) e s = .ok [.d (iD r)] s) (h7 : s.st[7]? = some o) (ho : ∀ x, o ≠ some (.o x)) : ev G (Mp.run G n) (.comp (.subs 7 (.int 0)) [7] (.pl (.subs 0 e)) (.bl true)) s = .ok [.o (.lst ((x.map tD).map gW))] s := by
  have sl := sl_big
  have l1 := hR.row x (List.mem_of_getElem? hr)
  have a1 : L2.atI (R.map rwD) (r : Int) = some (.lst (x.map tD)) := by rw [atI_nat', List.getElem?_map, hr]; rfl
  exact ev_comp (Γ := G) (i := 7) (o := o) (g := gW) (ds := x.map tD) (s' := s) (by simp only [Nat.zero_le, nx_nx, nx_ct, nr_nx, nr_ct, nr_rt, turn_eq, tup2, tup3, ex, ev, outS, oneD, oneB, oneR, manyD, Out.bind, ofO, getDs, Rv.sh, peek, setS, setT, setN, onOut, onD, onB, onDs, callG, callD, callB, callM, resB, o2F, subF, lsD, keyD, flatD, noX, biF, isiF, isiA, if_true, if_false, List.getElem?_cons_zero, List.getElem?_cons_succ, List.set_cons_zero, List.set_cons_succ, List.map_cons, List.map_nil, List.length_cons, List.length_nil, List.length_map, Option.map_some, Option.map_none, Option.bind_some, Nat.zero_add, Nat.reduceAdd, Nat.reduceSub, Bool.false_eq_true, Bool.not_true, Bool.not_false, Bool.and_true, Bool.true_and, Bool.and_false, Bool.false_and, Bool.or_false, Bool.false_or, Bool.true_or, Bool.or_true, h0, he, a1]) h7 ho (by rw [List.length_map]; omega) (fun d hd => by
    obtain ⟨y, _, rfl⟩ := List.mem_map.mp hd
    have h7' : 7 < s.st.length := (List.getElem?_eq_some_iff.mp h7).1
    have q : (s.st.set 7 (some (.d (tD y))))[7]? = some (some (.d (tD y))) := by rw [List.getElem?_set_self h7']
    rw [tD_eq] at q ⊢
    refine ⟨.d (.str (wdD y)), ?_, rfl⟩
    simp only [Nat.zero_le, nx_nx, nx_ct, nr_nx, nr_ct, nr_rt, turn_eq, tup2, tup3, ex, ev, outS, oneD, oneB, oneR, manyD, Out.bind, ofO, getDs, Rv.sh, peek, setS, setT, setN, onOut, onD, onB, onDs, callG, callD, callB, callM, resB, o2F, subF, lsD, keyD, flatD, noX, biF, isiF, isiA, if_true, if_false, List.getElem?_cons_zero, List.getElem?_cons_succ, List.set_cons_zero, List.set_cons_succ, List.map_cons, List.map_nil, List.length_cons, List.length_nil, List.length_map, Option.map_some, Option.map_none, Option.bind_some, Nat.zero_add, Nat.reduceAdd, Nat.reduceSub, Bool.false_eq_true, Bool.not_true, Bool.not_false, Bool.and_true, Bool.true_and, Bool.and_false, Bool.false_and, Bool.or_false, Bool.false_or, Bool.true_or, Bool.or_true, q]
    rfl)
theorem p_apart (n m a : Nat) (R : List (List Dr)) (hR : RowsOk m a R) (ha : a ≤ 8) (hm : m ≤ 50) : ∃ T L, Mp.run G (n + 2) 45 [.d (.lst (R.map rwD))] [] = .ok (.o (farD m L)) [] ∧ FarOk m T L (ApW R a) := by
  have sl := sl_big
  have hRl := hR.len
  have hmm : m * m ≤ 50 * 50 := Nat.mul_le_mul hm hm
  have er : rngOk (m : Int) = true := rngN_ok m (by omega)
  have z2 : 2 ≤ sizeLine := by omega
  rw [ru45]
  obtain ⟨s', e1, L0, q3, q6, q7, rfl, _, hL0⟩ := for_nx (f := ex G (Mp.run G (n + 1)) l45_4) (tg := [3]) (ds := dints m 0) (s := ⟨[some (.d (.lst (R.map rwD))), some (.d (.int ((m : Nat) : Int))), some (.o (.tdc [] [])), none, none, none, none, none], []⟩)
    (I := fun r s => ∃ L q3 q6 q7, s = ⟨[some (.d (.lst (R.map rwD))), some (.d (.int ((m : Nat) : Int))), some (.o (farD m L)), q3, none, none, q6, q7], []⟩ ∧ (∀ x, q7 ≠ some (.o x)) ∧ FarOk m 0 L fun x y => m * x + y < m * r ∧ Unl R a x y) 0 ⟨[], none, none, none, rfl, (fun x e => by cases e), List.nodup_nil, (fun p h => by cases h), fun x y _ _ => ⟨(fun h => by cases h), fun h => by have := h.1; omega⟩⟩ (by
    rintro r d hd s ⟨L, q3, q6, q7, rfl, hq7, hL⟩
    have hd2 := dints_at hd
    have hr := hd2.1
    have e0 := hd2.2
    subst e0
    rw [Nat.zero_add] at hL
    rw [Nat.zero_add, Int.zero_add]
    obtain ⟨s', e1, L', q6, q7', rfl, hq7', hL'⟩ := for_nx (f := ex G (Mp.run G (n + 1)) l45_3) (tg := [6]) (ds := dints m 0) (s := ⟨[some (.d (.lst (R.map rwD))), some (.d (.int ((m : Nat) : Int))), some (.o (farD m L)), some (.d (.int ((r : Nat) : Int))), none, none, q6, q7], []⟩)
      (I := fun o s => ∃ L q6 q7, s = ⟨[some (.d (.lst (R.map rwD))), some (.d (.int ((m : Nat) : Int))), some (.o (farD m L)), some (.d (.int ((r : Nat) : Int))), none, none, q6, q7], []⟩ ∧ (∀ x, q7 ≠ some (.o x)) ∧ FarOk m 0 L fun x y => m * x + y < m * r + o ∧ Unl R a x y) 0 ⟨L, q6, q7, rfl, hq7, hL⟩ (by
      rintro o d hd s ⟨L, q6, q7, rfl, hq7, hL⟩
      have hd2 := dints_at hd
      have ho := hd2.1
      have e0 := hd2.2
      subst e0
      rw [Nat.zero_add] at hL
      rw [Nat.zero_add, Int.zero_add]
      obtain ⟨x, hx⟩ : ∃ x, R[r]? = some x := ⟨_, List.getElem?_eq_getElem (by omega)⟩
      obtain ⟨y, hy⟩ : ∃ y, R[o]? = some y := ⟨_, List.getElem?_eq_getElem (by omega)⟩
      have c1 := ev_wdsR (n := n + 1) hR ha hx (e := .nm 3) (s := ⟨[some (.d (.lst (R.map rwD))), some (.d (.int ((m : Nat) : Int))), some (.o (farD m L)), some (.d (.int ((r : Nat) : Int))), none, none, some (.d (.int ((o : Nat) : Int))), q7], []⟩) rfl rfl rfl hq7
      have c2 := ev_wdsR (n := n + 1) hR ha hy (e := .nm 6) (s := ⟨[some (.d (.lst (R.map rwD))), some (.d (.int ((m : Nat) : Int))), some (.o (farD m L)), some (.d (.int ((r : Nat) : Int))), none, none, some (.d (.int ((o : Nat) : Int))), q7], []⟩) rfl rfl rfl hq7
      have hn : L.lookup (m * r + o) = none := by
        cases q : L.lookup (m * r + o) with
        | none => rfl
        | some v =>
          have := (hL.ok r o hr ho).mp (by rw [q]; rfl)
          omega
      have hl : L.length < sizeLine := by have := hL.len; omega
      have wi := wds_iff hR hx hy
      have et : turnF (ex G (Mp.run G (n + 1)) l45_3) [6] (.int (o : Int)) ⟨[some (.d (.lst (R.map rwD))), some (.d (.int ((m : Nat) : Int))), some (.o (farD m L)), some (.d (.int ((r : Nat) : Int))), none, none, q6, q7], []⟩ = ex G (Mp.run G (n + 1)) l45_3 ⟨[some (.d (.lst (R.map rwD))), some (.d (.int ((m : Nat) : Int))), some (.o (farD m L)), some (.d (.int ((r : Nat) : Int))), none, none, some (.d (.int ((o : Nat) : Int))), q7], []⟩ := by rw [turn_eq]; rfl
      rw [et]
      unfold l45_3
      rw [ex_seq]
      by_cases hu : Unl R a r o
      · have ne : decide (x.map wdD = y.map wdD) = false := decide_eq_false fun z => wi.mp z hu
        have fp : tputK (kp r o) (.tup [iD r, iD o]) (.int 0) (fkD m L) (fvD L) = _ := far_put (v := 0) hr ho hn
        rw [ex_ift (ev_o2b c1 rfl c2 rfl (r := .d (.bl true)) (by simp only [o2F, eqF_wds, ne]; rfl))]
        simp only [Nat.zero_le, nx_nx, nx_ct, nr_nx, nr_ct, nr_rt, turn_eq, tup2, tup3, ex, ev, outS, oneD, oneB, oneR, manyD, Out.bind, ofO, getDs, Rv.sh, peek, setS, setT, setN, onOut, onD, onB, onDs, callG, callD, callB, callM, resB, o2F, subF, lsD, keyD, flatD, noX, biF, isiF, isiA, if_true, if_false, List.getElem?_cons_zero, List.getElem?_cons_succ, List.set_cons_zero, List.set_cons_succ, List.map_cons, List.map_nil, List.length_cons, List.length_nil, List.length_map, Option.map_some, Option.map_none, Option.bind_some, Nat.zero_add, Nat.reduceAdd, Nat.reduceSub, Bool.false_eq_true, Bool.not_true, Bool.not_false, Bool.and_true, Bool.true_and, Bool.and_false, Bool.false_and, Bool.or_false, Bool.false_or, Bool.true_or, Bool.or_true, setF, tk_pair, z2, hl, fp]
        refine ⟨_, _, _, rfl, hq7, (hL.put hr ho hn (Nat.le_refl 0)).to (Nat.le_refl _) fun x' y' hx' hy' => ?_⟩
        constructor
        · rintro (⟨h1, h2⟩ | ⟨rfl, rfl⟩)
          · exact ⟨by omega, h2⟩
          · exact ⟨by omega, hu⟩
        · rintro ⟨h1, h2⟩
          by_cases e : m * x' + y' = m * r + o
          · exact .inr (pair_inj hy' ho e)
          · exact .inl ⟨by omega, h2⟩
      · have ne : decide (x.map wdD = y.map wdD) = true := decide_eq_true (wi.mpr hu)
        rw [ex_iff (ev_o2b c1 rfl c2 rfl (r := .d (.bl false)) (by simp only [o2F, eqF_wds, ne]; rfl))]
        simp only [Nat.zero_le, nx_nx, nx_ct, nr_nx, nr_ct, nr_rt, turn_eq, tup2, tup3, ex, ev, outS, oneD, oneB, oneR, manyD, Out.bind, ofO, getDs, Rv.sh, peek, setS, setT, setN, onOut, onD, onB, onDs, callG, callD, callB, callM, resB, o2F, subF, lsD, keyD, flatD, noX, biF, isiF, isiA, if_true, if_false, List.getElem?_cons_zero, List.getElem?_cons_succ, List.set_cons_zero, List.set_cons_succ, List.map_cons, List.map_nil, List.length_cons, List.length_nil, List.length_map, Option.map_some, Option.map_none, Option.bind_some, Nat.zero_add, Nat.reduceAdd, Nat.reduceSub, Bool.false_eq_true, Bool.not_true, Bool.not_false, Bool.and_true, Bool.true_and, Bool.and_false, Bool.false_and, Bool.or_false, Bool.false_or, Bool.true_or, Bool.or_true]
        refine ⟨_, _, _, rfl, hq7, hL.to (Nat.le_refl _) fun x' y' hx' hy' => ?_⟩
        constructor
        · rintro ⟨h1, h2⟩
          exact ⟨by omega, h2⟩
        · rintro ⟨h1, h2⟩
          by_cases e : m * x' + y' = m * r + o
          · obtain ⟨rfl, rfl⟩ := pair_inj hy' ho e
            exact (hu h2).elim
          · exact ⟨by omega, h2⟩)
    simp only [l45_4, Nat.zero_le, nx_nx, nx_ct, nr_nx, nr_ct, nr_rt, turn_eq, tup2, tup3, ex, ev, outS, oneD, oneB, oneR, manyD, Out.bind, ofO, getDs, Rv.sh, peek, setS, setT, setN, onOut, onD, onB, onDs, callG, callD, callB, callM, resB, o2F, subF, lsD, keyD, flatD, noX, biF, isiF, isiA, if_true, if_false, List.getElem?_cons_zero, List.getElem?_cons_succ, List.set_cons_zero, List.set_cons_succ, List.map_cons, List.map_nil, List.length_cons, List.length_nil, List.length_map, Option.map_some, Option.map_none, Option.bind_some, Nat.zero_add, Nat.reduceAdd, Nat.reduceSub, Bool.false_eq_true, Bool.not_true, Bool.not_false, Bool.and_true, Bool.true_and, Bool.and_false, Bool.false_and, Bool.or_false, Bool.false_or, Bool.true_or, Bool.or_true, er, getDs_d, Int.toNat_natCast, e1]
    refine ⟨_, _, _, _, rfl, hq7', ?_⟩
    rw [dints_len, Nat.zero_add] at hL'
    exact hL')
  rw [dints_len, Nat.zero_add] at hL0
  have hL0 : FarOk m 0 L0 (Ap R a 0) := hL0.to (Nat.le_refl _) fun x y hx hy => ⟨fun h => h.2, fun h => ⟨pair_lt hx hy, h⟩⟩
  obtain ⟨s', e2, T, L1, sz, q3, q6, q7, rfl, hL1⟩ := whl_nx (c := ev G (Mp.run G (n + 1)) (.o2 .lt (.nm 4) (.bis .len 2))) (f := ex G (Mp.run G (n + 1)) l45_2)
    (I := fun M s => ∃ (T : Nat) (L : List (Nat × Nat)) (sz : Int) (q3 q6 q7 : Option Rv), s = ⟨[some (.d (.lst (R.map rwD))), some (.d (.int ((m : Nat) : Int))), some (.o (farD m L)), q3, some (.d (.int (sz))), some (.d (.int ((T : Nat) : Int))), q6, q7], []⟩ ∧ FarOk m T L (Ap R a T) ∧ M = (((m * m : Nat) : Int) - sz).toNat ∧ -1 ≤ sz ∧ sz ≤ (L.length : Int) ∧ (sz = (L.length : Int) → ∃ T', T = T' + 1 ∧ ∀ x y, x < m → y < m → Ap R a T x y → Ap R a T' x y))
    (E := fun s => ∃ (T : Nat) (L : List (Nat × Nat)) (sz : Int) (q3 q6 q7 : Option Rv), s = ⟨[some (.d (.lst (R.map rwD))), some (.d (.int ((m : Nat) : Int))), some (.o (farD m L)), q3, some (.d (.int (sz))), some (.d (.int ((T : Nat) : Int))), q6, q7], []⟩ ∧ FarOk m T L (ApW R a)) (by
    rintro M s ⟨T, L, sz, q3, q6, q7, rfl, hL, hM, z1, z3, hst⟩
    have hlen := hL.len
    refine ⟨decide (sz < (L.length : Int)), ⟨[some (.d (.lst (R.map rwD))), some (.d (.int ((m : Nat) : Int))), some (.o (farD m L)), q3, some (.d (.int (sz))), some (.d (.int ((T : Nat) : Int))), q6, q7], []⟩, ?_, fun h => ?_, fun h => ?_⟩
    · simp only [Nat.zero_le, nx_nx, nx_ct, nr_nx, nr_ct, nr_rt, turn_eq, tup2, tup3, ex, ev, outS, oneD, oneB, oneR, manyD, Out.bind, ofO, getDs, Rv.sh, peek, setS, setT, setN, onOut, onD, onB, onDs, callG, callD, callB, callM, resB, o2F, subF, lsD, keyD, flatD, noX, biF, isiF, isiA, if_true, if_false, List.getElem?_cons_zero, List.getElem?_cons_succ, List.set_cons_zero, List.set_cons_succ, List.map_cons, List.map_nil, List.length_cons, List.length_nil, List.length_map, Option.map_some, Option.map_none, Option.bind_some, Nat.zero_add, Nat.reduceAdd, Nat.reduceSub, Bool.false_eq_true, Bool.not_true, Bool.not_false, Bool.and_true, Bool.true_and, Bool.and_false, Bool.false_and, Bool.or_false, Bool.false_or, Bool.true_or, Bool.or_true]
    · have h := of_decide_eq_false h
      obtain ⟨T', rfl, st⟩ := hst (by omega)
      refine ⟨T' + 1, L, sz, q3, q6, q7, rfl, hL.to (Nat.le_refl _) fun x y hx hy => ?_⟩
      rw [ApW_of hR (fun r o hr ho => st r o hr ho) hx hy]
      exact ⟨st x y hx hy, .inl⟩
    · have h := of_decide_eq_true h
      have mm : (((m * m : Nat) : Int) - (L.length : Int)).toNat < M := by
        rw [hM]
        have hl' : (L.length : Int) ≤ ((m * m : Nat) : Int) := Int.ofNat_le.mpr hlen
        generalize ((m * m : Nat) : Int) = Q at hl'
        clear hst
        omega
      have eT : (T : Int) + 1 = ((T + 1 : Nat) : Int) := by push_cast; rfl
      obtain ⟨s', e3, L', q3', q6', rfl, hL', hO', L2, rfl⟩ := for_nx (f := ex G (Mp.run G (n + 1)) l45_1) (tg := [3]) (ds := dints m 0) (s := ⟨[some (.d (.lst (R.map rwD))), some (.d (.int ((m : Nat) : Int))), some (.o (farD m L)), q3, some (.d (.int ((L.length : Int)))), some (.d (.int ((T + 1 : Nat) : Int))), q6, q7], []⟩)
        (I := fun r s => ∃ L' q3 q6, s = ⟨[some (.d (.lst (R.map rwD))), some (.d (.int ((m : Nat) : Int))), some (.o (farD m L')), q3, some (.d (.int ((L.length : Int)))), some (.d (.int ((T + 1 : Nat) : Int))), q6, q7], []⟩ ∧ FarOk m (T + 1) L' (fun x y => Ap R a T x y ∨ (m * x + y < m * r ∧ Ap R a (T + 1) x y)) ∧ (∀ x y, x < m → y < m → (Old L' m (T + 1) x y ↔ Ap R a T x y)) ∧ ∃ L2, L' = L ++ L2) 0
        ⟨L, q3, q6, rfl, hL.to (by omega) (fun x y _ _ => ⟨.inl, fun h => h.elim id fun h => by have := h.1; omega⟩), (fun x y hx hy => by
          rw [← hL.ok x y hx hy]
          constructor
          · rintro ⟨v, e, _⟩; rw [e]; rfl
          · intro q
            obtain ⟨v, e⟩ := Option.isSome_iff_exists.mp q
            have := (hL.lt _ (lookup_mem e)).2
            exact ⟨v, e, by have : v ≤ T := this; omega⟩), [], by simp⟩ (by
        rintro r d hd s ⟨L', q3, q6, rfl, hL', hO', hA⟩
        have hd2 := dints_at hd
        have hr := hd2.1
        have e0 := hd2.2
        subst e0
        rw [Nat.zero_add] at hL'
        rw [Nat.zero_add, Int.zero_add]
        obtain ⟨s', e3, L3, q6', rfl, hL3, hO3, hA3⟩ := for_nx (f := ex G (Mp.run G (n + 1)) l45_0) (tg := [6]) (ds := dints m 0) (s := ⟨[some (.d (.lst (R.map rwD))), some (.d (.int ((m : Nat) : Int))), some (.o (farD m L')), some (.d (.int ((r : Nat) : Int))), some (.d (.int ((L.length : Int)))), some (.d (.int ((T + 1 : Nat) : Int))), q6, q7], []⟩)
          (I := fun o s => ∃ L' q6, s = ⟨[some (.d (.lst (R.map rwD))), some (.d (.int ((m : Nat) : Int))), some (.o (farD m L')), some (.d (.int ((r : Nat) : Int))), some (.d (.int ((L.length : Int)))), some (.d (.int ((T + 1 : Nat) : Int))), q6, q7], []⟩ ∧ FarOk m (T + 1) L' (fun x y => Ap R a T x y ∨ (m * x + y < m * r + o ∧ Ap R a (T + 1) x y)) ∧ (∀ x y, x < m → y < m → (Old L' m (T + 1) x y ↔ Ap R a T x y)) ∧ ∃ L2, L' = L ++ L2) 0 ⟨L', q6, rfl, hL', hO', hA⟩ (by
          rintro o d hd s ⟨L', q6, rfl, hL', hO', hA⟩
          have hd2 := dints_at hd
          have ho := hd2.1
          have e0 := hd2.2
          subst e0
          rw [Nat.zero_add] at hL'
          rw [Nat.zero_add, Int.zero_add]
          have tg := far_get hr ho L'
          have same : (Ap R a (T + 1) r o → Ap R a T r o ∨ (m * r + o < m * r + o ∧ Ap R a (T + 1) r o)) → FarOk m (T + 1) L' (fun x y => Ap R a T x y ∨ (m * x + y < m * r + (o + 1) ∧ Ap R a (T + 1) x y)) := fun hh => hL'.to (Nat.le_refl _) fun x' y' hx' hy' => by
            constructor
            · rintro (q | ⟨q1, q2⟩)
              · exact .inl q
              · exact .inr ⟨by omega, q2⟩
            · rintro (q | ⟨q1, q2⟩)
              · exact .inl q
              · by_cases e : m * x' + y' = m * r + o
                · obtain ⟨rfl, rfl⟩ := pair_inj hy' ho e
                  exact hh q2
                · exact .inr ⟨by omega, q2⟩
          cases hv : L'.lookup (m * r + o) with
          | some v =>
            rw [hv] at tg
            simp only [l45_0, Nat.zero_le, nx_nx, nx_ct, nr_nx, nr_ct, nr_rt, turn_eq, tup2, tup3, ex, ev, outS, oneD, oneB, oneR, manyD, Out.bind, ofO, getDs, Rv.sh, peek, setS, setT, setN, onOut, onD, onB, onDs, callG, callD, callB, callM, resB, o2F, subF, lsD, keyD, flatD, noX, biF, isiF, isiA, if_true, if_false, List.getElem?_cons_zero, List.getElem?_cons_succ, List.set_cons_zero, List.set_cons_succ, List.map_cons, List.map_nil, List.length_cons, List.length_nil, List.length_map, Option.map_some, Option.map_none, Option.bind_some, Nat.zero_add, Nat.reduceAdd, Nat.reduceSub, Bool.false_eq_true, Bool.not_true, Bool.not_false, Bool.and_true, Bool.true_and, Bool.and_false, Bool.false_and, Bool.or_false, Bool.false_or, Bool.true_or, Bool.or_true, z2, tk_pair, tg, Option.isSome_some]
            exact ⟨_, _, rfl, same (fun _ => (hL'.ok r o hr ho).mp (by rw [hv]; rfl)), hO', hA⟩
          | none =>
            rw [hv] at tg
            have hno : ¬ (Ap R a T r o ∨ (m * r + o < m * r + o ∧ Ap R a (T + 1) r o)) := fun q => by
              have := (hL'.ok r o hr ho).mpr q
              rw [hv] at this; cases this
            have hu : ¬ Unl R a r o := fun q => hno (.inl (Ap_le (Nat.zero_le _) (show Ap R a 0 r o from q)))
            obtain ⟨b, pb, hb0⟩ := p_leads n m a r o (T + 1) R L' hR hr ho hu
            have hb : b = true ↔ Ld R a (Ap R a T) r o := hb0.trans ⟨fun ⟨k, x, y, hk, h1, h2, h3⟩ => ⟨k, x, y, hk, h1, h2, (hO' x y (dr_lt hR hr hk h1) (dr_lt hR ho hk h2)).mp h3⟩, fun ⟨k, x, y, hk, h1, h2, h3⟩ => ⟨k, x, y, hk, h1, h2, (hO' x y (dr_lt hR hr hk h1) (dr_lt hR ho hk h2)).mpr h3⟩⟩
            clear hb0
            cases b with
            | true =>
              have hl : L'.length < sizeLine := by have := hL'.len; omega
              have fp := far_put (v := T + 1) hr ho hv
              simp only [l45_0, Nat.zero_le, nx_nx, nx_ct, nr_nx, nr_ct, nr_rt, turn_eq, tup2, tup3, ex, ev, outS, oneD, oneB, oneR, manyD, Out.bind, ofO, getDs, Rv.sh, peek, setS, setT, setN, onOut, onD, onB, onDs, callG, callD, callB, callM, resB, o2F, subF, lsD, keyD, flatD, noX, biF, isiF, isiA, if_true, if_false, List.getElem?_cons_zero, List.getElem?_cons_succ, List.set_cons_zero, List.set_cons_succ, List.map_cons, List.map_nil, List.length_cons, List.length_nil, List.length_map, Option.map_some, Option.map_none, Option.bind_some, Nat.zero_add, Nat.reduceAdd, Nat.reduceSub, Bool.false_eq_true, Bool.not_true, Bool.not_false, Bool.and_true, Bool.true_and, Bool.and_false, Bool.false_and, Bool.or_false, Bool.false_or, Bool.true_or, Bool.or_true, z2, tk_pair, tg, Option.isSome_none, ar46, pb, setF, hl, fp]
              obtain ⟨L2, rfl⟩ := hA
              refine ⟨_, _, rfl, (hL'.put hr ho hv (Nat.le_refl _)).to (Nat.le_refl _) fun x' y' hx' hy' => ?_, fun x' y' hx' hy' => ?_, L2 ++ [_], by rw [List.append_assoc]⟩
              · constructor
                · rintro ((q | ⟨q1, q2⟩) | ⟨rfl, rfl⟩)
                  · exact .inl q
                  · exact .inr ⟨by omega, q2⟩
                  · exact .inr ⟨by omega, .inr (hb.mp rfl)⟩
                · rintro (q | ⟨q1, q2⟩)
                  · exact .inl (.inl q)
                  · by_cases e : m * x' + y' = m * r + o
                    · exact .inr (pair_inj hy' ho e)
                    · exact .inl (.inr ⟨by omega, q2⟩)
              · rw [← hO' x' y' hx' hy']
                unfold Old
                constructor
                · rintro ⟨v, e, hvt⟩
                  rw [lookup_app] at e
                  cases q : (L ++ L2).lookup (m * x' + y') with
                  | some w => rw [q] at e; exact ⟨v, e, hvt⟩
                  | none =>
                    rw [q] at e
                    by_cases z : m * x' + y' = m * r + o
                    · rw [if_pos z] at e
                      cases e
                      exact absurd hvt (Nat.lt_irrefl _)
                    · rw [if_neg z] at e; cases e
                · rintro ⟨v, e, hvt⟩
                  exact ⟨v, by rw [lookup_app, e]; rfl, hvt⟩
            | false =>
              simp only [l45_0, Nat.zero_le, nx_nx, nx_ct, nr_nx, nr_ct, nr_rt, turn_eq, tup2, tup3, ex, ev, outS, oneD, oneB, oneR, manyD, Out.bind, ofO, getDs, Rv.sh, peek, setS, setT, setN, onOut, onD, onB, onDs, callG, callD, callB, callM, resB, o2F, subF, lsD, keyD, flatD, noX, biF, isiF, isiA, if_true, if_false, List.getElem?_cons_zero, List.getElem?_cons_succ, List.set_cons_zero, List.set_cons_succ, List.map_cons, List.map_nil, List.length_cons, List.length_nil, List.length_map, Option.map_some, Option.map_none, Option.bind_some, Nat.zero_add, Nat.reduceAdd, Nat.reduceSub, Bool.false_eq_true, Bool.not_true, Bool.not_false, Bool.and_true, Bool.true_and, Bool.and_false, Bool.false_and, Bool.or_false, Bool.false_or, Bool.true_or, Bool.or_true, z2, tk_pair, tg, Option.isSome_none, ar46, pb]
              refine ⟨_, _, rfl, same (fun q => ?_), hO', hA⟩
              rcases q with q | q
              · exact .inl q
              · exact absurd (hb.mpr q) (by decide))
        simp only [l45_1, Nat.zero_le, nx_nx, nx_ct, nr_nx, nr_ct, nr_rt, turn_eq, tup2, tup3, ex, ev, outS, oneD, oneB, oneR, manyD, Out.bind, ofO, getDs, Rv.sh, peek, setS, setT, setN, onOut, onD, onB, onDs, callG, callD, callB, callM, resB, o2F, subF, lsD, keyD, flatD, noX, biF, isiF, isiA, if_true, if_false, List.getElem?_cons_zero, List.getElem?_cons_succ, List.set_cons_zero, List.set_cons_succ, List.map_cons, List.map_nil, List.length_cons, List.length_nil, List.length_map, Option.map_some, Option.map_none, Option.bind_some, Nat.zero_add, Nat.reduceAdd, Nat.reduceSub, Bool.false_eq_true, Bool.not_true, Bool.not_false, Bool.and_true, Bool.true_and, Bool.and_false, Bool.false_and, Bool.or_false, Bool.false_or, Bool.true_or, Bool.or_true, er, getDs_d, Int.toNat_natCast, e3]
        rw [dints_len, Nat.zero_add] at hL3
        exact ⟨_, _, _, rfl, hL3, hO3, hA3⟩)
      simp only [l45_2, Nat.zero_le, nx_nx, nx_ct, nr_nx, nr_ct, nr_rt, turn_eq, tup2, tup3, ex, ev, outS, oneD, oneB, oneR, manyD, Out.bind, ofO, getDs, Rv.sh, peek, setS, setT, setN, onOut, onD, onB, onDs, callG, callD, callB, callM, resB, o2F, subF, lsD, keyD, flatD, noX, biF, isiF, isiA, if_true, if_false, List.getElem?_cons_zero, List.getElem?_cons_succ, List.set_cons_zero, List.set_cons_succ, List.map_cons, List.map_nil, List.length_cons, List.length_nil, List.length_map, Option.map_some, Option.map_none, Option.bind_some, Nat.zero_add, Nat.reduceAdd, Nat.reduceSub, Bool.false_eq_true, Bool.not_true, Bool.not_false, Bool.and_true, Bool.true_and, Bool.and_false, Bool.false_and, Bool.or_false, Bool.false_or, Bool.true_or, Bool.or_true, er, getDs_d, Int.toNat_natCast, eT, e3]
      rw [dints_len, Nat.zero_add] at hL'
      have hL'' : FarOk m (T + 1) (L ++ L2) (Ap R a (T + 1)) := hL'.to (Nat.le_refl _) fun x y hx hy => ⟨fun q => q.elim .inl And.right, fun q => .inr ⟨pair_lt hx hy, q⟩⟩
      refine ⟨(((m * m : Nat) : Int) - (L.length : Int)).toNat, mm, T + 1, L ++ L2, _, _, _, _, rfl, hL'', rfl, by omega, by rw [List.length_append]; omega, fun q => ⟨T, rfl, fun x y hx hy qa => ?_⟩⟩
      have hz : L2 = [] := by
        rw [List.length_append] at q
        exact List.length_eq_zero_iff.mp (by omega)
      rw [hz, List.append_nil] at hL''
      exact (hL.ok x y hx hy).mp ((hL''.ok x y hx hy).mpr qa)) fuel (((m * m : Nat) : Int) - (-1)).toNat ⟨[some (.d (.lst (R.map rwD))), some (.d (.int ((m : Nat) : Int))), some (.o (farD m L0)), q3, some (.d (.int (-1))), some (.d (.int (0))), q6, q7], []⟩ ⟨0, L0, -1, q3, q6, q7, rfl, hL0, rfl, by omega, by omega, fun h => by omega⟩ (by
        unfold fuel
        omega)
  refine ⟨T, L1, ?_, hL1⟩
  simp only [Nat.zero_le, nx_nx, nx_ct, nr_nx, nr_ct, nr_rt, turn_eq, tup2, tup3, ex, ev, outS, oneD, oneB, oneR, manyD, Out.bind, ofO, getDs, Rv.sh, peek, setS, setT, setN, onOut, onD, onB, onDs, callG, callD, callB, callM, resB, o2F, subF, lsD, keyD, flatD, noX, biF, isiF, isiA, if_true, if_false, List.getElem?_cons_zero, List.getElem?_cons_succ, List.set_cons_zero, List.set_cons_succ, List.map_cons, List.map_nil, List.length_cons, List.length_nil, List.length_map, Option.map_some, Option.map_none, Option.bind_some, Nat.zero_add, Nat.reduceAdd, Nat.reduceSub, Bool.false_eq_true, Bool.not_true, Bool.not_false, Bool.and_true, Bool.true_and, Bool.and_false, Bool.false_and, Bool.or_false, Bool.false_or, Bool.true_or, Bool.or_true] at e2
  simp only [b45, Nat.zero_le, nx_nx, nx_ct, nr_nx, nr_ct, nr_rt, turn_eq, tup2, tup3, ex, ev, outS, oneD, oneB, oneR, manyD, Out.bind, ofO, getDs, Rv.sh, peek, setS, setT, setN, onOut, onD, onB, onDs, callG, callD, callB, callM, resB, o2F, subF, lsD, keyD, flatD, noX, biF, isiF, isiA, if_true, if_false, List.getElem?_cons_zero, List.getElem?_cons_succ, List.set_cons_zero, List.set_cons_succ, List.map_cons, List.map_nil, List.length_cons, List.length_nil, List.length_map, Option.map_some, Option.map_none, Option.bind_some, Nat.zero_add, Nat.reduceAdd, Nat.reduceSub, Bool.false_eq_true, Bool.not_true, Bool.not_false, Bool.and_true, Bool.true_and, Bool.and_false, Bool.false_and, Bool.or_false, Bool.false_or, Bool.true_or, Bool.or_true, hRl, er, getDs_d, Int.toNat_natCast, e1, e2]
/-! what is told is right -/
theorem ApW_refl {R : List (List Dr)} {a r : Nat} : ¬ ApW R a r r := fun ⟨_, h⟩ => Ap_refl h
theorem ApW_symm {R : List (List Dr)} {a r o : Nat} : ApW R a r o → ApW R a o r := fun ⟨t, h⟩ => ⟨t, Ap_symm h⟩
theorem ApW_trans {R : List (List Dr)} {a r o : Nat} (p : Nat) : ApW R a r o → ApW R a r p ∨ ApW R a p o := fun ⟨t, h⟩ => (Ap_trans p h).imp (fun q => ⟨t, q⟩) fun q => ⟨t, q⟩
noncomputable abbrev leR (R : List (List Dr)) (a r : Nat) : Nat := lst1 (ApW R a) r
theorem leR_eq {R : List (List Dr)} {a r o : Nat} : leR R a r = leR R a o ↔ ¬ ApW R a r o := lst1_eq (fun _ => ApW_refl) (fun _ _ => ApW_symm) (fun _ _ p => ApW_trans p)
theorem leR_le (R : List (List Dr)) (a r : Nat) : leR R a r ≤ r := (lst1_spec (fun _ => ApW_refl) r).1
theorem leR_le2 (R : List (List Dr)) (a r : Nat) : leR R a (leR R a r) = leR R a r := leR_eq.mpr (lst1_spec (fun _ => ApW_refl) r).2.1
theorem eqBB (a b : Bool) : eqF (.bl a) (.bl b) = some (a == b) := rfl
theorem can_at {m r : Nat} {E : Nat → Nat → Prop} (h : r < m) : L2.atI ((can m E).map iD) (r : Int) = some (iD (lst1 E r)) := by rw [atI_nat', List.getElem?_map, can_get h]; rfl
theorem p_right (n m a : Nat) (ns : List Str) (R : List (List Dr)) (hR : RowsOk m a R) (ha : a ≤ 8) (hm : m ≤ 50) (hn : ns.length = a) : Mp.run G (n + 6) 47 [.d (plC 6 ns R), .d (.lst (R.map rwD))] [] = .ok (.d (.bl true)) [] := by
  have sl := sl_big
  have hRl := hR.len
  have pc := p_classes n m a ns R hR ha (by omega) hn
  obtain ⟨T, L, pa, hL⟩ := p_apart (n + 3) m a R hR ha hm
  have er : rngOk (m : Int) = true := rngN_ok m (by omega)
  have z2 : 2 ≤ sizeLine := by omega
  rw [ru47]
  obtain ⟨s', e1, q4, q5, rfl⟩ := for_nx (f := ex G (Mp.run G (n + 5)) l47_1) (tg := [4]) (ds := dints m 0) (s := ⟨[some (.d (plC 6 ns R)), some (.d (.lst (R.map rwD))), some (.o (.lst ((can m (ApW R a)).map iD))), some (.o (farD m L)), none, none], []⟩)
    (I := fun r s => ∃ q4 q5, s = ⟨[some (.d (plC 6 ns R)), some (.d (.lst (R.map rwD))), some (.o (.lst ((can m (ApW R a)).map iD))), some (.o (farD m L)), q4, q5], []⟩) 0 ⟨none, none, rfl⟩ (by
    rintro r d hd s ⟨q4, q5, rfl⟩
    have hd2 := dints_at hd
    have hr := hd2.1
    have e0 := hd2.2
    subst e0
    rw [Int.zero_add]
    obtain ⟨s', e1, q5', rfl⟩ := for_nx (f := ex G (Mp.run G (n + 5)) l47_0) (tg := [5]) (ds := dints r 0) (s := ⟨[some (.d (plC 6 ns R)), some (.d (.lst (R.map rwD))), some (.o (.lst ((can m (ApW R a)).map iD))), some (.o (farD m L)), some (.d (.int ((r : Nat) : Int))), q5], []⟩)
      (I := fun _ s => ∃ q5, s = ⟨[some (.d (plC 6 ns R)), some (.d (.lst (R.map rwD))), some (.o (.lst ((can m (ApW R a)).map iD))), some (.o (farD m L)), some (.d (.int ((r : Nat) : Int))), q5], []⟩) 0 ⟨q5, rfl⟩ (by
      rintro o d hd s ⟨q5, rfl⟩
      have hd2 := dints_at hd
      have ho := hd2.1
      have e0 := hd2.2
      subst e0
      rw [Int.zero_add]
      have ho2 : o < m := by omega
      have g1 := can_at (E := ApW R a) hr
      have g2 := can_at (E := ApW R a) ho2
      have tg := far_get hr ho2 L
      have eq : (((lst1 (ApW R a) r : Nat) : Int) == ((lst1 (ApW R a) o : Nat) : Int)) = !(Option.map iD (L.lookup (m * r + o))).isSome := by
        have q1 : (L.lookup (m * r + o)).isSome = true ↔ ApW R a r o := hL.ok r o hr ho2
        have q2 := leR_eq (R := R) (a := a) (r := r) (o := o)
        rw [Option.isSome_map]
        cases q : (L.lookup (m * r + o)).isSome with
        | true =>
          have := q1.mp q
          have : ¬ lst1 (ApW R a) r = lst1 (ApW R a) o := fun z => q2.mp z this
          simp only [Bool.not_true, beq_eq_false_iff_ne]
          omega
        | false =>
          have : ¬ ApW R a r o := fun z => by rw [q1.mpr z] at q; cases q
          have : lst1 (ApW R a) r = lst1 (ApW R a) o := q2.mpr this
          simp only [Bool.not_false, beq_iff_eq]
          omega
      simp only [l47_0, Nat.zero_le, nx_nx, nx_ct, nr_nx, nr_ct, nr_rt, turn_eq, tup2, tup3, ex, ev, outS, oneD, oneB, oneR, manyD, Out.bind, ofO, getDs, Rv.sh, peek, setS, setT, setN, onOut, onD, onB, onDs, callG, callD, callB, callM, resB, o2F, subF, lsD, keyD, flatD, noX, biF, isiF, isiA, if_true, if_false, List.getElem?_cons_zero, List.getElem?_cons_succ, List.set_cons_zero, List.set_cons_succ, List.map_cons, List.map_nil, List.length_cons, List.length_nil, List.length_map, Option.map_some, Option.map_none, Option.bind_some, Nat.zero_add, Nat.reduceAdd, Nat.reduceSub, Bool.false_eq_true, Bool.not_true, Bool.not_false, Bool.and_true, Bool.true_and, Bool.and_false, Bool.false_and, Bool.or_false, Bool.false_or, Bool.true_or, Bool.or_true, g1, g2, eqII, eqBB, eq, z2, tk_pair, tg, beq_self_eq_true]
      exact ⟨_, rfl⟩)
    have g1 := can_at (E := ApW R a) hr
    have g2 := can_at (E := ApW R a) (r := leR R a r) (m := m) (by have := leR_le R a r; omega)
    rw [show lst1 (ApW R a) (leR R a r) = leR R a r from leR_le2 R a r] at g2
    have b1 : decide (((lst1 (ApW R a) r : Nat) : Int) < 0) = false := decide_eq_false (by omega)
    have b2 : decide ((r : Int) < ((lst1 (ApW R a) r : Nat) : Int)) = false := decide_eq_false (by have := leR_le R a r; unfold leR at this; omega)
    have er2 : rngOk (r : Int) = true := rngN_ok r (by omega)
    simp only [l47_1, Nat.zero_le, nx_nx, nx_ct, nr_nx, nr_ct, nr_rt, turn_eq, tup2, tup3, ex, ev, outS, oneD, oneB, oneR, manyD, Out.bind, ofO, getDs, Rv.sh, peek, setS, setT, setN, onOut, onD, onB, onDs, callG, callD, callB, callM, resB, o2F, subF, lsD, keyD, flatD, noX, biF, isiF, isiA, if_true, if_false, List.getElem?_cons_zero, List.getElem?_cons_succ, List.set_cons_zero, List.set_cons_succ, List.map_cons, List.map_nil, List.length_cons, List.length_nil, List.length_map, Option.map_some, Option.map_none, Option.bind_some, Nat.zero_add, Nat.reduceAdd, Nat.reduceSub, Bool.false_eq_true, Bool.not_true, Bool.not_false, Bool.and_true, Bool.true_and, Bool.and_false, Bool.false_and, Bool.or_false, Bool.false_or, Bool.true_or, Bool.or_true, g1, g2, ar39, p_whole, eqII, b1, b2, beq_self_eq_true, er2, getDs_d, Int.toNat_natCast, e1]
    exact ⟨_, _, rfl⟩)
  have nel : ((m : Int) == (m : Int)) = true := beq_self_eq_true _
  simp only [b47, Nat.zero_le, nx_nx, nx_ct, nr_nx, nr_ct, nr_rt, turn_eq, tup2, tup3, ex, ev, outS, oneD, oneB, oneR, manyD, Out.bind, ofO, getDs, Rv.sh, peek, setS, setT, setN, onOut, onD, onB, onDs, callG, callD, callB, callM, resB, o2F, subF, lsD, keyD, flatD, noX, biF, isiF, isiA, if_true, if_false, List.getElem?_cons_zero, List.getElem?_cons_succ, List.set_cons_zero, List.set_cons_succ, List.map_cons, List.map_nil, List.length_cons, List.length_nil, List.length_map, Option.map_some, Option.map_none, Option.bind_some, Nat.zero_add, Nat.reduceAdd, Nat.reduceSub, Bool.false_eq_true, Bool.not_true, Bool.not_false, Bool.and_true, Bool.true_and, Bool.and_false, Bool.false_and, Bool.or_false, Bool.false_or, Bool.true_or, Bool.or_true, ar37, ar45, pc, pa, can_len, hRl, eqII, nel, er, getDs_d, Int.toNat_natCast, e1, bmF]
/-! the law -/
theorem okN_rws (R : List (List Dr)) : okN 8 (.lst (R.map rwD)) = true := by
  show (R.map rwD).all (okN 7) = true
  rw [List.all_eq_true]
  intro x hx
  obtain ⟨r, _, rfl⟩ := List.mem_map.mp hx
  show (r.map tD).all (okN 6) = true
  rw [List.all_eq_true]
  intro x hx
  obtain ⟨d, _, rfl⟩ := List.mem_map.mp hx
  rw [tD_eq]
  show (PyData.strOk (wdD d) && (okN 5 (toD d) && true)) = true
  rw [wd_ok]
  cases d <;> rfl
theorem eqF_rws (R : List (List Dr)) : eqF (.lst (R.map rwD)) (.lst (R.map rwD)) = some true := eqF_self (okN_rws R)
theorem pl6 (n : Nat) {m a : Nat} {ns : List Str} {R : List (List Dr)} (h : RowsOk m a R) (nt : ∀ r ∈ R, ∀ d ∈ r, d ≠ Dr.torn) (hm : 1 ≤ m) (h60 : m ≤ 60) (ha1 : 1 ≤ a) (ha8 : a ≤ 8) (n1 : ns.all nmOk = true) (n2 : ns.length = a) (n3 : ns.Nodup) (s : Sg) : newD G (Mp.run G (n + 8)) 6 [.lst (ns.map .str), .lst (R.map rwD)] s = .ok [.d (plC 6 ns R)] s :=
  p_plan n ns R ⟨n1, by omega, by omega, n3, by rw [h.len]; exact hm, by rw [h.len]; omega, fun r hr => by rw [h.row r hr, n2], fun r hr d hd => by rw [h.len]; exact h.ok r hr d hd, fun r hr d hd => ws_in d (nt r hr d hd)⟩ s
theorem idx_first : ∀ (K : List Nat) (i t : Nat), K[i]? = some t → ∃ p, idxD (K.map iD) (t : Int) = some p ∧ p ≤ i ∧ K[p]? = some t
  | [], i, t, h => by cases h
  | k :: K, i, t, h => by
    by_cases e : k = t
    · exact ⟨0, if_pos (by omega), Nat.zero_le _, by rw [e]; rfl⟩
    · cases i with
      | zero => cases h; exact absurd rfl e
      | succ i =>
        obtain ⟨p, h1, h2, h3⟩ := idx_first K i t h
        refine ⟨p + 1, ?_, by omega, h3⟩
        show (if ((k : Nat) : Int) = (t : Int) then some 0 else (idxD (K.map iD) (t : Int)).map (· + 1)) = _
        rw [if_neg (by omega), h1]
        rfl
theorem dr_BL {c : Int} {K : List Nat} {R : List (List Dr)} {a i k : Nat} (hi : i < K.length) (hk : k < a) : dr (BL c K R a) i k = blD c K i k (dr R (K.getD i 0) k) := by
  unfold dr BL
  simp [List.getD_eq_getElem?_getD, hi, blR, hk, dr]
theorem wd_bl (c : Int) (K : List Nat) (i k : Nat) (d : Dr) : wdD (blD c K i k d) = wdD d := by cases d <;> rfl
/-- those that stand for one room are not apart -/
theorem same_kind {m a : Nat} {c : Int} {K : List Nat} {R : List (List Dr)} (hR : RowsOk m a R) (hK : ∀ y, y ∈ K ↔ y < m) : ∀ (t i j : Nat), i < K.length → j < K.length → K.getD i 0 = K.getD j 0 → ¬ Ap (BL c K R a) a t i j
  | 0, i, j, hi, hj, e, ⟨k, hk, q⟩ => q (by rw [dr_BL hi hk, dr_BL hj hk, wd_bl, wd_bl, e])
  | t + 1, i, j, hi, hj, e, .inl h => same_kind hR hK t i j hi hj e h
  | t + 1, i, j, hi, hj, e, .inr ⟨k, x, y, hk, h1, h2, h3⟩ => by
    rw [dr_BL hi hk] at h1
    rw [dr_BL hj hk, ← e] at h2
    have hkm : K.getD i 0 < m := (hK _).mp (by rw [List.getD_eq_getElem?_getD, List.getElem?_eq_getElem hi]; exact List.getElem_mem hi)
    cases z : dr R (K.getD i 0) k with
    | must u =>
      rw [z] at h1 h2
      have hu := (hK u).mpr (dr_lt hR hkm hk (by rw [z]; rfl))
      have p1 := (pick_sp (mxu c (400 + 9 * (i : Int) + (k : Int))) hu).2
      have p2 := (pick_sp (mxu c (400 + 9 * (j : Int) + (k : Int))) hu).2
      cases h1
      cases h2
      exact same_kind hR hK t _ _ p1.1 p2.1 (p1.2.trans p2.2.symm) h3
    | may u =>
      rw [z] at h1 h2
      have hu := (hK u).mpr (dr_lt hR hkm hk (by rw [z]; rfl))
      have p1 := (pick_sp (mxu c (400 + 9 * (i : Int) + (k : Int))) hu).2
      have p2 := (pick_sp (mxu c (400 + 9 * (j : Int) + (k : Int))) hu).2
      cases h1
      cases h2
      exact same_kind hR hK t _ _ p1.1 p2.1 (p1.2.trans p2.2.symm) h3
    | shut => rw [z] at h1; cases h1
    | torn => rw [z] at h1; cases h1
theorem ev_copies {n : Nat} {R : List (List Dr)} (hl : R.length ≤ 3000) {i : Nat} {s : Sg} (h : s.st[i]? = some (some (.d (.lst (R.map rwD))))) (h12 : s.st[12]? = some none) : ev G (Mp.run G n) (.comp (.bis .list 12) [12] (.pl (.nm i)) (.bl true)) s = .ok [.o (.lst (R.map rwD))] s := by
  have sl := sl_big
  have e := ev_comp (Γ := G) (rec := Mp.run G n) (el := .bis .list 12) (it := .pl (.nm i)) (i := 12) (o := none) (g := fun d => d) (ds := R.map rwD) (s := s) (s' := s) (by simp only [Nat.zero_le, nx_nx, nx_ct, nr_nx, nr_ct, nr_rt, turn_eq, tup2, tup3, ex, ev, outS, oneD, oneB, oneR, manyD, Out.bind, ofO, getDs, Rv.sh, peek, setS, setT, setN, onOut, onD, onB, onDs, callG, callD, callB, callM, resB, o2F, subF, lsD, keyD, flatD, noX, biF, isiF, isiA, if_true, if_false, List.getElem?_cons_zero, List.getElem?_cons_succ, List.set_cons_zero, List.set_cons_succ, List.map_cons, List.map_nil, List.length_cons, List.length_nil, List.length_map, Option.map_some, Option.map_none, Option.bind_some, Nat.zero_add, Nat.reduceAdd, Nat.reduceSub, Bool.false_eq_true, Bool.not_true, Bool.not_false, Bool.and_true, Bool.true_and, Bool.and_false, Bool.false_and, Bool.or_false, Bool.false_or, Bool.true_or, Bool.or_true, h]) h12 (fun x e => by cases e) (by rw [List.length_map]; omega) (fun d hd => by
    obtain ⟨r, _, rfl⟩ := List.mem_map.mp hd
    have q : (s.st.set 12 (some (.d (rwD r))))[12]? = some (some (.d (rwD r))) := by rw [List.getElem?_set_self (List.getElem?_eq_some_iff.mp h12).1]
    refine ⟨.o (rwD r), ?_, rfl⟩
    simp only [Nat.zero_le, nx_nx, nx_ct, nr_nx, nr_ct, nr_rt, turn_eq, tup2, tup3, ex, ev, outS, oneD, oneB, oneR, manyD, Out.bind, ofO, getDs, Rv.sh, peek, setS, setT, setN, onOut, onD, onB, onDs, callG, callD, callB, callM, resB, o2F, subF, lsD, keyD, flatD, noX, biF, isiF, isiA, if_true, if_false, List.getElem?_cons_zero, List.getElem?_cons_succ, List.set_cons_zero, List.set_cons_succ, List.map_cons, List.map_nil, List.length_cons, List.length_nil, List.length_map, Option.map_some, Option.map_none, Option.bind_some, Nat.zero_add, Nat.reduceAdd, Nat.reduceSub, Bool.false_eq_true, Bool.not_true, Bool.not_false, Bool.and_true, Bool.true_and, Bool.and_false, Bool.false_and, Bool.or_false, Bool.false_or, Bool.true_or, Bool.or_true, q])
  rw [List.map_id'] at e
  exact e
theorem ev_copiesO {n : Nat} {R : List (List Dr)} (hl : R.length ≤ 3000) {i : Nat} {s : Sg} (hi : i ≠ 12) (h : s.st[i]? = some (some (.o (.lst (R.map rwD))))) (h12 : s.st[12]? = some none) : ev G (Mp.run G n) (.comp (.bis .list 12) [12] (.pl (.nm i)) (.bl true)) s = .ok [.o (.lst (R.map rwD))] ⟨s.st.set i (some (.d (.lst (R.map rwD)))), s.mu⟩ := by
  have sl := sl_big
  have e := ev_comp (Γ := G) (rec := Mp.run G n) (el := .bis .list 12) (it := .pl (.nm i)) (i := 12) (o := none) (g := fun d => d) (ds := R.map rwD) (s := s) (s' := ⟨s.st.set i (some (.d (.lst (R.map rwD)))), s.mu⟩) (by simp only [Nat.zero_le, nx_nx, nx_ct, nr_nx, nr_ct, nr_rt, turn_eq, tup2, tup3, ex, ev, outS, oneD, oneB, oneR, manyD, Out.bind, ofO, getDs, Rv.sh, peek, setS, setT, setN, onOut, onD, onB, onDs, callG, callD, callB, callM, resB, o2F, subF, lsD, keyD, flatD, noX, biF, isiF, isiA, if_true, if_false, List.getElem?_cons_zero, List.getElem?_cons_succ, List.set_cons_zero, List.set_cons_succ, List.map_cons, List.map_nil, List.length_cons, List.length_nil, List.length_map, Option.map_some, Option.map_none, Option.bind_some, Nat.zero_add, Nat.reduceAdd, Nat.reduceSub, Bool.false_eq_true, Bool.not_true, Bool.not_false, Bool.and_true, Bool.true_and, Bool.and_false, Bool.false_and, Bool.or_false, Bool.false_or, Bool.true_or, Bool.or_true, h]) (by rw [List.getElem?_set_ne hi]; exact h12) (fun x e => by cases e) (by rw [List.length_map]; omega) (fun d hd => by
    obtain ⟨r, _, rfl⟩ := List.mem_map.mp hd
    have q : ((s.st.set i (some (.d (.lst (R.map rwD))))).set 12 (some (.d (rwD r))))[12]? = some (some (.d (rwD r))) := by rw [List.getElem?_set_self (by rw [List.length_set]; exact (List.getElem?_eq_some_iff.mp h12).1)]
    refine ⟨.o (rwD r), ?_, rfl⟩
    simp only [Nat.zero_le, nx_nx, nx_ct, nr_nx, nr_ct, nr_rt, turn_eq, tup2, tup3, ex, ev, outS, oneD, oneB, oneR, manyD, Out.bind, ofO, getDs, Rv.sh, peek, setS, setT, setN, onOut, onD, onB, onDs, callG, callD, callB, callM, resB, o2F, subF, lsD, keyD, flatD, noX, biF, isiF, isiA, if_true, if_false, List.getElem?_cons_zero, List.getElem?_cons_succ, List.set_cons_zero, List.set_cons_succ, List.map_cons, List.map_nil, List.length_cons, List.length_nil, List.length_map, Option.map_some, Option.map_none, Option.bind_some, Nat.zero_add, Nat.reduceAdd, Nat.reduceSub, Bool.false_eq_true, Bool.not_true, Bool.not_false, Bool.and_true, Bool.true_and, Bool.and_false, Bool.false_and, Bool.or_false, Bool.false_or, Bool.true_or, Bool.or_true, q])
  rw [List.map_id'] at e
  exact e
theorem law_ok : ∀ ns : List Int, ns.length ≤ 63 → (∀ z ∈ ns, Builtin.Int.intBits z ≤ 1048576) → ∃ mu, Mp.run G (29 + 1) 48 [.d (.scr ns)] [] = .ok (.d (.bl true)) mu := by
  intro scr hs _
  refine ⟨[], ?_⟩
  have sl := sl_big
  generalize hx : mxu (cel scr 0) 0 = x
  obtain ⟨f1, f2⟩ := fm (x.fdiv 5) (j := 3) (by decide)
  obtain ⟨f3, f4⟩ := fm x (j := 5) (by decide)
  obtain ⟨a, hA⟩ : ∃ a : Nat, 1 + (x.fdiv 5).fmod 3 = (a : Int) := ⟨(1 + (x.fdiv 5).fmod 3).toNat, by omega⟩
  obtain ⟨m, hM⟩ : ∃ m : Nat, 1 + x.fmod 5 = (m : Int) := ⟨(1 + x.fmod 5).toNat, by omega⟩
  have ha1 : 1 ≤ a := by omega
  have ha3 : a ≤ 3 := by omega
  have hm1 : 1 ≤ m := by omega
  have hm5 : m ≤ 5 := by omega
  generalize hc : cel scr 1 = c
  obtain ⟨hR, nt⟩ := RX_ok scr m a hm1
  have pr := p_rowsX 27 scr m a hm1 (by omega) (by omega)
  generalize RX scr m a = R at hR nt pr
  obtain ⟨k1, k2, k3⟩ := KS_sp c m
  have k3 : ∀ y, y ∈ KS c m ↔ y < m := fun y => by rw [k3]; omega
  have pb := p_blown 26 c m a R hR nt hm1 (by omega) (by omega)
  have pk := p_kinds 27 m c (by omega)
  obtain ⟨hB, nb⟩ := BL_ok (c := c) hR nt k3
  have sk := same_kind (c := c) hR k3
  generalize KS c m = K at k1 k2 k3 pb pk hB nb sk
  have hK1 : 1 ≤ K.length := by
    cases K with
    | nil => cases k2
    | cons _ _ => simp
  generalize BL c K R a = B at pb hB nb sk
  obtain ⟨ns, pa, n1, n2, n3⟩ := p_actsW 27 c a (by omega)
  have eR := hR.len
  have eB := hB.len
  have w1 := fun s => pl6 21 hR nt hm1 (by omega) ha1 (by omega) n1 n2 n3 s
  have w2 := fun s => pl6 21 hB nb hK1 (by omega) ha1 (by omega) n1 n2 n3 s
  have r1 := p_right 23 m a ns R hR (by omega) (by omega) n2
  have r2 := p_right 23 K.length a ns B hB (by omega) (by omega) n2
  have cl := p_classes 24 K.length a ns B hB (by omega) (by omega) n2
  have t1 := p_toldP 6 (.inr rfl) 25 m a ns R hR (by omega) (by omega)
  have t2 := p_toldP 6 (.inr rfl) 25 K.length a ns B hB (by omega) (by omega)
  have d1 := dfz_muR R
  have d2 := dfz_muR B
  have z5 : (5 : Int) ≠ 0 := by decide
  have z3 : (3 : Int) ≠ 0 := by decide
  have y5 : (5 : Int).natAbs < 1073741824 := by decide
  have er : rngOk (K.length : Int) = true := rngN_ok _ (by omega)
  have c3 := fun s h h12 => ev_copies (n := 29) (R := R) (by omega) (i := 3) (s := s) h h12
  have c5 := fun s h h12 => ev_copiesO (n := 29) (R := B) (by omega) (i := 5) (s := s) (by decide) h h12
  have p0 := p_cel 28 scr 0
  have p1 := p_cel 28 scr 1
  rw [hc] at p1
  obtain ⟨s', e1, q11, rfl⟩ := for_nx (f := ex G (Mp.run G 29) l48_0) (tg := [11]) (ds := dints K.length 0) (s := ⟨[some (.d (.scr scr)), some (.d (.int (x))), some (.d (.int ((a : Nat) : Int))), some (.d (.lst (R.map rwD))), some (.d (.int (c))), some (.d (.lst (B.map rwD))), some (.d (.lst (ns.map .str))), some (.d (plC 6 ns R)), some (.d (plC 6 ns B)), some (.o (.lst (K.map iD))), some (.o (.lst ((can K.length (ApW B a)).map iD))), none, none], []⟩)
    (I := fun _ s => ∃ q11, s = ⟨[some (.d (.scr scr)), some (.d (.int (x))), some (.d (.int ((a : Nat) : Int))), some (.d (.lst (R.map rwD))), some (.d (.int (c))), some (.d (.lst (B.map rwD))), some (.d (.lst (ns.map .str))), some (.d (plC 6 ns R)), some (.d (plC 6 ns B)), some (.o (.lst (K.map iD))), some (.o (.lst ((can K.length (ApW B a)).map iD))), q11, none], []⟩) 0 ⟨none, rfl⟩ (by
    rintro i d hd s ⟨q11, rfl⟩
    have hd2 := dints_at hd
    have hi := hd2.1
    have e0 := hd2.2
    subst e0
    rw [Int.zero_add]
    obtain ⟨t, ht⟩ : ∃ t, K[i]? = some t := ⟨_, List.getElem?_eq_getElem hi⟩
    obtain ⟨p, hp, hpi, hpt⟩ := idx_first K i t ht
    have g0 : L2.atI (K.map iD) (i : Int) = some (iD t) := by rw [atI_nat', List.getElem?_map, ht]; rfl
    have g1 := can_at (E := ApW B a) hi
    have g2 := can_at (E := ApW B a) (r := p) (m := K.length) (by omega)
    have eq : lst1 (ApW B a) i = lst1 (ApW B a) p := leR_eq.mpr fun ⟨T, h⟩ => sk T i p hi (by omega) (by simp [List.getD_eq_getElem?_getD, ht, hpt]) h
    rw [← eq] at g2
    simp only [l48_0, Nat.zero_le, nx_nx, nx_ct, nr_nx, nr_ct, nr_rt, turn_eq, tup2, tup3, ex, ev, outS, oneD, oneB, oneR, manyD, Out.bind, ofO, getDs, Rv.sh, peek, setS, setT, setN, onOut, onD, onB, onDs, callG, callD, callB, callM, resB, o2F, subF, lsD, keyD, flatD, noX, biF, isiF, isiA, if_true, if_false, List.getElem?_cons_zero, List.getElem?_cons_succ, List.set_cons_zero, List.set_cons_succ, List.map_cons, List.map_nil, List.length_cons, List.length_nil, List.length_map, Option.map_some, Option.map_none, Option.bind_some, Nat.zero_add, Nat.reduceAdd, Nat.reduceSub, Bool.false_eq_true, Bool.not_true, Bool.not_false, Bool.and_true, Bool.true_and, Bool.and_false, Bool.false_and, Bool.or_false, Bool.false_or, Bool.true_or, Bool.or_true, g0, g1, g2, flat_ints, hp, eqII, beq_self_eq_true]
    exact ⟨_, rfl⟩)
  subst eR
  simp only [Nat.reduceAdd] at pr pb pk pa w1 w2 r1 r2 cl t1 t2 p0 p1
  rw [ru48]
  unfold b48
  generalize (E.comp (.bis .list 12) [12] (.pl (.nm 3)) (.bl true)) = C3 at c3 ⊢
  generalize (E.comp (.bis .list 12) [12] (.pl (.nm 5)) (.bl true)) = C5 at c5 ⊢
  have q0 : ((0 : Nat) : Int) = 0 := rfl
  have q1 : ((1 : Nat) : Int) = 1 := rfl
  rw [q0] at p0
  rw [q1] at p1
  simp only [Nat.zero_le, nx_nx, nx_ct, nr_nx, nr_ct, nr_rt, turn_eq, tup2, tup3, ex, ev, outS, oneD, oneB, oneR, manyD, Out.bind, ofO, getDs, Rv.sh, peek, setS, setT, setN, onOut, onD, onB, onDs, callG, callD, callB, callM, resB, o2F, subF, lsD, keyD, flatD, noX, biF, isiF, isiA, if_true, if_false, List.getElem?_cons_zero, List.getElem?_cons_succ, List.set_cons_zero, List.set_cons_succ, List.map_cons, List.map_nil, List.length_cons, List.length_nil, List.length_map, Option.map_some, Option.map_none, Option.bind_some, Nat.zero_add, Nat.reduceAdd, Nat.reduceSub, Bool.false_eq_true, Bool.not_true, Bool.not_false, Bool.and_true, Bool.true_and, Bool.and_false, Bool.false_and, Bool.or_false, Bool.false_or, Bool.true_or, Bool.or_true, rv_ob, rv_oM, rv_oD, mo_al, mo_wd, mo_ne, ar_al, ar_wd, ar_ne, ru_al, ru_wd, ru_ne, ct_al, ct_wd, ct_ne, mp_door, mp_many, mp_acts, mp_told, cp_door, cp_many, cp_acts, cp_told, ar30, ar29, ar28, p_al6, p_mn6, c3, c5, p0, p1, p_mixed, hx, hA, hM, pr, pb, pk, pa, w1, w2, r1, r2, cl, t1, t2, d1, d2, z5, z3, y5, ne_eq, not_false_eq_true, and_self, ar38, ar40, ar42, ar43, ar44, ar41, ar47, ar37, ar31, getDs_d, er, Int.toNat_natCast, e1, eqF_rws]
end Lk22
open PySem PySem.W PySem.Calls PyProof.Rows
theorem PySem.Challenge.cw_mustmay_k22_rooms_alike_holds : PySem.Challenge.rw_mustmay_k22_rooms_alike.Holds := by
  w_on; o_law
  refine HandSHeadRun.head_any (r := OpenLaw.row PySem.Challenge.rw_mustmay_k22_rooms_alike) (q := view (OpenLaw.row PySem.Challenge.rw_mustmay_k22_rooms_alike).prog [35]) (H := Lk22.hk) (ob := Lk22.ob) (M := 16000) (loose := Lk22.loose) (d := HandSHeadRun.topDef (OpenLaw.row PySem.Challenge.rw_mustmay_k22_rooms_alike).prog 35) (kwd := []) Lk22.ob_eq
    (by kernel_rfl) (fun s => by kernel_rfl) Lk22.run (by kernel_rfl) (by kernel_rfl) (by kernel_rfl) (by rfl) (by first | assumption | decide +kernel) (by decide +kernel) ⟨rfl, rfl, rfl, rfl, rfl, by decide +kernel⟩ ?hw ?hc
  case hw => w_witness2
  case hc =>
    refine Mp.walk_my (l := PySem.Challenge.rw_mustmay_k22_rooms_alike) (n := 63) (k := 62) (x := "_law_script") (CX := fun w => L2.CX (PySem.Challenge.rw_mustmay_k22_rooms_alike).prog w) rfl (by decide) (by kernel_rfl) ⟨rfl, by decide, by decide⟩ ?F (fun _ _ _ _ _ z => Mp.cx_no z)
    intro w mg fa h Y N hmg0
    obtain ⟨K, KX, c⟩ := Y
    have hmg : mg ("law" : PySem.Str) = some (.ref fa) := by
      have e : (HandSHeadRun.topDef (OpenLaw.row PySem.Challenge.rw_mustmay_k22_rooms_alike).prog 35).name = ("law" : PySem.Str) := by kernel_rfl
      rw [← e]
      exact hmg0
    exact Mp.law_end (n := 29) (f := 48) (F := Lk22.F48) KX N c (by decide +kernel) Lk22.tx Lk22.bas rfl rfl rfl hmg 63 Lk22.law_ok
