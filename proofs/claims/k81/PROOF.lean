import PyProof.Rows.All
import HandS.ForMost
import HandS.Deep
import KE.SortData
import HandS.TupLe
import HandS.IsInst
import HandS.SortInts
import PyProof.ReprRoads
import HandS.Strs
import HandS.TupSets
import HandS.Defaults
import HandS.Ends
import HandS.Codes
import HandS.Zip
import HandS.Iter
import KE.GoesEnum
import HandS.Style
import HandS.Conv
import HandS.HeadHook1
import HandS.HeadHook2
import KE.BitLaws
import HandS.Head0
import HandS.Head1
import HandS.Head2
import PySem.Challenge.RW_twoabove_k81_whole_all_walks_to_the_full
set_option Elab.async false
section
set_option linter.all false
set_option autoImplicit false
/-! Ev1: tree data, owned trees, the mini-AST and its evaluator. -/
namespace Ev
open PySem

/-- data that never changes -/
inductive D where
  | none | bool (b : Bool) | int (i : Int) | str (s : Str)
  | list (l : List D) | tup (l : List D) | scr (l : List Int)
  | obj (c : Nat) (fs : List D) | dict (ks vs : List D)
/-- owned trees -/
inductive W where
  | d (x : D) | lst (l : List W) | tup (l : List W) | dct (ks : List D) (vs : List W) | lk (w : W)

mutual
def frz : W → D
  | .d x => x
  | .lst l => .list (frzL l)
  | .tup l => .tup (frzL l)
  | .dct ks vs => .dict ks (frzL vs)
  | .lk w => frz w
def frzL : List W → List D
  | [] => []
  | w :: r => frz w :: frzL r
end
theorem frzL_map : ∀ l : List W, frzL l = l.map frz
  | [] => rfl
  | w :: r => by simp only [frzL, List.map_cons, frzL_map r]
@[simp] theorem frzL_ds (l : List D) : frzL (l.map W.d) = l := by
  induction l with
  | nil => rfl
  | cons x r ih => simp only [List.map_cons, frzL, frz, ih]
@[simp] theorem frz_d (x : D) : frz (.d x) = x := by simp only [frz]
@[simp] theorem frz_lst (l : List W) : frz (.lst l) = .list (frzL l) := by simp only [frz]
@[simp] theorem frz_tup (l : List W) : frz (.tup l) = .tup (frzL l) := by simp only [frz]
@[simp] theorem frz_lk (w : W) : frz (.lk w) = frz w := by simp only [frz]
theorem frzL_length : ∀ l : List W, (frzL l).length = l.length
  | [] => rfl
  | w :: r => by simp only [frzL, List.length_cons, frzL_length r]

mutual
def toPy : D → Option PyData
  | .none => some .none
  | .bool b => some (.bool b)
  | .int i => some (.int i)
  | .str s => some (.str s)
  | .list l => (toPyL l).map .list
  | .tup l => (toPyL l).map .tuple
  | .scr _ => none
  | .obj _ _ => none
  | .dict _ _ => none
def toPyL : List D → Option (List PyData)
  | [] => some []
  | x :: r => match toPy x, toPyL r with
    | some a, some b => some (a :: b)
    | _, _ => none
end

/-- a slot: borrowed of the caller?, what it holds -/
abbrev Slot := Option (Bool × W)
abbrev Env := List Slot
/-- what an expression yields: a new tree, or a name's, or an item of a name's list -/
inductive R where
  | val (w : W) | var (i : Nat) | elt (i k : Nat)

def slot (env : Env) (i : Nat) : Slot := env.getD i none
def put (env : Env) (i : Nat) (w : W) : Env := match slot env i with
  | some (b, _) => env.set i (some (b, w))
  | none => env
def getW (env : Env) : R → Option W
  | .val w => some w
  | .var i => (slot env i).map (·.2)
  | .elt i k => match slot env i with
    | some (_, .lst ws) => ws[k]?
    | _ => none
def setW (env : Env) (r : R) (w : W) : Env := match r with
  | .val _ => env
  | .var i => put env i w
  | .elt i k => match slot env i with
    | some (_, .lst ws) => put env i (.lst (ws.set k w))
    | _ => env
def rd (env : Env) (r : R) : Option D := (getW env r).map frz
def isD : W → Bool
  | .d _ => true
  | _ => false
def isLk : W → Bool
  | .lk _ => true
  | _ => false
/-- to be kept elsewhere: what is a name's is frozen -/
def take (env : Env) (r : R) : Option (W × Env) := match r with
  | .val w => some (w, env)
  | r => match getW env r with
    | some (.d x) => some (.d x, env)
    | some (.lk _) => none
    | some w => some (.d (frz w), setW env r (.d (frz w)))
    | none => none
/-- an item of a name's list is frozen, other things stay -/
def stab (env : Env) (r : R) : Option (R × Env) := match r with
  | .elt i k => (take env (.elt i k)).map fun p => (.val p.1, p.2)
  | r => some (r, env)
/-- the items of a list or tuple, each of them frozen -/
inductive Sh where
  | list (l : List D) | tup (l : List D)
def shellW (env : Env) (r : R) : Option W → Option (Sh × Env)
  | some (.d (.list l)) => some (.list l, env)
  | some (.d (.tup l)) => some (.tup l, env)
  | some (.lst ws) => some (.list (frzL ws), setW env r (.lst ((frzL ws).map W.d)))
  | some (.tup ws) => some (.tup (frzL ws), setW env r (.tup ((frzL ws).map W.d)))
  | some (.lk (.lst ws)) => some (.list (frzL ws), setW env r (.lk (.lst ((frzL ws).map W.d))))
  | _ => none
def shell (env : Env) (r : R) : Option (Sh × Env) := match r with
  | .elt i k => (take env (.elt i k)).bind fun p => match p.1 with
    | .d (.list l) => some (.list l, p.2)
    | .d (.tup l) => some (.tup l, p.2)
    | _ => none
  | r => shellW env r (getW env r)

/-! ### the mini-AST -/
inductive Bop where
  | add | sub | mul | fdiv | mod | pow | shl | shr | band | bor | bxor
  deriving DecidableEq
inductive Cop where
  | lt | le | gt | ge | eq | ne | is_ | isnot | in_ | notin
  deriving DecidableEq
inductive Ty where
  | int | bool | str | list | tuple | dict | obj (c : Nat)
  deriving DecidableEq
inductive Bi where
  | len | abs | int | max2 | min2 | max1 | min1 | sum | all | any | list | tuple | sorted | sset | repr | divmod | isin (ts : List Ty)
  deriving DecidableEq
/-- expressions, lists of them, targets, iterables, statements: one type -/
inductive E where
  | none_ | bool (b : Bool) | int (i : Int) | str (s : Str) | var (i : Nat)
  | nil | cons (a r : E)
  | list (es : E) | tup (es : E)
  | bin (o : Bop) (a b : E) | neg (a : E) | inv (a : E)
  | cmp (o : Cop) (a b : E) | chain (o o' : Cop) (a b c : E)
  | and_ (a b : E) | or_ (a b : E) | not_ (a : E) | ite (c a b : E)
  | sub (a b : E) | slice (a lo hi : E)
  | attr (a : E) (c k : Nat)
  | call (f : Nat) (es ks : E) (perm : List Nat) | keep (a : E)
  | bi (b : Bi) (es : E)
  | comp (elt t it c : E) (own : List Nat)
  | append (a b : E) | extend (a b : E) | pop (a : E) | popAt (a b : E) | index (a b : E)
  | tname (i : Nat) | ttup (ts : E) | tsub (a b : E)
  | iof (a : E) | irng1 (a : E) | irng2 (a b : E) | ienum (a : E) | izip (a b : E)
  | skip | seq (a b : E) | asg (t e : E) | par (is : List Nat) (es : E) | ex (e : E) | ret (e : E) | retN
  | if_ (c a b : E) | while_ (c b : E) | for_ (t it b : E) | brk | cont | never
  | init (c : Nat) (es : E)
  | fz (a : E) | rev (a : E) | lrng1 (a : E)
  deriving DecidableEq
/-- an expression that leaves every name's tree as it is -/
def pureE : E → Bool
  | .none_ | .bool _ | .int _ | .str _ | .var _ => true
  | _ => false

def okR (p : R × Env) (b : E) : Option (R × Env) := match getW p.2 p.1 with
  | some (.lst _) => (match p.1 with
    | .elt _ _ => if pureE b then some p else none
    | _ => some p)
  | _ => none

/-! ### operations on data -/
def small (i : Int) : Bool := decide (-(2 ^ 64) < i) && decide (i < 2 ^ 64)
def shOk (i j : Int) : Bool := decide (0 ≤ j) && decide (j ≤ 1000000) && decide (i.natAbs < 2 ^ 64)
def binI : Bop → Int → Int → Option Int
  | .add, i, j => some (i + j)
  | .sub, i, j => some (i - j)
  | .mul, i, j => if small i || small j then some (i * j) else none
  | .fdiv, i, j => if decide (0 < j) && decide (j < 1073741824) then some (i / j) else none
  | .mod, i, j => if 0 < j then some (i % j) else none
  | .pow, i, j => if shOk i j then some (i ^ j.toNat) else none
  | .shl, i, j => if shOk i j then some (i * 2 ^ j.toNat) else none
  | .shr, i, j => if 0 ≤ j then some (i / 2 ^ j.toNat) else none
  | .band, i, j => some (Builtin.bitAnd i j)
  | .bor, i, j => some (Builtin.bitOr i j)
  | .bxor, i, j => some (Builtin.bitXor i j)
/-- two data, no list, no tuple among them -/
def binS (o : Bop) : D → D → Option D
  | .int i, .int j => (binI o i j).map .int
  | .str x, .str y => if o = .add ∧ x.length + y.length ≤ sizeLine then some (.str (x ++ y)) else none
  | _, _ => none
def eqD (a b : D) : Option Bool := match toPy a, toPy b with
  | some x, some y => if SeqAt.shaped x && SeqAt.shaped y then some (PyData.eqv x y) else none
  | _, _ => none
/-- x == some item -/
def inL (x : D) (l : List D) : Option Bool := match toPy x, toPyL l with
  | some d, some ds => if SeqAt.shaped d && SeqAt.shaped (.list ds) then some (ds.any fun z => PyData.eqv z d) else none
  | _, _ => none
def flatD : D → Bool
  | .none | .bool _ | .int _ | .str _ => true
  | _ => false
def eqFlat : D → D → Bool
  | .none, .none => true
  | .bool a, .bool b => a == b
  | .bool a, .int b => (if a then 1 else 0) == b
  | .int a, .bool b => a == (if b then 1 else 0)
  | .int a, .int b => a == b
  | .str a, .str b => a == b
  | _, _ => false
def inFlat (x : D) (l : List D) : Option Bool := if flatD x && l.all flatD then some (l.any fun y => eqFlat y x) else none
def lexD : List D → List D → Option Bool
  | [], [] => some false
  | [], .int _ :: _ => some true
  | .int _ :: _, [] => some false
  | .int x :: xs, .int y :: ys => if x = y then lexD xs ys else some (decide (x < y))
  | _, _ => none
def isNone : D → Bool
  | .none => true
  | _ => false
def cmpD : Cop → D → D → Option Bool
  | .lt, .int i, .int j => some (decide (i < j))
  | .le, .int i, .int j => some (decide (i ≤ j))
  | .gt, .int i, .int j => some (decide (j < i))
  | .ge, .int i, .int j => some (decide (j ≤ i))
  | .eq, a, b => eqD a b
  | .ne, a, b => (eqD a b).map (!·)
  | .is_, a, .none => some (isNone a)
  | .isnot, a, .none => some (!isNone a)
  | .is_, .bool a, .bool b => some (a == b)
  | .isnot, .bool a, .bool b => some (!(a == b))
  | .in_, a, .list l => if flatD a && l.all flatD then inFlat a l else inL a l
  | .notin, a, .list l => (if flatD a && l.all flatD then inFlat a l else inL a l).map (!·)
  | .in_, a, .tup l => inFlat a l
  | .notin, a, .tup l => (inFlat a l).map (!·)
  | _, _, _ => none
def truth : D → Option Bool
  | .none => some false
  | .bool b => some b
  | .int i => some (i != 0)
  | .list l => some (!l.isEmpty)
  | .tup l => some (!l.isEmpty)
  | _ => none
def isTy : D → Ty → Option Bool
  | .none, t => some false
  | .bool _, t => some (t == .bool || t == .int)
  | .int _, t => some (t == .int)
  | .str _, t => some (t == .str)
  | .list _, t => some (t == .list)
  | .tup _, t => some (t == .tuple)
  | .obj c _, .obj c' => if c = c' then some true else none
  | .obj _ _, _ => some false
  | .scr _, _ => none
  | .dict _ _, _ => none
def isTys (d : D) : List Ty → Option Bool
  | [] => some false
  | t :: r => match isTy d t, isTys d r with
    | some a, some b => some (a || b)
    | _, _ => none
def dInts : List D → Option (List Int)
  | [] => some []
  | .int i :: r => (dInts r).map (i :: ·)
  | _ => none
def dBools : List D → Option (List Bool)
  | [] => some []
  | .bool i :: r => (dBools r).map (i :: ·)
  | _ => none
def atI {α : Type} (xs : List α) (i : Int) : Option α := L2.atI xs i
def cut {α : Type} (xs : List α) (lo hi : Option Int) : List α := (xs.drop (HT.sIx xs.length 0 lo)).take (HT.sIx xs.length xs.length hi - HT.sIx xs.length 0 lo)


/-! ### sorting -/
def pyOf (w : W) : PyData := (toPy (frz w)).getD .none
def leW (a b : W) : Bool := PySem.W.dataLe false pyOf a b
def sortOk (ws : List W) : Bool :=
  (ws.all fun w => (toPy (frz w)).isSome && decide ((pyOf w).depth ≤ 32)) && (ws.all fun a => ws.all fun b => PySem.W.alike (pyOf a) (pyOf b)) &&
  ((ws.all fun w => match pyOf w with | .tuple (_ :: _) => true | _ => false) || ws.all fun w => match pyOf w with | .none => false | .tuple _ => false | _ => true)
def sortW (ws : List W) : Option (List W) := if sortOk ws then some (ws.mergeSort leW) else none
/-- sorted(set(l)) of whole numbers -/
def setSort (l : List Int) : List Int := l.eraseDups.mergeSort fun a b => decide (a ≤ b)
def maxL : List Int → Int
  | [] => 0
  | [x] => x
  | x :: r => max x (maxL r)
def minL : List Int → Int
  | [] => 0
  | [x] => x
  | x :: r => min x (minL r)
def lenOk (n : Nat) : Bool := decide (n ≤ sizeLine)

/-! ### calls of built-ins -/
def biD (b : Bi) (ds : List D) : Option D := match b, ds with
  | .abs, [.int i] => some (.int (if i < 0 then -i else i))
  | .int, [.int i] => some (.int i)
  | .int, [.bool k] => some (.int (if k then 1 else 0))
  | .max2, [.int i, .int j] => some (.int (if j > i then j else i))
  | .min2, [.int i, .int j] => some (.int (if j < i then j else i))
  | .len, [.list l] => some (.int l.length)
  | .len, [.tup l] => some (.int l.length)
  | .sum, [.list l] => (dInts l).map fun ns => .int ns.sum
  | .sum, [.tup l] => (dInts l).map fun ns => .int ns.sum
  | .max1, [.list l] => (dInts l).bind fun ns => if ns = [] then none else some (.int (maxL ns))
  | .min1, [.list l] => (dInts l).bind fun ns => if ns = [] then none else some (.int (minL ns))
  | .max1, [.tup l] => (dInts l).bind fun ns => if ns = [] then none else some (.int (maxL ns))
  | .min1, [.tup l] => (dInts l).bind fun ns => if ns = [] then none else some (.int (minL ns))
  | .all, [.list l] => (dBools l).map fun ns => .bool (ns.all id)
  | .any, [.list l] => (dBools l).map fun ns => .bool (ns.any id)
  | .divmod, [.int i, .int j] => if decide (0 < j) && decide (j < 1073741824) then some (.tup [.int (i / j), .int (i % j)]) else none
  | .isin ts, [d] => (isTys d ts).map .bool
  | .repr, [d] => (toPy d).bind fun x => if x.showable && SeqAt.shaped x && lenOk x.shown.length then some (.str x.shown) else none
  | _, _ => none
def rdL (env : Env) : List R → Option (List D)
  | [] => some []
  | r :: rs => (rd env r).bind fun d => (rdL env rs).map (d :: ·)
def pickL (rs : List R) : List Nat → Option (List R)
  | [] => some []
  | j :: js => (rs[j]?).bind fun r => (pickL rs js).map (r :: ·)
def biF (b : Bi) (rs : List R) (env : Env) : Option (R × Env) := match b, rs with
  | .list, [r] => (shell env r).bind fun p => match p.1 with
    | .list l => some (.val (.lst (l.map W.d)), p.2)
    | .tup l => some (.val (.lst (l.map W.d)), p.2)
  | .tuple, [r] => match rd env r with
    | some (.tup _) => (take env r).map fun p => (.val p.1, p.2)
    | _ => (shell env r).bind fun p => match p.1 with
      | .list l => some (.val (.d (.tup l)), p.2)
      | .tup _ => none
  | .sorted, [.val (.lst ws)] => (sortW ws).map fun l => (.val (.lst l), env)
  | .sorted, [r] => (shell env r).bind fun p => match p.1 with
    | .list l => (sortW (l.map W.d)).map fun l => (.val (.lst l), p.2)
    | .tup l => none
  | .sset, [r] => match rd env r with
    | some (.list l) => if l.length < 63 then (dInts l).map fun ns => (.val (.lst ((setSort ns).map fun i => .d (.int i))), env) else none
    | _ => none
  | .len, [r] => match getW env r with
    | some (.d (.scr l)) => some (.val (.d (.int l.length)), env)
    | _ => (rdL env [r]).bind fun ds => (biD .len ds).map fun d => (.val (.d d), env)
  | b, rs => (rdL env rs).bind fun ds => (biD b ds).map fun d => (.val (.d d), env)

def binF (o : Bop) (ra rb : R) (env : Env) : Option (R × Env) := match rd env ra, rd env rb with
  | some (.list _), some (.list _) => if o = .add then (shell env ra).bind fun p => (shell p.2 rb).bind fun q => match p.1, q.1 with
      | .list x, .list y => if lenOk (x.length + y.length) then some (.val (.lst ((x ++ y).map W.d)), q.2) else none
      | _, _ => none
    else none
  | some (.tup _), some (.tup _) => if o = .add then (take env ra).bind fun p => (take p.2 rb).bind fun q => match p.1, q.1 with
      | .d (.tup x), .d (.tup y) => if lenOk (x.length + y.length) && !x.isEmpty then some (.val (.d (.tup (x ++ y))), q.2) else none
      | _, _ => none
    else none
  | some (.list _), some (.int k) => if o = .mul then (shell env ra).bind fun p => match p.1 with
      | .list x => if decide (-(2 ^ 63) ≤ k) && decide (k < 2 ^ 63) && lenOk (x.length * k.toNat) then some (.val (.lst ((List.replicate k.toNat x).flatten.map W.d)), p.2) else none
      | _ => none
    else none
  | some a, some b => (binS o a b).map fun d => (.val (.d d), env)
  | _, _ => none

def subF (ra : R) (k : D) (env : Env) : Option (R × Env) := match k with
  | .int i => (match getW env ra with
    | some (.d (.list l)) => (atI l i).map fun x => (.val (.d x), env)
    | some (.d (.tup l)) => (atI l i).map fun x => (.val (.d x), env)
    | some (.d (.scr l)) => (atI l i).map fun x => (.val (.d (.int x)), env)
    | some (.lst ws) => (match ra with
      | .val _ => (atI ws i).map fun w => (.val w, env)
      | .var j => (L2.ixN ws.length i).bind fun n => (ws[n]?).map fun w => match w with
        | .d x => (.val (.d x), env)
        | _ => (.elt j n, env)
      | .elt _ _ => (atI ws i).bind fun w => match w with
        | .d x => some (.val (.d x), env)
        | _ => none)
    | some (.tup ws) => (match ra with
      | .val _ => (atI ws i).map fun w => (.val w, env)
      | _ => (atI ws i).bind fun w => match w with
        | .d x => some (.val (.d x), env)
        | _ => none)
    | some (.lk (.lst ws)) => (atI ws i).bind fun w => match w with
        | .d x => some (.val (.d x), env)
        | _ => none
    | _ => none)
  | _ => none
def whole (n : Nat) (lo hi : Option Int) : Bool := decide (HT.sIx n 0 lo = 0) && decide (HT.sIx n n hi = n)
def sliceF (ra : R) (lo hi : Option Int) (env : Env) : Option (R × Env) := match getW env ra with
  | some (.d (.scr l)) => some (.val (.lst ((cut l lo hi).map fun i => .d (.int i))), env)
  | _ => (shell env ra).bind fun p => match p.1 with
    | .list l => some (.val (.lst ((cut l lo hi).map W.d)), p.2)
    | .tup l => if whole l.length lo hi then none else some (.val (.d (.tup (cut l lo hi))), p.2)
def attrF (ra : R) (c k : Nat) (env : Env) : Option (R × Env) := match getW env ra with
  | some (.d (.obj c' fs)) => if c' = c then (fs[k]?).map fun x => (.val (.d x), env) else none
  | _ => none

/-- a list it is -/
def isListR (env : Env) (r : R) : Option Unit := match rd env r with
  | some (.list _) => some ()
  | _ => none
/-! ### what a loop walks -/
inductive Src where
  | fx (ds : List D) | lv (i : Nat) | en (s : Src) | zp (s t : Src)
def nxt (env : Env) : Src → Nat → Option (Option D)
  | .fx ds, k => some ds[k]?
  | .lv i, k => match slot env i with
    | some (_, .lk (.lst ws)) => (match ws[k]? with
      | none => some none
      | some (.d x) => some (some x)
      | _ => none)
    | _ => none
  | .en s, k => match nxt env s k with
    | some (some x) => some (some (.tup [.int k, x]))
    | r => r
  | .zp s t, k => match nxt env s k, nxt env t k with
    | some (some x), some (some y) => some (some (.tup [x, y]))
    | some none, some _ => some none
    | some (some _), some none => some none
    | _, _ => none
def srcLen (env : Env) : Src → Nat
  | .fx ds => ds.length
  | .lv i => (match slot env i with
    | some (_, .lk (.lst ws)) => ws.length
    | _ => 0)
  | .en s => srcLen env s
  | .zp s t => min (srcLen env s) (srcLen env t)
/-- a list or a tuple walked: which kind, what it is, which names are locked for it -/
def walkR (env : Env) (r : R) : Option ((Bool × Src × List Nat) × Env) := match r with
  | .var i => (match slot env i with
    | some (_, .lk (.lst _)) => some ((true, .lv i, []), env)
    | some (_, .lst ws) => some ((true, .lv i, [i]), put env i (.lk (.lst ((frzL ws).map W.d))))
    | _ => (take env r).bind fun p => match frz p.1 with
      | .list l => some ((true, .fx l, []), p.2)
      | .tup l => some ((false, .fx l, []), p.2)
      | _ => none)
  | r => (take env r).bind fun p => match frz p.1 with
    | .list l => some ((true, .fx l, []), p.2)
    | .tup l => some ((false, .fx l, []), p.2)
    | _ => none
def unlock1 (env : Env) (i : Nat) : Env := match slot env i with
  | some (b, .lk w) => env.set i (some (b, w))
  | _ => env
def unlock (env : Env) : List Nat → Env
  | [] => env
  | i :: r => unlock (unlock1 env i) r
def unlk : W → W
  | .lk w => w
  | w => w
/-- so many whole numbers from lo on -/
def rngL (lo : Int) (n : Nat) : List D := (List.range n).map fun (k : Nat) => .int (lo + k)
def rngOk (i : Int) : Bool := decide (-(2 ^ 62) ≤ i) && decide (i < 2 ^ 62)

/-! ### flow -/
inductive Fl where
  | nx (env : Env) | rt (w : W) (env : Env) | bk (env : Env) | ct (env : Env)
/-- the def at f, called with these: what it hands back, and its parameters' trees behind it -/
abbrev Fns := Nat → List (Bool × W) → Option (W × List W)
abbrev Wh := (Env → Option (Bool × Env)) → (Env → Option Fl) → Env → Option Fl
/-- the loop, so many turns at most -/
def forG (tgt : D → Env → Option Env) (body : Env → Option Fl) (src : Src) : Nat → Nat → Env → Option Fl
  | n, k, env => match nxt env src k with
    | none => none
    | some none => some (.nx env)
    | some (some x) => match n with
      | 0 => none
      | m + 1 => (tgt x env).bind fun env2 => (body env2).bind fun f => match f with
        | .nx e => forG tgt body src m (k + 1) e
        | .ct e => forG tgt body src m (k + 1) e
        | .bk e => some (.nx e)
        | .rt w e => some (.rt w e)
def compG (tgt : D → Env → Option Env) (test : Env → Option (Bool × Env)) (elt : Env → Option (W × Env)) (own : List Nat) (src : Src) : Nat → Nat → List W → Env → Option (List W × Env)
  | n, k, acc, env => match nxt env src k with
    | none => none
    | some none => some (acc, env)
    | some (some x) => match n with
      | 0 => none
      | m + 1 => (tgt x env).bind fun env2 => (test env2).bind fun p => if p.1 then (elt p.2).bind fun q => (if decide (acc.length < sizeLine) then compG tgt test elt own src m (k + 1) (acc ++ [q.1]) (own.foldl (fun e i => e.set i none) q.2) else none)
        else compG tgt test elt own src m (k + 1) acc (own.foldl (fun e i => e.set i none) p.2)
def wipeE (env : Env) (own : List Nat) : Env := own.foldl (fun e i => e.set i none) env
def restE (env old : Env) (own : List Nat) : Env := own.foldl (fun e i => e.set i (slot old i)) env
/-- a name is stored -/
def setN (i : Nat) (w : W) (env : Env) : Option Env := match slot env i with
  | some (true, _) => none
  | some (false, .lk _) => none
  | _ => if i < env.length then some (env.set i (some (false, w))) else none
def srcVars : Src → List Nat
  | .fx _ => []
  | .lv i => [i]
  | .en s => srcVars s
  | .zp s t => srcVars s ++ srcVars t

section
variable (Φ : Fns) (wh : Wh)
def slotsOf (env : Env) : List R → Option (List (Bool × W))
  | [] => some []
  | .val w :: r => (slotsOf env r).map ((false, w) :: ·)
  | .var i :: r => match slot env i with
    | some (_, w) => (slotsOf env r).map ((true, w) :: ·)
    | none => none
  | .elt _ _ :: _ => none
/-- a tree that was locked is locked again -/
def relk : W → W → W
  | .lk _, w => .lk w
  | _, w => w
def relkS : Slot → W → W
  | some (_, w0), w => relk w0 w
  | none, w => w
def giveBack (env : Env) : List R → List W → Env
  | .var i :: r, w :: ws => giveBack (put env i (relkS (slot env i) w)) r ws
  | _ :: r, _ :: ws => giveBack env r ws
  | _, _ => env
def rvars : List R → List Nat
  | [] => []
  | .var i :: r => i :: rvars r
  | _ :: r => rvars r
def callG (f : Nat) (rs : List R) (perm : List Nat) (env : Env) : Option (R × Env) :=
  (pickL rs perm).bind fun as => if (rvars as).Nodup then
    (slotsOf env as).bind fun sl => (Φ f sl).bind fun p => if p.2.length = as.length then some (.val p.1, giveBack env as p.2) else none
  else none
/-- what a node of the mini-AST means: as a value, as a test, as arguments, as what is kept, as a slice's part, as what is walked, as a target, as targets -/
structure Sem where
  e : Env → Option (R × Env)
  t : Env → Option (Bool × Env)
  es : Env → Option (List R × Env)
  tk : Env → Option (List W × Env)
  o : Env → Option (Option Int × Env)
  i : Env → Option ((Bool × Src × List Nat) × Env)
  a : W → Env → Option Env
  as : List W → Env → Option Env
def ofE (f : Env → Option (R × Env)) : Sem where
  e := f
  t := fun env => (f env).bind fun p => (rd p.2 p.1).bind fun x => (truth x).map fun k => (k, p.2)
  es := fun _ => none
  tk := fun _ => none
  o := fun env => (f env).bind fun p => match rd p.2 p.1 with
    | some (.int i) => some (some i, p.2)
    | _ => none
  i := fun _ => none
  a := fun _ _ => none
  as := fun _ _ => none
def tupA (f : List W → Env → Option Env) : W → Env → Option Env
  | .d (.tup l), env => f (l.map W.d) env
  | .tup ws, env => f ws env
  | _, _ => none
def noSem : Sem := ofE fun _ => none
def ev : E → Sem
  | .none_ => { ofE (fun env => some (.val (.d .none), env)) with t := fun env => some (false, env) }
  | .bool b => { ofE (fun env => some (.val (.d (.bool b)), env)) with t := fun env => some (b, env) }
  | .int i => ofE fun env => some (.val (.d (.int i)), env)
  | .str s => ofE fun env => some (.val (.d (.str s)), env)
  | .var i => ofE fun env => match slot env i with
    | some (_, .d x) => some (.val (.d x), env)
    | some (_, _) => some (.var i, env)
    | none => none
  | .nil => { noSem with es := fun env => some ([], env), tk := fun env => some ([], env), o := fun env => some (none, env), as := fun ws env => match ws with
    | [] => some env
    | _ => none }
  | .cons a r => { noSem with
    es := fun env => ((ev a).e env).bind fun p => (stab p.2 p.1).bind fun p' => ((ev r).es p'.2).map fun q => (p'.1 :: q.1, q.2),
    tk := fun env => ((ev a).e env).bind fun p => (take p.2 p.1).bind fun p' => ((ev r).tk p'.2).map fun q => (p'.1 :: q.1, q.2),
    as := fun ws env => match ws with
      | [] => none
      | w :: ws => ((ev a).a w env).bind fun e => (ev r).as ws e }
  | .list es => ofE fun env => ((ev es).tk env).bind fun p => if lenOk p.1.length then some (.val (.lst p.1), p.2) else none
  | .tup es => ofE fun env => ((ev es).tk env).bind fun p => if lenOk p.1.length then (if p.1.all isD then some (.val (.d (.tup (frzL p.1))), p.2) else some (.val (.tup p.1), p.2)) else none
  | .bin o a b => ofE fun env => ((ev a).e env).bind fun p => (stab p.2 p.1).bind fun p' => ((ev b).e p'.2).bind fun q => binF o p'.1 q.1 q.2
  | .neg a => ofE fun env => ((ev a).e env).bind fun p => match rd p.2 p.1 with
    | some (.int i) => some (.val (.d (.int (-i))), p.2)
    | _ => none
  | .inv a => ofE fun env => ((ev a).e env).bind fun p => match rd p.2 p.1 with
    | some (.int i) => some (.val (.d (.int (Builtin.bitNot i))), p.2)
    | _ => none
  | .cmp o a b => ofE fun env => ((ev a).e env).bind fun p => (stab p.2 p.1).bind fun p' => ((ev b).e p'.2).bind fun q => match rd q.2 p'.1, rd q.2 q.1 with
    | some x, some y => (cmpD o x y).map fun k => (.val (.d (.bool k)), q.2)
    | _, _ => none
  | .chain o o' a b c => ofE fun env => ((ev a).e env).bind fun p => (stab p.2 p.1).bind fun p' => ((ev b).e p'.2).bind fun q => (stab q.2 q.1).bind fun q' => match rd q'.2 p'.1, rd q'.2 q'.1 with
    | some x, some y => (cmpD o x y).bind fun k => if k then ((ev c).e q'.2).bind fun r => match rd r.2 q'.1, rd r.2 r.1 with
        | some y, some z => (cmpD o' y z).map fun k => (.val (.d (.bool k)), r.2)
        | _, _ => none
      else some (.val (.d (.bool false)), q'.2)
    | _, _ => none
  | .and_ a b => { ofE (fun env => ((ev a).e env).bind fun p => match rd p.2 p.1 with
    | some (.bool true) => (ev b).e p.2
    | some (.bool false) => some (.val (.d (.bool false)), p.2)
    | _ => none) with t := fun env => ((ev a).t env).bind fun p => if p.1 then (ev b).t p.2 else some (false, p.2) }
  | .or_ a b => { ofE (fun env => ((ev a).e env).bind fun p => match rd p.2 p.1 with
    | some (.bool true) => some (.val (.d (.bool true)), p.2)
    | some (.bool false) => (ev b).e p.2
    | _ => none) with t := fun env => ((ev a).t env).bind fun p => if p.1 then some (true, p.2) else (ev b).t p.2 }
  | .not_ a => { ofE (fun env => ((ev a).e env).bind fun p => match rd p.2 p.1 with
    | some (.bool k) => some (.val (.d (.bool (!k))), p.2)
    | _ => none) with t := fun env => ((ev a).t env).map fun p => (!p.1, p.2) }
  | .ite c a b => ofE fun env => ((ev c).t env).bind fun p => if p.1 then (ev a).e p.2 else (ev b).e p.2
  | .sub a b => ofE fun env => ((ev a).e env).bind fun p => (if pureE b then some p else stab p.2 p.1).bind fun p' => ((ev b).e p'.2).bind fun q => (rd q.2 q.1).bind fun k => subF p'.1 k q.2
  | .slice a lo hi => ofE fun env => ((ev a).e env).bind fun p => (stab p.2 p.1).bind fun p' => ((ev lo).o p'.2).bind fun q => ((ev hi).o q.2).bind fun r => sliceF p'.1 q.1 r.1 r.2
  | .attr a c k => ofE fun env => ((ev a).e env).bind fun p => attrF p.1 c k p.2
  | .call f es ks perm => ofE fun env => ((ev es).es env).bind fun p => ((ev ks).es p.2).bind fun q => callG Φ f (p.1 ++ q.1) perm q.2
  | .keep a => ofE fun env => ((ev a).e env).bind fun p => (take p.2 p.1).map fun q => (.val q.1, q.2)
  | .fz a => ofE fun env => ((ev a).e env).bind fun p => (take p.2 p.1).map fun q => (.val (.d (frz q.1)), q.2)
  | .rev a => ofE fun env => ((ev a).e env).bind fun p => (shell p.2 p.1).bind fun q => match q.1 with
    | .list l => some (.val (.lst (l.reverse.map W.d)), q.2)
    | .tup _ => none
  | .lrng1 a => ofE fun env => ((ev a).e env).bind fun p => match rd p.2 p.1 with
    | some (.int j) => if rngOk j && decide (j ≤ 16777216) then some (.val (.lst ((rngL 0 j.toNat).map W.d)), p.2) else none
    | _ => none
  | .bi b es => ofE fun env => ((ev es).es env).bind fun p => biF b p.1 p.2
  | .comp elt t it c own => ofE fun env => ((ev it).i env).bind fun p => if own.Nodup ∧ own.all (fun i => !(srcVars p.1.2.1).contains i && decide (i < env.length)) then
      (compG (fun x e => (ev t).a (.d x) e) (fun e => (ev c).t e) (fun e => ((ev elt).e e).bind fun q => take q.2 q.1) own p.1.2.1 (srcLen p.2 p.1.2.1) 0 [] (wipeE p.2 own)).map fun r => (.val (.lst r.1), unlock (restE r.2 p.2 own) p.1.2.2)
    else none
  | .append a b => ofE fun env => ((ev a).e env).bind fun p => (okR p b).bind fun p => ((ev b).e p.2).bind fun q => (take q.2 q.1).bind fun t => match getW t.2 p.1 with
    | some (.lst ws) => if decide (ws.length < sizeLine) then some (.val (.d .none), setW t.2 p.1 (.lst (ws ++ [t.1]))) else none
    | _ => none
  | .extend a b => ofE fun env => ((ev a).e env).bind fun p => (okR p b).bind fun p => ((ev b).e p.2).bind fun q => (shell q.2 q.1).bind fun t => match t.1, getW t.2 p.1 with
    | .list l, some (.lst ws) => if lenOk (ws.length + l.length) then some (.val (.d .none), setW t.2 p.1 (.lst (ws ++ l.map W.d))) else none
    | _, _ => none
  | .pop a => ofE fun env => ((ev a).e env).bind fun p => match getW p.2 p.1 with
    | some (.lst ws) => (ws[ws.length - 1]?).map fun w => (.val w, setW p.2 p.1 (.lst ws.dropLast))
    | _ => none
  | .popAt a b => ofE fun env => ((ev a).e env).bind fun p => (okR p b).bind fun p => ((ev b).e p.2).bind fun q => match rd q.2 q.1, getW q.2 p.1 with
    | some (.int i), some (.lst ws) => if decide (-(2 ^ 63) ≤ i) && decide (i < 2 ^ 63) then (L2.ixN ws.length i).bind fun k => (ws[k]?).map fun w => (.val w, setW q.2 p.1 (.lst (ws.eraseIdx k))) else none
    | _, _ => none
  | .index a b => ofE fun env => ((ev a).e env).bind fun p => (stab p.2 p.1).bind fun p' => (isListR p'.2 p'.1).bind fun _ => ((ev b).e p'.2).bind fun q => match rd q.2 p'.1, rd q.2 q.1 with
    | some (.list l), some x => if flatD x && l.all flatD then (l.findIdx? fun y => eqFlat y x).map fun (k : Nat) => (.val (.d (.int (k : Int))), q.2) else none
    | _, _ => none
  | .tname i => { noSem with a := setN i }
  | .ttup ts => { noSem with a := tupA (ev ts).as }
  | .tsub a b => { noSem with a := fun w env => ((ev a).e env).bind fun p => (okR p b).bind fun p => ((ev b).e p.2).bind fun q => match rd q.2 q.1, getW q.2 p.1 with
    | some (.int i), some (.lst ws) => (L2.ixN ws.length i).map fun k => setW q.2 p.1 (.lst (ws.set k w))
    | _, _ => none }
  | .iof a => { noSem with i := fun env => ((ev a).e env).bind fun p => walkR p.2 p.1 }
  | .irng1 a => { noSem with i := fun env => ((ev a).e env).bind fun p => match rd p.2 p.1 with
    | some (.int j) => if rngOk j then some ((false, .fx (rngL 0 j.toNat), []), p.2) else none
    | _ => none }
  | .irng2 a b => { noSem with i := fun env => ((ev a).e env).bind fun p => (stab p.2 p.1).bind fun p' => ((ev b).e p'.2).bind fun q => match rd q.2 p'.1, rd q.2 q.1 with
    | some (.int i), some (.int j) => if rngOk i && rngOk j then some ((false, .fx (rngL i (j - i).toNat), []), q.2) else none
    | _, _ => none }
  | .ienum a => { noSem with i := fun env => ((ev a).e env).bind fun p => (walkR p.2 p.1).map fun q => ((false, .en q.1.2.1, q.1.2.2), q.2) }
  | .izip a b => { noSem with i := fun env => ((ev a).e env).bind fun p => (walkR p.2 p.1).bind fun p' => ((ev b).e p'.2).bind fun q => (walkR q.2 q.1).bind fun q' =>
      if p'.1.1 = q'.1.1 ∧ (nxt q'.2 p'.1.2.1 0).isSome = true then some ((false, .zp p'.1.2.1 q'.1.2.1, q'.1.2.2 ++ p'.1.2.2), q'.2) else none }
  | _ => noSem
abbrev evE (e : E) : Env → Option (R × Env) := (ev Φ e).e
abbrev evT (e : E) : Env → Option (Bool × Env) := (ev Φ e).t
abbrev evEs (e : E) : Env → Option (List R × Env) := (ev Φ e).es
abbrev evTk (e : E) : Env → Option (List W × Env) := (ev Φ e).tk
abbrev evO (e : E) : Env → Option (Option Int × Env) := (ev Φ e).o
abbrev evI (e : E) : Env → Option ((Bool × Src × List Nat) × Env) := (ev Φ e).i
abbrev asgT (e : E) : W → Env → Option Env := (ev Φ e).a
/-- names stored side by side -/
def setNs : List Nat → List W → Env → Option Env
  | [], [], env => some env
  | i :: r, w :: ws, env => (setNs r ws env).bind fun e => setN i w e
  | _, _, _ => none
def evS : E → Env → Option Fl
  | .skip, env => some (.nx env)
  | .seq a b, env => (evS a env).bind fun f => match f with
    | .nx e => evS b e
    | f => some f
  | .asg t e, env => (evE Φ e env).bind fun p => (take p.2 p.1).bind fun q => (asgT Φ t q.1 q.2).map .nx
  | .par is es, env => (evTk Φ es env).bind fun p => if is.Nodup then (setNs is p.1 p.2).map .nx else none
  | .ex e, env => (evE Φ e env).map fun p => .nx p.2
  | .ret e, env => (evE Φ e env).bind fun p => match p.1 with
    | .var i => (match slot p.2 i with
      | some (false, w) => if isLk w then none else some (.rt w (p.2.set i none))
      | _ => (take p.2 p.1).map fun q => .rt q.1 q.2)
    | _ => (take p.2 p.1).map fun q => .rt q.1 q.2
  | .retN, env => some (.rt (.d .none) env)
  | .if_ c a b, env => (evT Φ c env).bind fun p => if p.1 then evS a p.2 else evS b p.2
  | .while_ c b, env => wh (fun e => evT Φ c e) (fun e => evS b e) env
  | .for_ t it b, env => (evI Φ it env).bind fun p => (forG (fun x e => asgT Φ t (.d x) e) (fun e => evS b e) p.1.2.1 (srcLen p.2 p.1.2.1) 0 p.2).map fun f => match f with
    | .nx e => .nx (unlock e p.1.2.2)
    | f => f
  | .brk, env => some (.bk env)
  | .cont, env => some (.ct env)
  | .init c es, env => (evTk Φ es env).bind fun p => if p.1.all isD then some (.rt (.d (.obj c (frzL p.1))) p.2) else none
  | _, _ => none
end

/-! ### while -/
def whN (c : Env → Option (Bool × Env)) (b : Env → Option Fl) : Nat → Env → Option Fl
  | 0, _ => none
  | n + 1, env => (c env).bind fun p => if p.1 then (b p.2).bind fun f => match f with
      | .nx e => whN c b n e
      | .ct e => whN c b n e
      | .bk e => some (.nx e)
      | .rt w e => some (.rt w e)
    else some (.nx p.2)
open Classical in
/-- the loop, whatever it takes -/
noncomputable def whO (c : Env → Option (Bool × Env)) (b : Env → Option Fl) (env : Env) : Option Fl :=
  if h : ∃ n, (whN c b n env).isSome then whN c b (Classical.choose h) env else none

/-! ### a program -/
structure Fn where
  par : Nat
  size : Nat
  body : E
  made : Bool := false
def slotW : Slot → W
  | some (_, w) => unlk w
  | none => .d .none
/-- a def called, its callees by Φ -/
def runF (Φ : Fns) (wh : Wh) (f : Fn) (sl : List (Bool × W)) : Option (W × List W) :=
  if sl.length = f.par then
    (evS Φ wh f.body (sl.map some ++ List.replicate (f.size - f.par) none)).bind fun r => match r with
      | .nx env => some (.d .none, (env.take f.par).map slotW)
      | .rt w env => some (w, (env.take f.par).map slotW)
      | _ => none
  else none
/-- an object made: the parameters stand behind the object's own name -/
def runI (Φ : Fns) (wh : Wh) (f : Fn) (sl : List (Bool × W)) : Option (W × List W) :=
  if sl.length = f.par then
    (evS Φ wh f.body (none :: (sl.map some ++ List.replicate (f.size - (f.par + 1)) none))).bind fun r => match r with
      | .rt w env => some (w, ((env.drop 1).take f.par).map slotW)
      | _ => none
  else none
def phi (wh : Wh) (fs : List Fn) : Nat → Fns
  | 0 => fun _ _ => none
  | n + 1 => fun f sl => match fs[f]? with
    | some fn => if fn.made then runI (phi wh fs n) wh fn sl else runF (phi wh fs n) wh fn sl
    | none => none
end Ev
end
section
set_option linter.all false
set_option autoImplicit false
/-! Ev2: what of the abstract heap bears a tree: frozen data, owned trees, the state of a body. -/
namespace Ev
open PySem
open L2 (V HO Hp upd upd_same upd_ne SqL SqT Rd)

/-- ghosts: what is frozen; whose cache stands where; the classes' addresses and fields -/
structure Gh where
  fz : Addr → Option HO
  ca : Addr → Option D
  cl : Nat → Addr
  fn : Nat → List Str
  sc : Addr → List Int → Prop
structure Gh.Le (G G' : Gh) : Prop where
  fz : ∀ a o, G.fz a = some o → G'.fz a = some o
  ca : ∀ a o, G.ca a = some o → G'.ca a = some o
  cl : G'.cl = G.cl
  fn : G'.fn = G.fn
  sc : G'.sc = G.sc
theorem Gh.Le.refl (G : Gh) : G.Le G := ⟨fun _ _ h => h, fun _ _ h => h, rfl, rfl, rfl⟩
theorem Gh.Le.trans {G G1 G2 : Gh} (a : G.Le G1) (b : G1.Le G2) : G.Le G2 :=
  ⟨fun x o h => b.fz x o (a.fz x o h), fun x o h => b.ca x o (a.ca x o h), b.cl.trans a.cl, b.fn.trans a.fn, b.sc.trans a.sc⟩
def kept : Str := "own_kept"
mutual
inductive Rep (G : Gh) : V → D → Prop
  | none : Rep G .non .none
  | bool (b : Bool) : Rep G (.bl b) (.bool b)
  | int (i : Int) : Rep G (.int i) (.int i)
  | str (s : Str) : Rep G (.str s) (.str s)
  | list {a : Addr} {xs : List V} {ds : List D} : G.fz a = some (.lst xs) → RepL G xs ds → Rep G (.ref a) (.list ds)
  | tup {a : Addr} {xs : List V} {ds : List D} : G.fz a = some (.tup xs) → RepL G xs ds → Rep G (.ref a) (.tup ds)
  | scr {a : Addr} {ob : Obj} {ns : List Int} : G.fz a = some (.frz ob (.lst (ns.map V.int))) → Rep G (.ref a) (.scr ns)
  | scrK {a : Addr} {ns : List Int} : G.sc a ns → Rep G (.ref a) (.scr ns)
  | obj {a dx q : Addr} {c : Nat} {vs : List V} {ds : List D} : G.fz a = some (.ins (G.cl c) dx ((G.fn c).zip vs ++ [(kept, .ref q)])) → vs.length = (G.fn c).length → kept ∉ G.fn c → (G.fn c).Nodup →
      RepL G vs ds → G.ca q = some (.obj c ds) → Rep G (.ref a) (.obj c ds)
inductive RepL (G : Gh) : List V → List D → Prop
  | nil : RepL G [] []
  | cons {v : V} {vs : List V} {d : D} {ds : List D} : Rep G v d → RepL G vs ds → RepL G (v :: vs) (d :: ds)
end
mutual
theorem Rep.mono {G G' : Gh} (l : G.Le G') : ∀ {v : V} {d : D}, Rep G v d → Rep G' v d
  | _, _, .none => .none
  | _, _, .bool b => .bool b
  | _, _, .int i => .int i
  | _, _, .str s => .str s
  | _, _, .list h r => .list (l.fz _ _ h) (RepL.mono l r)
  | _, _, .tup h r => .tup (l.fz _ _ h) (RepL.mono l r)
  | _, _, .scr h => .scr (l.fz _ _ h)
  | _, _, .scrK h => .scrK (by rw [l.sc]; exact h)
  | _, _, .obj h h1 h2 h3 r c => .obj (by rw [l.cl, l.fn]; exact l.fz _ _ h) (by rw [l.fn]; exact h1) (by rw [l.fn]; exact h2) (by rw [l.fn]; exact h3) (RepL.mono l r) (l.ca _ _ c)
theorem RepL.mono {G G' : Gh} (l : G.Le G') : ∀ {v : List V} {d : List D}, RepL G v d → RepL G' v d
  | _, _, .nil => .nil
  | _, _, .cons a b => .cons (Rep.mono l a) (RepL.mono l b)
end
theorem RepL.length {G : Gh} : ∀ {v : List V} {d : List D}, RepL G v d → v.length = d.length
  | _, _, .nil => rfl
  | _, _, .cons _ b => by simp only [List.length_cons, RepL.length b]
theorem RepL.get {G : Gh} : ∀ {v : List V} {d : List D} {k : Nat} {x : D}, RepL G v d → d[k]? = some x → ∃ u, v[k]? = some u ∧ Rep G u x
  | _, _, 0, _, .cons a _, e => by simp at e; subst e; exact ⟨_, rfl, a⟩
  | _, _, k + 1, _, .cons _ b, e => by
    obtain ⟨u, h1, h2⟩ := RepL.get (k := k) b (by simpa using e)
    exact ⟨u, by simpa using h1, h2⟩
theorem RepL.getV {G : Gh} : ∀ {v : List V} {d : List D} {k : Nat} {u : V}, RepL G v d → v[k]? = some u → ∃ x, d[k]? = some x ∧ Rep G u x
  | _, _, 0, _, .cons a _, e => by simp at e; subst e; exact ⟨_, rfl, a⟩
  | _, _, k + 1, _, .cons _ b, e => by
    obtain ⟨u, h1, h2⟩ := RepL.getV (k := k) b (by simpa using e)
    exact ⟨u, by simpa using h1, h2⟩
theorem RepL.append {G : Gh} : ∀ {v v' : List V} {d d' : List D}, RepL G v d → RepL G v' d' → RepL G (v ++ v') (d ++ d')
  | _, _, _, _, .nil, h => h
  | _, _, _, _, .cons a b, h => .cons a (RepL.append b h)
theorem RepL.take {G : Gh} : ∀ {v : List V} {d : List D} (n : Nat), RepL G v d → RepL G (v.take n) (d.take n)
  | _, _, 0, _ => .nil
  | _, _, _ + 1, .nil => .nil
  | _, _, n + 1, .cons a b => .cons a (RepL.take n b)
theorem RepL.drop {G : Gh} : ∀ {v : List V} {d : List D} (n : Nat), RepL G v d → RepL G (v.drop n) (d.drop n)
  | _, _, 0, r => r
  | _, _, _ + 1, .nil => .nil
  | _, _, n + 1, .cons _ b => RepL.drop n b
mutual
inductive RepW (G : Gh) (H : Hp) : V → W → List Addr → Prop
  | d {v : V} {x : D} : Rep G v x → RepW G H v (.d x) []
  | lst {a : Addr} {xs : List V} {ws : List W} {fp : List Addr} : H a = some (.lst xs) → RepWL G H xs ws fp → RepW G H (.ref a) (.lst ws) (a :: fp)
  | tup {a : Addr} {xs : List V} {ws : List W} {fp : List Addr} : H a = some (.tup xs) → RepWL G H xs ws fp → RepW G H (.ref a) (.tup ws) (a :: fp)
  | lk {v : V} {w : W} {fp : List Addr} : RepW G H v w fp → RepW G H v (.lk w) fp
inductive RepWL (G : Gh) (H : Hp) : List V → List W → List Addr → Prop
  | nil : RepWL G H [] [] []
  | cons {v : V} {vs : List V} {w : W} {ws : List W} {f g : List Addr} : RepW G H v w f → RepWL G H vs ws g → RepWL G H (v :: vs) (w :: ws) (f ++ g)
end
mutual
/-- a tree leans on its own addresses alone -/
theorem RepW.frame {G G' : Gh} (l : G.Le G') {H H' : Hp} : ∀ {v : V} {w : W} {f : List Addr}, RepW G H v w f → (∀ p ∈ f, H' p = H p) → RepW G' H' v w f
  | _, _, _, .d r, _ => .d (r.mono l)
  | _, _, _, .lst h r, k => .lst ((k _ List.mem_cons_self).trans h) (RepWL.frame l r fun p hp => k p (List.mem_cons_of_mem _ hp))
  | _, _, _, .tup h r, k => .tup ((k _ List.mem_cons_self).trans h) (RepWL.frame l r fun p hp => k p (List.mem_cons_of_mem _ hp))
  | _, _, _, .lk r, k => .lk (RepW.frame l r k)
theorem RepWL.frame {G G' : Gh} (l : G.Le G') {H H' : Hp} : ∀ {v : List V} {w : List W} {f : List Addr}, RepWL G H v w f → (∀ p ∈ f, H' p = H p) → RepWL G' H' v w f
  | _, _, _, .nil, _ => .nil
  | _, _, _, .cons a b, k => .cons (RepW.frame l a fun p hp => k p (List.mem_append_left _ hp)) (RepWL.frame l b fun p hp => k p (List.mem_append_right _ hp))
end
mutual
theorem RepW.there {G : Gh} {H : Hp} : ∀ {v : V} {w : W} {f : List Addr}, RepW G H v w f → ∀ p ∈ f, H p ≠ none
  | _, _, _, .d _ => fun p h => nomatch h
  | _, _, _, .lst h r => fun p hp => (List.mem_cons.mp hp).elim (fun e => by rw [e, h]; exact fun z => nomatch z) (RepWL.there r p)
  | _, _, _, .tup h r => fun p hp => (List.mem_cons.mp hp).elim (fun e => by rw [e, h]; exact fun z => nomatch z) (RepWL.there r p)
  | _, _, _, .lk r => RepW.there r
theorem RepWL.there {G : Gh} {H : Hp} : ∀ {v : List V} {w : List W} {f : List Addr}, RepWL G H v w f → ∀ p ∈ f, H p ≠ none
  | _, _, _, .nil => fun p h => nomatch h
  | _, _, _, .cons a b => fun p hp => (List.mem_append.mp hp).elim (RepW.there a p) (RepWL.there b p)
end
theorem RepWL.length {G : Gh} {H : Hp} : ∀ {v : List V} {d : List W} {f : List Addr}, RepWL G H v d f → v.length = d.length
  | _, _, _, .nil => rfl
  | _, _, _, .cons _ b => by simp only [List.length_cons, RepWL.length b]
theorem RepWL.of {G : Gh} {H : Hp} : ∀ {v : List V} {d : List D}, RepL G v d → RepWL G H v (d.map W.d) []
  | _, _, .nil => .nil
  | _, _, .cons a b => .cons (.d a) (RepWL.of b)
theorem RepWL.append {G : Gh} {H : Hp} : ∀ {v v' : List V} {d d' : List W} {f f' : List Addr}, RepWL G H v d f → RepWL G H v' d' f' → RepWL G H (v ++ v') (d ++ d') (f ++ f')
  | _, _, _, _, _, _, .nil, h => h
  | _, _, _, _, _, _, .cons (f := f) (g := g) a b, h => by
    rw [List.append_assoc]
    exact .cons a (RepWL.append b h)
/-- one item looked at and changed -/
theorem RepWL.focus {G : Gh} {H : Hp} : ∀ {xs : List V} {ws : List W} {fp : List Addr} {k : Nat} {w : W}, RepWL G H xs ws fp → ws[k]? = some w →
    ∃ x f1 f f2, xs[k]? = some x ∧ fp = f1 ++ (f ++ f2) ∧ RepW G H x w f ∧
      ∀ {G' : Gh} {H' : Hp} {w' : W} {f' : List Addr}, G.Le G' → (∀ p ∈ f1, H' p = H p) → (∀ p ∈ f2, H' p = H p) → RepW G' H' x w' f' → RepWL G' H' xs (ws.set k w') (f1 ++ (f' ++ f2))
  | _, _, _, 0, _, .cons (v := v) (w := w₀) (f := f) (g := g) a b, e => by
    simp at e; subst e
    refine ⟨v, [], f, g, rfl, rfl, a, fun l _ k2 r => ?_⟩
    rw [List.nil_append]
    exact .cons r (RepWL.frame l b k2)
  | _, _, _, k + 1, _, .cons (v := v) (w := w₀) (f := f) (g := g) a b, e => by
    obtain ⟨x, f1, f', f2, h1, h2, h3, h4⟩ := RepWL.focus (k := k) b (by simpa using e)
    refine ⟨x, f ++ f1, f', f2, by simpa using h1, by rw [h2, List.append_assoc], h3, fun l k1 k2 r => ?_⟩
    rw [List.append_assoc]
    exact .cons (RepW.frame l a fun p hp => k1 p (List.mem_append_left _ hp)) (h4 l (fun p hp => k1 p (List.mem_append_right _ hp)) k2 r)
/-- one item taken out -/
theorem RepWL.erase {G : Gh} {H : Hp} : ∀ {xs : List V} {ws : List W} {fp : List Addr} {k : Nat} {w : W}, RepWL G H xs ws fp → ws[k]? = some w →
    ∃ x f g, xs[k]? = some x ∧ fp.Perm (f ++ g) ∧ RepW G H x w f ∧ RepWL G H (xs.eraseIdx k) (ws.eraseIdx k) g
  | _, _, _, 0, _, .cons (v := v) (f := f) (g := g) a b, e => by
    simp at e; subst e
    exact ⟨v, f, g, rfl, .refl _, a, b⟩
  | _, _, _, k + 1, _, .cons (v := v) (f := f) (g := g) a b, e => by
    obtain ⟨x, f', g', h1, h2, h3, h4⟩ := RepWL.erase (k := k) b (by simpa using e)
    refine ⟨x, f', f ++ g', by simpa using h1, ?_, h3, .cons a h4⟩
    refine (List.Perm.append_left f h2).trans ?_
    rw [← List.append_assoc, ← List.append_assoc]
    exact List.Perm.append_right g' List.perm_append_comm

/-! ### freezing -/
def Gh.freeze (G : Gh) (H : Hp) (fp : List Addr) : Gh := { G with fz := fun a => if a ∈ fp then H a else G.fz a }
theorem Gh.freeze_le {G : Gh} {H : Hp} {fp : List Addr} (h : ∀ a o, G.fz a = some o → H a = some o) : G.Le (G.freeze H fp) :=
  ⟨fun a o e => by show (if a ∈ fp then H a else G.fz a) = _; split; exact h a o e; exact e, fun _ _ h => h, rfl, rfl, rfl⟩
theorem Gh.freeze_at {G : Gh} {H : Hp} {fp : List Addr} {a : Addr} (h : a ∈ fp) : (G.freeze H fp).fz a = H a := if_pos h
mutual
theorem RepW.frozen {G G' : Gh} (l : G.Le G') {H : Hp} : ∀ {v : V} {w : W} {f : List Addr}, RepW G H v w f → (∀ p ∈ f, G'.fz p = H p) → Rep G' v (frz w)
  | _, _, _, .d r, _ => by rw [frz]; exact r.mono l
  | _, _, _, .lst h r, k => by rw [frz]; exact .list ((k _ List.mem_cons_self).trans h) (RepWL.frozen l r fun p hp => k p (List.mem_cons_of_mem _ hp))
  | _, _, _, .tup h r, k => by rw [frz]; exact .tup ((k _ List.mem_cons_self).trans h) (RepWL.frozen l r fun p hp => k p (List.mem_cons_of_mem _ hp))
  | _, _, _, .lk r, k => by rw [frz]; exact RepW.frozen l r k
theorem RepWL.frozen {G G' : Gh} (l : G.Le G') {H : Hp} : ∀ {v : List V} {w : List W} {f : List Addr}, RepWL G H v w f → (∀ p ∈ f, G'.fz p = H p) → RepL G' v (frzL w)
  | _, _, _, .nil, _ => by rw [frzL]; exact .nil
  | _, _, _, .cons a b, k => by rw [frzL]; exact .cons (RepW.frozen l a fun p hp => k p (List.mem_append_left _ hp)) (RepWL.frozen l b fun p hp => k p (List.mem_append_right _ hp))
end

/-! ### a value looked at, as the heap stands -/
mutual
inductive View (H : Hp) : V → D → Prop
  | none : View H .non .none
  | bool (b : Bool) : View H (.bl b) (.bool b)
  | int (i : Int) : View H (.int i) (.int i)
  | str (s : Str) : View H (.str s) (.str s)
  | list {a : Addr} {xs : List V} {ds : List D} : H a = some (.lst xs) → ViewL H xs ds → View H (.ref a) (.list ds)
  | tup {a : Addr} {xs : List V} {ds : List D} : H a = some (.tup xs) → ViewL H xs ds → View H (.ref a) (.tup ds)
  | scr {a : Addr} {ns : List Int} : View H (.ref a) (.scr ns)
  | obj {a C dx : Addr} {fs : List (Str × V)} {c : Nat} {ds : List D} : H a = some (.ins C dx fs) → View H (.ref a) (.obj c ds)
inductive ViewL (H : Hp) : List V → List D → Prop
  | nil : ViewL H [] []
  | cons {v : V} {vs : List V} {d : D} {ds : List D} : View H v d → ViewL H vs ds → ViewL H (v :: vs) (d :: ds)
end
mutual
theorem Rep.view {G : Gh} {H : Hp} (z : ∀ a o, G.fz a = some o → H a = some o) : ∀ {v : V} {d : D}, Rep G v d → View H v d
  | _, _, .none => .none
  | _, _, .bool b => .bool b
  | _, _, .int i => .int i
  | _, _, .str s => .str s
  | _, _, .list h r => .list (z _ _ h) (RepL.view z r)
  | _, _, .tup h r => .tup (z _ _ h) (RepL.view z r)
  | _, _, .scr h => .scr
  | _, _, .scrK h => .scr
  | _, _, .obj h _ _ _ _ _ => .obj (z _ _ h)
theorem RepL.view {G : Gh} {H : Hp} (z : ∀ a o, G.fz a = some o → H a = some o) : ∀ {v : List V} {d : List D}, RepL G v d → ViewL H v d
  | _, _, .nil => .nil
  | _, _, .cons a b => .cons (Rep.view z a) (RepL.view z b)
end
mutual
theorem RepW.view {G : Gh} {H : Hp} (z : ∀ a o, G.fz a = some o → H a = some o) : ∀ {v : V} {w : W} {f : List Addr}, RepW G H v w f → View H v (frz w)
  | _, _, _, .d r => by rw [frz]; exact r.view z
  | _, _, _, .lst h r => by rw [frz]; exact .list h (RepWL.view z r)
  | _, _, _, .tup h r => by rw [frz]; exact .tup h (RepWL.view z r)
  | _, _, _, .lk r => by rw [frz]; exact RepW.view z r
theorem RepWL.view {G : Gh} {H : Hp} (z : ∀ a o, G.fz a = some o → H a = some o) : ∀ {v : List V} {w : List W} {f : List Addr}, RepWL G H v w f → ViewL H v (frzL w)
  | _, _, _, .nil => by rw [frzL]; exact .nil
  | _, _, _, .cons a b => by rw [frzL]; exact .cons (RepW.view z a) (RepWL.view z b)
end
mutual
theorem View.dp {K : PySem.W.Frag} {H : Hp} : ∀ {v : V} {d : D} {p : PyData}, View H v d → toPy d = some p → L2.Dp K H v p
  | _, _, _, .none, e => by rw [toPy] at e; cases e; exact .non
  | _, _, _, .bool b, e => by rw [toPy] at e; cases e; exact .bl b
  | _, _, _, .int i, e => by rw [toPy] at e; cases e; exact .int i
  | _, _, _, .str s, e => by rw [toPy] at e; cases e; exact .str s
  | _, _, _, .list h r, e => by
    rw [toPy] at e
    obtain ⟨l, e1, rfl⟩ := Option.map_eq_some_iff.mp e
    exact .lst (SqL.of h) (ViewL.dp r e1)
  | _, _, _, .tup h r, e => by
    rw [toPy] at e
    obtain ⟨l, e1, rfl⟩ := Option.map_eq_some_iff.mp e
    exact .tup (SqT.of h) (ViewL.dp r e1)
  | _, _, _, .scr, e => by rw [toPy] at e; cases e
  | _, _, _, .obj _, e => by rw [toPy] at e; cases e
theorem ViewL.dp {K : PySem.W.Frag} {H : Hp} : ∀ {v : List V} {d : List D} {p : List PyData}, ViewL H v d → toPyL d = some p → L2.DpAll K H v p
  | _, _, _, .nil, e => by rw [toPyL] at e; cases e; exact .nil
  | _, _, _, .cons a b, e => by
    rw [toPyL] at e
    split at e
    · rename_i x y h1 h2
      cases e
      exact .cons (View.dp a h1) (ViewL.dp b h2)
    · cases e
end
theorem ViewL.ints {H : Hp} : ∀ {v : List V} {d : List D} {ns : List Int}, ViewL H v d → dInts d = some ns → v = ns.map V.int
  | _, _, _, .nil, e => by rw [dInts] at e; cases e; rfl
  | _, _, _, .cons a b, e => by
    cases a with
    | int i =>
      rw [dInts] at e
      obtain ⟨l, e1, rfl⟩ := Option.map_eq_some_iff.mp e
      rw [ViewL.ints b e1]; rfl
    | _ => simp [dInts] at e
theorem ViewL.bools {H : Hp} : ∀ {v : List V} {d : List D} {ns : List Bool}, ViewL H v d → dBools d = some ns → v = ns.map V.bl
  | _, _, _, .nil, e => by rw [dBools] at e; cases e; rfl
  | _, _, _, .cons a b, e => by
    cases a with
    | bool i =>
      rw [dBools] at e
      obtain ⟨l, e1, rfl⟩ := Option.map_eq_some_iff.mp e
      rw [ViewL.bools b e1]; rfl
    | _ => simp [dBools] at e
theorem ViewL.length {H : Hp} : ∀ {v : List V} {d : List D}, ViewL H v d → v.length = d.length
  | _, _, .nil => rfl
  | _, _, .cons _ b => by simp only [List.length_cons, ViewL.length b]
end Ev
end
section
set_option linter.all false
set_option autoImplicit false
/-! Ev3: the state of a body: what every step keeps. -/
namespace Ev
open PySem
open L2 (V HO Hp upd upd_same upd_ne SqL SqT Rd Key)

abbrev Rt := V × W
def RepWP (G : Gh) (H : Hp) (R : List Rt) (fp : List Addr) : Prop := RepWL G H (R.map (·.1)) (R.map (·.2)) fp
structure Own (G : Gh) (B : Hp) (fp : List Addr) : Prop where
  nd : fp.Nodup
  no : ∀ p ∈ fp, G.fz p = none ∧ G.ca p = none ∧ B p = none
theorem Own.perm {G : Gh} {B : Hp} {fp fp' : List Addr} (o : Own G B fp) (h : fp.Perm fp') : Own G B fp' := ⟨h.nodup_iff.mp o.nd, fun p hp => o.no p (h.mem_iff.mpr hp)⟩
theorem Own.nil {G : Gh} {B : Hp} : Own G B [] := ⟨List.nodup_nil, fun _ h => nomatch h⟩
theorem Own.left {G : Gh} {B : Hp} {f g : List Addr} (o : Own G B (f ++ g)) : Own G B f := ⟨(List.nodup_append.mp o.nd).1, fun p hp => o.no p (List.mem_append_left _ hp)⟩
theorem Own.right {G : Gh} {B : Hp} {f g : List Addr} (o : Own G B (f ++ g)) : Own G B g := ⟨(List.nodup_append.mp o.nd).2.1, fun p hp => o.no p (List.mem_append_right _ hp)⟩
theorem RepWP.cons {G : Gh} {H : Hp} {v : V} {w : W} {R : List Rt} {f g : List Addr} (a : RepW G H v w f) (b : RepWP G H R g) : RepWP G H ((v, w) :: R) (f ++ g) := RepWL.cons a b
theorem RepWP.nil {G : Gh} {H : Hp} : RepWP G H [] [] := RepWL.nil
theorem RepWP.uncons {G : Gh} {H : Hp} {v : V} {w : W} {R : List Rt} {fp : List Addr} (h : RepWP G H ((v, w) :: R) fp) : ∃ f g, fp = f ++ g ∧ RepW G H v w f ∧ RepWP G H R g := by
  cases h with
  | cons a b => exact ⟨_, _, rfl, a, b⟩
theorem RepWP.app {G : Gh} {H : Hp} {R R' : List Rt} {f g : List Addr} (a : RepWP G H R f) (b : RepWP G H R' g) : RepWP G H (R ++ R') (f ++ g) := by
  unfold RepWP
  rw [List.map_append, List.map_append]
  exact RepWL.append a b
theorem RepWP.unapp {G : Gh} {H : Hp} : ∀ {R R' : List Rt} {fp : List Addr}, RepWP G H (R ++ R') fp → ∃ f g, fp = f ++ g ∧ RepWP G H R f ∧ RepWP G H R' g
  | [], _, fp, h => ⟨[], fp, rfl, .nil, h⟩
  | (v, w) :: R, R', fp, h => by
    obtain ⟨f, g, rfl, a, b⟩ := RepWP.uncons (R := R ++ R') h
    obtain ⟨f', g', rfl, c, d⟩ := RepWP.unapp b
    exact ⟨f ++ f', g', by rw [List.append_assoc], .cons a c, d⟩
theorem RepWP.perm {G : Gh} {H : Hp} {R R' : List Rt} (h : R.Perm R') : ∀ {fp : List Addr}, RepWP G H R fp → ∃ fp', RepWP G H R' fp' ∧ fp.Perm fp' := by
  induction h with
  | nil => exact fun {fp} r => ⟨fp, r, .refl _⟩
  | cons x _ ih =>
    intro fp r
    obtain ⟨f, g, rfl, a, b⟩ := RepWP.uncons r
    obtain ⟨g', b', p⟩ := ih b
    exact ⟨f ++ g', .cons a b', List.Perm.append_left f p⟩
  | swap x y l =>
    intro fp r
    obtain ⟨f, g, rfl, a, b⟩ := RepWP.uncons r
    obtain ⟨f', g', rfl, a', b'⟩ := RepWP.uncons b
    refine ⟨f' ++ (f ++ g'), .cons a' (.cons a b'), ?_⟩
    rw [← List.append_assoc, ← List.append_assoc]
    exact List.Perm.append_right g' List.perm_append_comm
  | trans _ _ ih1 ih2 =>
    intro fp r
    obtain ⟨f1, r1, p1⟩ := ih1 r
    obtain ⟨f2, r2, p2⟩ := ih2 r1
    exact ⟨f2, r2, p1.trans p2⟩
theorem RepWP.frame {G G' : Gh} (l : G.Le G') {H H' : Hp} {R : List Rt} {f : List Addr} (r : RepWP G H R f) (k : ∀ p ∈ f, H' p = H p) : RepWP G' H' R f := RepWL.frame l r k
theorem RepWP.there {G : Gh} {H : Hp} {R : List Rt} {f : List Addr} (r : RepWP G H R f) : ∀ p ∈ f, H p ≠ none := RepWL.there r

/-- σ and env side by side: the assigned slots -/
inductive Slots : L2.St → Env → List Rt → Prop
  | nil : Slots [] [] []
  | no {x : Option V} {σ : L2.St} {env : Env} {R : List Rt} : Slots σ env R → Slots (x :: σ) (none :: env) R
  | yes {v : V} {w : W} {b : Bool} {σ : L2.St} {env : Env} {R : List Rt} : Slots σ env R → Slots (some v :: σ) (some (b, w) :: env) ((v, w) :: R)
theorem Slots.len {σ : L2.St} {env : Env} {R : List Rt} (s : Slots σ env R) : σ.length = env.length := by
  induction s with
  | nil => rfl
  | no _ ih => simp [ih]
  | yes _ ih => simp [ih]
theorem slot_cons_zero (s : Slot) (env : Env) : slot (s :: env) 0 = s := rfl
theorem slot_cons_succ (s : Slot) (env : Env) (i : Nat) : slot (s :: env) (i + 1) = slot env i := rfl
/-- an assigned slot is a root; it may be changed -/
theorem Slots.at {σ : L2.St} {env : Env} {R : List Rt} (s : Slots σ env R) : ∀ {i : Nat} {b : Bool} {w : W}, slot env i = some (b, w) →
    ∃ k v, σ[i]? = some (some v) ∧ R[k]? = some (v, w) ∧ ∀ b' w', Slots σ (env.set i (some (b', w'))) (R.set k (v, w')) := by
  induction s with
  | nil => intro i b w h; cases i <;> cases h
  | no s ih =>
    intro i b w h
    cases i with
    | zero => cases h
    | succ i =>
      obtain ⟨k, v, h1, h2, h3⟩ := ih (show slot _ i = _ from h)
      exact ⟨k, v, by simpa using h1, h2, fun b' w' => .no (h3 b' w')⟩
  | yes s ih =>
    rename_i v₀ w₀ b₀ σ env R
    intro i b w h
    cases i with
    | zero => cases h; exact ⟨0, _, rfl, rfl, fun b' w' => .yes s⟩
    | succ i =>
      obtain ⟨k, v, h1, h2, h3⟩ := ih (show slot _ i = _ from h)
      exact ⟨k + 1, v, by simpa using h1, by simpa using h2, fun b' w' => .yes (h3 b' w')⟩
/-- a slot is stored anew: its old root goes -/
theorem Slots.store {σ : L2.St} {env : Env} {R : List Rt} (s : Slots σ env R) : ∀ {i : Nat} (v : V) (b : Bool) (w : W), i < env.length →
    ∃ R1, Slots (σ.set i (some v)) (env.set i (some (b, w))) R1 ∧ ((slot env i = none ∧ R1.Perm ((v, w) :: R)) ∨ ∃ x R0, R.Perm (x :: R0) ∧ R1.Perm ((v, w) :: R0)) := by
  induction s with
  | nil => intro i v b w h; cases h
  | no s ih =>
    intro i v b w h
    cases i with
    | zero => exact ⟨_, .yes s, .inl ⟨rfl, .refl _⟩⟩
    | succ i =>
      obtain ⟨R1, h1, h2⟩ := ih v b w (Nat.lt_of_succ_lt_succ h)
      exact ⟨R1, .no h1, h2⟩
  | yes s ih =>
    rename_i v₀ w₀ b₀ σ env R
    intro i v b w h
    cases i with
    | zero => exact ⟨_, .yes s, .inr ⟨_, _, .refl _, .refl _⟩⟩
    | succ i =>
      obtain ⟨R1, h1, h2⟩ := ih v b w (Nat.lt_of_succ_lt_succ h)
      refine ⟨_, .yes h1, ?_⟩
      rcases h2 with ⟨h2, h3⟩ | ⟨x, R0, h2, h3⟩
      · exact .inl ⟨h2, ((h3.cons _).trans (.swap ..))⟩
      · exact .inr ⟨x, (v₀, w₀) :: R0, (h2.cons _).trans (.swap ..), (h3.cons _).trans (.swap ..)⟩
/-- a slot is forgotten -/
theorem Slots.forget {σ : L2.St} {env : Env} {R : List Rt} (s : Slots σ env R) : ∀ (i : Nat) (x : Option V), ∃ R1, Slots (σ.set i x) (env.set i none) R1 ∧ ((slot env i = none ∧ R1 = R) ∨ ∃ y, R.Perm (y :: R1)) := by
  induction s with
  | nil => intro i x; exact ⟨[], .nil, .inl ⟨by cases i <;> rfl, rfl⟩⟩
  | no s ih =>
    intro i x
    cases i with
    | zero => exact ⟨_, .no s, .inl ⟨rfl, rfl⟩⟩
    | succ i =>
      obtain ⟨R1, h1, h2⟩ := ih i x
      exact ⟨R1, .no h1, h2⟩
  | yes s ih =>
    rename_i v₀ w₀ b₀ σ env R
    intro i x
    cases i with
    | zero => exact ⟨_, .no s, .inr ⟨_, .refl _⟩⟩
    | succ i =>
      obtain ⟨R1, h1, h2⟩ := ih i x
      refine ⟨_, .yes h1, ?_⟩
      rcases h2 with ⟨h2, h3⟩ | ⟨y, h2⟩
      · exact .inl ⟨h2, by rw [h3]⟩
      · exact .inr ⟨y, (h2.cons _).trans (.swap ..)⟩

/-- what caches may hold: of which object, under which key, which datum -/
structure Inf where
  or : D → Key → D → Prop
  cl : Nat → Addr
  fn : Nat → List Str
  br : Nat → Option (V × Bool)
  sc : Addr → List Int → Prop
/-- the lent parameters stay at their names -/
def Lent (I : Inf) (σ : L2.St) (env : Env) : Prop := ∀ i v b, I.br i = some (v, b) → (∃ w, slot env i = some (b, w) ∧ (b = true ∨ isLk w = true)) ∧ σ[i]? = some (some v)
theorem slot_lt {env : Env} {i : Nat} {s : Bool × W} (h : slot env i = some s) : i < env.length := by
  unfold slot at h
  rcases Nat.lt_or_ge i env.length with q | q
  · exact q
  · rw [List.getD_eq_getElem?_getD, List.getElem?_eq_none q] at h; cases h
theorem slot_set {env : Env} {i : Nat} {s : Slot} (h : i < env.length) : slot (env.set i s) i = s := by
  unfold slot
  rw [List.getD_eq_getElem?_getD, List.getElem?_set_self h]; rfl
theorem slot_set_ne {env : Env} {i j : Nat} {s : Slot} (h : i ≠ j) : slot (env.set i s) j = slot env j := by
  unfold slot
  rw [List.getD_eq_getElem?_getD, List.getD_eq_getElem?_getD, List.getElem?_set_ne h]
theorem Lent.set {I : Inf} {σ : L2.St} {env : Env} (L : Lent I σ env) {i : Nat} {b : Bool} {w w' : W} (e : slot env i = some (b, w)) (hw : isLk w = true → isLk w' = true) : Lent I σ (env.set i (some (b, w'))) := fun j v b' h => by
  obtain ⟨⟨x, h1, hx⟩, h2⟩ := L j v b' h
  refine ⟨?_, h2⟩
  by_cases hj : i = j
  · subst hj
    rw [e] at h1; cases h1
    exact ⟨w', slot_set (slot_lt e), hx.imp id hw⟩
  · exact ⟨x, by rw [slot_set_ne hj]; exact h1, hx⟩
structure Ok (orc : Inf) (B : Hp) (G : Gh) (σ : L2.St) (H : Hp) (env : Env) (t : List Rt) : Prop where
  fz : ∀ a o, G.fz a = some o → H a = some o
  ca : ∀ q s, G.ca q = some s → G.fz q = none ∧ B q = none ∧ ∃ kvs, H q = some (.dK kvs) ∧ kvs.length ≤ 1000 ∧ ∀ k v, (k, v) ∈ kvs → ∃ d, orc.or s k d ∧ Rep G v d
  cl : G.cl = orc.cl
  fn : G.fn = orc.fn
  sc : G.sc = orc.sc
  bp : ∀ a o, B a = some o → H a = some o
  bz : ∀ a o, B a = some o → G.fz a = none ∧ G.ca a = none
  lent : Lent orc σ env
  tr : ∃ R fp, Slots σ env R ∧ RepWP G H (t ++ R) fp ∧ Own G B fp
/-- from G, H to G', H': what stood outside f stays -/
structure Step (G : Gh) (H : Hp) (f : List Addr) (G' : Gh) (H' : Hp) : Prop where
  le : G.Le G'
  same : ∀ p, p ∉ f → H p ≠ none → H' p = H p
  fz : ∀ a o, G'.fz a = some o → H' a = some o
  fn : ∀ p, p ∉ f → H p ≠ none → G.fz p = none → G'.fz p = none
  ca : G'.ca = G.ca
theorem Step.alloc {G : Gh} {H : Hp} {f : List Addr} {p : Addr} {o : HO} (z : ∀ a o, G.fz a = some o → H a = some o) (h : H p = none) : Step G H f G (upd H p o) where
  le := .refl G
  same := fun q _ n => upd_ne fun e => n (by rw [e]; exact h)
  fz := fun a o e => by rw [upd_ne (fun q => by have := z a o e; rw [q, h] at this; cases this)]; exact z a o e
  fn := fun _ _ _ h => h
  ca := rfl
theorem Step.freeze {G : Gh} {H : Hp} {f : List Addr} (z : ∀ a o, G.fz a = some o → H a = some o) : Step G H f (G.freeze H f) H where
  le := Gh.freeze_le z
  same := fun _ _ _ => rfl
  fz := fun a o e => by
    have e' : (if a ∈ f then H a else G.fz a) = some o := e
    split at e'
    · exact e'
    · exact z a o e'
  fn := fun p h _ e => by show (if p ∈ f then H p else G.fz p) = none; rw [if_neg h]; exact e
  ca := rfl
theorem Step.write {G : Gh} {H : Hp} {f : List Addr} {p : Addr} {o : HO} (z : ∀ a o, G.fz a = some o → H a = some o) (hp : p ∈ f) (hn : G.fz p = none) : Step G H f G (upd H p o) where
  le := .refl G
  same := fun q h _ => upd_ne fun e => h (by rw [e]; exact hp)
  fz := fun a o e => by rw [upd_ne (fun q => by rw [q, hn] at e; cases e)]; exact z a o e
  fn := fun _ _ _ h => h
  ca := rfl
theorem Step.id {G : Gh} {H : Hp} {f : List Addr} (z : ∀ a o, G.fz a = some o → H a = some o) : Step G H f G H := ⟨.refl G, fun _ _ _ => rfl, z, fun _ _ _ h => h, rfl⟩
theorem set_same {α : Type} : ∀ {l : List α} {k : Nat} {x : α}, l[k]? = some x → l.set k x = l
  | [], _, _, h => by simp at h
  | a :: l, 0, x, h => by simp at h; subst h; rfl
  | a :: l, k + 1, x, h => by rw [List.set_cons_succ, set_same (l := l) (k := k) (by simpa using h)]
/-- a root among roots changes -/
theorem roots_at {G : Gh} {H B : Hp} {R : List Rt} {fp : List Addr} {k : Nat} {v : V} {w : W} (r : RepWP G H R fp) (o : Own G B fp) (e : R[k]? = some (v, w)) :
    ∃ f, RepW G H v w f ∧ Own G B f ∧ ∀ {G' : Gh} {H' : Hp} {w' : W} {f' : List Addr}, Step G H f G' H' → RepW G' H' v w' f' → f'.Nodup → (∀ p ∈ f', (p ∈ f ∨ H p = none) ∧ G'.fz p = none ∧ G'.ca p = none ∧ B p = none) →
      ∃ fp', RepWP G' H' (R.set k (v, w')) fp' ∧ Own G' B fp' := by
  have e2 : (R.map (·.2))[k]? = some w := by rw [List.getElem?_map, e]; rfl
  have e1 : (R.map (·.1))[k]? = some v := by rw [List.getElem?_map, e]; rfl
  obtain ⟨x, f1, f, f2, h1, h2, h3, h4⟩ := RepWL.focus r e2
  rw [e1] at h1; cases h1
  subst h2
  have oR := o.right
  refine ⟨f, h3, oR.left, fun {G' H' w' f'} st rw' nd hf' => ?_⟩
  have d1 : ∀ p ∈ f1, p ∉ f := fun p hp hq => (List.nodup_append.mp o.nd).2.2 p hp p (List.mem_append_left _ hq) rfl
  have d2 : ∀ p ∈ f2, p ∉ f := fun p hp hq => (List.nodup_append.mp oR.nd).2.2 p hq p hp rfl
  have th := RepWP.there r
  have t1 : ∀ p ∈ f1, H p ≠ none := fun p hp => th p (List.mem_append_left _ hp)
  have t2 : ∀ p ∈ f2, H p ≠ none := fun p hp => th p (List.mem_append_right _ (List.mem_append_right _ hp))
  refine ⟨f1 ++ (f' ++ f2), ?_, ?_, ?_⟩
  · have q := h4 st.le (fun p hp => st.same p (d1 p hp) (t1 p hp)) (fun p hp => st.same p (d2 p hp) (t2 p hp)) rw'
    have m1 : (R.set k (v, w')).map (·.1) = R.map (·.1) := by
      rw [List.map_set]
      exact set_same e1
    have m2 : (R.set k (v, w')).map (·.2) = (R.map (·.2)).set k w' := by rw [List.map_set]
    unfold RepWP
    rw [m1, m2]
    exact q
  · have n1 := (List.nodup_append.mp o.nd).1
    have n2 := (List.nodup_append.mp oR.nd).2.1
    have x1 : ∀ p ∈ f1, p ∉ f' := fun p hp hq => ((hf' p hq).1).elim (d1 p hp) (t1 p hp)
    have x2 : ∀ p ∈ f2, p ∉ f' := fun p hp hq => ((hf' p hq).1).elim (d2 p hp) (t2 p hp)
    refine List.nodup_append.mpr ⟨n1, List.nodup_append.mpr ⟨nd, n2, fun a ha b hb e => x2 b hb (e ▸ ha)⟩, fun a ha b hb e => ?_⟩
    subst e
    rcases List.mem_append.mp hb with hb | hb
    · exact x1 a ha hb
    · exact (List.nodup_append.mp o.nd).2.2 a ha a (List.mem_append_right _ hb) rfl
  · intro p hp
    rcases List.mem_append.mp hp with hp | hp
    · obtain ⟨a1, a2, a3⟩ := o.left.no p hp
      exact ⟨st.fn p (d1 p hp) (t1 p hp) a1, by rw [st.ca]; exact a2, a3⟩
    · rcases List.mem_append.mp hp with hp | hp
      · exact (hf' p hp).2
      · obtain ⟨a1, a2, a3⟩ := oR.right.no p hp
        exact ⟨st.fn p (d2 p hp) (t2 p hp) a1, by rw [st.ca]; exact a2, a3⟩

section
variable {orc : Inf} {B : Hp} {G : Gh} {σ : L2.St} {H : Hp} {env : Env} {t : List Rt}
/-- the parts but the roots, behind a step -/
theorem Ok.rest {f : List Addr} {G' : Gh} {H' : Hp} (O : Ok orc B G σ H env t) (st : Step G H f G' H') (hf : ∀ p ∈ f, G.ca p = none ∧ B p = none) {env' : Env} {t' : List Rt} {σ' : L2.St}
    (le : Lent orc σ' env') (tr : ∃ R fp, Slots σ' env' R ∧ RepWP G' H' (t' ++ R) fp ∧ Own G' B fp) : Ok orc B G' σ' H' env' t' where
  fz := st.fz
  ca := fun q s e => by
    rw [st.ca] at e
    obtain ⟨a1, a2, kvs, a3, a4, a5⟩ := O.ca q s e
    have hq : q ∉ f := fun z => by have := (hf q z).1; rw [e] at this; cases this
    have hn : H q ≠ none := by rw [a3]; exact fun z => nomatch z
    refine ⟨st.fn q hq hn a1, a2, kvs, (st.same q hq hn).trans a3, a4, fun k v m => ?_⟩
    obtain ⟨d, h1, h2⟩ := a5 k v m
    exact ⟨d, h1, h2.mono st.le⟩
  cl := st.le.cl.trans O.cl
  fn := st.le.fn.trans O.fn
  sc := st.le.sc.trans O.sc
  bp := fun a o e => by
    have hq : a ∉ f := fun z => by have := (hf a z).2; rw [e] at this; cases this
    have h := O.bp a o e
    exact (st.same a hq (by rw [h]; exact fun z => nomatch z)).trans h
  bz := fun a o e => by
    have hq : a ∉ f := fun z => by have := (hf a z).2; rw [e] at this; cases this
    have h := O.bp a o e
    obtain ⟨z1, z2⟩ := O.bz a o e
    exact ⟨st.fn a hq (by rw [h]; exact fun z => nomatch z) z1, by rw [st.ca]; exact z2⟩
  lent := le
  tr := tr
theorem Ok.len (O : Ok orc B G σ H env t) : σ.length = env.length := let ⟨_, _, s, _⟩ := O.tr; s.len
/-- a name's tree, which may be changed -/
theorem Ok.at (O : Ok orc B G σ H env t) {i : Nat} {b : Bool} {w : W} (e : slot env i = some (b, w)) :
    ∃ v f, σ[i]? = some (some v) ∧ RepW G H v w f ∧ Own G B f ∧ ∀ {G' : Gh} {H' : Hp} {w' : W} {f' : List Addr}, Step G H f G' H' → RepW G' H' v w' f' → f'.Nodup →
      (∀ p ∈ f', (p ∈ f ∨ H p = none) ∧ G'.fz p = none ∧ G'.ca p = none ∧ B p = none) → (isLk w = true → isLk w' = true) → Ok orc B G' σ H' (env.set i (some (b, w'))) t := by
  obtain ⟨R, fp, s, r, o⟩ := O.tr
  obtain ⟨k, v, h1, h2, h3⟩ := s.at e
  have h2' : (t ++ R)[t.length + k]? = some (v, w) := by rw [List.getElem?_append_right (Nat.le_add_right _ _)]; simpa using h2
  obtain ⟨f, a1, a2, a3⟩ := roots_at r o h2'
  refine ⟨v, f, h1, a1, a2, fun st rw' nd hf' hlk => ?_⟩
  obtain ⟨fp', q1, q2⟩ := a3 st rw' nd hf'
  refine O.rest st (fun p hp => (a2.no p hp).2) (O.lent.set e hlk) ⟨_, fp', h3 b _, ?_, q2⟩
  rw [List.set_append_right _ _ (Nat.le_add_right _ _)] at q1
  simpa using q1
/-- a temporary tree, which may be changed -/
theorem Ok.tmp (O : Ok orc B G σ H env t) {k : Nat} {v : V} {w : W} (e : t[k]? = some (v, w)) :
    ∃ f, RepW G H v w f ∧ Own G B f ∧ ∀ {G' : Gh} {H' : Hp} {w' : W} {f' : List Addr}, Step G H f G' H' → RepW G' H' v w' f' → f'.Nodup →
      (∀ p ∈ f', (p ∈ f ∨ H p = none) ∧ G'.fz p = none ∧ G'.ca p = none ∧ B p = none) → Ok orc B G' σ H' env (t.set k (v, w')) := by
  obtain ⟨R, fp, s, r, o⟩ := O.tr
  have hk : k < t.length := by
    rcases Nat.lt_or_ge k t.length with h | h
    · exact h
    · rw [List.getElem?_eq_none h] at e; cases e
  have h2' : (t ++ R)[k]? = some (v, w) := by rw [List.getElem?_append_left hk]; exact e
  obtain ⟨f, a1, a2, a3⟩ := roots_at r o h2'
  refine ⟨f, a1, a2, fun st rw' nd hf' => ?_⟩
  obtain ⟨fp', q1, q2⟩ := a3 st rw' nd hf'
  refine O.rest st (fun p hp => (a2.no p hp).2) O.lent ⟨R, fp', s, ?_, q2⟩
  rw [List.set_append_left _ _ hk] at q1
  exact q1
/-- temporaries in another sequence -/
theorem Ok.perm (O : Ok orc B G σ H env t) {t' : List Rt} (h : t.Perm t') : Ok orc B G σ H env t' := by
  obtain ⟨R, fp, s, r, o⟩ := O.tr
  obtain ⟨fp', r', p⟩ := RepWP.perm (h.append_right R) r
  exact ⟨O.fz, O.ca, O.cl, O.fn, O.sc, O.bp, O.bz, O.lent, R, fp', s, r', o.perm p⟩
/-- temporaries forgotten -/
theorem Ok.drop {t' : List Rt} (O : Ok orc B G σ H env (t' ++ t)) : Ok orc B G σ H env t := by
  obtain ⟨R, fp, s, r, o⟩ := O.tr
  rw [List.append_assoc] at r
  obtain ⟨f, g, rfl, _, r'⟩ := RepWP.unapp r
  exact ⟨O.fz, O.ca, O.cl, O.fn, O.sc, O.bp, O.bz, O.lent, R, g, s, r', o.right⟩
theorem Ok.drop1 {x : Rt} (O : Ok orc B G σ H env (x :: t)) : Ok orc B G σ H env t := Ok.drop (t' := [x]) O
/-- a datum as a temporary -/
theorem Ok.push (O : Ok orc B G σ H env t) {v : V} {d : D} (h : Rep G v d) : Ok orc B G σ H env ((v, .d d) :: t) := by
  obtain ⟨R, fp, s, r, o⟩ := O.tr
  exact ⟨O.fz, O.ca, O.cl, O.fn, O.sc, O.bp, O.bz, O.lent, R, fp, s, RepWP.cons (.d h) r, o⟩
/-- a step that touches no root -/
theorem Ok.step (O : Ok orc B G σ H env t) {G' : Gh} {H' : Hp} (st : Step G H [] G' H') : Ok orc B G' σ H' env t := by
  obtain ⟨R, fp, s, r, o⟩ := O.tr
  have th := RepWP.there r
  refine O.rest st (fun _ h => nomatch h) O.lent ⟨R, fp, s, r.frame st.le fun p hp => st.same p (fun z => nomatch z) (th p hp), o.nd, fun p hp => ?_⟩
  obtain ⟨a1, a2, a3⟩ := o.no p hp
  exact ⟨st.fn p (fun z => nomatch z) (th p hp) a1, by rw [st.ca]; exact a2, a3⟩
/-- a new object whose children were the first temporaries: a new tree -/
theorem Ok.node {t1 : List Rt} (O : Ok orc B G σ H env (t1 ++ t)) {p : Addr} {o : HO} {w : W} (hp : H p = none)
    (mk : ∀ {fp : List Addr}, RepWL G (upd H p o) (t1.map (·.1)) (t1.map (·.2)) fp → RepW G (upd H p o) (.ref p) w (p :: fp)) : Ok orc B G σ (upd H p o) env ((.ref p, w) :: t) := by
  have st : Step G H [] G (upd H p o) := Step.alloc O.fz hp
  obtain ⟨R, fp, s, r0, ow⟩ := O.tr
  have nf0 : p ∉ fp := fun hq => RepWP.there r0 p hq hp
  have r : RepWP G (upd H p o) ((t1 ++ t) ++ R) fp := r0.frame (.refl G) fun q hq => upd_ne fun e => nf0 (e ▸ hq)
  rw [List.append_assoc] at r
  obtain ⟨f, g, rfl, r1, r2⟩ := RepWP.unapp r
  have nf : p ∉ f ++ g := nf0
  have hz : G.fz p = none := by
    cases e : G.fz p with
    | none => rfl
    | some u => have := O.fz p u e; rw [hp] at this; cases this
  have hc : G.ca p = none := by
    cases e : G.ca p with
    | none => rfl
    | some u => obtain ⟨_, _, _, h, _⟩ := O.ca p u e; rw [hp] at h; cases h
  have hb : B p = none := by
    cases e : B p with
    | none => rfl
    | some u => have := O.bp p u e; rw [hp] at this; cases this
  refine O.rest st (fun _ h => nomatch h) O.lent ⟨R, (p :: f) ++ g, s, RepWP.cons (mk r1) r2, ?_, ?_⟩
  · show (p :: (f ++ g)).Nodup
    exact List.nodup_cons.mpr ⟨nf, ow.nd⟩
  · intro q hq
    rcases List.mem_cons.mp (show q ∈ p :: (f ++ g) from hq) with e | hq
    · rw [e]; exact ⟨hz, hc, hb⟩
    · exact ow.no q hq
end
end Ev
end
section
set_option linter.all false
set_option autoImplicit false
/-! Ev4: expressions: what the mini-AST yields, the model yields. -/
namespace Ev
open PySem PySem.Spec PyProof.Rows
open L2 (V HO Hp upd upd_same upd_ne SqL SqT Rd Key Cx PE PT PW PA PC TE TT TA OpR IxR UnR CallR VK R2 pe_op pe_un pe_cmpR)

/-- the tree of a value is a temporary where it is no name's -/
def ext (v : V) (r : R) (t : List Rt) : List Rt := match r with
  | .val w => (v, w) :: t
  | _ => t
def Fact (σ : L2.St) (H : Hp) (v : V) : R → Prop
  | .val _ => True
  | .var i => σ[i]? = some (some v)
  | .elt i k => ∃ a xs, σ[i]? = some (some (.ref a)) ∧ H a = some (.lst xs) ∧ xs[k]? = some v
def Post (I : Inf) (B : Hp) (G : Gh) (σ : L2.St) (H : Hp) (env : Env) (t : List Rt) (v : V) (r : R) : Prop := Ok I B G σ H env (ext v r t) ∧ Fact σ H v r
section
variable {I : Inf} {B : Hp} {G : Gh} {σ : L2.St} {H : Hp} {env : Env} {t : List Rt}
theorem Ok.unext {v : V} {r : R} (O : Ok I B G σ H env (ext v r t)) : Ok I B G σ H env t := by
  cases r with
  | val w => exact O.drop1
  | var i => exact O
  | elt i k => exact O
theorem put_eq {env : Env} {i : Nat} {b : Bool} {w w' : W} (h : slot env i = some (b, w)) : put env i w' = env.set i (some (b, w')) := by
  unfold put; rw [h]
/-- a tree that is a name's or a temporary, found among the roots -/
theorem Ok.find (O : Ok I B G σ H env t) {v : V} {r : R} (hf : Fact σ H v r) (hm : ∀ w, r = .val w → (v, w) ∈ t) {w : W} (e : getW env r = some w) : ∃ f, RepW G H v w f := by
  cases r with
  | val w0 =>
    cases e
    obtain ⟨k, hk⟩ := List.getElem?_of_mem (hm _ rfl)
    obtain ⟨f, h, _⟩ := O.tmp hk
    exact ⟨f, h⟩
  | var i =>
    obtain ⟨⟨b, w1⟩, h1, h2⟩ := Option.map_eq_some_iff.mp (show (slot env i).map (·.2) = some w from e)
    obtain ⟨v', f, a1, a2, _⟩ := O.at h1
    have q : σ[i]? = some (some v) := hf
    rw [a1] at q; cases q
    exact ⟨f, h2 ▸ a2⟩
  | elt i k =>
    obtain ⟨a, xs, h1, h2, h3⟩ := hf
    have e' : (match slot env i with | some (_, .lst ws) => ws[k]? | _ => none) = some w := e
    cases hs : slot env i with
    | none => rw [hs] at e'; cases e'
    | some s =>
      obtain ⟨b, w1⟩ := s
      rw [hs] at e'
      cases w1 with
      | lst ws =>
        obtain ⟨v', f, a1, a2, _⟩ := O.at hs
        rw [h1] at a1; cases a1
        cases a2 with
        | lst hH r =>
          rw [h2] at hH; cases hH
          obtain ⟨x, f1, f, f2, q1, _, q3, _⟩ := RepWL.focus r e'
          rw [h3] at q1; cases q1
          exact ⟨f, q3⟩
      | _ => cases e'
theorem Ok.viewOf (O : Ok I B G σ H env t) {v : V} {r : R} (hf : Fact σ H v r) (hm : ∀ w, r = .val w → (v, w) ∈ t) {d : D} (e : rd env r = some d) : View H v d := by
  obtain ⟨w, h1, rfl⟩ := Option.map_eq_some_iff.mp e
  obtain ⟨f, h⟩ := O.find hf hm h1
  exact h.view O.fz
theorem Post.view {v : V} {r : R} (P : Post I B G σ H env t v r) {d : D} (e : rd env r = some d) : View H v d :=
  P.1.viewOf P.2 (fun w h => by subst h; exact List.mem_cons_self) e
theorem Post.ok {v : V} {r : R} (P : Post I B G σ H env t v r) : Ok I B G σ H env t := P.1.unext
theorem Ok.res (O : Ok I B G σ H env t) {v : V} {d : D} (h : Rep G v d) : Post I B G σ H env t v (.val (.d d)) := ⟨O.push h, trivial⟩
/-- what is kept elsewhere is a temporary from then on -/
theorem Post.take {v : V} {r : R} (P : Post I B G σ H env t v r) {w : W} {env' : Env} (e : take env r = some (w, env')) : ∃ G', G.Le G' ∧ Ok I B G' σ H env' ((v, w) :: t) := by
  obtain ⟨O, hf⟩ := P
  cases r with
  | val w0 =>
    cases e
    exact ⟨G, .refl G, O⟩
  | var i =>
    have e' : (match getW env (.var i) with | some (.d x) => some (W.d x, env) | some (.lk _) => none | some w => some (.d (frz w), setW env (.var i) (.d (frz w))) | none => none) = some (w, env') := e
    cases hs : slot env i with
    | none =>
      have hg : getW env (.var i) = none := by show (slot env i).map (·.2) = _; rw [hs]; rfl
      rw [hg] at e'; cases e'
    | some s =>
      obtain ⟨b, w1⟩ := s
      have hg : getW env (.var i) = some w1 := by show (slot env i).map (·.2) = _; rw [hs]; rfl
      rw [hg] at e'
      obtain ⟨v', f, a1, a2, a3, a4⟩ := O.at hs
      have q : σ[i]? = some (some v) := hf
      rw [a1] at q; cases q
      have fr : isLk w1 = false → ∀ (d : D), d = frz w1 → w = .d d → env' = put env i (.d d) → ∃ G', G.Le G' ∧ Ok I B G' σ H env' ((v, w) :: t) := by
        intro hlk d hd h1 h2
        subst h1; subst h2; subst hd
        have st : Step G H f (G.freeze H f) H := Step.freeze O.fz
        have rp : Rep (G.freeze H f) v (frz w1) := a2.frozen st.le fun p hp => Gh.freeze_at hp
        refine ⟨_, st.le, ?_⟩
        rw [put_eq hs]
        exact (a4 (w' := .d (frz w1)) (f' := []) st (.d rp) List.nodup_nil (fun _ h => nomatch h) (fun z => by rw [hlk] at z; cases z)).push rp
      cases w1 with
      | d x =>
        cases e'
        cases a2 with
        | d rp => exact ⟨G, .refl G, O.push rp⟩
      | lst ws => cases e'; exact fr rfl _ rfl rfl rfl
      | tup ws => cases e'; exact fr rfl _ rfl rfl rfl
      | dct ks vs => cases a2
      | lk w2 => cases e'
  | elt i k =>
    obtain ⟨a, xs, h1, h2, h3⟩ := hf
    have e' : (match getW env (.elt i k) with | some (.d x) => some (W.d x, env) | some (.lk _) => none | some w => some (.d (frz w), setW env (.elt i k) (.d (frz w))) | none => none) = some (w, env') := e
    cases hs : slot env i with
    | none =>
      have hg : getW env (.elt i k) = none := by show (match slot env i with | some (_, .lst ws) => ws[k]? | _ => none) = none; rw [hs]
      rw [hg] at e'; cases e'
    | some s =>
      obtain ⟨b, w1⟩ := s
      cases w1 with
      | lst ws =>
        have hg : getW env (.elt i k) = ws[k]? := by show (match slot env i with | some (_, .lst ws) => ws[k]? | _ => none) = _; rw [hs]
        rw [hg] at e'
        obtain ⟨v', f, a1, a2, a3, a4⟩ := O.at hs
        rw [h1] at a1; cases a1
        cases a2 with
        | lst hH r =>
          rename_i fp
          rw [h2] at hH; cases hH
          cases hk : ws[k]? with
          | none => rw [hk] at e'; cases e'
          | some w2 =>
            rw [hk] at e'
            obtain ⟨x, f1, f, f2, q1, q2, q3, q4⟩ := RepWL.focus r hk
            rw [h3] at q1; cases q1
            subst q2
            have fr : ∀ (d : D), d = frz w2 → w = .d d → env' = setW env (.elt i k) (.d d) → ∃ G', G.Le G' ∧ Ok I B G' σ H env' ((v, w) :: t) := by
              intro d hd z1 z2
              subst z1; subst z2; subst hd
              have st0 : Step G H f (G.freeze H f) H := Step.freeze O.fz
              have st : Step G H (a :: (f1 ++ (f ++ f2))) (G.freeze H f) H := ⟨st0.le, fun _ _ _ => rfl, st0.fz, fun p hp hn hz => st0.fn p (fun m => hp (List.mem_cons_of_mem _ (List.mem_append_right _ (List.mem_append_left _ m)))) hn hz, rfl⟩
              have rp : Rep (G.freeze H f) v (frz w2) := q3.frozen st.le fun p hp => Gh.freeze_at hp
              have nd := a3.nd
              have nf : ∀ p ∈ a :: (f1 ++ f2), p ∉ f := by
                intro p hp hq
                rcases List.mem_cons.mp hp with e | hp
                · exact (List.nodup_cons.mp nd).1 (e ▸ List.mem_append_right _ (List.mem_append_left _ hq))
                · have n2 := (List.nodup_cons.mp nd).2
                  rcases List.mem_append.mp hp with hp | hp
                  · exact (List.nodup_append.mp n2).2.2 p hp p (List.mem_append_left _ hq) rfl
                  · exact (List.nodup_append.mp (List.nodup_append.mp n2).2.1).2.2 p hq p hp rfl
              refine ⟨_, st.le, ?_⟩
              have se : setW env (.elt i k) (.d (frz w2)) = env.set i (some (b, .lst (ws.set k (.d (frz w2))))) := by
                show (match slot env i with | some (_, .lst ws) => put env i (.lst (ws.set k _)) | _ => env) = _
                rw [hs]; exact put_eq hs
              rw [se]
              have n2 := (List.nodup_cons.mp nd).2
              refine (a4 (w' := .lst (ws.set k (.d (frz w2)))) (f' := a :: (f1 ++ ([] ++ f2))) st (.lst h2 (q4 st.le (fun _ _ => rfl) (fun _ _ => rfl) (.d rp))) ?_ (fun p hp => ?_) (fun z => nomatch z)).push rp
              · rw [List.nil_append]
                refine List.nodup_cons.mpr ⟨fun m => (List.nodup_cons.mp nd).1 ((List.mem_append.mp m).elim (List.mem_append_left _) fun m => List.mem_append_right _ (List.mem_append_right _ m)), ?_⟩
                exact List.nodup_append.mpr ⟨(List.nodup_append.mp n2).1, (List.nodup_append.mp (List.nodup_append.mp n2).2.1).2.1, fun p hp q hq e => (List.nodup_append.mp n2).2.2 p hp q (List.mem_append_right _ hq) e⟩
              · rw [List.nil_append] at hp
                have hm : p ∈ a :: (f1 ++ (f ++ f2)) := by
                  rcases List.mem_cons.mp hp with e | hp
                  · exact List.mem_cons.mpr (.inl e)
                  · exact List.mem_cons_of_mem _ ((List.mem_append.mp hp).elim (List.mem_append_left _) fun m => List.mem_append_right _ (List.mem_append_right _ m))
                obtain ⟨z1, z2, z3⟩ := a3.no p hm
                refine ⟨.inl hm, ?_, z2, z3⟩
                show (if p ∈ f then H p else G.fz p) = none
                rw [if_neg (nf p hp)]; exact z1
            cases w2 with
            | d x =>
              cases e'
              cases q3 with
              | d rp => exact ⟨G, .refl G, O.push rp⟩
            | lst ws => cases e'; exact fr _ rfl rfl rfl
            | tup ws => cases e'; exact fr _ rfl rfl rfl
            | dct ks vs => cases q3
            | lk w2 => cases e'
      | _ =>
        have hg : getW env (.elt i k) = none := by show (match slot env i with | some (_, .lst ws) => ws[k]? | _ => none) = none; rw [hs]
        rw [hg] at e'; cases e'
theorem Post.stab {v : V} {r r' : R} (P : Post I B G σ H env t v r) {env' : Env} (e : stab env r = some (r', env')) : ∃ G', G.Le G' ∧ Post I B G' σ H env' t v r' ∧ ∀ i k, r' ≠ .elt i k := by
  cases r with
  | val w => cases e; exact ⟨G, .refl G, P, fun _ _ h => nomatch h⟩
  | var i => cases e; exact ⟨G, .refl G, P, fun _ _ h => nomatch h⟩
  | elt i k =>
    obtain ⟨⟨w, env2⟩, h1, h2⟩ := Option.map_eq_some_iff.mp (show (Ev.take env (.elt i k)).map (fun p => (R.val p.1, p.2)) = some (r', env') from e)
    cases h2
    obtain ⟨G', l, O⟩ := P.take h1
    exact ⟨G', l, ⟨O, trivial⟩, fun _ _ h => nomatch h⟩
/-- a new object, frozen at once -/
def Gh.add (G : Gh) (p : Addr) (o : HO) : Gh := { G with fz := fun a => if a = p then some o else G.fz a }
theorem Ok.hpn (O : Ok I B G σ H env t) {p : Addr} (hp : H p = none) : G.fz p = none ∧ G.ca p = none ∧ B p = none := by
  refine ⟨?_, ?_, ?_⟩
  · cases e : G.fz p with
    | none => rfl
    | some u => have := O.fz p u e; rw [hp] at this; cases this
  · cases e : G.ca p with
    | none => rfl
    | some u => obtain ⟨_, _, _, h, _⟩ := O.ca p u e; rw [hp] at h; cases h
  · cases e : B p with
    | none => rfl
    | some u => have := O.bp p u e; rw [hp] at this; cases this
theorem Ok.add (O : Ok I B G σ H env t) {p : Addr} {o : HO} (hp : H p = none) : G.Le (G.add p o) ∧ Ok I B (G.add p o) σ (upd H p o) env t := by
  have l : G.Le (G.add p o) := ⟨fun a u e => by
    show (if a = p then some o else G.fz a) = some u
    rw [if_neg (fun z => by rw [z, (O.hpn hp).1] at e; cases e)]; exact e, fun _ _ h => h, rfl, rfl, rfl⟩
  refine ⟨l, O.step ⟨l, fun q _ n => upd_ne fun e => n (by rw [e]; exact hp), fun a u e => ?_, fun q _ n z => ?_, rfl⟩⟩
  · have e' : (if a = p then some o else G.fz a) = some u := e
    split at e'
    · rename_i h; cases e'; rw [h]; exact upd_same
    · rename_i h; rw [upd_ne h]; exact O.fz a u e'
  · show (if q = p then some o else G.fz q) = none
    rw [if_neg (fun h => n (by rw [h]; exact hp))]; exact z
theorem Gh.add_at {p : Addr} {o : HO} : (G.add p o).fz p = some o := if_pos rfl
/-- a new list of frozen items, a tree of its own -/
theorem Ok.newList (O : Ok I B G σ H env t) {p : Addr} {xs : List V} {ds : List D} (hp : H p = none) (r : RepL G xs ds) : Ok I B G σ (upd H p (.lst xs)) env ((.ref p, .lst (ds.map W.d)) :: t) :=
  Ok.node (t1 := []) O hp fun {fp} z => by
    cases z
    exact .lst upd_same (RepWL.of r)
theorem Ok.newTup (O : Ok I B G σ H env t) {p : Addr} {xs : List V} {ds : List D} (hp : H p = none) (r : RepL G xs ds) : ∃ G', G.Le G' ∧ Post I B G' σ (upd H p (.tup xs)) env t (.ref p) (.val (.d (.tup ds))) := by
  obtain ⟨l, O'⟩ := O.add (o := .tup xs) hp
  exact ⟨_, l, O'.res (.tup Gh.add_at (r.mono l))⟩
/-- the items of a list or tuple, frozen -/
def ShV (G : Gh) (H : Hp) (v : V) : Sh → Prop
  | .list l => ∃ a xs, v = .ref a ∧ H a = some (.lst xs) ∧ RepL G xs l
  | .tup l => ∃ a xs, v = .ref a ∧ H a = some (.tup xs) ∧ RepL G xs l
theorem ShV.mono {G' : Gh} (l : G.Le G') {v : V} {s : Sh} (h : ShV G H v s) : ShV G' H v s := by
  cases s with
  | list x => obtain ⟨a, xs, h1, h2, h3⟩ := h; exact ⟨a, xs, h1, h2, h3.mono l⟩
  | tup x => obtain ⟨a, xs, h1, h2, h3⟩ := h; exact ⟨a, xs, h1, h2, h3.mono l⟩
/-- freezing the items of an owned node -/
theorem freeze_items {f fp : List Addr} {a : Addr} {xs : List V} {ws : List W} (O : Ok I B G σ H env t) (o : Own G B (a :: fp)) (r : RepWL G H xs ws fp) :
    Step G H (a :: fp) (G.freeze H fp) H ∧ RepL (G.freeze H fp) xs (frzL ws) ∧ (G.freeze H fp).fz a = none := by
  have st0 : Step G H fp (G.freeze H fp) H := Step.freeze O.fz
  refine ⟨⟨st0.le, fun _ _ _ => rfl, st0.fz, fun p hp hn hz => st0.fn p (fun m => hp (List.mem_cons_of_mem _ m)) hn hz, rfl⟩, r.frozen st0.le fun p hp => Gh.freeze_at hp, ?_⟩
  show (if a ∈ fp then H a else G.fz a) = none
  rw [if_neg (List.nodup_cons.mp o.nd).1]
  exact (o.no a List.mem_cons_self).1
theorem own_head {a : Addr} {fp : List Addr} {G' : Gh} (o : Own G B (a :: fp)) (hz : G'.fz a = none) (hc : G'.ca = G.ca) : ∀ p ∈ [a], (p ∈ a :: fp ∨ H p = none) ∧ G'.fz p = none ∧ G'.ca p = none ∧ B p = none := fun p hp => by
  rw [List.mem_singleton.mp hp]
  obtain ⟨_, h2, h3⟩ := o.no a List.mem_cons_self
  exact ⟨.inl List.mem_cons_self, hz, by rw [hc]; exact h2, h3⟩
theorem Ok.shell {v : V} {r : R} (O : Ok I B G σ H env (ext v r t)) (hf : Fact σ H v r) {s : Sh} {env' : Env} (e : Ev.shell env r = some (s, env')) :
    ∃ G', G.Le G' ∧ Ok I B G' σ H env' t ∧ ShV G' H v s := by
  cases hg : getW env r with
  | none =>
    cases r with
    | elt i k => simp only [Ev.shell, Ev.take, hg] at e; cases e
    | _ => simp only [Ev.shell, Ev.shellW, hg] at e; cases e
  | some w =>
    have dl : ∀ {x : D}, w = .d x → Rep G v x := fun {x} hx => by
      obtain ⟨f, h⟩ := O.find hf (fun w h => by subst h; exact List.mem_cons_self) hg
      rw [hx] at h
      cases h with
      | d h => exact h
    cases r with
    | val w0 =>
      cases hg
      cases w with
      | d x =>
        cases x with
        | list l =>
          simp only [Ev.shell, Ev.shellW, getW] at e; cases e
          cases dl rfl with
          | list h r => exact ⟨G, .refl G, O.unext, _, _, rfl, O.fz _ _ h, r⟩
        | tup l =>
          simp only [Ev.shell, Ev.shellW, getW] at e; cases e
          cases dl rfl with
          | tup h r => exact ⟨G, .refl G, O.unext, _, _, rfl, O.fz _ _ h, r⟩
        | _ => simp only [Ev.shell, Ev.shellW, getW] at e; cases e
      | lst ws =>
        simp only [Ev.shell, Ev.shellW, getW, setW] at e; cases e
        obtain ⟨f, a2, a3, a4⟩ := Ok.tmp O (k := 0) (v := v) (w := .lst ws) rfl
        cases a2 with
        | lst hH r =>
          obtain ⟨st, rl, hz⟩ := freeze_items (f := []) O a3 r
          exact ⟨_, st.le, (a4 (w' := .lst ((frzL ws).map W.d)) (f' := [_]) st (.lst hH (RepWL.of rl)) (by simp) (own_head a3 hz rfl)).drop1, _, _, rfl, hH, rl⟩
      | tup ws =>
        simp only [Ev.shell, Ev.shellW, getW, setW] at e; cases e
        obtain ⟨f, a2, a3, a4⟩ := Ok.tmp O (k := 0) (v := v) (w := .tup ws) rfl
        cases a2 with
        | tup hH r =>
          obtain ⟨st, rl, hz⟩ := freeze_items (f := []) O a3 r
          exact ⟨_, st.le, (a4 (w' := .tup ((frzL ws).map W.d)) (f' := [_]) st (.tup hH (RepWL.of rl)) (by simp) (own_head a3 hz rfl)).drop1, _, _, rfl, hH, rl⟩
      | lk w1 =>
        cases w1 with
        | lst ws =>
          simp only [Ev.shell, Ev.shellW, getW, setW] at e; cases e
          obtain ⟨f, a2, a3, a4⟩ := Ok.tmp O (k := 0) (v := v) (w := .lk (.lst ws)) rfl
          cases a2 with
          | lk a2 =>
            cases a2 with
            | lst hH r =>
              obtain ⟨st, rl, hz⟩ := freeze_items (f := []) O a3 r
              exact ⟨_, st.le, (a4 (w' := .lst ((frzL ws).map W.d)) (f' := [_]) st (.lst hH (RepWL.of rl)) (by simp) (own_head a3 hz rfl)).drop1, _, _, rfl, hH, rl⟩
        | _ => simp only [Ev.shell, Ev.shellW, getW] at e; cases e
      | dct ks vs => simp only [Ev.shell, Ev.shellW, getW] at e; cases e
    | var i =>
      cases hs : slot env i with
      | none => simp only [getW, hs] at hg; cases hg
      | some sl =>
        obtain ⟨b, w1⟩ := sl
        have hw : w1 = w := by simp only [getW, hs] at hg; cases hg; rfl
        subst hw
        obtain ⟨v', f, a1, a2, a3, a4⟩ := Ok.at O hs
        have q : σ[i]? = some (some v) := hf
        rw [a1] at q; cases q
        cases w1 with
        | d x =>
          cases x with
          | list l =>
            simp only [Ev.shell, Ev.shellW, hg] at e; cases e
            cases dl rfl with
            | list h r => exact ⟨G, .refl G, O, _, _, rfl, O.fz _ _ h, r⟩
          | tup l =>
            simp only [Ev.shell, Ev.shellW, hg] at e; cases e
            cases dl rfl with
            | tup h r => exact ⟨G, .refl G, O, _, _, rfl, O.fz _ _ h, r⟩
          | _ => simp only [Ev.shell, Ev.shellW, hg] at e; cases e
        | lst ws =>
          simp only [Ev.shell, Ev.shellW, hg, setW] at e; cases e
          cases a2 with
          | lst hH r =>
            obtain ⟨st, rl, hz⟩ := freeze_items (f := []) O a3 r
            rw [put_eq hs]
            exact ⟨_, st.le, a4 (w' := .lst ((frzL ws).map W.d)) (f' := [_]) st (.lst hH (RepWL.of rl)) (by simp) (own_head a3 hz rfl) (fun z => by first | exact z | exact rfl | cases z), _, _, rfl, hH, rl⟩
        | tup ws =>
          simp only [Ev.shell, Ev.shellW, hg, setW] at e; cases e
          cases a2 with
          | tup hH r =>
            obtain ⟨st, rl, hz⟩ := freeze_items (f := []) O a3 r
            rw [put_eq hs]
            exact ⟨_, st.le, a4 (w' := .tup ((frzL ws).map W.d)) (f' := [_]) st (.tup hH (RepWL.of rl)) (by simp) (own_head a3 hz rfl) (fun z => by first | exact z | exact rfl | cases z), _, _, rfl, hH, rl⟩
        | lk w2 =>
          cases w2 with
          | lst ws =>
            simp only [Ev.shell, Ev.shellW, hg, setW] at e; cases e
            cases a2 with
            | lk a2 =>
              cases a2 with
              | lst hH r =>
                obtain ⟨st, rl, hz⟩ := freeze_items (f := []) O a3 r
                rw [put_eq hs]
                exact ⟨_, st.le, a4 (w' := .lk (.lst ((frzL ws).map W.d))) (f' := [_]) st (.lk (.lst hH (RepWL.of rl))) (by simp) (own_head a3 hz rfl) (fun z => by first | exact z | exact rfl | cases z), _, _, rfl, hH, rl⟩
          | _ => simp only [Ev.shell, Ev.shellW, hg] at e; cases e
        | dct ks vs => cases a2
    | elt i k =>
      obtain ⟨p, h1, h2⟩ := Option.bind_eq_some_iff.mp (show (Ev.take env (.elt i k)).bind (fun p => match p.1 with | .d (.list l) => some (Sh.list l, p.2) | .d (.tup l) => some (Sh.tup l, p.2) | _ => none) = some (s, env') from e)
      obtain ⟨G', l, O'⟩ := Post.take ⟨O, hf⟩ h1
      obtain ⟨w', env2⟩ := p
      obtain ⟨f, a2, _⟩ := O'.tmp (k := 0) (v := v) (w := w') rfl
      cases w' with
      | d x =>
        cases a2 with
        | d rp =>
          cases x with
          | list l2 =>
            cases h2
            cases rp with
            | list h r => exact ⟨G', l, O'.drop1, _, _, rfl, O'.fz _ _ h, r⟩
          | tup l2 =>
            cases h2
            cases rp with
            | tup h r => exact ⟨G', l, O'.drop1, _, _, rfl, O'.fz _ _ h, r⟩
          | _ => cases h2
      | _ => cases h2
end
end Ev
end
section
set_option linter.all false
set_option autoImplicit false
set_option maxRecDepth 10000
/-! Ev5: the rules of expressions. -/
namespace Ev
open PySem PySem.Spec PyProof.Rows
open L2 (V HO Hp upd upd_same upd_ne SqL SqT Rd Key Cx PE PT PW PA PC TE TT TA OpR IxR UnR CallR VK R2 pe_op pe_un pe_cmpR EP Inv RelV Vals)

def toOp : Bop → Operator
  | .add => .Add | .sub => .Sub | .mul => .Mult | .fdiv => .FloorDiv | .mod => .Mod | .pow => .Pow
  | .shl => .LShift | .shr => .RShift | .band => .BitAnd | .bor => .BitOr | .bxor => .BitXor
def toCop : Cop → CmpOp
  | .lt => .Lt | .le => .LtE | .gt => .Gt | .ge => .GtE | .eq => .Eq | .ne => .NotEq | .is_ => .Is | .isnot => .IsNot | .in_ => .In | .notin => .NotIn

theorem peImp {X : Cx} {e : Expr} {t t' : TE} (h : PE X e t) (k : ∀ σ H Q, t' σ H Q → t σ H Q) : PE X e t' := ⟨fun pins s σ H Q I h' => h.run pins s σ H Q I (k _ _ _ h')⟩
theorem ptImp {X : Cx} {e : Expr} {t t' : TT} (h : PT X e t) (k : ∀ σ H Q, t' σ H Q → t σ H Q) : PT X e t' := ⟨fun pins s σ H Q I h' => h.run pins s σ H Q I (k _ _ _ h')⟩
theorem pwImp {X : Cx} {e : Expr} {t t' : TT} (h : PW X e t) (k : ∀ σ H Q, t' σ H Q → t σ H Q) : PW X e t' := ⟨fun wh pins s σ H Q I h' => h.run wh pins s σ H Q I (k _ _ _ h')⟩
theorem paImp {X : Cx} {e : List Expr} {t t' : TA} (h : PA X e t) (k : ∀ σ H Q, t' σ H Q → t σ H Q) : PA X e t' := ⟨fun pos pins s σ H Q I h' => h.run pos pins s σ H Q I (k _ _ _ h')⟩
/-- whichever rule there is -/
def anyOp (X : Cx) (f : Value → Value → PySem.Sem Value) : R2 := fun x y H Q => ∃ r : R2, OpR X f r ∧ r x y H Q
theorem any_op {X : Cx} {f : Value → Value → PySem.Sem Value} : OpR X f (anyOp X f) := fun pins s σ H x y v u Q I rx ry ⟨_, ho, h⟩ => ho pins s σ H x y v u Q I rx ry h
def anyCall (X : Cx) (f : Value) : List V → Hp → VK → Prop := fun xs H Q => ∃ r, CallR X f r ∧ r xs H Q
theorem any_call {X : Cx} {f : Value} : CallR X f (anyCall X f) := fun pins s σ H xs us Q I rs ⟨_, ho, h⟩ => ho pins s σ H xs us Q I rs h
def anyIx (X : Cx) : R2 := fun x y H Q => ∃ r : R2, IxR X r ∧ r x y H Q
theorem any_ix {X : Cx} : IxR X (anyIx X) := fun value slice pins s σ H x y v u Q I rx ry ⟨_, ho, h⟩ => ho value slice pins s σ H x y v u Q I rx ry h

section
variable (I : Inf) (Φ : Fns)
def TEv (m : E) : TE := fun σ H Q => ∃ B G env t r env', Ok I B G σ H env t ∧ (ev Φ m).e env = some (r, env') ∧ ∀ v H' G', G.Le G' → Post I B G' σ H' env' t v r → Q v H'
def TTv (m : E) : TT := fun σ H Q => ∃ B G env t k env', Ok I B G σ H env t ∧ (ev Φ m).t env = some (k, env') ∧ ∀ H' G', G.Le G' → Ok I B G' σ H' env' t → Q k H'
/-- arguments: their trees are temporaries, or names' -/
def extL : List V → List R → List Rt → List Rt
  | v :: vs, r :: rs, t => ext v r (extL vs rs t)
  | _, _, t => t
def FactL (σ : L2.St) : List V → List R → Prop
  | [], [] => True
  | v :: vs, r :: rs => (match r with | .var i => σ[i]? = some (some v) | .val _ => True | .elt _ _ => False) ∧ FactL σ vs rs
  | _, _ => False
def TAv (m : E) : TA := fun σ H Q => ∃ B G env t rs env', Ok I B G σ H env t ∧ (ev Φ m).es env = some (rs, env') ∧ ∀ vs H' G', G.Le G' → Ok I B G' σ H' env' (extL vs rs t) → FactL σ vs rs → Q vs H'
/-- what is kept: temporaries -/
def TKv (m : E) : TA := fun σ H Q => ∃ B G env t ws env', Ok I B G σ H env t ∧ (ev Φ m).tk env = some (ws, env') ∧ ∀ vs H' G', G.Le G' → vs.length = ws.length → Ok I B G' σ H' env' (vs.zip ws ++ t) → Q vs H'
end
section
variable {X : Cx} {I : Inf} {Φ : Fns} {a b c : Expr} {ma mb mc : E} {pos : Pos}
theorem bindSome {α β : Type} {o : Option α} {f : α → Option β} {y : β} (h : o.bind f = some y) : ∃ x, o = some x ∧ f x = some y := Option.bind_eq_some_iff.mp h
theorem mapSome {α β : Type} {o : Option α} {f : α → β} {y : β} (h : o.map f = some y) : ∃ x, o = some x ∧ f x = y := Option.map_eq_some_iff.mp h

/-! ### constants and names -/
theorem se_none {j : Nat} {p : Pos} : PE X (.Constant .none j p) (TEv I Φ .none_) := peImp L2.pe_non fun σ H Q ⟨B, G, env, t, r, env', O, e, k⟩ => by
  cases (show some (R.val (.d .none), env) = some (r, env') from e)
  exact k .non H G (.refl G) (O.res .none)
theorem se_bool {bo : Bool} {j : Nat} {p : Pos} : PE X (.Constant (.bool bo) j p) (TEv I Φ (.bool bo)) := peImp L2.pe_bl fun σ H Q ⟨B, G, env, t, r, env', O, e, k⟩ => by
  cases (show some (R.val (.d (.bool bo)), env) = some (r, env') from e)
  exact k _ H G (.refl G) (O.res (.bool bo))
theorem se_int {i : Int} {j : Nat} {p : Pos} : PE X (.Constant (.int i) j p) (TEv I Φ (.int i)) := peImp L2.pe_int fun σ H Q ⟨B, G, env, t, r, env', O, e, k⟩ => by
  cases (show some (R.val (.d (.int i)), env) = some (r, env') from e)
  exact k _ H G (.refl G) (O.res (.int i))
theorem se_str {s : Str} {j : Nat} {p : Pos} : PE X (.Constant (.str s) j p) (TEv I Φ (.str s)) := peImp L2.pe_str fun σ H Q ⟨B, G, env, t, r, env', O, e, k⟩ => by
  cases (show some (R.val (.d (.str s)), env) = some (r, env') from e)
  exact k _ H G (.refl G) (O.res (.str s))
theorem Ok.find1 {B : Hp} {G : Gh} {σ : L2.St} {H : Hp} {env : Env} {t : List Rt} (O : Ok I B G σ H env t) {i : Nat} {bo : Bool} {w : W} (e : slot env i = some (bo, w)) : ∃ v f, σ[i]? = some (some v) ∧ RepW G H v w f :=
  let ⟨v, f, h1, h2, _⟩ := O.at e
  ⟨v, f, h1, h2⟩
theorem se_var {i : Nat} {x : Str} {p : Pos} (hN : X.N[i]? = some x) (hv : L2.Vis X.env.scope x) (hd : (x == ("__debug__" : Str)) = false) (hcd : (x == ("__classdict__" : Str)) = false) : PE X (.Name x p) (TEv I Φ (.var i)) := peImp (L2.pe_var hN hv hd hcd) fun σ H Q ⟨B, G, env, t, r, env', O, e, k⟩ => by
  have e' : (match slot env i with | some (_, .d x) => some (R.val (.d x), env) | some (_, _) => some (R.var i, env) | none => none) = some (r, env') := e
  cases hs : slot env i with
  | none => rw [hs] at e'; cases e'
  | some s =>
    obtain ⟨bo, w⟩ := s
    obtain ⟨v, f, h1, h2⟩ := O.find1 hs
    refine ⟨v, h1, ?_⟩
    rw [hs] at e'
    cases w with
    | d x =>
      cases e'
      cases h2 with
      | d h => exact k v H G (.refl G) (O.res h)
    | lst ws => cases e'; exact k v H G (.refl G) ⟨O, h1⟩
    | tup ws => cases e'; exact k v H G (.refl G) ⟨O, h1⟩
    | dct ks vs => cases e'; exact k v H G (.refl G) ⟨O, h1⟩
    | lk w => cases e'; exact k v H G (.refl G) ⟨O, h1⟩
/-- a module's whole number -/
theorem se_globI {x : Str} {i : Int} {u : Tok} {p : Pos} (hg : L2.Gl X x) (hm : X.mg x = some (.int i u)) (hd : (x == ("__debug__" : Str)) = false) : PE X (.Name x p) (TEv I Φ (.int i)) := peImp (L2.pe_glob hg hm (v := .int i) ⟨u, rfl⟩ hd) fun σ H Q ⟨B, G, env, t, r, env', O, e, k⟩ => by
  cases (show some (R.val (.d (.int i)), env) = some (r, env') from e)
  exact k _ H G (.refl G) (O.res (.int i))
theorem se_globS {x : Str} {z : Str} {u : Tok} {p : Pos} (hg : L2.Gl X x) (hm : X.mg x = some (.str z u)) (hd : (x == ("__debug__" : Str)) = false) : PE X (.Name x p) (TEv I Φ (.str z)) := peImp (L2.pe_glob hg hm (v := .str z) ⟨u, rfl⟩ hd) fun σ H Q ⟨B, G, env, t, r, env', O, e, k⟩ => by
  cases (show some (R.val (.d (.str z)), env) = some (r, env') from e)
  exact k _ H G (.refl G) (O.res (.str z))

/-! ### two operands -/
section
variable {B : Hp} {G : Gh} {σ : L2.St} {H : Hp} {env : Env} {t : List Rt}
theorem ext_swap {x y : V} {ra rb : R} : (ext y rb (ext x ra t)).Perm (ext x ra (ext y rb t)) := by
  cases ra <;> cases rb <;> first | exact .refl _ | exact .swap ..
theorem ext_mem {x : V} {r : R} : ∀ w, r = .val w → (x, w) ∈ ext x r t := fun w h => by subst h; exact List.mem_cons_self
theorem ext_mem2 {x y : V} {r rb : R} : ∀ w, r = .val w → (x, w) ∈ ext y rb (ext x r t) := fun w h => by
  cases rb <;> first | exact ext_mem w h | exact List.mem_cons_of_mem _ (ext_mem w h)
theorem fact_keep {H' : Hp} {v : V} {r : R} (h : Fact σ H v r) (ne : ∀ i k, r ≠ .elt i k) : Fact σ H' v r := by
  cases r with
  | val w => trivial
  | var i => exact h
  | elt i k => exact absurd rfl (ne i k)
end
/-- what two operands come to -/
structure Two (I : Inf) (B : Hp) (G : Gh) (σ : L2.St) (H : Hp) (env : Env) (t : List Rt) (x y : V) (ra rb : R) : Prop where
  ok : Ok I B G σ H env (ext y rb (ext x ra t))
  fx : Fact σ H x ra
  nx : ∀ i k, ra ≠ .elt i k
  fy : Fact σ H y rb
theorem Two.vx {B : Hp} {G : Gh} {σ : L2.St} {H : Hp} {env : Env} {t : List Rt} {x y : V} {ra rb : R} (T : Two I B G σ H env t x y ra rb) {d : D} (e : rd env ra = some d) : View H x d := T.ok.viewOf T.fx ext_mem2 e
theorem Two.vy {B : Hp} {G : Gh} {σ : L2.St} {H : Hp} {env : Env} {t : List Rt} {x y : V} {ra rb : R} (T : Two I B G σ H env t x y ra rb) {d : D} (e : rd env rb = some d) : View H y d := T.ok.viewOf T.fy ext_mem e
theorem Two.base {B : Hp} {G : Gh} {σ : L2.St} {H : Hp} {env : Env} {t : List Rt} {x y : V} {ra rb : R} (T : Two I B G σ H env t x y ra rb) : Ok I B G σ H env t := T.ok.unext.unext
/-- two expressions, the first one's value at hand -/
theorem two_run {σ : L2.St} {H : Hp} {B : Hp} {G : Gh} {env : Env} {t : List Rt} {ra : R} {env1 : Env} {ra' : R} {env1' : Env} {rb : R} {env2 : Env} {Z : V → V → Hp → Prop}
    (O : Ok I B G σ H env t) (h1 : (ev Φ ma).e env = some (ra, env1)) (h2 : stab env1 ra = some (ra', env1')) (h3 : (ev Φ mb).e env1' = some (rb, env2))
    (k : ∀ x y H' G', G.Le G' → Two I B G' σ H' env2 t x y ra' rb → Z x y H') : TEv I Φ ma σ H fun x H1 => TEv I Φ mb σ H1 fun y H2 => Z x y H2 := by
  refine ⟨B, G, env, t, ra, env1, O, h1, fun x H1 G1 l1 P1 => ?_⟩
  obtain ⟨G2, l2, P2, ne⟩ := P1.stab h2
  exact ⟨B, G2, env1', _, rb, env2, P2.1, h3, fun y H2 G3 l3 P3 => k x y H2 G3 ((l1.trans l2).trans l3) ⟨P3.1, fact_keep P2.2 ne, ne, P3.2⟩⟩
theorem pow_cond {i j : Int} (h : shOk i j = true) : L2.CPow i j := by
  unfold shOk at h
  simp only [Bool.and_eq_true, decide_eq_true_eq] at h
  exact ⟨h.1.1, h.1.2, h.2⟩
theorem opI_fin {f : Value → Value → PySem.Sem Value} {g : Int → Int → Int} {C : Int → Int → Prop} {i j : Int} {H : Hp} {Q : VK} (ho : OpR X f (L2.rI C fun i j => .int (g i j))) (hc : C i j) (q : Q (.int (g i j)) H) : anyOp X f (.int i) (.int j) H Q :=
  ⟨_, ho, i, j, rfl, rfl, hc, q⟩
theorem opI0_fin {f : Value → Value → PySem.Sem Value} {g : Int → Int → Int} {i j : Int} {H : Hp} {Q : VK} (ho : OpR X f (L2.rI0 fun i j => .int (g i j))) (q : Q (.int (g i j)) H) : anyOp X f (.int i) (.int j) H Q :=
  ⟨_, ho, i, j, rfl, rfl, q⟩
theorem binI_fin {o : Bop} {i j n : Int} {H : Hp} {Q : VK} (e : binI o i j = some n) (q : Q (.int n) H) : anyOp X (binaryOp (toOp o)) (.int i) (.int j) H Q := by
  cases o with
  | add => cases e; exact opI0_fin L2.op_add q
  | sub => cases e; exact opI0_fin L2.op_sub q
  | mul =>
    have e : (if small i || small j then some (i * j) else none) = some n := e
    split at e
    · rename_i h
      cases e
      refine opI_fin L2.op_mul ?_ q
      simp only [small, Bool.or_eq_true, Bool.and_eq_true, decide_eq_true_eq] at h
      exact h
    · cases e
  | fdiv =>
    have e : (if decide (0 < j) && decide (j < 1073741824) then some (i / j) else none) = some n := e
    split at e
    · rename_i h
      cases e
      simp only [Bool.and_eq_true, decide_eq_true_eq] at h
      exact opI_fin (g := fun i j => i / j) L2.op_fdiv h q
    · cases e
  | mod =>
    have e : (if 0 < j then some (i % j) else none) = some n := e
    split at e
    · rename_i h
      cases e
      exact opI_fin (C := fun _ j => 0 < j) (g := fun i j => i % j) L2.op_mod h q
    · cases e
  | pow =>
    have e : (if shOk i j then some (i ^ j.toNat) else none) = some n := e
    split at e
    · rename_i h
      cases e
      exact opI_fin (g := fun i j => i ^ j.toNat) L2.op_pow (pow_cond h) q
    · cases e
  | shl =>
    have e : (if shOk i j then some (i * 2 ^ j.toNat) else none) = some n := e
    split at e
    · rename_i h
      cases e
      exact opI_fin (g := fun i j => i * 2 ^ j.toNat) L2.op_shl (pow_cond h) q
    · cases e
  | shr =>
    have e : (if 0 ≤ j then some (i / 2 ^ j.toNat) else none) = some n := e
    split at e
    · rename_i h
      cases e
      exact opI_fin (C := fun _ j => 0 ≤ j) (g := fun i j => i / 2 ^ j.toNat) L2.op_shr h q
    · cases e
  | band => cases e; exact opI0_fin L2.op_and q
  | bor => cases e; exact opI0_fin L2.op_or q
  | bxor => cases e; exact opI0_fin L2.op_xor q
theorem ext_cons {y : V} {rb : R} {p : Rt} {t : List Rt} : (p :: ext y rb t).Perm (ext y rb (p :: t)) := by
  cases rb <;> first | exact .refl _ | exact .swap ..
/-- both operands kept -/
theorem Two.take2 {B : Hp} {G : Gh} {σ : L2.St} {H : Hp} {env : Env} {t : List Rt} {x y : V} {ra rb : R} (T : Two I B G σ H env t x y ra rb) {p q : W × Env} (e1 : Ev.take env ra = some p) (e2 : Ev.take p.2 rb = some q) :
    ∃ G', G.Le G' ∧ Ok I B G' σ H q.2 ((y, q.1) :: (x, p.1) :: t) := by
  obtain ⟨G1, l1, O1⟩ := Post.take (t := ext y rb t) ⟨T.ok.perm ext_swap, T.fx⟩ (w := p.1) (env' := p.2) e1
  obtain ⟨G2, l2, O2⟩ := Post.take (t := (x, p.1) :: t) (v := y) (r := rb) ⟨O1.perm ext_cons, T.fy⟩ (w := q.1) (env' := q.2) e2
  exact ⟨G2, l1.trans l2, O2⟩
theorem Ok.datum {B : Hp} {G : Gh} {σ : L2.St} {H : Hp} {env : Env} {t : List Rt} (O : Ok I B G σ H env t) {k : Nat} {v : V} {d : D} (e : t[k]? = some (v, .d d)) : Rep G v d := by
  obtain ⟨f, h, _⟩ := O.tmp e
  cases h with
  | d h => exact h
theorem repl_rep {G : Gh} {xs : List V} {ds : List D} (r : RepL G xs ds) : ∀ n : Nat, RepL G (List.replicate n xs).flatten (List.replicate n ds).flatten
  | 0 => .nil
  | n + 1 => by
    rw [List.replicate_succ, List.replicate_succ, List.flatten_cons, List.flatten_cons]
    exact r.append (repl_rep r n)
/-- the end of a two-place operator -/
theorem bin_fin {o : Bop} {B : Hp} {G : Gh} {σ : L2.St} {H : Hp} {env env' : Env} {t : List Rt} {x y : V} {ra rb r : R} {Q : VK} (T : Two I B G σ H env t x y ra rb) (e : binF o ra rb env = some (r, env'))
    (k : ∀ v H' G', G.Le G' → Post I B G' σ H' env' t v r → Q v H') : anyOp X (binaryOp (toOp o)) x y H Q := by
  unfold binF at e
  split at e
  · -- two lists
    rename_i l1 l2 h1 h2
    split at e
    · rename_i ho
      subst ho
      obtain ⟨p, s1, e⟩ := bindSome e
      obtain ⟨q, s2, e⟩ := bindSome e
      obtain ⟨G1, le1, O1, sx⟩ := (T.ok.perm ext_swap).shell T.fx s1
      obtain ⟨G2, le2, O2, sy⟩ := O1.shell T.fy s2
      split at e
      · rename_i X1 Y1 hx hy
        rw [hx] at sx; rw [hy] at sy
        obtain ⟨a1, xs, rfl, ha1, r1⟩ := sx
        obtain ⟨a2, ys, rfl, ha2, r2⟩ := sy
        split at e
        · rename_i hz
          cases e
          refine ⟨_, L2.op_cat, a1, a2, xs, ys, rfl, rfl, ha1, ha2, ?_, fun p hp => ?_⟩
          · rw [r1.length, r2.length]; exact of_decide_eq_true hz
          · exact k _ _ G2 (le1.trans le2) ⟨O2.newList hp ((r1.mono le2).append r2), trivial⟩
        · cases e
      · cases e
    · cases e
  · -- two tuples
    split at e
    · rename_i ho
      subst ho
      obtain ⟨p, s1, e⟩ := bindSome e
      obtain ⟨q, s2, e⟩ := bindSome e
      obtain ⟨G1, le1, O1⟩ := T.take2 s1 s2
      split at e
      · rename_i X1 Y1 hx hy
        rw [hx, hy] at O1
        have rx := O1.datum (k := 1) (v := x) (d := .tup X1) rfl
        have ry := O1.datum (k := 0) (v := y) (d := .tup Y1) rfl
        split at e
        · rename_i hz
          cases e
          simp only [Bool.and_eq_true, Bool.not_eq_true', List.isEmpty_eq_false_iff] at hz
          have O2 : Ok I B G1 σ H q.2 t := O1.drop1.drop1
          cases rx with
          | tup hx1 r1 =>
            rename_i a1 xs
            cases ry with
            | tup hy1 r2 =>
              rename_i a2 ys
              refine ⟨_, L2.op_catT, a1, a2, xs, ys, rfl, rfl, SqT.of (O2.fz _ _ hx1), SqT.of (O2.fz _ _ hy1), fun z => hz.2 ?_, ?_, fun z => ?_, fun z p hp => ?_⟩
              · have := r1.length; rw [z] at this; exact List.length_eq_zero_iff.mp this.symm
              · rw [r1.length, r2.length]; exact of_decide_eq_true hz.1
              · have hy0 : Y1 = [] := by have := r2.length; rw [z] at this; exact List.length_eq_zero_iff.mp this.symm
                subst hy0
                rw [List.append_nil] at k
                exact k _ _ G1 le1 (O2.res (.tup hx1 r1))
              · obtain ⟨G2, le2, P⟩ := O2.newTup hp (r1.append r2)
                exact k _ _ G2 (le1.trans le2) P
        · cases e
      · cases e
    · cases e
  · -- a list, times
    rename_i l1 n h1 h2
    split at e
    · rename_i ho
      subst ho
      obtain ⟨p, s1, e⟩ := bindSome e
      have vy := T.vy h2
      obtain ⟨G1, le1, O1, sx⟩ := (T.ok.perm ext_swap).shell T.fx s1
      split at e
      · rename_i X1 hx
        rw [hx] at sx
        obtain ⟨a1, xs, rfl, ha1, r1⟩ := sx
        split at e
        · rename_i hz
          cases e
          simp only [Bool.and_eq_true, decide_eq_true_eq] at hz
          cases vy
          refine ⟨_, L2.op_rep, a1, n, xs, rfl, rfl, ha1, hz.1.1, hz.1.2, ?_, fun p hp => ?_⟩
          · rw [r1.length]; exact of_decide_eq_true hz.2
          · exact k _ _ G1 le1 ⟨O1.unext.newList hp (repl_rep r1 n.toNat), trivial⟩
        · cases e
      · cases e
    · cases e
  · -- scalars
    rename_i d1 d2 _ _ _ h1 h2
    obtain ⟨d, e1, e2⟩ := mapSome e
    cases e2
    have vx := T.vx h1
    have vy := T.vy h2
    unfold binS at e1
    split at e1
    · obtain ⟨n, e3, e4⟩ := mapSome e1
      cases vx
      cases vy
      subst e4
      exact binI_fin e3 (k _ _ G (.refl G) (T.base.res (.int n)))
    · rename_i z1 z2
      split at e1
      · rename_i hz
        cases e1
        cases vx
        cases vy
        obtain ⟨ho, hz⟩ := hz
        subst ho
        exact ⟨_, L2.op_add_str, _, _, rfl, rfl, hz, k _ _ G (.refl G) (T.base.res (.str _))⟩
      · cases e1
    · cases e1
  · cases e
theorem se_bin {o : Bop} (ha : PE X a (TEv I Φ ma)) (hb : PE X b (TEv I Φ mb)) : PE X (.BinOp a (toOp o) b pos) (TEv I Φ (.bin o ma mb)) := peImp (pe_op any_op ha hb) fun σ H Q ⟨B, G, env, t, r, env', O, e, k⟩ => by
  obtain ⟨p, h1, e⟩ := bindSome e
  obtain ⟨p', h2, e⟩ := bindSome e
  obtain ⟨q, h3, e⟩ := bindSome e
  exact two_run O h1 h2 h3 fun x y H' G' l T => bin_fin T e fun v H'' G'' l' => k v H'' G'' (l.trans l')

/-! ### comparisons -/
theorem flat_view {H : Hp} {x : V} {d : D} (v : View H x d) (f : flatD d = true) : L2.flatV x = true := by
  cases v <;> first | rfl | cases f
theorem eqFlat_view {H : Hp} {x y : V} {d z : D} (v : View H x d) (u : View H y z) (f : flatD d = true) (g : flatD z = true) : L2.eqV y x = eqFlat z d := by
  cases v <;> cases u <;> first | rfl | cases f | cases g
theorem flats_view {H : Hp} {x : V} {d : D} (v : View H x d) (f : flatD d = true) : ∀ {xs : List V} {ds : List D}, ViewL H xs ds → ds.all flatD = true → xs.all L2.flatV = true ∧ L2.inV x xs = ds.any fun y => eqFlat y d
  | _, _, .nil, _ => ⟨rfl, rfl⟩
  | _, _, .cons a b, h => by
    rw [List.all_cons, Bool.and_eq_true] at h
    obtain ⟨h1, h2⟩ := flats_view v f b h.2
    refine ⟨by rw [List.all_cons, flat_view a h.1, h1]; rfl, ?_⟩
    show List.any _ _ = _
    rw [List.any_cons, List.any_cons, eqFlat_view v a f h.1]
    exact congrArg _ h2
theorem none_view {H : Hp} {x : V} {d : D} (v : View H x d) : decide (x = .non) = isNone d := by
  cases v <;> simp [isNone]
/-- the end of a comparison -/
theorem cmp_fin {o : Cop} {H : Hp} {x y : V} {d z : D} {k : Bool} {Q : VK} (hu : X.A.units + 65 < cLine) (vx : View H x d) (vy : View H y z) (e : cmpD o d z = some k) (q : Q (.bl k) H) : anyOp X (compareOp (toCop o)) x y H Q := by
  have eqC : ∀ {k'}, eqD d z = some k' → ∃ p r, toPy d = some p ∧ toPy z = some r ∧ SeqAt.shaped p = true ∧ SeqAt.shaped r = true ∧ k' = PyData.eqv p r := by
    intro k' h
    unfold eqD at h
    split at h
    · rename_i p r h1 h2
      split at h
      · rename_i hs
        cases h
        rw [Bool.and_eq_true] at hs
        exact ⟨p, r, h1, h2, hs.1, hs.2, rfl⟩
      · cases h
    · cases h
  have inC : ∀ {l : List D} {k'}, z = .list l → (if flatD d && l.all flatD then inFlat d l else inL d l) = some k' →
      (∃ a xs, y = .ref a ∧ SqL X.K H a xs ∧ L2.flatV x = true ∧ xs.all L2.flatV = true ∧ k' = L2.inV x xs) ∨ (∃ p ds, L2.Dp X.K H x p ∧ L2.Dp X.K H y (.list ds) ∧ SeqAt.shaped p = true ∧ SeqAt.shaped (.list ds) = true ∧ k' = ds.any fun z => PyData.eqv z p) := by
    intro l k' hz h
    subst hz
    split at h
    · rename_i hf
      unfold inFlat at h
      rw [if_pos hf] at h
      cases h
      rw [Bool.and_eq_true] at hf
      cases vy with
      | list hH r =>
        obtain ⟨f1, f2⟩ := flats_view vx hf.1 r hf.2
        exact .inl ⟨_, _, rfl, SqL.of hH, flat_view vx hf.1, f1, f2.symm⟩
    · unfold inL at h
      split at h
      · rename_i p ds h1 h2
        split at h
        · rename_i hs
          cases h
          rw [Bool.and_eq_true] at hs
          refine .inr ⟨p, ds, vx.dp h1, vy.dp (by rw [toPy, h2]; rfl), hs.1, hs.2, rfl⟩
        · cases h
      · cases h
  have inT : ∀ {l : List D} {k'}, z = .tup l → inFlat d l = some k' → ∃ a xs, y = .ref a ∧ SqT X.K H a xs ∧ L2.flatV x = true ∧ xs.all L2.flatV = true ∧ k' = L2.inV x xs := by
    intro l k' hz h
    subst hz
    unfold inFlat at h
    split at h
    · rename_i hf
      cases h
      rw [Bool.and_eq_true] at hf
      cases vy with
      | tup hH r =>
        obtain ⟨f1, f2⟩ := flats_view vx hf.1 r hf.2
        exact ⟨_, _, rfl, SqT.of hH, flat_view vx hf.1, f1, f2.symm⟩
    · cases h
  unfold cmpD at e
  split at e
  · cases e; cases vx; cases vy; exact ⟨_, L2.op_lt, _, _, rfl, rfl, q⟩
  · cases e; cases vx; cases vy; exact ⟨_, L2.op_le, _, _, rfl, rfl, q⟩
  · cases e; cases vx; cases vy; exact ⟨_, L2.op_gt, _, _, rfl, rfl, q⟩
  · cases e; cases vx; cases vy; exact ⟨_, L2.op_ge, _, _, rfl, rfl, q⟩
  · obtain ⟨p, r, h1, h2, h3, h4, rfl⟩ := eqC e
    exact ⟨_, L2.op_eqD (by omega), p, r, vx.dp h1, vy.dp h2, h3, h4, q⟩
  · obtain ⟨k', e1, rfl⟩ := mapSome e
    obtain ⟨p, r, h1, h2, h3, h4, rfl⟩ := eqC e1
    exact ⟨_, L2.op_neD (by omega), p, r, vx.dp h1, vy.dp h2, h3, h4, q⟩
  · cases e; cases vy
    refine ⟨_, L2.op_isN, rfl, ?_⟩
    rw [none_view vx]; exact q
  · cases e; cases vy
    refine ⟨_, L2.op_notN, rfl, ?_⟩
    rw [none_view vx]; exact q
  · cases e; cases vx; cases vy
    refine ⟨_, L2.op_is_bl, _, _, rfl, rfl, ?_⟩
    rw [← Bool.beq_eq_decide_eq]; exact q
  · cases e; cases vx; cases vy
    refine ⟨_, L2.op_isnot_bl, _, _, rfl, rfl, ?_⟩
    rw [← Bool.beq_eq_decide_eq]; exact q
  · rcases inC rfl e with ⟨a, xs, rfl, h1, h2, h3, rfl⟩ | ⟨p, ds, h1, h2, h3, h4, rfl⟩
    · exact ⟨_, L2.op_in_seq, a, xs, rfl, .inl h1, h2, h3, q⟩
    · exact ⟨_, L2.op_inD hu, p, ds, h1, h2, h3, h4, q⟩
  · obtain ⟨k', e1, rfl⟩ := mapSome e
    rcases inC rfl e1 with ⟨a, xs, rfl, h1, h2, h3, rfl⟩ | ⟨p, ds, h1, h2, h3, h4, rfl⟩
    · exact ⟨_, L2.op_notIn_seq, a, xs, rfl, .inl h1, h2, h3, q⟩
    · exact ⟨_, L2.op_notInD hu, p, ds, h1, h2, h3, h4, q⟩
  · obtain ⟨a, xs, rfl, h1, h2, h3, rfl⟩ := inT rfl e
    exact ⟨_, L2.op_in_seq, a, xs, rfl, .inr h1, h2, h3, q⟩
  · obtain ⟨k', e1, rfl⟩ := mapSome e
    obtain ⟨a, xs, rfl, h1, h2, h3, rfl⟩ := inT rfl e1
    exact ⟨_, L2.op_notIn_seq, a, xs, rfl, .inr h1, h2, h3, q⟩
  · cases e
theorem se_cmp {o : Cop} (hu : X.A.units + 65 < cLine) (ha : PE X a (TEv I Φ ma)) (hb : PE X b (TEv I Φ mb)) (hm : behindInMarks (toCop o) b = false) : PE X (.Compare a [toCop o] [b] pos) (TEv I Φ (.cmp o ma mb)) := peImp (pe_cmpR any_op ha hb hm) fun σ H Q ⟨B, G, env, t, r, env', O, e, k⟩ => by
  obtain ⟨p, h1, e⟩ := bindSome e
  obtain ⟨p', h2, e⟩ := bindSome e
  obtain ⟨q, h3, e⟩ := bindSome e
  refine two_run O h1 h2 h3 fun x y H' G' l T => ?_
  split at e
  · rename_i d z hd hz
    obtain ⟨c, e1, e2⟩ := mapSome e
    cases e2
    exact cmp_fin hu (T.vx hd) (T.vy hz) e1 (k _ _ _ l (T.base.res (.bool c)))
  · cases e
end
end Ev
end
section
set_option linter.all false
set_option autoImplicit false
set_option maxRecDepth 10000
/-! Ev6: more rules of expressions: tests, displays, arguments, items, slices, fields. -/
namespace Ev
open PySem PySem.Spec PyProof.Rows
open L2 (V HO Hp upd upd_same upd_ne SqL SqT Rd Key Cx PE PT PW PA PC TE TT TA OpR IxR UnR CallR VK R2 pe_op pe_un pe_cmpR EP Inv RelV Vals)

def anyUn (X : Cx) (f : Value → PySem.Sem Value) : V → Hp → VK → Prop := fun x H Q => ∃ r, UnR X f r ∧ r x H Q
theorem any_un {X : Cx} {f : Value → PySem.Sem Value} : UnR X f (anyUn X f) := fun pins s σ H x v Q I rx ⟨_, ho, h⟩ => ho pins s σ H x v Q I rx h
def anySl (X : Cx) : V → Option Int → Option Int → Hp → VK → Prop := fun x lo hi H Q => ∃ r, L2.SlR X r ∧ r x lo hi H Q
theorem any_sl {X : Cx} : L2.SlR X (anySl X) := fun pins s σ H x v vl vu lo hi sl Q I rx h1 h2 h3 ⟨_, ho, h⟩ => ho pins s σ H x v vl vu lo hi sl Q I rx h1 h2 h3 h
section
variable (I : Inf) (Φ : Fns)
/-- an expression that changes nothing at all -/
def TPv (m : E) : TE := fun σ H Q => ∃ B G env t r, Ok I B G σ H env t ∧ (ev Φ m).e env = some (r, env) ∧ ∀ v, Post I B G σ H env t v r → Q v H
def TOv (m : E) : L2.TO := fun σ H Q => ∃ B G env t o env', Ok I B G σ H env t ∧ (ev Φ m).o env = some (o, env') ∧ ∀ H' G', G.Le G' → Ok I B G' σ H' env' t → Q o H'
end
section
variable {X : Cx} {I : Inf} {Φ : Fns} {a b c : Expr} {ma mb mc : E} {pos : Pos}
/-! ### pure ones -/
theorem sp_none {j : Nat} {p : Pos} : PE X (.Constant .none j p) (TPv I Φ .none_) := peImp L2.pe_non fun σ H Q ⟨B, G, env, t, r, O, e, k⟩ => by
  cases (show some (R.val (.d .none), env) = some (r, env) from e)
  exact k .non (O.res .none)
theorem sp_bool {bo : Bool} {j : Nat} {p : Pos} : PE X (.Constant (.bool bo) j p) (TPv I Φ (.bool bo)) := peImp L2.pe_bl fun σ H Q ⟨B, G, env, t, r, O, e, k⟩ => by
  cases (show some (R.val (.d (.bool bo)), env) = some (r, env) from e)
  exact k _ (O.res (.bool bo))
theorem sp_int {i : Int} {j : Nat} {p : Pos} : PE X (.Constant (.int i) j p) (TPv I Φ (.int i)) := peImp L2.pe_int fun σ H Q ⟨B, G, env, t, r, O, e, k⟩ => by
  cases (show some (R.val (.d (.int i)), env) = some (r, env) from e)
  exact k _ (O.res (.int i))
theorem sp_str {s : Str} {j : Nat} {p : Pos} : PE X (.Constant (.str s) j p) (TPv I Φ (.str s)) := peImp L2.pe_str fun σ H Q ⟨B, G, env, t, r, O, e, k⟩ => by
  cases (show some (R.val (.d (.str s)), env) = some (r, env) from e)
  exact k _ (O.res (.str s))
theorem var_run {i : Nat} {B : Hp} {G : Gh} {σ : L2.St} {H : Hp} {env env' : Env} {t : List Rt} {r : R} (O : Ok I B G σ H env t) (e : (ev Φ (.var i)).e env = some (r, env')) : env' = env ∧ ∃ v, σ[i]? = some (some v) ∧ Post I B G σ H env t v r := by
  have e' : (match slot env i with | some (_, .d x) => some (R.val (.d x), env) | some (_, _) => some (R.var i, env) | none => none) = some (r, env') := e
  cases hs : slot env i with
  | none => rw [hs] at e'; cases e'
  | some s =>
    obtain ⟨bo, w⟩ := s
    obtain ⟨v, f, h1, h2⟩ := O.find1 hs
    rw [hs] at e'
    cases w with
    | d x =>
      cases e'
      cases h2 with
      | d h => exact ⟨rfl, v, h1, O.res h⟩
    | lst ws => cases e'; exact ⟨rfl, v, h1, O, h1⟩
    | tup ws => cases e'; exact ⟨rfl, v, h1, O, h1⟩
    | dct ks vs => cases e'; exact ⟨rfl, v, h1, O, h1⟩
    | lk w => cases e'; exact ⟨rfl, v, h1, O, h1⟩
theorem sp_var {i : Nat} {x : Str} {p : Pos} (hN : X.N[i]? = some x) (hv : L2.Vis X.env.scope x) (hd : (x == ("__debug__" : Str)) = false) (hcd : (x == ("__classdict__" : Str)) = false) : PE X (.Name x p) (TPv I Φ (.var i)) := peImp (L2.pe_var hN hv hd hcd) fun σ H Q ⟨B, G, env, t, r, O, e, k⟩ => by
  obtain ⟨_, v, h1, P⟩ := var_run O e
  exact ⟨v, h1, k v P⟩

/-! ### one operand -/
theorem se_neg (ha : PE X a (TEv I Φ ma)) : PE X (.UnaryOp .USub a pos) (TEv I Φ (.neg ma)) := peImp (pe_un any_un ha) fun σ H Q ⟨B, G, env, t, r, env', O, e, k⟩ => by
  obtain ⟨p, h1, e⟩ := bindSome e
  refine ⟨B, G, env, t, p.1, p.2, O, h1, fun x H1 G1 l P => ?_⟩
  split at e
  · rename_i i hi
    cases e
    have vx := P.view hi
    cases vx
    exact ⟨_, L2.un_neg, _, rfl, k _ _ _ l (P.ok.res (.int _))⟩
  · cases e
theorem se_inv (ha : PE X a (TEv I Φ ma)) : PE X (.UnaryOp .Invert a pos) (TEv I Φ (.inv ma)) := peImp (pe_un any_un ha) fun σ H Q ⟨B, G, env, t, r, env', O, e, k⟩ => by
  obtain ⟨p, h1, e⟩ := bindSome e
  refine ⟨B, G, env, t, p.1, p.2, O, h1, fun x H1 G1 l P => ?_⟩
  split at e
  · rename_i i hi
    cases e
    have vx := P.view hi
    cases vx
    exact ⟨_, L2.un_inv, _, rfl, k _ _ _ l (P.ok.res (.int _))⟩
  · cases e

/-! ### chains -/
theorem chain_run {o o' : Cop} {σ : L2.St} {H : Hp} {Q : VK} (hu : X.A.units + 65 < cLine)
    (h : TEv I Φ (.chain o o' ma mb mc) σ H Q) : L2.tChain (anyOp X (compareOp (toCop o))) (anyOp X (compareOp (toCop o'))) (TEv I Φ ma) (TEv I Φ mb) (TEv I Φ mc) σ H Q := by
  obtain ⟨B, G, env, t, r, env', O, e, k⟩ := h
  obtain ⟨p, h1, e⟩ := bindSome e
  obtain ⟨p', h2, e⟩ := bindSome e
  obtain ⟨q, h3, e⟩ := bindSome e
  obtain ⟨q', h4, e⟩ := bindSome e
  refine two_run O h1 h2 h3 fun x y H1 G1 l1 T => ?_
  obtain ⟨G2, l2, Py, ney⟩ := Post.stab ⟨T.ok, T.fy⟩ h4
  split at e
  · rename_i dx dy hx hy
    obtain ⟨c1, e1, e⟩ := bindSome e
    have T2 : Two I B G2 σ H1 q'.2 t x y p'.1 q'.1 := ⟨Py.1, T.fx, T.nx, Py.2⟩
    refine cmp_fin hu (T2.vx hx) (T2.vy hy) e1 ⟨c1, rfl, ?_⟩
    cases c1 with
    | true =>
      rw [if_pos rfl] at e ⊢
      obtain ⟨r', h5, e⟩ := bindSome e
      refine ⟨B, G2, q'.2, ext y q'.1 (ext x p'.1 t), r'.1, r'.2, Py.1, h5, fun z H2 G3 l3 P3 => ?_⟩
      split at e
      · rename_i dy2 dz hy2 hz
        obtain ⟨c2, e2, e3⟩ := mapSome e
        cases e3
        have vy2 : View H2 y dy2 := P3.1.viewOf (fact_keep Py.2 ney) ext_mem2 hy2
        exact cmp_fin hu vy2 (P3.view hz) e2 (k _ _ _ ((l1.trans l2).trans l3) (P3.ok.unext.unext.res (.bool c2)))
      · cases e
    | false =>
      rw [if_neg Bool.false_ne_true] at e ⊢
      cases e
      exact k _ _ _ (l1.trans l2) (T2.base.res (.bool false))
  · cases e
theorem se_chain {o o' : Cop} (hu : X.A.units + 65 < cLine) (ha : PE X a (TEv I Φ ma)) (hb : PE X b (TEv I Φ mb)) (hc : PE X c (TEv I Φ mc)) (hm : lastMarks [toCop o, toCop o'] [b, c] = false) : PE X (.Compare a [toCop o, toCop o'] [b, c] pos) (TEv I Φ (.chain o o' ma mb mc)) :=
  peImp (L2.pe_chain any_op any_op ha hb hc hm) fun σ H Q h => chain_run hu h

/-! ### tests -/
theorem truth_view {K : PySem.W.Frag} {H : Hp} {x : V} {d : D} {k : Bool} (v : View H x d) (e : truth d = some k) : L2.TruV K x H k := by
  cases v with
  | none => cases e; rfl
  | bool b => cases e; rfl
  | int i => cases e; rfl
  | str s => cases e
  | list h r => cases e; refine .inl ⟨_, SqL.of h, ?_⟩; cases r <;> rfl
  | tup h r => cases e; refine .inr (.inl ⟨_, SqT.of h, ?_⟩); cases r <;> rfl
  | scr => cases e
  | obj h => cases e
/-- a node without a test of its own -/
def PlainT (Φ : Fns) (m : E) : Prop := (ev Φ m).t = fun env => ((ev Φ m).e env).bind fun p => (rd p.2 p.1).bind fun x => (truth x).map fun k => (k, p.2)
theorem plain_run (pl : PlainT Φ ma) {σ : L2.St} {H : Hp} {Q : Bool → Hp → Prop} (h : TTv I Φ ma σ H Q) : TEv I Φ ma σ H fun x H' => ∃ d k, View H' x d ∧ truth d = some k ∧ Q k H' := by
  obtain ⟨B, G, env, t, k, env', O, e, q⟩ := h
  rw [pl] at e
  obtain ⟨p, h1, e⟩ := bindSome e
  obtain ⟨d, h2, e⟩ := bindSome e
  obtain ⟨k', h3, e⟩ := mapSome e
  cases e
  exact ⟨B, G, env, t, p.1, p.2, O, h1, fun x H1 G1 l P => ⟨d, k, P.view h2, h3, q H1 G1 l P.ok⟩⟩
theorem st_truth (pl : PlainT Φ ma) (ha : PE X a (TEv I Φ ma)) (he : ∀ whole, isTrue a X.env whole = (do let v ← whole; standAt a.pos; holding [v] (truthy v))) : PT X a (TTv I Φ ma) :=
  ptImp (L2.pt_truth ha he) fun σ H Q h => by
    obtain ⟨B, G, env, t, r, env', O, e, k⟩ := plain_run pl h
    exact ⟨B, G, env, t, r, env', O, e, fun x H1 G1 l P => let ⟨d, c, v, e1, q⟩ := k x H1 G1 l P; ⟨c, truth_view v e1, q⟩⟩
theorem bool_of {H : Hp} {x : V} {d : D} {k c : Bool} (h : x = .bl c) (v : View H x d) (e : truth d = some k) : c = k := by
  subst h
  cases v
  cases e; rfl
theorem st_cmp {o : Cop} (hu : X.A.units + 65 < cLine) (ha : PE X a (TEv I Φ ma)) (hb : PE X b (TEv I Φ mb)) (hm : behindInMarks (toCop o) b = false) : PT X (.Compare a [toCop o] [b] pos) (TTv I Φ (.cmp o ma mb)) :=
  ptImp (L2.pt_cmpR any_op ha hb hm) fun σ H Q ⟨B, G, env, t, k, env', O, e, q⟩ => by
    obtain ⟨p, h1, e⟩ := bindSome e
    obtain ⟨d, h2, e⟩ := bindSome e
    obtain ⟨k', h3, e⟩ := mapSome e
    cases e
    obtain ⟨p1, e1, h1⟩ := bindSome h1
    obtain ⟨p1', e2, h1⟩ := bindSome h1
    obtain ⟨q1, e3, h1⟩ := bindSome h1
    refine two_run O e1 e2 e3 fun x y H' G' l T => ?_
    split at h1
    · rename_i d1 d2 hd hz
      obtain ⟨c, e4, e5⟩ := mapSome h1
      cases e5
      cases h2
      have hk : c = k := Option.some.inj h3
      subst hk
      exact cmp_fin hu (T.vx hd) (T.vy hz) e4 ⟨c, rfl, q _ _ l T.base⟩
    · cases h1
theorem st_chain {o o' : Cop} (hu : X.A.units + 65 < cLine) (ha : PE X a (TEv I Φ ma)) (hb : PE X b (TEv I Φ mb)) (hc : PE X c (TEv I Φ mc)) (hm : lastMarks [toCop o, toCop o'] [b, c] = false) : PT X (.Compare a [toCop o, toCop o'] [b, c] pos) (TTv I Φ (.chain o o' ma mb mc)) :=
  ptImp (L2.pt_chain any_op any_op ha hb hc hm) fun σ H Q h => chain_run hu (by
    obtain ⟨B, G, env, t, r, env', O, e, k⟩ := plain_run (ma := .chain o o' ma mb mc) rfl h
    refine ⟨B, G, env, t, r, env', O, e, fun x H1 G1 l P => ?_⟩
    obtain ⟨d, c, v, e1, q⟩ := k x H1 G1 l P
    have hr : ∃ kk, r = .val (.d (.bool kk)) := by
      obtain ⟨p, h1, e⟩ := bindSome e
      obtain ⟨p', h2, e⟩ := bindSome e
      obtain ⟨q, h3, e⟩ := bindSome e
      obtain ⟨q', h4, e⟩ := bindSome e
      split at e
      · obtain ⟨c1, e1, e⟩ := bindSome e
        cases c1 with
        | true =>
          rw [if_pos rfl] at e
          obtain ⟨r', h5, e⟩ := bindSome e
          split at e
          · obtain ⟨c2, _, e3⟩ := mapSome e; cases e3; exact ⟨_, rfl⟩
          · cases e
        | false => rw [if_neg Bool.false_ne_true] at e; cases e; exact ⟨_, rfl⟩
      · cases e
    obtain ⟨kk, rfl⟩ := hr
    have rp := P.1.datum (k := 0) (v := x) (d := .bool kk) rfl
    cases rp
    exact ⟨kk, rfl, bool_of rfl v e1 ▸ q⟩)
theorem st_not (ha : PT X a (TTv I Φ ma)) : PT X (.UnaryOp .Not a pos) (TTv I Φ (.not_ ma)) := ptImp (L2.pt_not ha) fun σ H Q ⟨B, G, env, t, k, env', O, e, q⟩ => by
  obtain ⟨p, h1, h2⟩ := mapSome e
  cases h2
  exact ⟨B, G, env, t, p.1, p.2, O, h1, fun H1 G1 l O1 => q H1 G1 l O1⟩
theorem st_and1 (ha : PT X a (TTv I Φ ma)) : PW X (.BoolOp .And [a] pos) (TTv I Φ ma) := L2.pw_and1 ha
theorem st_or1 (ha : PT X a (TTv I Φ ma)) : PW X (.BoolOp .Or [a] pos) (TTv I Φ ma) := L2.pw_or1 ha
theorem st_and {rest : List Expr} (ha : PT X a (TTv I Φ ma)) (hb : PW X (.BoolOp .And (b :: rest) pos) (TTv I Φ mb)) : PW X (.BoolOp .And (a :: b :: rest) pos) (TTv I Φ (.and_ ma mb)) := pwImp (L2.pw_and ha hb) fun σ H Q ⟨B, G, env, t, k, env', O, e, q⟩ => by
  obtain ⟨p, h1, e⟩ := bindSome e
  refine ⟨B, G, env, t, p.1, p.2, O, h1, fun H1 G1 l O1 => ?_⟩
  split at e
  · rename_i hp
    rw [if_pos hp]
    exact ⟨B, G1, p.2, t, k, env', O1, e, fun H2 G2 l2 O2 => q H2 G2 (l.trans l2) O2⟩
  · rename_i hp
    rw [if_neg hp]
    cases e
    exact q H1 G1 l O1
theorem st_or {rest : List Expr} (ha : PT X a (TTv I Φ ma)) (hb : PW X (.BoolOp .Or (b :: rest) pos) (TTv I Φ mb)) : PW X (.BoolOp .Or (a :: b :: rest) pos) (TTv I Φ (.or_ ma mb)) := pwImp (L2.pw_or ha hb) fun σ H Q ⟨B, G, env, t, k, env', O, e, q⟩ => by
  obtain ⟨p, h1, e⟩ := bindSome e
  refine ⟨B, G, env, t, p.1, p.2, O, h1, fun H1 G1 l O1 => ?_⟩
  split at e
  · rename_i hp
    rw [if_pos hp]
    cases e
    exact q H1 G1 l O1
  · rename_i hp
    rw [if_neg hp]
    exact ⟨B, G1, p.2, t, k, env', O1, e, fun H2 G2 l2 O2 => q H2 G2 (l.trans l2) O2⟩
/-! as values -/
theorem se_one {op : BoolOp} (ha : PE X a (TEv I Φ ma)) : PE X (.BoolOp op [a] pos) (TEv I Φ ma) := L2.pe_one ha
theorem se_and {rest : List Expr} (ha : PE X a (TEv I Φ ma)) (hb : PE X (.BoolOp .And (b :: rest) pos) (TEv I Φ mb)) : PE X (.BoolOp .And (a :: b :: rest) pos) (TEv I Φ (.and_ ma mb)) := peImp (L2.pe_and ha hb) fun σ H Q ⟨B, G, env, t, r, env', O, e, k⟩ => by
  obtain ⟨p, h1, e⟩ := bindSome e
  refine ⟨B, G, env, t, p.1, p.2, O, h1, fun x H1 G1 l P => ?_⟩
  split at e
  · rename_i hp
    have vx := P.view hp
    cases vx
    exact ⟨true, rfl, by rw [if_pos rfl]; exact ⟨B, G1, p.2, t, r, env', P.ok, e, fun v H2 G2 l2 P2 => k v H2 G2 (l.trans l2) P2⟩⟩
  · rename_i hp
    have vx := P.view hp
    cases vx
    cases e
    exact ⟨false, rfl, by rw [if_neg Bool.false_ne_true]; exact k _ _ _ l (P.ok.res (.bool false))⟩
  · cases e
theorem se_or {rest : List Expr} (ha : PE X a (TEv I Φ ma)) (hb : PE X (.BoolOp .Or (b :: rest) pos) (TEv I Φ mb)) : PE X (.BoolOp .Or (a :: b :: rest) pos) (TEv I Φ (.or_ ma mb)) := peImp (L2.pe_or ha hb) fun σ H Q ⟨B, G, env, t, r, env', O, e, k⟩ => by
  obtain ⟨p, h1, e⟩ := bindSome e
  refine ⟨B, G, env, t, p.1, p.2, O, h1, fun x H1 G1 l P => ?_⟩
  split at e
  · rename_i hp
    have vx := P.view hp
    cases vx
    cases e
    exact ⟨true, rfl, by rw [if_pos rfl]; exact k _ _ _ l (P.ok.res (.bool true))⟩
  · rename_i hp
    have vx := P.view hp
    cases vx
    exact ⟨false, rfl, by rw [if_neg Bool.false_ne_true]; exact ⟨B, G1, p.2, t, r, env', P.ok, e, fun v H2 G2 l2 P2 => k v H2 G2 (l.trans l2) P2⟩⟩
  · cases e
theorem se_not (ha : PE X a (TEv I Φ ma)) : PE X (.UnaryOp .Not a pos) (TEv I Φ (.not_ ma)) := peImp (L2.pe_not ha) fun σ H Q ⟨B, G, env, t, r, env', O, e, k⟩ => by
  obtain ⟨p, h1, e⟩ := bindSome e
  refine ⟨B, G, env, t, p.1, p.2, O, h1, fun x H1 G1 l P => ?_⟩
  split at e
  · rename_i c hp
    have vx := P.view hp
    cases vx
    cases e
    exact ⟨c, rfl, k _ _ _ l (P.ok.res (.bool (!c)))⟩
  · cases e
theorem se_ite (hc : PT X c (TTv I Φ mc)) (ha : PE X a (TEv I Φ ma)) (hb : PE X b (TEv I Φ mb)) : PE X (.IfExp c a b pos) (TEv I Φ (.ite mc ma mb)) := peImp (L2.pe_ifExp hc ha hb) fun σ H Q ⟨B, G, env, t, r, env', O, e, k⟩ => by
  obtain ⟨p, h1, e⟩ := bindSome e
  refine ⟨B, G, env, t, p.1, p.2, O, h1, fun H1 G1 l O1 => ?_⟩
  split at e
  · rename_i hp
    rw [if_pos hp]
    exact ⟨B, G1, p.2, t, r, env', O1, e, fun v H2 G2 l2 P2 => k v H2 G2 (l.trans l2) P2⟩
  · rename_i hp
    rw [if_neg hp]
    exact ⟨B, G1, p.2, t, r, env', O1, e, fun v H2 G2 l2 P2 => k v H2 G2 (l.trans l2) P2⟩

/-! ### what is kept; displays -/
theorem sk_nil : PA X [] (TKv I Φ .nil) := paImp L2.pa_nil fun σ H Q ⟨B, G, env, t, ws, env', O, e, k⟩ => by
  cases (show some (([] : List W), env) = some (ws, env') from e)
  exact k [] H G (.refl G) rfl O
theorem sk_cons {es : List Expr} {mr : E} (ha : PE X a (TEv I Φ ma)) (hr : PA X es (TKv I Φ mr)) (hs : starEach (a :: es) X.env = (false, eval a X.env) :: starEach es X.env) : PA X (a :: es) (TKv I Φ (.cons ma mr)) := paImp (L2.pa_cons ha hr hs) fun σ H Q ⟨B, G, env, t, ws, env', O, e, k⟩ => by
  obtain ⟨p, h1, e⟩ := bindSome e
  obtain ⟨p', h2, e⟩ := bindSome e
  obtain ⟨q, h3, e⟩ := mapSome e
  cases e
  refine ⟨B, G, env, t, p.1, p.2, O, h1, fun x H1 G1 l P => ?_⟩
  obtain ⟨G2, l2, O2⟩ := P.take h2
  refine ⟨B, G2, p'.2, _, q.1, q.2, O2, h3, fun vs H2 G3 l3 hl O3 => ?_⟩
  exact k (x :: vs) H2 G3 ((l.trans l2).trans l3) (by simp [hl]) (O3.perm List.perm_middle)
theorem se_list {es : List Expr} {m : E} (h : PA X es (TKv I Φ m)) : PE X (.List es pos) (TEv I Φ (.list m)) := peImp (L2.pe_lst h) fun σ H Q ⟨B, G, env, t, r, env', O, e, k⟩ => by
  obtain ⟨p, h1, e⟩ := bindSome e
  split at e
  · rename_i hz
    cases e
    refine ⟨B, G, env, t, p.1, p.2, O, h1, fun vs H1 G1 l hl O1 => ⟨by rw [hl]; exact of_decide_eq_true hz, fun q hq => ?_⟩⟩
    refine k _ _ G1 l ⟨O1.node hq fun {fp} z => ?_, trivial⟩
    rw [List.map_fst_zip (by omega), List.map_snd_zip (by omega)] at z
    exact .lst upd_same z
  · cases e
theorem repWL_ds {G : Gh} {H : Hp} : ∀ {xs : List V} {ws : List W} {fp : List Addr}, RepWL G H xs ws fp → ws.all isD = true → RepL G xs (frzL ws)
  | _, _, _, .nil, _ => .nil
  | _, _, _, .cons (w := w) a b, h => by
    rw [List.all_cons, Bool.and_eq_true] at h
    cases a with
    | d r => rw [frzL, frz]; exact .cons r (repWL_ds b h.2)
    | lst _ _ => cases h.1
    | tup _ _ => cases h.1
    | lk _ => cases h.1
theorem Ok.data {B : Hp} {G : Gh} {σ : L2.St} {H : Hp} {env : Env} {t t1 : List Rt} (O : Ok I B G σ H env (t1 ++ t)) (h : (t1.map (·.2)).all isD = true) : RepL G (t1.map (·.1)) (frzL (t1.map (·.2))) := by
  obtain ⟨R, fp, s, r, o⟩ := O.tr
  rw [List.append_assoc] at r
  obtain ⟨f, g, _, r1, _⟩ := RepWP.unapp r
  exact repWL_ds r1 h
theorem se_tup {es : List Expr} {m : E} {x1 : Nat} (h : PA X es (TKv I Φ m)) : PE X (.Tuple es x1 pos) (TEv I Φ (.tup m)) := peImp (L2.pe_tup h) fun σ H Q ⟨B, G, env, t, r, env', O, e, k⟩ => by
  obtain ⟨p, h1, e⟩ := bindSome e
  split at e
  · rename_i hz
    refine ⟨B, G, env, t, p.1, p.2, O, h1, fun vs H1 G1 l hl O1 => ⟨by rw [hl]; exact of_decide_eq_true hz, fun q hq => ?_⟩⟩
    split at e
    · rename_i hd
      cases e
      have m1 : (vs.zip p.1).map (·.1) = vs := List.map_fst_zip (by omega)
      have m2 : (vs.zip p.1).map (·.2) = p.1 := List.map_snd_zip (by omega)
      have rl := O1.data (by rw [m2]; exact hd)
      rw [m1, m2] at rl
      obtain ⟨G2, l2, P⟩ := O1.drop.newTup hq rl
      exact k _ _ G2 (l.trans l2) P
    · cases e
      refine k _ _ G1 l ⟨O1.node hq fun {fp} z => ?_, trivial⟩
      rw [List.map_fst_zip (by omega), List.map_snd_zip (by omega)] at z
      exact .tup upd_same z
  · cases e

/-! ### arguments -/
theorem extL_ext {x : V} {r : R} {t : List Rt} : ∀ {vs : List V} {rs : List R}, (extL vs rs (ext x r t)).Perm (ext x r (extL vs rs t))
  | [], rs => by cases rs <;> exact .refl _
  | v :: vs, [] => .refl _
  | v :: vs, r' :: rs => by
    have ih := extL_ext (x := x) (r := r) (t := t) (vs := vs) (rs := rs)
    show (ext v r' (extL vs rs (ext x r t))).Perm (ext x r (ext v r' (extL vs rs t)))
    have h1 : (ext v r' (extL vs rs (ext x r t))).Perm (ext v r' (ext x r (extL vs rs t))) := by cases r' <;> first | exact ih | exact ih.cons _
    exact h1.trans ext_swap
theorem sa_nil : PA X [] (TAv I Φ .nil) := paImp L2.pa_nil fun σ H Q ⟨B, G, env, t, rs, env', O, e, k⟩ => by
  cases (show some (([] : List R), env) = some (rs, env') from e)
  exact k [] H G (.refl G) O trivial
theorem sa_cons {es : List Expr} {mr : E} (ha : PE X a (TEv I Φ ma)) (hr : PA X es (TAv I Φ mr)) (hs : starEach (a :: es) X.env = (false, eval a X.env) :: starEach es X.env) : PA X (a :: es) (TAv I Φ (.cons ma mr)) := paImp (L2.pa_cons ha hr hs) fun σ H Q ⟨B, G, env, t, rs, env', O, e, k⟩ => by
  obtain ⟨p, h1, e⟩ := bindSome e
  obtain ⟨p', h2, e⟩ := bindSome e
  obtain ⟨q, h3, e⟩ := mapSome e
  cases e
  refine ⟨B, G, env, t, p.1, p.2, O, h1, fun x H1 G1 l P => ?_⟩
  obtain ⟨G2, l2, P2, ne⟩ := P.stab h2
  refine ⟨B, G2, p'.2, _, q.1, q.2, P2.1, h3, fun vs H2 G3 l3 O3 F3 => ?_⟩
  refine k (x :: vs) H2 G3 ((l.trans l2).trans l3) (O3.perm extL_ext) ⟨?_, F3⟩
  have f := P2.2
  cases hr' : p'.1 with
  | val w => trivial
  | var i => rw [hr'] at f; exact f
  | elt i j => exact absurd hr' (ne i j)
end
end Ev
end
section
set_option linter.all false
set_option autoImplicit false
set_option maxRecDepth 10000
/-! Ev7: a list that is a name's, an item's or a temporary: written. -/
namespace Ev
open PySem PySem.Spec PyProof.Rows
open L2 (V HO Hp upd upd_same upd_ne SqL SqT Rd Key Cx PE PT PW PA PC TE TT TA OpR IxR UnR CallR VK R2 pe_op pe_un pe_cmpR EP Inv RelV Vals)

theorem nodup_swap {A A' C : List Addr} (h : (A ++ C).Nodup) (n : A'.Nodup) (s : ∀ p ∈ A', p ∈ A) : (A' ++ C).Nodup :=
  List.nodup_append.mpr ⟨n, (List.nodup_append.mp h).2.1, fun a ha b hb => (List.nodup_append.mp h).2.2 a (s a ha) b hb⟩
section
variable {I : Inf} {B : Hp} {G : Gh} {σ : L2.St} {H : Hp} {env : Env} {t t1 : List Rt}
/-- a list at l is written; C: all other addresses of the trees; A: those within the list, and of what is consumed -/
theorem Ok.written (O : Ok I B G σ H env (t1 ++ t)) {l : Addr} {xs' : List V} {A C fp : List Addr} {R R' : List Rt} {env' : Env} {t2 : List Rt} {f2 f' : List Addr}
    (ow : Own G B fp) (pm : fp.Perm (A ++ (l :: C))) (le : Lent I σ env') (s' : Slots σ env' R') (f0 : List Addr) (r' : RepWP G (upd H l (.lst xs')) (t ++ R') f0) (pm' : f0.Perm (f' ++ C) ∨ f0.Perm (f' ++ (l :: C)))
    (r2 : RepWP G (upd H l (.lst xs')) t2 f2) (nd : (f2 ++ f').Nodup) (sub : ∀ p ∈ f2 ++ f', p ∈ A) : Ok I B G σ (upd H l (.lst xs')) env' (t2 ++ t) := by
  have own1 : Own G B (A ++ (l :: C)) := ow.perm pm
  have hl : l ∈ A ++ (l :: C) := List.mem_append_right _ List.mem_cons_self
  obtain ⟨z1, z2, z3⟩ := own1.no l hl
  have st : Step G H [l] G (upd H l (.lst xs')) := Step.write O.fz List.mem_cons_self z1
  refine O.rest st (fun p hp => by rw [List.mem_singleton.mp hp]; exact ⟨z2, z3⟩) le ⟨R', f2 ++ f0, s', ?_, ?_⟩
  · rw [List.append_assoc]; exact r2.app r'
  · have base : Own G B ((f2 ++ f') ++ (l :: C)) := ⟨nodup_swap own1.nd nd sub, fun p hp => own1.no p ((List.mem_append.mp hp).elim (fun h => List.mem_append_left _ (sub p h)) (List.mem_append_right _))⟩
    rcases pm' with pm' | pm'
    · have base2 : Own G B ((f2 ++ f') ++ C) := ⟨(List.nodup_append.mpr ⟨(List.nodup_append.mp base.nd).1, (List.nodup_cons.mp (List.nodup_append.mp base.nd).2.1).2, fun a ha b hb => (List.nodup_append.mp base.nd).2.2 a ha b (List.mem_cons_of_mem _ hb)⟩),
        fun p hp => base.no p ((List.mem_append.mp hp).elim (List.mem_append_left _) fun h => List.mem_append_right _ (List.mem_cons_of_mem _ h))⟩
      refine base2.perm ?_
      rw [List.append_assoc]
      exact List.Perm.append_left f2 pm'.symm
    · refine base.perm ?_
      rw [List.append_assoc]
      exact List.Perm.append_left f2 pm'.symm
/-- the list that a name, an item or a temporary is: what stands there, and how it may be written -/
theorem Ok.loc {x : V} {r : R} {ws : List W} (O : Ok I B G σ H env (t1 ++ ext x r t)) (hf : Fact σ H x r) (e : getW env r = some (.lst ws)) :
    ∃ l xs f g1, x = .ref l ∧ H l = some (.lst xs) ∧ RepWL G H xs ws f ∧ RepWP G H t1 g1 ∧ l ∉ f ++ g1 ∧ (f ++ g1).Nodup ∧
      ∀ (xs' : List V) (ws' : List W) (f' : List Addr) (t2 : List Rt) (f2 : List Addr), RepWL G (upd H l (.lst xs')) xs' ws' f' → RepWP G (upd H l (.lst xs')) t2 f2 → (f2 ++ f').Nodup → (∀ p ∈ f2 ++ f', p ∈ f ++ g1) →
        Ok I B G σ (upd H l (.lst xs')) (setW env r (.lst ws')) (t2 ++ t) := by
  cases r with
  | val w0 =>
    cases e
    obtain ⟨R, fp, s, rr, ow⟩ := O.tr
    rw [List.append_assoc] at rr
    obtain ⟨g1, g2, rfl, r1, r2⟩ := RepWP.unapp rr
    obtain ⟨fx, gt, rfl, rx, rt⟩ := RepWP.uncons (R := t ++ R) r2
    cases rx with
    | lst hH rl =>
      rename_i l xs f
      have pm : (g1 ++ (l :: f ++ gt)).Perm ((f ++ g1) ++ (l :: gt)) := List.perm_iff_count.mpr fun a => by simp only [List.count_append, List.count_cons]; omega
      have own1 := ow.perm pm
      have nl : l ∉ f ++ g1 := fun h => (List.nodup_append.mp own1.nd).2.2 l h l List.mem_cons_self rfl
      refine ⟨l, xs, f, g1, rfl, hH, rl, r1, nl, (List.nodup_append.mp own1.nd).1, fun xs' ws' f' t2 f2 h1 h2 nd sub => ?_⟩
      have ngt : l ∉ gt := (List.nodup_cons.mp (List.nodup_append.mp own1.nd).2.1).1
      have rt' : RepWP G (upd H l (.lst xs')) (t ++ R) gt := rt.frame (.refl G) fun p hp => upd_ne fun z => ngt (z ▸ hp)
      exact Ok.written (t1 := t1 ++ [(.ref l, .lst ws)]) (t := t) (by rw [List.append_assoc]; exact O) ow pm O.lent s gt rt' (f' := []) (.inl (.refl _)) h2
        (by rw [List.append_nil]; exact (List.nodup_append.mp nd).1) (by rw [List.append_nil]; exact fun p hp => sub p (List.mem_append_left _ hp)) (R := R)
  | var i =>
    obtain ⟨⟨b, w1⟩, hs, h2⟩ := mapSome (show (slot env i).map (·.2) = some (.lst ws) from e)
    have h2' : w1 = .lst ws := h2
    subst h2'
    obtain ⟨R, fp, s, rr, ow⟩ := O.tr
    have rr' : RepWP G H (t1 ++ (t ++ R)) fp := by rw [← List.append_assoc]; exact rr
    obtain ⟨g1, g2, rfl, r1, r2⟩ := RepWP.unapp rr'
    obtain ⟨gt, gR, rfl, rt, rR⟩ := RepWP.unapp r2
    obtain ⟨k, v, q1, q2, q3⟩ := s.at hs
    have q : σ[i]? = some (some x) := hf
    rw [q1] at q; cases q
    have e2 : (R.map (·.2))[k]? = some (.lst ws) := by rw [List.getElem?_map, q2]; rfl
    have e1 : (R.map (·.1))[k]? = some x := by rw [List.getElem?_map, q2]; rfl
    obtain ⟨v', a1, a, a2, h1, h2, h3, h4⟩ := RepWL.focus rR e2
    rw [e1] at h1; cases h1
    subst h2
    cases h3 with
    | lst hH rl =>
      rename_i l xs f
      have pm : (g1 ++ (gt ++ (a1 ++ (l :: f ++ a2)))).Perm ((f ++ g1) ++ (l :: (gt ++ a1 ++ a2))) := List.perm_iff_count.mpr fun a => by simp only [List.count_append, List.count_cons]; omega
      have own1 := ow.perm pm
      have nl : l ∉ f ++ g1 := fun h => (List.nodup_append.mp own1.nd).2.2 l h l List.mem_cons_self rfl
      have nC : l ∉ gt ++ a1 ++ a2 := (List.nodup_cons.mp (List.nodup_append.mp own1.nd).2.1).1
      refine ⟨l, xs, f, g1, rfl, hH, rl, r1, nl, (List.nodup_append.mp own1.nd).1, fun xs' ws' f' t2 f2 z1 z2 nd sub => ?_⟩
      have z : RepWL G (upd H l (.lst xs')) (R.map (·.1)) ((R.map (·.2)).set k (.lst ws')) (a1 ++ (l :: f' ++ a2)) :=
        h4 (.refl G) (fun p hp => upd_ne fun z => nC (z ▸ List.mem_append_left _ (List.mem_append_right _ hp))) (fun p hp => upd_ne fun z => nC (z ▸ List.mem_append_right _ hp)) (.lst upd_same z1)
      have m1 : (R.set k (.ref l, .lst ws')).map (·.1) = R.map (·.1) := by rw [List.map_set]; exact set_same e1
      have m2 : (R.set k (.ref l, .lst ws')).map (·.2) = (R.map (·.2)).set k (.lst ws') := by rw [List.map_set]
      have rt' : RepWP G (upd H l (.lst xs')) t gt := rt.frame (.refl G) fun p hp => upd_ne fun z => nC (z ▸ List.mem_append_left _ (List.mem_append_left _ hp))
      have rR' : RepWP G (upd H l (.lst xs')) (R.set k (.ref l, .lst ws')) (a1 ++ (l :: f' ++ a2)) := by unfold RepWP; rw [m1, m2]; exact z
      have se : setW env (.var i) (.lst ws') = env.set i (some (b, .lst ws')) := put_eq hs
      rw [se]
      exact Ok.written (t1 := t1) (t := t) O ow pm (O.lent.set hs (fun z => nomatch z)) (q3 b (.lst ws')) _ (rt'.app rR') (f' := f') (.inr (List.perm_iff_count.mpr fun a => by simp only [List.count_append, List.count_cons]; omega)) z2 nd sub (R := R)
  | elt i j =>
    obtain ⟨a0, xs0, y1, y2, y3⟩ := hf
    have e' : (match slot env i with | some (_, .lst ws) => ws[j]? | _ => none) = some (.lst ws) := e
    cases hs : slot env i with
    | none => rw [hs] at e'; cases e'
    | some sl =>
      obtain ⟨b, w1⟩ := sl
      rw [hs] at e'
      cases w1 with
      | lst ws0 =>
        obtain ⟨R, fp, s, rr, ow⟩ := O.tr
        have rr' : RepWP G H (t1 ++ (t ++ R)) fp := by rw [← List.append_assoc]; exact rr
        obtain ⟨g1, g2, rfl, r1, r2⟩ := RepWP.unapp rr'
        obtain ⟨gt, gR, rfl, rt, rR⟩ := RepWP.unapp r2
        obtain ⟨k, v, q1, q2, q3⟩ := s.at hs
        rw [y1] at q1; cases q1
        have e2 : (R.map (·.2))[k]? = some (.lst ws0) := by rw [List.getElem?_map, q2]; rfl
        have e1 : (R.map (·.1))[k]? = some (.ref a0) := by rw [List.getElem?_map, q2]; rfl
        obtain ⟨v', a1, a, a2, h1, h2, h3, h4⟩ := RepWL.focus rR e2
        rw [e1] at h1; cases h1
        subst h2
        cases h3 with
        | lst hH rl0 =>
          rename_i xs1 F
          rw [y2] at hH; cases hH
          obtain ⟨v'', b1, bb, b2, h1', h2', h3', h4'⟩ := RepWL.focus rl0 e'
          rw [y3] at h1'; cases h1'
          subst h2'
          cases h3' with
          | lst hH rl =>
            rename_i l xs f
            have pm : (g1 ++ (gt ++ (a1 ++ (a0 :: (b1 ++ (l :: f ++ b2)) ++ a2)))).Perm ((f ++ g1) ++ (l :: (gt ++ a1 ++ a2 ++ (a0 :: (b1 ++ b2))))) := List.perm_iff_count.mpr fun a => by simp only [List.count_append, List.count_cons]; omega
            have own1 := ow.perm pm
            have nl : l ∉ f ++ g1 := fun h => (List.nodup_append.mp own1.nd).2.2 l h l List.mem_cons_self rfl
            have nC : l ∉ gt ++ a1 ++ a2 ++ (a0 :: (b1 ++ b2)) := (List.nodup_cons.mp (List.nodup_append.mp own1.nd).2.1).1
            have nC1 : ∀ p, p ∈ gt ∨ p ∈ a1 ∨ p ∈ a2 ∨ p = a0 ∨ p ∈ b1 ∨ p ∈ b2 → p ≠ l := fun p h z => nC (by
              subst z
              simp only [List.mem_append, List.mem_cons]
              rcases h with h | h | h | h | h | h
              · exact .inl (.inl (.inl h))
              · exact .inl (.inl (.inr h))
              · exact .inl (.inr h)
              · exact .inr (.inl h)
              · exact .inr (.inr (.inl h))
              · exact .inr (.inr (.inr h)))
            refine ⟨l, xs, f, g1, rfl, hH, rl, r1, nl, (List.nodup_append.mp own1.nd).1, fun xs' ws' f' t2 f2 z1 z2 nd sub => ?_⟩
            have zi : RepWL G (upd H l (.lst xs')) xs0 (ws0.set j (.lst ws')) (b1 ++ (l :: f' ++ b2)) :=
              h4' (.refl G) (fun p hp => upd_ne (nC1 p (.inr (.inr (.inr (.inr (.inl hp))))))) (fun p hp => upd_ne (nC1 p (.inr (.inr (.inr (.inr (.inr hp))))))) (.lst upd_same z1)
            have zo : RepWL G (upd H l (.lst xs')) (R.map (·.1)) ((R.map (·.2)).set k (.lst (ws0.set j (.lst ws')))) (a1 ++ (a0 :: (b1 ++ (l :: f' ++ b2)) ++ a2)) :=
              h4 (.refl G) (fun p hp => upd_ne (nC1 p (.inr (.inl hp)))) (fun p hp => upd_ne (nC1 p (.inr (.inr (.inl hp))))) (.lst ((upd_ne (nC1 a0 (.inr (.inr (.inr (.inl rfl)))))).trans y2) zi)
            have m1 : (R.set k (.ref a0, .lst (ws0.set j (.lst ws')))).map (·.1) = R.map (·.1) := by rw [List.map_set]; exact set_same e1
            have m2 : (R.set k (.ref a0, .lst (ws0.set j (.lst ws')))).map (·.2) = (R.map (·.2)).set k (.lst (ws0.set j (.lst ws'))) := by rw [List.map_set]
            have rt' : RepWP G (upd H l (.lst xs')) t gt := rt.frame (.refl G) fun p hp => upd_ne (nC1 p (.inl hp))
            have rR' : RepWP G (upd H l (.lst xs')) (R.set k (.ref a0, .lst (ws0.set j (.lst ws')))) (a1 ++ (a0 :: (b1 ++ (l :: f' ++ b2)) ++ a2)) := by unfold RepWP; rw [m1, m2]; exact zo
            have se : setW env (.elt i j) (.lst ws') = env.set i (some (b, .lst (ws0.set j (.lst ws')))) := by
              show (match slot env i with | some (_, .lst ws) => put env i (.lst (ws.set j _)) | _ => env) = _
              rw [hs]; exact put_eq hs
            rw [se]
            exact Ok.written (t1 := t1) (t := t) O ow pm (O.lent.set hs (fun z => nomatch z)) (q3 b _) _ (rt'.app rR') (f' := f') (.inr (List.perm_iff_count.mpr fun a => by simp only [List.count_append, List.count_cons]; omega)) z2 nd sub (R := R)
      | _ => cases e'
end
end Ev
end
section
set_option linter.all false
set_option autoImplicit false
set_option maxRecDepth 10000
/-! Ev8: methods of lists, items, slices, fields, targets. -/
namespace Ev
open PySem PySem.Spec PyProof.Rows
open L2 (V HO Hp upd upd_same upd_ne SqL SqT Rd Key Cx PE PT PW PA PC PG PGs TE TT TA TG TGs OpR IxR UnR CallR MtR VK R2 pe_op pe_un pe_cmpR EP Inv RelV Vals)

section
variable {I : Inf} {B : Hp} {G : Gh} {σ : L2.St} {H : Hp} {env : Env} {t t1 : List Rt}
theorem okR_some {p p' : Ev.R × Env} {b : E} (h : okR p b = some p') : p' = p ∧ (∃ ws, getW p.2 p.1 = some (.lst ws)) ∧ ((∀ i k, p.1 ≠ .elt i k) ∨ pureE b = true) := by
  unfold okR at h
  split at h
  · rename_i ws hw
    split at h
    · split at h
      · rename_i hp
        cases h; exact ⟨rfl, ⟨ws, hw⟩, .inr hp⟩
      · cases h
    · rename_i hn
      cases h
      exact ⟨rfl, ⟨ws, hw⟩, .inl fun i k e => hn i k e⟩
  · cases h
theorem list_view {x : V} {ws : List W} {l : List D} (v : View H x (.list l)) : ∃ a xs, x = .ref a ∧ H a = some (.lst xs) := by
  cases v with
  | list h r => exact ⟨_, _, rfl, h⟩
theorem Post.lst {v : V} {r : Ev.R} (P : Post I B G σ H env t v r) {ws : List W} (e : getW env r = some (.lst ws)) : ∃ a xs, v = .ref a ∧ H a = some (.lst xs) := by
  have := P.view (d := .list (frzL ws)) (by unfold rd; rw [e]; simp)
  cases this with
  | list h r => exact ⟨_, _, rfl, h⟩
theorem pure_env {Φ : Fns} {m : E} (h : pureE m = true) {env env' : Env} {r : Ev.R} (e : (ev Φ m).e env = some (r, env')) : env' = env := by
  cases m with
  | none_ => cases e; rfl
  | bool b => cases e; rfl
  | int i => cases e; rfl
  | str s => cases e; rfl
  | var i =>
    have e' : (match slot env i with | some (_, .d x) => some (R.val (.d x), env) | some (_, _) => some (R.var i, env) | none => none) = some (r, env') := e
    split at e' <;> cases e' <;> rfl
  | _ => cases h
/-- one address's write leaves the others' trees -/
theorem RepWL.off {l : Addr} {o : HO} {xs : List V} {ws : List W} {f : List Addr} (r : RepWL G H xs ws f) (h : l ∉ f) : RepWL G (upd H l o) xs ws f := r.frame (.refl G) fun p hp => upd_ne fun z => h (z ▸ hp)
theorem RepW.off {l : Addr} {o : HO} {x : V} {w : W} {f : List Addr} (r : RepW G H x w f) (h : l ∉ f) : RepW G (upd H l o) x w f := r.frame (.refl G) fun p hp => upd_ne fun z => h (z ▸ hp)
theorem RepWL.puts : ∀ {xs : List V} {ws : List W} {fp : List Addr} {k : Nat} {v : V} {w : W} {g : List Addr}, RepWL G H xs ws fp → k < ws.length → RepW G H v w g →
    ∃ f1 f f2, fp = f1 ++ (f ++ f2) ∧ RepWL G H (xs.set k v) (ws.set k w) (f1 ++ (g ++ f2))
  | _, _, _, 0, v, w, g, .cons (f := f) (g := g') a b, _, r => ⟨[], f, g', rfl, by rw [List.nil_append]; exact .cons r b⟩
  | _, _, _, k + 1, v, w, g, .cons (f := f0) (g := g') a b, h, r => by
    obtain ⟨f1, f, f2, e, r'⟩ := RepWL.puts (k := k) b (Nat.lt_of_succ_lt_succ h) r
    refine ⟨f0 ++ f1, f, f2, by rw [e, List.append_assoc], ?_⟩
    rw [List.append_assoc]
    exact .cons a r'
  | _, _, _, _, _, _, _, .nil, h, _ => absurd h (Nat.not_lt_zero _)
/-- a new item behind -/
theorem Ok.append {x y : V} {r : Ev.R} {ws : List W} {w : W} (O : Ok I B G σ H env ((y, w) :: ext x r t)) (hf : Fact σ H x r) (e : getW env r = some (.lst ws)) :
    ∃ l xs, x = .ref l ∧ H l = some (.lst xs) ∧ xs.length = ws.length ∧ Ok I B G σ (upd H l (.lst (xs ++ [y]))) (setW env r (.lst (ws ++ [w]))) t := by
  obtain ⟨l, xs, f, g1, h1, h2, h3, h4, h5, h6, h7⟩ := Ok.loc (t1 := [(y, w)]) O hf e
  refine ⟨l, xs, h1, h2, h3.length, ?_⟩
  have a1 : l ∉ f := fun h => h5 (List.mem_append_left _ h)
  have a2 : l ∉ g1 := fun h => h5 (List.mem_append_right _ h)
  have h4' : RepWL G H [y] [w] g1 := h4
  exact h7 (xs ++ [y]) (ws ++ [w]) (f ++ g1) [] [] (RepWL.append (h3.off a1) (h4'.off a2)) .nil (by rw [List.nil_append]; exact h6) fun p hp => by rw [List.nil_append] at hp; exact hp
/-- new frozen items behind -/
theorem Ok.extend {x : V} {r : Ev.R} {ws : List W} {ys : List V} {ds : List D} (O : Ok I B G σ H env (ext x r t)) (hf : Fact σ H x r) (e : getW env r = some (.lst ws)) (ry : RepL G ys ds) :
    ∃ l xs, x = .ref l ∧ H l = some (.lst xs) ∧ xs.length = ws.length ∧ Ok I B G σ (upd H l (.lst (xs ++ ys))) (setW env r (.lst (ws ++ ds.map W.d))) t := by
  obtain ⟨l, xs, f, g1, h1, h2, h3, h4, h5, h6, h7⟩ := Ok.loc (t1 := []) O hf e
  refine ⟨l, xs, h1, h2, h3.length, ?_⟩
  have a1 : l ∉ f := fun h => h5 (List.mem_append_left _ h)
  have q : RepWL G (upd H l (.lst (xs ++ ys))) (xs ++ ys) (ws ++ ds.map W.d) (f ++ []) := RepWL.append (h3.off a1) (RepWL.of ry)
  rw [List.append_nil] at q
  exact h7 (xs ++ ys) (ws ++ ds.map W.d) f [] [] q .nil (by rw [List.nil_append]; exact (List.nodup_append.mp h6).1) fun p hp => by rw [List.nil_append] at hp; exact List.mem_append_left _ hp
/-- an item taken out -/
theorem Ok.popped {x : V} {r : Ev.R} {ws : List W} {k : Nat} {w : W} (O : Ok I B G σ H env (ext x r t)) (hf : Fact σ H x r) (e : getW env r = some (.lst ws)) (hk : ws[k]? = some w) :
    ∃ l xs y, x = .ref l ∧ H l = some (.lst xs) ∧ xs.length = ws.length ∧ xs[k]? = some y ∧ Ok I B G σ (upd H l (.lst (xs.eraseIdx k))) (setW env r (.lst (ws.eraseIdx k))) ((y, w) :: t) := by
  obtain ⟨l, xs, f, g1, h1, h2, h3, h4, h5, h6, h7⟩ := Ok.loc (t1 := []) O hf e
  obtain ⟨y, fy, g, q1, q2, q3, q4⟩ := h3.erase hk
  refine ⟨l, xs, y, h1, h2, h3.length, q1, ?_⟩
  have a1 : l ∉ f := fun h => h5 (List.mem_append_left _ h)
  have a2 : l ∉ fy := fun h => a1 (q2.mem_iff.mpr (List.mem_append_left _ h))
  have a3 : l ∉ g := fun h => a1 (q2.mem_iff.mpr (List.mem_append_right _ h))
  have n := (List.nodup_append.mp h6).1
  refine h7 (xs.eraseIdx k) (ws.eraseIdx k) g [(y, w)] fy (q4.off a3) ?_ (q2.nodup_iff.mp n) fun p hp => List.mem_append_left _ (q2.mem_iff.mpr hp)
  have z : RepWP G (upd H l (.lst (xs.eraseIdx k))) [(y, w)] (fy ++ []) := RepWP.cons (q3.off a2) .nil
  rw [List.append_nil] at z
  exact z
/-- an item put in another one's place -/
theorem Ok.stored {x y : V} {r : Ev.R} {ws : List W} {k : Nat} {w : W} (O : Ok I B G σ H env ((y, w) :: ext x r t)) (hf : Fact σ H x r) (e : getW env r = some (.lst ws)) (hk : k < ws.length) :
    ∃ l xs, x = .ref l ∧ H l = some (.lst xs) ∧ xs.length = ws.length ∧ Ok I B G σ (upd H l (.lst (xs.set k y))) (setW env r (.lst (ws.set k w))) t := by
  obtain ⟨l, xs, f, g1, h1, h2, h3, h4, h5, h6, h7⟩ := Ok.loc (t1 := [(y, w)]) O hf e
  have a1 : l ∉ f := fun h => h5 (List.mem_append_left _ h)
  have a2 : l ∉ g1 := fun h => h5 (List.mem_append_right _ h)
  obtain ⟨gy, g0, hg, ry, rn⟩ := RepWP.uncons h4
  have hg0 : g0 = [] := by cases rn; rfl
  subst hg0
  rw [List.append_nil] at hg
  subst hg
  refine ⟨l, xs, h1, h2, h3.length, ?_⟩
  obtain ⟨f1, f0, f2, q1, q2⟩ := RepWL.puts (h3.off (o := .lst (xs.set k y)) a1) hk (ry.off a2)
  refine h7 (xs.set k y) (ws.set k w) _ [] [] q2 .nil ?_ fun p hp => ?_
  · rw [List.nil_append]
    subst q1
    have n1 := (List.nodup_append.mp h6)
    have n2 := List.nodup_append.mp n1.1
    have n3 := List.nodup_append.mp n2.2.1
    refine List.nodup_append.mpr ⟨n2.1, List.nodup_append.mpr ⟨n1.2.1, n3.2.1, fun a ha b hb z => ?_⟩, fun a ha b hb z => ?_⟩
    · exact n1.2.2 b (List.mem_append_right _ (List.mem_append_right _ hb)) a ha z.symm
    · rcases List.mem_append.mp hb with hb | hb
      · exact n1.2.2 a (List.mem_append_left _ ha) b hb z
      · exact n2.2.2 a ha b (List.mem_append_right _ hb) z
  · rw [List.nil_append] at hp
    subst q1
    rcases List.mem_append.mp hp with hp | hp
    · exact List.mem_append_left _ (List.mem_append_left _ hp)
    · rcases List.mem_append.mp hp with hp | hp
      · exact List.mem_append_right _ hp
      · exact List.mem_append_left _ (List.mem_append_right _ (List.mem_append_right _ hp))
/-- a temporary node's children -/
theorem Ok.children {v : V} {ws : List W} (O : Ok I B G σ H env ((v, .tup ws) :: t)) : ∃ a xs, v = .ref a ∧ H a = some (.tup xs) ∧ xs.length = ws.length ∧ Ok I B G σ H env (xs.zip ws ++ t) := by
  obtain ⟨R, fp, s, r, o⟩ := O.tr
  obtain ⟨f, g, rfl, rx, rt⟩ := RepWP.uncons (R := t ++ R) r
  cases rx with
  | tup hH rl =>
    rename_i a xs f
    refine ⟨a, xs, rfl, hH, rl.length, O.fz, O.ca, O.cl, O.fn, O.sc, O.bp, O.bz, O.lent, R, f ++ g, s, ?_, ?_⟩
    · rw [List.append_assoc]
      refine RepWP.app ?_ rt
      unfold RepWP
      have hl := rl.length
      rw [List.map_fst_zip (by omega), List.map_snd_zip (by omega)]
      exact rl
    · exact ⟨(List.nodup_cons.mp o.nd).2, fun p hp => o.no p (List.mem_cons_of_mem _ hp)⟩
theorem Ok.childL {v : V} {ws : List W} {k : Nat} {w : W} (O : Ok I B G σ H env ((v, .lst ws) :: t)) (hk : ws[k]? = some w) : ∃ a xs y, v = .ref a ∧ H a = some (.lst xs) ∧ xs.length = ws.length ∧ xs[k]? = some y ∧ Ok I B G σ H env ((y, w) :: t) := by
  obtain ⟨R, fp, s, r, o⟩ := O.tr
  obtain ⟨f, g, rfl, rx, rt⟩ := RepWP.uncons (R := t ++ R) r
  cases rx with
  | lst hH rl =>
    rename_i a xs f
    obtain ⟨y, fy, g', q1, q2, q3, _⟩ := rl.erase hk
    refine ⟨a, xs, y, rfl, hH, rl.length, q1, O.fz, O.ca, O.cl, O.fn, O.sc, O.bp, O.bz, O.lent, R, fy ++ g, s, RepWP.cons q3 rt, ?_⟩
    have n := (List.nodup_cons.mp o.nd).2
    have n' := List.nodup_append.mp n
    refine ⟨List.nodup_append.mpr ⟨(List.nodup_append.mp (q2.nodup_iff.mp n'.1)).1, n'.2.1, fun a ha b hb => n'.2.2 a (q2.mem_iff.mpr (List.mem_append_left _ ha)) b hb⟩, fun p hp => o.no p (List.mem_cons_of_mem _ ?_)⟩
    exact (List.mem_append.mp hp).elim (fun h => List.mem_append_left _ (q2.mem_iff.mpr (List.mem_append_left _ h))) (List.mem_append_right _)
theorem Ok.childT {v : V} {ws : List W} {k : Nat} {w : W} (O : Ok I B G σ H env ((v, .tup ws) :: t)) (hk : ws[k]? = some w) : ∃ a xs y, v = .ref a ∧ H a = some (.tup xs) ∧ xs.length = ws.length ∧ xs[k]? = some y ∧ Ok I B G σ H env ((y, w) :: t) := by
  obtain ⟨R, fp, s, r, o⟩ := O.tr
  obtain ⟨f, g, rfl, rx, rt⟩ := RepWP.uncons (R := t ++ R) r
  cases rx with
  | tup hH rl =>
    rename_i a xs f
    obtain ⟨y, fy, g', q1, q2, q3, _⟩ := rl.erase hk
    refine ⟨a, xs, y, rfl, hH, rl.length, q1, O.fz, O.ca, O.cl, O.fn, O.sc, O.bp, O.bz, O.lent, R, fy ++ g, s, RepWP.cons q3 rt, ?_⟩
    have n := (List.nodup_cons.mp o.nd).2
    have n' := List.nodup_append.mp n
    refine ⟨List.nodup_append.mpr ⟨(List.nodup_append.mp (q2.nodup_iff.mp n'.1)).1, n'.2.1, fun a ha b hb => n'.2.2 a (q2.mem_iff.mpr (List.mem_append_left _ ha)) b hb⟩, fun p hp => o.no p (List.mem_cons_of_mem _ ?_)⟩
    exact (List.mem_append.mp hp).elim (fun h => List.mem_append_left _ (q2.mem_iff.mpr (List.mem_append_left _ h))) (List.mem_append_right _)
end

section
variable {X : Cx} {I : Inf} {Φ : Fns} {a b c : Expr} {ma mb mc : E} {pos apos cpos : Pos}
theorem ext_nil_perm {y : V} {w : W} {x : V} {r : Ev.R} {t : List Rt} : (((y, w) :: ext x r t)).Perm (ext x r ((y, w) :: t)) := ext_cons
/-- the receiver and one argument -/
theorem recv_run {Z : V → V → Hp → Prop} {σ : L2.St} {H : Hp} {B : Hp} {G : Gh} {env : Env} {t : List Rt} {p q : Ev.R × Env} (np : pureE mb = false) (O : Ok I B G σ H env t) (h1 : (ev Φ ma).e env = some p) (h2 : okR p mb = some p) (h3 : (ev Φ mb).e p.2 = some q)
    (k : ∀ x y H' G', G.Le G' → Two I B G' σ H' q.2 t x y p.1 q.1 → Z x y H') : TEv I Φ ma σ H fun x H1 => L2.tyV X.K "list" x H1 ∧ TEv I Φ mb σ H1 fun y H2 => Z x y H2 := by
  obtain ⟨_, ⟨ws, hw⟩, ne⟩ := okR_some h2
  have ne' : ∀ i k, p.1 ≠ .elt i k := ne.resolve_right (by rw [np]; exact Bool.false_ne_true)
  refine ⟨B, G, env, t, p.1, p.2, O, h1, fun x H1 G1 l1 P1 => ?_⟩
  obtain ⟨a0, xs, rfl, ha⟩ := P1.lst hw
  exact ⟨.inl ⟨rfl, _, SqL.of ha⟩, B, G1, p.2, _, q.1, q.2, P1.1, h3, fun y H2 G2 l2 P2 => k _ y H2 G2 (l1.trans l2) ⟨P2.1, fact_keep P1.2 ne', ne', P2.2⟩⟩
theorem recv_pure {Z : V → V → Hp → Prop} {σ : L2.St} {H : Hp} {B : Hp} {G : Gh} {env : Env} {t : List Rt} {p q : Ev.R × Env} (hp : pureE mb = true) (O : Ok I B G σ H env t) (h1 : (ev Φ ma).e env = some p) (h2 : okR p mb = some p) (h3 : (ev Φ mb).e p.2 = some q)
    (k : ∀ x y H' G', G.Le G' → Ok I B G' σ H' q.2 (ext y q.1 (ext x p.1 t)) → Fact σ H' x p.1 → Fact σ H' y q.1 → Z x y H') : TEv I Φ ma σ H fun x H1 => L2.tyV X.K "list" x H1 ∧ TPv I Φ mb σ H1 fun y H2 => Z x y H2 := by
  obtain ⟨_, ⟨ws, hw⟩, ne⟩ := okR_some h2
  have he := pure_env hp h3
  refine ⟨B, G, env, t, p.1, p.2, O, h1, fun x H1 G1 l1 P1 => ?_⟩
  obtain ⟨a0, xs, rfl, ha⟩ := P1.lst hw
  refine ⟨.inl ⟨rfl, _, SqL.of ha⟩, B, G1, p.2, _, q.1, P1.1, by rw [h3]; rw [← he], fun y P2 => ?_⟩
  exact k _ y H1 G1 l1 (by rw [he]; exact P2.1) P1.2 P2.2
theorem append_fin {σ : L2.St} {H : Hp} {B : Hp} {G : Gh} {env env' : Env} {t : List Rt} {x y : V} {rp rq r : Ev.R} {Q : VK} (O : Ok I B G σ H env (ext y rq (ext x rp t))) (fx : Fact σ H x rp) (fy : Fact σ H y rq)
    (e : ((Ev.take env rq).bind fun t => match getW t.2 rp with
      | some (.lst ws) => if decide (ws.length < sizeLine) then some (R.val (.d .none), setW t.2 rp (.lst (ws ++ [t.1]))) else none
      | _ => none) = some (r, env'))
    (k : ∀ v H' G', G.Le G' → Post I B G' σ H' env' t v r → Q v H') : L2.rAppend x [y] H Q := by
  obtain ⟨p, h1, e⟩ := bindSome e
  obtain ⟨G1, l1, O1⟩ := Post.take (t := ext x rp t) ⟨O, fy⟩ (w := p.1) (env' := p.2) h1
  split at e
  · rename_i ws hw
    split at e
    · rename_i hz
      cases e
      obtain ⟨l, xs, rfl, hH, hl, O2⟩ := O1.append fx hw
      refine ⟨l, xs, y, rfl, rfl, hH, by rw [hl]; exact of_decide_eq_true hz, ?_⟩
      exact k _ _ G1 l1 (O2.res .none)
    · cases e
  · cases e
theorem se_append (ha : PE X a (TEv I Φ ma)) (hb : PE X b (TEv I Φ mb)) (hp : pureE mb = true → PE X b (TPv I Φ mb))
    (hbase : attributeBase a "append" X.env (eval a X.env) = eval a X.env) (hs : starEach [b] X.env = (false, eval b X.env) :: starEach [] X.env)
    (hfew : ((PySem.backTo cpos (starEach [b] X.env)).all (fun x => !x.1) && (backToKw cpos (keywordEach [] X.env)).all (fun x => x.1.isSome) && decide ([b].length + ([] : List Keyword).length + (if ([] : List Keyword).isEmpty then 0 else 1) < 30)) = true)
    (hline : (apos.endLine == cpos.line) = true) (hplain : (PySem.backTo cpos (starEach [] X.env)).any (·.1) = false) :
    PE X (.Call (.Attribute a "append" apos) [b] [] cpos) (TEv I Φ (.append ma mb)) := by
  cases hpu : pureE mb with
  | false =>
    refine peImp (L2.pe_bm PySem.F.plainAttrs_list PySem.F.slot_list_append PySem.F.type_list_append L2.mt_append ha (L2.pa_cons hb L2.pa_nil hs) hbase hfew hline hs hplain) fun σ H Q ⟨B, G, env, t, r, env', O, e, k⟩ => ?_
    obtain ⟨p, h1, e1⟩ := bindSome e
    obtain ⟨p', h2, e2⟩ := bindSome e1
    obtain ⟨q, h3, e3⟩ := bindSome e2
    have hpp := (okR_some h2).1
    subst hpp
    exact recv_run hpu O h1 h2 h3 fun x y H' G' l T => append_fin T.ok T.fx T.fy e3 fun v H'' G'' l' P => k v H'' G'' (l.trans l') P
  | true =>
    refine peImp (L2.pe_bm PySem.F.plainAttrs_list PySem.F.slot_list_append PySem.F.type_list_append L2.mt_append ha (L2.pa_cons (hp hpu) L2.pa_nil hs) hbase hfew hline hs hplain) fun σ H Q ⟨B, G, env, t, r, env', O, e, k⟩ => ?_
    obtain ⟨p, h1, e1⟩ := bindSome e
    obtain ⟨p', h2, e2⟩ := bindSome e1
    obtain ⟨q, h3, e3⟩ := bindSome e2
    have hpp := (okR_some h2).1
    subst hpp
    exact recv_pure hpu O h1 h2 h3 fun x y H' G' l O' fx fy => append_fin O' fx fy e3 fun v H'' G'' l' P => k v H'' G'' (l.trans l') P
theorem extend_fin {σ : L2.St} {H : Hp} {B : Hp} {G : Gh} {env env' : Env} {t : List Rt} {x y : V} {rp rq r : Ev.R} {Q : VK} (O : Ok I B G σ H env (ext y rq (ext x rp t))) (fx : Fact σ H x rp) (fy : Fact σ H y rq)
    (e : ((Ev.shell env rq).bind fun t => match t.1, getW t.2 rp with
      | .list l, some (.lst ws) => if lenOk (ws.length + l.length) then some (R.val (.d .none), setW t.2 rp (.lst (ws ++ l.map W.d))) else none
      | _, _ => none) = some (r, env'))
    (k : ∀ v H' G', G.Le G' → Post I B G' σ H' env' t v r → Q v H') : L2.rExtend x [y] H Q := by
  obtain ⟨p, h1, e⟩ := bindSome e
  obtain ⟨G1, l1, O1, sy⟩ := O.shell fy h1
  split at e
  · rename_i l0 ws hl0 hw
    rw [hl0] at sy
    obtain ⟨a2, ys, rfl, ha2, ry⟩ := sy
    split at e
    · rename_i hz
      cases e
      obtain ⟨l, xs, rfl, hH, hl, O2⟩ := O1.extend fx hw ry
      refine ⟨l, a2, xs, ys, rfl, rfl, hH, ha2, by rw [hl, ry.length]; exact of_decide_eq_true hz, ?_⟩
      exact k _ _ G1 l1 (O2.res .none)
    · cases e
  · cases e
theorem se_extend (ha : PE X a (TEv I Φ ma)) (hb : PE X b (TEv I Φ mb)) (hp : pureE mb = true → PE X b (TPv I Φ mb))
    (hbase : attributeBase a "extend" X.env (eval a X.env) = eval a X.env) (hs : starEach [b] X.env = (false, eval b X.env) :: starEach [] X.env)
    (hfew : ((PySem.backTo cpos (starEach [b] X.env)).all (fun x => !x.1) && (backToKw cpos (keywordEach [] X.env)).all (fun x => x.1.isSome) && decide ([b].length + ([] : List Keyword).length + (if ([] : List Keyword).isEmpty then 0 else 1) < 30)) = true)
    (hline : (apos.endLine == cpos.line) = true) (hplain : (PySem.backTo cpos (starEach [] X.env)).any (·.1) = false) :
    PE X (.Call (.Attribute a "extend" apos) [b] [] cpos) (TEv I Φ (.extend ma mb)) := by
  cases hpu : pureE mb with
  | false =>
    refine peImp (L2.pe_bm PySem.F.plainAttrs_list PySem.F.slot_list_extend PySem.F.type_list_extend L2.mt_extend ha (L2.pa_cons hb L2.pa_nil hs) hbase hfew hline hs hplain) fun σ H Q ⟨B, G, env, t, r, env', O, e, k⟩ => ?_
    obtain ⟨p, h1, e1⟩ := bindSome e
    obtain ⟨p', h2, e2⟩ := bindSome e1
    obtain ⟨q, h3, e3⟩ := bindSome e2
    have hpp := (okR_some h2).1
    subst hpp
    exact recv_run hpu O h1 h2 h3 fun x y H' G' l T => extend_fin T.ok T.fx T.fy e3 fun v H'' G'' l' P => k v H'' G'' (l.trans l') P
  | true =>
    refine peImp (L2.pe_bm PySem.F.plainAttrs_list PySem.F.slot_list_extend PySem.F.type_list_extend L2.mt_extend ha (L2.pa_cons (hp hpu) L2.pa_nil hs) hbase hfew hline hs hplain) fun σ H Q ⟨B, G, env, t, r, env', O, e, k⟩ => ?_
    obtain ⟨p, h1, e1⟩ := bindSome e
    obtain ⟨p', h2, e2⟩ := bindSome e1
    obtain ⟨q, h3, e3⟩ := bindSome e2
    have hpp := (okR_some h2).1
    subst hpp
    exact recv_pure hpu O h1 h2 h3 fun x y H' G' l O' fx fy => extend_fin O' fx fy e3 fun v H'' G'' l' P => k v H'' G'' (l.trans l') P
theorem ixN_lt {n : Nat} {i : Int} {k : Nat} (h : L2.ixN n i = some k) : k < n := (L2.ixN_seq h).2.1
theorem popAt_fin {σ : L2.St} {H : Hp} {B : Hp} {G : Gh} {env env' : Env} {t : List Rt} {x y : V} {rp rq r : Ev.R} {Q : VK} (O : Ok I B G σ H env (ext y rq (ext x rp t))) (fx : Fact σ H x rp) (fy : Fact σ H y rq)
    (e : (match rd env rq, getW env rp with
      | some (.int i), some (.lst ws) => if decide (-(2 ^ 63) ≤ i) && decide (i < 2 ^ 63) then (L2.ixN ws.length i).bind fun k => (ws[k]?).map fun w => (R.val w, setW env rp (.lst (ws.eraseIdx k))) else none
      | _, _ => none) = some (r, env'))
    (k : ∀ v H' G', G.Le G' → Post I B G' σ H' env' t v r → Q v H') : L2.rPopAt x [y] H Q := by
  split at e
  · rename_i i ws hi hw
    have vy := O.viewOf fy ext_mem hi
    cases vy
    split at e
    · rename_i hz
      simp only [Bool.and_eq_true, decide_eq_true_eq] at hz
      obtain ⟨j, h1, e⟩ := bindSome e
      obtain ⟨w, h2, e⟩ := mapSome e
      cases e
      obtain ⟨l, xs, z, rfl, hH, hl, hz2, O2⟩ := O.unext.popped fx hw h2
      have h1' := h1
      rw [← hl] at h1'
      refine ⟨l, xs, i, j, z, rfl, rfl, hH, hz.1, hz.2, (L2.ixN_seq h1').1, hz2, ?_⟩
      exact k _ _ G (.refl G) ⟨O2, trivial⟩
    · cases e
  · cases e
theorem se_popAt (ha : PE X a (TEv I Φ ma)) (hb : PE X b (TEv I Φ mb)) (hp : pureE mb = true → PE X b (TPv I Φ mb))
    (hbase : attributeBase a "pop" X.env (eval a X.env) = eval a X.env) (hs : starEach [b] X.env = (false, eval b X.env) :: starEach [] X.env)
    (hfew : ((PySem.backTo cpos (starEach [b] X.env)).all (fun x => !x.1) && (backToKw cpos (keywordEach [] X.env)).all (fun x => x.1.isSome) && decide ([b].length + ([] : List Keyword).length + (if ([] : List Keyword).isEmpty then 0 else 1) < 30)) = true)
    (hline : (apos.endLine == cpos.line) = true) (hplain : (PySem.backTo cpos (starEach [] X.env)).any (·.1) = false) :
    PE X (.Call (.Attribute a "pop" apos) [b] [] cpos) (TEv I Φ (.popAt ma mb)) := by
  cases hpu : pureE mb with
  | false =>
    refine peImp (L2.pe_bm PySem.F.plainAttrs_list PySem.F.slot_list_pop PySem.F.type_list_pop L2.mt_popAt ha (L2.pa_cons hb L2.pa_nil hs) hbase hfew hline hs hplain) fun σ H Q ⟨B, G, env, t, r, env', O, e, k⟩ => ?_
    obtain ⟨p, h1, e1⟩ := bindSome e
    obtain ⟨p', h2, e2⟩ := bindSome e1
    obtain ⟨q, h3, e3⟩ := bindSome e2
    have hpp := (okR_some h2).1
    subst hpp
    exact recv_run hpu O h1 h2 h3 fun x y H' G' l T => popAt_fin T.ok T.fx T.fy e3 fun v H'' G'' l' P => k v H'' G'' (l.trans l') P
  | true =>
    refine peImp (L2.pe_bm PySem.F.plainAttrs_list PySem.F.slot_list_pop PySem.F.type_list_pop L2.mt_popAt ha (L2.pa_cons (hp hpu) L2.pa_nil hs) hbase hfew hline hs hplain) fun σ H Q ⟨B, G, env, t, r, env', O, e, k⟩ => ?_
    obtain ⟨p, h1, e1⟩ := bindSome e
    obtain ⟨p', h2, e2⟩ := bindSome e1
    obtain ⟨q, h3, e3⟩ := bindSome e2
    have hpp := (okR_some h2).1
    subst hpp
    exact recv_pure hpu O h1 h2 h3 fun x y H' G' l O' fx fy => popAt_fin O' fx fy e3 fun v H'' G'' l' P => k v H'' G'' (l.trans l') P
theorem se_pop (ha : PE X a (TEv I Φ ma)) (hbase : attributeBase a "pop" X.env (eval a X.env) = eval a X.env) (hline : (apos.endLine == cpos.line) = true) :
    PE X (.Call (.Attribute a "pop" apos) [] [] cpos) (TEv I Φ (.pop ma)) :=
  peImp (L2.pe_bm0 PySem.F.plainAttrs_list PySem.F.slot_list_pop PySem.F.type_list_pop L2.mt_pop ha hbase hline) fun σ H Q ⟨B, G, env, t, r, env', O, e, k⟩ => by
    obtain ⟨p, h1, e⟩ := bindSome e
    refine ⟨B, G, env, t, p.1, p.2, O, h1, fun x H1 G1 l1 P => ?_⟩
    split at e
    · rename_i ws hw
      obtain ⟨w, h2, e⟩ := mapSome e
      cases e
      obtain ⟨l, xs, z, rfl, hH, hl, hz2, O2⟩ := P.1.popped P.2 hw h2
      refine ⟨.inl ⟨rfl, _, SqL.of hH⟩, l, xs, z, rfl, rfl, hH, by rw [hl]; exact hz2, ?_⟩
      have e1 : xs.eraseIdx (ws.length - 1) = xs.dropLast := by rw [← hl]; exact List.eraseIdx_length_sub_one
      have e2 : ws.eraseIdx (ws.length - 1) = ws.dropLast := List.eraseIdx_length_sub_one
      rw [e1, e2] at O2
      exact k _ _ G1 l1 ⟨O2, trivial⟩
    · cases e
theorem find_first {x : V} {d : D} {H : Hp} (v : View H x d) (f : flatD d = true) : ∀ {xs : List V} {ds : List D} {k : Nat}, ViewL H xs ds → ds.all flatD = true → ds.findIdx? (fun y => eqFlat y d) = some k →
    ∃ z, xs[k]? = some z ∧ L2.eqV z x = true ∧ ∀ (m : Nat) (z' : V), m < k → xs[m]? = some z' → L2.eqV z' x = false
  | _, _, _, .nil, _, e => by simp at e
  | _, _, k, .cons (v := z) (d := dz) a b, h, e => by
    rw [List.all_cons, Bool.and_eq_true] at h
    have ez := eqFlat_view v a f h.1
    rw [List.findIdx?_cons] at e
    split at e
    · rename_i he
      cases e
      exact ⟨z, rfl, by rw [ez]; exact he, fun m z' hm => absurd hm (Nat.not_lt_zero _)⟩
    · rename_i he
      obtain ⟨k', e1, rfl⟩ := mapSome e
      obtain ⟨z1, q1, q2, q3⟩ := find_first v f b h.2 e1
      refine ⟨z1, by simpa using q1, q2, fun m z' hm hz => ?_⟩
      cases m with
      | zero =>
        have : z = z' := by simpa using hz
        subst this
        rw [ez]; exact Bool.not_eq_true _ ▸ (by simpa using he)
      | succ m => exact q3 m z' (Nat.lt_of_succ_lt_succ hm) (by simpa using hz)
def isL (env : Env) (r : Ev.R) : Option Unit := isListR env r
theorem isL_view {B : Hp} {G : Gh} {σ : L2.St} {H : Hp} {env : Env} {t : List Rt} {v : V} {r : Ev.R} {u : Unit} (P : Post I B G σ H env t v r) (h : isListR env r = some u) : ∃ a xs, v = .ref a ∧ H a = some (.lst xs) := by
  unfold isListR at h
  split at h
  · rename_i l hl
    have := P.view hl
    cases this with
    | list h r => exact ⟨_, _, rfl, h⟩
  · cases h
theorem se_index (ha : PE X a (TEv I Φ ma)) (hb : PE X b (TEv I Φ mb))
    (hbase : attributeBase a "index" X.env (eval a X.env) = eval a X.env) (hs : starEach [b] X.env = (false, eval b X.env) :: starEach [] X.env)
    (hfew : ((PySem.backTo cpos (starEach [b] X.env)).all (fun x => !x.1) && (backToKw cpos (keywordEach [] X.env)).all (fun x => x.1.isSome) && decide ([b].length + ([] : List Keyword).length + (if ([] : List Keyword).isEmpty then 0 else 1) < 30)) = true)
    (hline : (apos.endLine == cpos.line) = true) (hplain : (PySem.backTo cpos (starEach [] X.env)).any (·.1) = false) :
    PE X (.Call (.Attribute a "index" apos) [b] [] cpos) (TEv I Φ (.index ma mb)) :=
  peImp (L2.pe_bm PySem.F.plainAttrs_list PySem.F.slot_list_index PySem.F.type_list_index L2.mt_index ha (L2.pa_cons hb L2.pa_nil hs) hbase hfew hline hs hplain) fun σ H Q ⟨B, G, env, t, r, env', O, e, k⟩ => by
    obtain ⟨p, h1, e1⟩ := bindSome e
    obtain ⟨p', h2, e2⟩ := bindSome e1
    obtain ⟨w0, hw0, e2⟩ := bindSome e2
    obtain ⟨q, h3, e3⟩ := bindSome e2
    refine ⟨B, G, env, t, p.1, p.2, O, h1, fun x H1 G1 l1 P1 => ?_⟩
    obtain ⟨G2, l2, P2, ne⟩ := P1.stab h2
    obtain ⟨a0, xs0, rfl, ha0⟩ := isL_view P2 hw0
    refine ⟨.inl ⟨rfl, _, SqL.of ha0⟩, B, G2, p'.2, _, q.1, q.2, P2.1, h3, fun y H2 G3 l3 P3 => ?_⟩
    have T : Two I B G3 σ H2 q.2 t (.ref a0) y p'.1 q.1 := ⟨P3.1, fact_keep P2.2 ne, ne, P3.2⟩
    split at e3
    · rename_i l d hl hd
      split at e3
      · rename_i hf
        rw [Bool.and_eq_true] at hf
        obtain ⟨j, h4, e4⟩ := mapSome e3
        cases e4
        have vx := T.vx hl
        have vy := T.vy hd
        cases vx with
        | list hH rl =>
          rename_i xs
          obtain ⟨z, z1, z2, z3⟩ := find_first vy hf.1 rl hf.2 h4
          exact ⟨a0, xs, y, j, z, rfl, rfl, SqL.of hH, flat_view vy hf.1, (flats_view vy hf.1 rl hf.2).1, z1, z2, z3, k _ _ _ ((l1.trans l2).trans l3) (T.base.res (.int j))⟩
      · cases e3
    · cases e3
end
end Ev
end
section
set_option linter.all false
set_option autoImplicit false
set_option maxRecDepth 10000
/-! Ev9: items, slices, fields, targets. -/
namespace Ev
open PySem PySem.Spec PyProof.Rows
open L2 (V HO Hp upd upd_same upd_ne SqL SqT Rd Key Cx PE PT PW PA PC PG PGs TE TT TA TG TGs OpR IxR UnR CallR MtR VK R2 pe_op pe_un pe_cmpR EP Inv RelV Vals)

theorem atI_some {α β : Type} {xs : List α} {ys : List β} {i : Int} {y : β} (hl : xs.length = ys.length) (h : atI ys i = some y) : ∃ k, L2.ixN xs.length i = some k ∧ ys[k]? = some y := by
  unfold atI L2.atI at h
  obtain ⟨k, h1, h2⟩ := bindSome h
  exact ⟨k, by rw [hl]; exact h1, h2⟩
theorem atI_of {α : Type} {xs : List α} {i : Int} {k : Nat} {x : α} (h : L2.ixN xs.length i = some k) (hx : xs[k]? = some x) : L2.atI xs i = some x := by
  unfold L2.atI; rw [h]; exact hx
section
variable {X : Cx} {I : Inf} {Φ : Fns} {a b c : Expr} {ma mb mc : E} {pos apos cpos : Pos}
/-- a script that is one of the module's own objects -/
def ScOk (K : PySem.W.Frag) (I : Inf) : Prop := ∀ (a : Addr) (ns : List Int), I.sc a ns → ∃ (o : Obj) (its : Array Value) (n : Nat), K.lookup a = some o ∧ o.cls = .type "list" ∧ o.dict = none ∧ o.data = .seq its n ∧ its.size ≤ sizeLine ∧ Vals (ns.map V.int) its.toList
theorem scr_sq {K : PySem.W.Frag} (hS : ScOk K I) {σ : L2.St} {H : Hp} {B : Hp} {G : Gh} {env : Env} {t : List Rt} (O : Ok I B G σ H env t) {v : V} {l : List Int} (r : Rep G v (.scr l)) : ∃ p, v = .ref p ∧ SqL K H p (l.map V.int) := by
  cases r with
  | scr hz => exact ⟨_, rfl, .inl (.inr ⟨_, O.fz _ _ hz⟩)⟩
  | scrK hz => exact ⟨_, rfl, .inr (hS _ _ (O.sc ▸ hz))⟩
theorem ix_fin (hS : ScOk X.K I) {σ : L2.St} {H : Hp} {B : Hp} {G : Gh} {env env' : Env} {t : List Rt} {x y : V} {ra r : Ev.R} {kd : D} {Q : VK} (O : Ok I B G σ H env (ext x ra t)) (fx : Fact σ H x ra) (vy : View H y kd)
    (e : subF ra kd env = some (r, env')) (k : ∀ v H' G', G.Le G' → Post I B G' σ H' env' t v r → Q v H') : anyIx X x y H Q := by
  unfold subF at e
  split at e
  · rename_i i
    cases vy
    have lq : ∀ {p : Addr} {xs : List V} {v : V}, x = .ref p → H p = some (.lst xs) → L2.atI xs i = some v → Q v H → anyIx X x (.int i) H Q := fun {p xs v} h1 h2 h3 h4 => ⟨_, L2.ix_list, p, xs, i, v, h1, rfl, SqL.of h2, h3, h4⟩
    have tq : ∀ {p : Addr} {xs : List V} {v : V}, x = .ref p → H p = some (.tup xs) → L2.atI xs i = some v → Q v H → anyIx X x (.int i) H Q := fun {p xs v} h1 h2 h3 h4 => ⟨_, L2.ix_tup, p, xs, i, v, h1, rfl, SqT.of h2, h3, h4⟩
    split at e
    · -- a frozen list
      rename_i l hg
      obtain ⟨d, h1, e⟩ := mapSome e
      cases e
      obtain ⟨f, rw⟩ := O.find fx ext_mem hg
      cases rw with
      | d rp =>
        cases rp with
        | list hz rl =>
          rename_i p xs
          obtain ⟨j, j1, j2⟩ := atI_some rl.length h1
          obtain ⟨u, u1, u2⟩ := rl.get j2
          exact lq rfl (O.fz _ _ hz) (atI_of j1 u1) (k _ _ G (.refl G) (O.unext.res u2))
    · rename_i l hg
      obtain ⟨d, h1, e⟩ := mapSome e
      cases e
      obtain ⟨f, rw⟩ := O.find fx ext_mem hg
      cases rw with
      | d rp =>
        cases rp with
        | tup hz rl =>
          rename_i p xs
          obtain ⟨j, j1, j2⟩ := atI_some rl.length h1
          obtain ⟨u, u1, u2⟩ := rl.get j2
          exact tq rfl (O.fz _ _ hz) (atI_of j1 u1) (k _ _ G (.refl G) (O.unext.res u2))
    · rename_i l hg
      obtain ⟨n, h1, e⟩ := mapSome e
      cases e
      obtain ⟨f, rw⟩ := O.find fx ext_mem hg
      cases rw with
      | d rp =>
        obtain ⟨p, rfl, hq⟩ := scr_sq hS O rp
        · obtain ⟨j, j1, j2⟩ := atI_some (xs := l.map V.int) (by simp) h1
          refine ⟨_, L2.ix_list, p, l.map V.int, i, .int n, rfl, rfl, hq, atI_of j1 (by rw [List.getElem?_map, j2]; rfl), k _ _ G (.refl G) (O.unext.res (.int n))⟩
    · -- an owned list
      rename_i ws hg
      obtain ⟨f, rw⟩ := O.find fx ext_mem hg
      cases rw with
      | lst hH rl =>
        rename_i p xs f
        split at e
        · obtain ⟨w, h1, e⟩ := mapSome e
          cases e
          obtain ⟨j, j1, j2⟩ := atI_some (xs := xs) rl.length h1
          cases (show some _ = some _ from hg)
          obtain ⟨a', xs', y', z1, z2, z3, z4, z5⟩ := O.childL j2
          cases z1
          rw [hH] at z2; cases z2
          exact lq rfl hH (atI_of j1 z4) (k _ _ G (.refl G) ⟨z5, trivial⟩)
        · rename_i v'
          obtain ⟨j, j1, e⟩ := bindSome e
          obtain ⟨w, h1, e⟩ := mapSome e
          obtain ⟨y', fy, g, q1, _, q3, _⟩ := rl.erase h1
          have ha := atI_of (by rw [rl.length]; exact j1) q1
          cases w with
          | d d =>
            cases e
            cases q3 with
            | d rp => exact lq rfl hH ha (k _ _ G (.refl G) (O.unext.res rp))
          | lst ws' => cases e; exact lq rfl hH ha (k _ _ G (.refl G) ⟨O, p, xs, fx, hH, q1⟩)
          | tup ws' => cases e; exact lq rfl hH ha (k _ _ G (.refl G) ⟨O, p, xs, fx, hH, q1⟩)
          | dct ks vs => cases e; exact lq rfl hH ha (k _ _ G (.refl G) ⟨O, p, xs, fx, hH, q1⟩)
          | lk w' => cases e; exact lq rfl hH ha (k _ _ G (.refl G) ⟨O, p, xs, fx, hH, q1⟩)
        · obtain ⟨w, h1, e⟩ := bindSome e
          obtain ⟨j, j1, j2⟩ := atI_some (xs := xs) rl.length h1
          obtain ⟨y', fy, g, q1, _, q3, _⟩ := rl.erase j2
          cases w with
          | d d =>
            cases e
            cases q3 with
            | d rp => exact lq rfl hH (atI_of j1 q1) (k _ _ G (.refl G) (O.unext.res rp))
          | _ => cases e
    · -- an owned tuple
      rename_i ws hg
      obtain ⟨f, rw⟩ := O.find fx ext_mem hg
      cases rw with
      | tup hH rl =>
        rename_i p xs f
        split at e
        · obtain ⟨w, h1, e⟩ := mapSome e
          cases e
          obtain ⟨j, j1, j2⟩ := atI_some (xs := xs) rl.length h1
          cases (show some _ = some _ from hg)
          obtain ⟨a', xs', y', z1, z2, z3, z4, z5⟩ := O.childT j2
          cases z1
          rw [hH] at z2; cases z2
          exact tq rfl hH (atI_of j1 z4) (k _ _ G (.refl G) ⟨z5, trivial⟩)
        · obtain ⟨w, h1, e⟩ := bindSome e
          obtain ⟨j, j1, j2⟩ := atI_some (xs := xs) rl.length h1
          obtain ⟨y', fy, g, q1, _, q3, _⟩ := rl.erase j2
          cases w with
          | d d =>
            cases e
            cases q3 with
            | d rp => exact tq rfl hH (atI_of j1 q1) (k _ _ G (.refl G) (O.unext.res rp))
          | _ => cases e
    · -- a locked list
      rename_i ws hg
      obtain ⟨f, rw⟩ := O.find fx ext_mem hg
      cases rw with
      | lk rw =>
        cases rw with
        | lst hH rl =>
          rename_i p xs f
          obtain ⟨w, h1, e⟩ := bindSome e
          obtain ⟨j, j1, j2⟩ := atI_some (xs := xs) rl.length h1
          obtain ⟨y', fy, g, q1, _, q3, _⟩ := rl.erase j2
          cases w with
          | d d =>
            cases e
            cases q3 with
            | d rp => exact lq rfl hH (atI_of j1 q1) (k _ _ G (.refl G) (O.unext.res rp))
          | _ => cases e
    · cases e
  · cases e
theorem se_sub (hS : ScOk X.K I) (ha : PE X a (TEv I Φ ma)) (hb : PE X b (TEv I Φ mb)) (hp : pureE mb = true → PE X b (TPv I Φ mb)) (hs : L2.PlainIx b) : PE X (.Subscript a b pos) (TEv I Φ (.sub ma mb)) := by
  cases hpu : pureE mb with
  | false =>
    refine peImp (L2.pe_ix any_ix ha hb hs) fun σ H Q ⟨B, G, env, t, r, env', O, e, k⟩ => ?_
    obtain ⟨p, h1, e1⟩ := bindSome e
    obtain ⟨p', h2, e2⟩ := bindSome e1
    rw [if_neg (by rw [hpu]; exact Bool.false_ne_true)] at h2
    obtain ⟨q, h3, e3⟩ := bindSome e2
    obtain ⟨kd, h4, e4⟩ := bindSome e3
    refine two_run O h1 h2 h3 fun x y H' G' l T => ?_
    cases hq : q.1 with
    | val w =>
      have ok' : Ok I B G' σ H' q.2 (ext x p'.1 t) := T.ok.unext
      exact ix_fin hS ok' T.fx (T.vy h4) e4 fun v H'' G'' l' P => k v H'' G'' (l.trans l') P
    | var i => exact ix_fin hS T.ok.unext T.fx (T.vy h4) e4 fun v H'' G'' l' P => k v H'' G'' (l.trans l') P
    | elt i j => exact ix_fin hS T.ok.unext T.fx (T.vy h4) e4 fun v H'' G'' l' P => k v H'' G'' (l.trans l') P
  | true =>
    refine peImp (L2.pe_ix any_ix ha (hp hpu) hs) fun σ H Q ⟨B, G, env, t, r, env', O, e, k⟩ => ?_
    obtain ⟨p, h1, e1⟩ := bindSome e
    obtain ⟨p', h2, e2⟩ := bindSome e1
    rw [if_pos hpu] at h2
    cases h2
    obtain ⟨q, h3, e3⟩ := bindSome e2
    obtain ⟨kd, h4, e4⟩ := bindSome e3
    have he := pure_env hpu h3
    refine ⟨B, G, env, t, p.1, p.2, O, h1, fun x H1 G1 l1 P1 => ⟨B, G1, p.2, _, q.1, P1.1, by rw [h3]; rw [← he], fun y P2 => ?_⟩⟩
    rw [he] at h4 e4
    exact ix_fin hS P2.1.unext P1.2 (P2.view h4) e4 fun v H'' G'' l' P => k v H'' G'' (l1.trans l') P
/-! ### slices -/
theorem so_nil : L2.PO X none (TOv I Φ .nil) := ⟨fun pins s σ H Q In ⟨B, G, env, t, o, env', O, e, k⟩ => by
  cases (show some ((none : Option Int), env) = some (o, env') from e)
  exact L2.po_none.run pins s σ H Q In (k H G (.refl G) O)⟩
def PlainO (Φ : Fns) (m : E) : Prop := (ev Φ m).o = fun env => ((ev Φ m).e env).bind fun p => match rd p.2 p.1 with
    | some (.int i) => some (some i, p.2)
    | _ => none
theorem so_some (pl : PlainO Φ ma) (ha : PE X a (TEv I Φ ma)) : L2.PO X (some a) (TOv I Φ ma) := ⟨fun pins s σ H Q In ⟨B, G, env, t, o, env', O, e, k⟩ => by
  rw [pl] at e
  obtain ⟨p, h1, e⟩ := bindSome e
  refine (L2.po_some ha).run pins s σ H Q In ⟨B, G, env, t, p.1, p.2, O, h1, fun x H1 G1 l P => ?_⟩
  split at e
  · rename_i i hi
    cases e
    have v := P.view hi
    cases v
    exact ⟨i, rfl, k H1 G1 l P.ok⟩
  · cases e⟩
theorem RepL.cut {G : Gh} {xs : List V} {ds : List D} (r : RepL G xs ds) (lo hi : Option Int) : RepL G (L2.cutV xs lo hi) (cut ds lo hi) := by
  unfold L2.cutV Ev.cut
  rw [r.length]
  exact (r.drop _).take _
theorem slice_fin (hS : ScOk X.K I) {σ : L2.St} {H : Hp} {B : Hp} {G : Gh} {env env' : Env} {t : List Rt} {x : V} {ra r : Ev.R} {lo hi : Option Int} {Q : VK} (O : Ok I B G σ H env (ext x ra t)) (fx : Fact σ H x ra)
    (e : sliceF ra lo hi env = some (r, env')) (k : ∀ v H' G', G.Le G' → Post I B G' σ H' env' t v r → Q v H') : anySl X x lo hi H Q := by
  unfold sliceF at e
  split at e
  · rename_i l hg
    cases e
    obtain ⟨f, rw⟩ := O.find fx ext_mem hg
    cases rw with
    | d rp =>
      obtain ⟨p, rfl, hsq⟩ := scr_sq hS O rp
      · refine ⟨_, L2.sl_list, p, l.map V.int, rfl, hsq, fun q hq => ?_⟩
        have e1 : L2.cutV (l.map V.int) lo hi = (cut l lo hi).map V.int := by
          unfold L2.cutV Ev.cut
          rw [List.length_map, ← List.map_drop, ← List.map_take]
        have rl : ∀ (z : List Int), RepL G (z.map V.int) (z.map D.int) := fun z => by
          induction z with
          | nil => exact .nil
          | cons a b ih => exact .cons (.int a) ih
        rw [e1]
        have P := O.unext.newList hq (rl (cut l lo hi))
        have e2 : ((cut l lo hi).map D.int).map W.d = (cut l lo hi).map fun i => W.d (.int i) := by rw [List.map_map]; rfl
        rw [e2] at P
        exact k _ _ G (.refl G) ⟨P, trivial⟩
  · obtain ⟨p, h1, e⟩ := bindSome e
    obtain ⟨G1, l1, O1, sx⟩ := O.shell fx h1
    split at e
    · rename_i l hl
      rw [hl] at sx
      obtain ⟨q0, xs, rfl, hH, rl⟩ := sx
      cases e
      exact ⟨_, L2.sl_list, q0, xs, rfl, SqL.of hH, fun q hq => k _ _ G1 l1 ⟨O1.newList hq (rl.cut lo hi), trivial⟩⟩
    · rename_i l hl
      rw [hl] at sx
      obtain ⟨q0, xs, rfl, hH, rl⟩ := sx
      split at e
      · cases e
      · rename_i hw
        cases e
        refine ⟨_, L2.sl_tup, q0, xs, rfl, SqT.of hH, fun z => hw ?_, fun q hq => ?_⟩
        · unfold whole
          rw [rl.length] at z
          rw [z.1, z.2]; simp
        · obtain ⟨G2, l2, P⟩ := O1.newTup hq (rl.cut lo hi)
          exact k _ _ G2 (l1.trans l2) P
theorem se_slice {lo hi : Option Expr} {ml mh : E} {p2 : Pos} (hS : ScOk X.K I) (ha : PE X a (TEv I Φ ma)) (hl : L2.PO X lo (TOv I Φ ml)) (hh : L2.PO X hi (TOv I Φ mh)) : PE X (.Subscript a (.Slice lo hi none p2) pos) (TEv I Φ (.slice ma ml mh)) :=
  peImp (L2.pe_slice any_sl ha hl hh) fun σ H Q ⟨B, G, env, t, r, env', O, e, k⟩ => by
    obtain ⟨p, h1, e1⟩ := bindSome e
    obtain ⟨p', h2, e2⟩ := bindSome e1
    obtain ⟨q, h3, e3⟩ := bindSome e2
    obtain ⟨q', h4, e4⟩ := bindSome e3
    refine ⟨B, G, env, t, p.1, p.2, O, h1, fun x H1 G1 l1 P1 => ?_⟩
    obtain ⟨G2, l2, P2, ne⟩ := P1.stab h2
    refine ⟨B, G2, p'.2, _, q.1, q.2, P2.1, h3, fun H2 G3 l3 O3 => ⟨B, G3, q.2, _, q'.1, q'.2, O3, h4, fun H3 G4 l4 O4 => ?_⟩⟩
    exact slice_fin hS O4 (fact_keep P2.2 ne) e4 fun v H'' G'' l' P => k v H'' G'' ((((l1.trans l2).trans l3).trans l4).trans l') P
/-! ### fields -/
theorem lookup_zip {ns : List Str} {vs : List V} {k : Nat} {f : Str} {v : V} {r : List (Str × V)} (nd : ns.Nodup) (h1 : ns[k]? = some f) (h2 : vs[k]? = some v) : (ns.zip vs ++ r).lookup f = some v := by
  induction ns generalizing vs k with
  | nil => simp at h1
  | cons n ns ih =>
    cases vs with
    | nil => simp at h2
    | cons u vs =>
      cases k with
      | zero =>
        simp at h1 h2
        subst h1; subst h2
        simp [List.lookup]
      | succ k =>
        have h1' : ns[k]? = some f := by simpa using h1
        have hne : (f == n) = false := by
          rw [beq_eq_false_iff_ne]
          intro e
          subst e
          exact (List.nodup_cons.mp nd).1 (List.mem_of_getElem? h1')
        simp only [List.zip_cons_cons, List.cons_append, List.lookup, hne]
        exact ih (List.nodup_cons.mp nd).2 h1' (by simpa using h2)
theorem se_attr {c k : Nat} {f : Str} (ha : PE X a (TEv I Φ ma)) (hb : attributeBase a f X.env (eval a X.env) = eval a X.env) (hf : (I.fn c)[k]? = some f) (hC : L2.Cls X.K (I.cl c)) (hN : L2.NoAttr X.K (I.cl c) f) : PE X (.Attribute a f pos) (TEv I Φ (.attr ma c k)) :=
  peImp (L2.pe_fld ha hb) fun σ H Q ⟨B, G, env, t, r, env', O, e, kk⟩ => by
    obtain ⟨p, h1, e1⟩ := bindSome e
    refine ⟨B, G, env, t, p.1, p.2, O, h1, fun x H1 G1 l P => ?_⟩
    unfold attrF at e1
    split at e1
    · rename_i c' fs hg
      split at e1
      · rename_i hc
        subst hc
        obtain ⟨d, h2, e2⟩ := mapSome e1
        cases e2
        obtain ⟨ff, rw⟩ := P.1.find P.2 ext_mem hg
        cases rw with
        | d rp =>
          cases rp with
          | obj hz hl hk nd rl hca =>
            rename_i a0 dx q0 vs
            obtain ⟨u, u1, u2⟩ := rl.get h2
            have hcl := P.1.cl
            have hfn := P.1.fn
            refine ⟨a0, I.cl c', dx, _, u, rfl, by rw [← hcl]; exact P.1.fz _ _ hz, hC, hN, lookup_zip nd (by rw [hfn]; exact hf) u1, kk _ _ _ l (P.ok.res u2)⟩
      · cases e1
    · cases e1
end

/-! ### targets -/
/-- the names a target stores -/
def tns : E → List Nat
  | .tname i => [i]
  | .ttup ts => tns ts
  | .cons a r => tns a ++ tns r
  | _ => []
def Keep (l : List Nat) (σ σ' : L2.St) : Prop := σ'.length = σ.length ∧ ∀ j, j ∉ l → σ'[j]? = σ[j]?
theorem Keep.refl (l : List Nat) (σ : L2.St) : Keep l σ σ := ⟨rfl, fun _ _ => rfl⟩
theorem Keep.app {l l' : List Nat} {a b c : L2.St} (h : Keep l a b) (h' : Keep l' b c) : Keep (l ++ l') a c := ⟨h'.1.trans h.1, fun j hj => by
  rw [List.mem_append, not_or] at hj
  exact (h'.2 j hj.2).trans (h.2 j hj.1)⟩
theorem Keep.set (i : Nat) (x : Option V) (σ : L2.St) : Keep [i] σ (σ.set i x) := ⟨List.length_set, fun j hj => List.getElem?_set_ne fun e => hj (by rw [e]; exact List.mem_singleton.mpr rfl)⟩
section
variable (I : Inf) (Φ : Fns)
def TGv (m : E) : TG := fun v σ H Q => ∃ B G env t w env', Ok I B G σ H env ((v, w) :: t) ∧ (ev Φ m).a w env = some env' ∧ ∀ σ' H' G', G.Le G' → Keep (tns m) σ σ' → Ok I B G' σ' H' env' t → Q σ' H'
def TGsv (m : E) : TGs := fun vs σ H Q => ∃ B G env t ws env', vs.length = ws.length ∧ Ok I B G σ H env (vs.zip ws ++ t) ∧ (ev Φ m).as ws env = some env' ∧ ∀ σ' H' G', G.Le G' → Keep (tns m) σ σ' → Ok I B G' σ' H' env' t → Q σ' H'
end
theorem pgImp {X : Cx} {e : Expr} {t t' : TG} (h : PG X e t) (k : ∀ v σ H Q, t' v σ H Q → t v σ H Q) : PG X e t' := ⟨fun pins s σ H v u Q I r h' => h.run pins s σ H v u Q I r (k _ _ _ _ h')⟩
theorem pgsImp {X : Cx} {e : List Expr} {t t' : TGs} (h : PGs X e t) (k : ∀ v σ H Q, t' v σ H Q → t v σ H Q) : PGs X e t' := ⟨fun pins s σ H v u Q I r h' => h.run pins s σ H v u Q I r (k _ _ _ _ h')⟩
section
variable {I : Inf} {B : Hp} {G : Gh} {σ : L2.St} {H : Hp} {env : Env} {t : List Rt}
/-- a name is stored anew -/
theorem Lent.store (L : Lent I σ env) {i : Nat} {s : Slot} {x : Option V} (h : ∀ w, slot env i ≠ some (true, w)) (h' : ∀ w, slot env i ≠ some (false, .lk w)) : Lent I (σ.set i x) (env.set i s) := fun j v b e => by
  obtain ⟨⟨w, h1, hw⟩, h2⟩ := L j v b e
  have ne : i ≠ j := fun z => by
    subst z
    rcases hw with rfl | hw
    · exact h w h1
    · cases b with
      | true => exact h w h1
      | false =>
        cases w with
        | lk w => exact h' w h1
        | _ => cases hw
  exact ⟨⟨w, by rw [slot_set_ne ne]; exact h1, hw⟩, by rw [List.getElem?_set_ne ne]; exact h2⟩
theorem Ok.store {v : V} {w : W} {i : Nat} {b : Bool} (O : Ok I B G σ H env ((v, w) :: t)) (hi : i < env.length) (hb : ∀ w, slot env i ≠ some (true, w)) (hb' : ∀ w, slot env i ≠ some (false, .lk w)) : Ok I B G (σ.set i (some v)) H (env.set i (some (b, w))) t := by
  obtain ⟨R, fp, s, r, o⟩ := O.tr
  obtain ⟨f, g, rfl, rw, rt⟩ := RepWP.uncons (R := t ++ R) r
  obtain ⟨gt, gR, rfl, r1, r2⟩ := RepWP.unapp rt
  obtain ⟨R1, s1, hs⟩ := s.store v b w hi
  rcases hs with ⟨_, hp⟩ | ⟨y, R0, hp0, hp⟩
  · obtain ⟨fp1, q1, q2⟩ := RepWP.perm hp.symm (RepWP.cons rw r2)
    refine ⟨O.fz, O.ca, O.cl, O.fn, O.sc, O.bp, O.bz, O.lent.store hb hb', R1, gt ++ fp1, s1, r1.app q1, o.perm ?_⟩
    refine List.perm_iff_count.mpr fun a => ?_
    have h := List.perm_iff_count.mp q2 a
    simp only [List.count_append] at h ⊢
    omega
  · obtain ⟨gR', q1, q2⟩ := RepWP.perm hp0 r2
    obtain ⟨fy, g0, rfl, _, r0⟩ := RepWP.uncons (v := y.1) (w := y.2) q1
    obtain ⟨fp1, q3, q4⟩ := RepWP.perm hp.symm (RepWP.cons rw r0)
    have base : Own G B (fy ++ (gt ++ fp1)) := o.perm (List.perm_iff_count.mpr fun a => by
      have h := List.perm_iff_count.mp q2 a
      have h' := List.perm_iff_count.mp q4 a
      simp only [List.count_append] at h h' ⊢
      omega)
    exact ⟨O.fz, O.ca, O.cl, O.fn, O.sc, O.bp, O.bz, O.lent.store hb hb', R1, gt ++ fp1, s1, r1.app q3, base.right⟩
end
section
variable {X : Cx} {I : Inf} {Φ : Fns} {a b c : Expr} {ma mb mc : E} {pos apos cpos : Pos}
theorem sg_name {i : Nat} {x : Str} (hN : X.N.Nodup) (hi : X.N[i]? = some x) (hx : L2.Loc X.env.scope x) (hf : X.fn x = true ∨ X.env.scope.names.lookup x = some .local) : PG X (.Name x pos) (TGv I Φ (.tname i)) :=
  pgImp (L2.pg_name hN hi hx hf) fun v σ H Q ⟨B, G, env, t, w, env', O, e, k⟩ => by
    have e' : setN i w env = some env' := e
    unfold setN at e'
    split at e'
    · cases e'
    · cases e'
    · rename_i n1 n2
      split at e'
      · rename_i hl
        cases e'
        exact k _ _ G (.refl G) (Keep.set ..) (O.store hl n1 n2)
      · cases e'
theorem sgs_nil : PGs X [] (TGsv I Φ .nil) := pgsImp L2.pgs_nil fun vs σ H Q ⟨B, G, env, t, ws, env', hl, O, e, k⟩ => by
  cases ws with
  | nil =>
    cases (show some env = some env' from e)
    cases vs with
    | nil => exact ⟨rfl, k _ _ G (.refl G) (Keep.refl ..) O⟩
    | cons v vs => cases hl
  | cons w ws => cases (show none = some env' from e)
theorem sgs_cons {es : List Expr} {mr : E} (ha : PG X a (TGv I Φ ma)) (hr : PGs X es (TGsv I Φ mr)) (hs : (assignEach (a :: es) X.env).map (·.2) = assign a X.env :: (assignEach es X.env).map (·.2)) : PGs X (a :: es) (TGsv I Φ (.cons ma mr)) :=
  pgsImp (L2.pgs_cons ha hr hs) fun vs σ H Q ⟨B, G, env, t, ws, env', hl, O, e, k⟩ => by
    cases ws with
    | nil => cases (show none = some env' from e)
    | cons w ws =>
      cases vs with
      | nil => cases hl
      | cons v vs =>
        obtain ⟨e1, h1, h2⟩ := bindSome (show ((ev Φ ma).a w env).bind (fun e => (ev Φ mr).as ws e) = some env' from e)
        exact ⟨v, vs, rfl, B, G, env, vs.zip ws ++ t, w, e1, O, h1, fun σ1 H1 G1 l1 K1 O1 => ⟨B, G1, e1, t, ws, env', Nat.succ.inj hl, O1, h2, fun σ2 H2 G2 l2 K2 O2 => k σ2 H2 G2 (l1.trans l2) (K1.app K2) O2⟩⟩
/-- how many targets -/
def tlen : E → Nat
  | .cons _ r => tlen r + 1
  | _ => 0
theorem as_len : ∀ {m : E} {ws : List W} {env env' : Env}, (ev Φ m).as ws env = some env' → ws.length = tlen m := by
  intro m
  induction m with
  | nil =>
    intro ws env env' e
    cases ws with
    | nil => rfl
    | cons w ws => cases (show none = some env' from e)
  | cons a r _ ihr =>
    intro ws env env' e
    cases ws with
    | nil => cases (show none = some env' from e)
    | cons w ws =>
      obtain ⟨e1, h1, h2⟩ := bindSome (show ((ev Φ a).a w env).bind (fun e => (ev Φ r).as ws e) = some env' from e)
      show ws.length + 1 = tlen r + 1
      rw [ihr h2]
  | _ => intro ws env env' e; cases (show none = some env' from e)
theorem zip_ds {G : Gh} {H : Hp} {xs : List V} {l : List D} : ∀ (r : RepL G xs l) {t : List Rt} {B : Hp} {σ : L2.St} {env : Env}, Ok I B G σ H env t → Ok I B G σ H env (xs.zip (l.map W.d) ++ t) := by
  intro r t B σ env O
  obtain ⟨R, fp, s, rr, o⟩ := O.tr
  refine ⟨O.fz, O.ca, O.cl, O.fn, O.sc, O.bp, O.bz, O.lent, R, [] ++ fp, s, ?_, o⟩
  rw [List.append_assoc]
  refine RepWP.app ?_ rr
  unfold RepWP
  have hl := r.length
  rw [List.map_fst_zip (by simp [hl]), List.map_snd_zip (by simp [hl])]
  exact RepWL.of r
theorem sg_tup {es : List Expr} {k0 : Nat} {m : E} (hc : X.calm = true) (h : PGs X es (TGsv I Φ m)) (hn : (assignEach es X.env).length = tlen m) (hst : (assignEach es X.env).findIdx? (·.1) = none) : PG X (.Tuple es k0 pos) (TGv I Φ (.ttup m)) :=
  pgImp (L2.pg_tup hc h hn hst) fun v σ H Q ⟨B, G, env, t, w, env', O, e, k⟩ => by
    have e' : tupA (ev Φ m).as w env = some env' := e
    unfold tupA at e'
    split at e'
    · rename_i l
      have rp := O.datum (k := 0) (v := v) (d := .tup l) rfl
      have hr : ∃ a0 xs, v = .ref a0 ∧ G.fz a0 = some (.tup xs) ∧ RepL G xs l := by
        cases rp with
        | tup hz rl => exact ⟨_, _, rfl, hz, rl⟩
      obtain ⟨a0, xs, rfl, hz, rl⟩ := hr
      · have hlen : xs.length = tlen m := by rw [← as_len e', List.length_map, rl.length]
        exact ⟨a0, xs, rfl, SqT.of (O.fz _ _ hz), hlen, B, G, env, t, _, env', by rw [List.length_map, rl.length], zip_ds rl O.drop1, e', k⟩
    · rename_i ws
      obtain ⟨a0, xs, rfl, hH, hl, O1⟩ := O.children
      exact ⟨a0, xs, rfl, SqT.of hH, by rw [hl, as_len e'], B, G, env, t, ws, env', hl, O1, e', k⟩
    · cases e'
theorem sg_sub (ha : PE X a (TEv I Φ ma)) (hb : PE X b (TEv I Φ mb)) (hp : pureE mb = true → PE X b (TPv I Φ mb))
    (hs : ∀ v, assign (.Subscript a b pos) X.env v = (do
      let ov ← holding [v] (eval a X.env)
      let iv ← holding [v, ov] (eval b X.env)
      standAt pos
      holding [v, ov, iv] (setItem ov iv v)
      release [v, ov, iv] [])) : PG X (.Subscript a b pos) (TGv I Φ (.tsub ma mb)) := by
  have fin : ∀ {σ : L2.St} {H : Hp} {B : Hp} {G : Gh} {env env' : Env} {t : List Rt} {o y v : V} {w : W} {rp rq : Ev.R} {Q : L2.St → Hp → Prop}, Ok I B G σ H env (ext y rq (ext o rp ((v, w) :: t))) → Fact σ H o rp → Fact σ H y rq →
      (match rd env rq, getW env rp with | some (.int i), some (.lst ws) => (L2.ixN ws.length i).map fun k => setW env rp (.lst (ws.set k w)) | _, _ => none) = some env' → (∀ H' G', G.Le G' → Ok I B G' σ H' env' t → Q σ H') →
      L2.rSetL o y v H fun H3 => Q σ H3 := by
    intro σ H B G env env' t o y v w rp rq Q O fx fy e k
    split at e
    · rename_i i ws hi hw
      have vy := O.viewOf fy ext_mem hi
      cases vy
      obtain ⟨j, h1, e⟩ := mapSome e
      cases e
      have O1 : Ok I B G σ H env ((v, w) :: ext o rp t) := O.unext.perm ext_cons.symm
      obtain ⟨l, xs, rfl, hH, hl, O2⟩ := O1.stored fx hw (ixN_lt h1)
      exact ⟨l, xs, i, j, rfl, rfl, hH, by rw [hl]; exact h1, k _ G (.refl G) O2⟩
    · cases e
  cases hpu : pureE mb with
  | false =>
    refine pgImp (L2.pg_sub ha hb L2.set_list hs) fun v σ H Q ⟨B, G, env, t, w, env', O, e, k⟩ => ?_
    obtain ⟨p, h1, e1⟩ := bindSome (show ((ev Φ ma).e env).bind _ = some env' from e)
    obtain ⟨p', h2, e2⟩ := bindSome e1
    obtain ⟨q, h3, e3⟩ := bindSome e2
    obtain ⟨hpp, _, ne⟩ := okR_some h2
    subst hpp
    have ne' := ne.resolve_right (by rw [hpu]; exact Bool.false_ne_true)
    refine ⟨B, G, env, _, p'.1, p'.2, O, h1, fun o H1 G1 l1 P1 => ⟨B, G1, p'.2, _, q.1, q.2, P1.1, h3, fun y H2 G2 l2 P2 => ?_⟩⟩
    exact fin P2.1 (fact_keep P1.2 ne') P2.2 e3 fun H' G' l' O' => k σ H' G' ((l1.trans l2).trans l') (Keep.refl ..) O'
  | true =>
    refine pgImp (L2.pg_sub ha (hp hpu) L2.set_list hs) fun v σ H Q ⟨B, G, env, t, w, env', O, e, k⟩ => ?_
    obtain ⟨p, h1, e1⟩ := bindSome (show ((ev Φ ma).e env).bind _ = some env' from e)
    obtain ⟨p', h2, e2⟩ := bindSome e1
    obtain ⟨q, h3, e3⟩ := bindSome e2
    obtain ⟨hpp, _, ne⟩ := okR_some h2
    subst hpp
    have he := pure_env hpu h3
    refine ⟨B, G, env, _, p'.1, p'.2, O, h1, fun o H1 G1 l1 P1 => ⟨B, G1, p'.2, _, q.1, P1.1, by rw [h3]; rw [← he], fun y P2 => ?_⟩⟩
    rw [he] at e3
    exact fin P2.1 P1.2 P2.2 e3 fun H' G' l' O' => k σ H' G' (l1.trans l') (Keep.refl ..) O'
end
end Ev
end
section
set_option linter.all false
set_option autoImplicit false
set_option maxRecDepth 10000
/-! Ev10: built-ins: what the hand layer lacks (sums of tuples, texts of data, sorting of data), then the rule of a call. -/
namespace Ev
open PySem PySem.Spec PyProof.Rows
open L2 (V HO Hp upd upd_same upd_ne SqL SqT Rd Key Cx PE PT PW PA PC PG PGs TE TT TA TG TGs OpR IxR UnR CallR MtR VK R2 pe_op pe_un pe_cmpR EP Inv RelV Vals)

section
variable {prog : Program} {w : World} {A : Around} {E : Value → Shared → Prop} {s : Shared} {l : Addr} {its : List Value} {ns : List Int} {xs : Array (Int × Tok)}
/-- a tuple of ints, walked: the iterator's object is new -/
theorem iterTupI {Q : Value → Shared → Prop} (hl : s.heap.IsTuple l (intItems xs))
    (h : ∀ s₂ : Shared, s₂.gens = s.gens → (s₂.heap.IsTupleIter s.heap.objs.size l 0 ∧ s₂.heap.IsTuple l (intItems xs)) → (∀ b ∈ [s.heap.objs.size, l], b < s₂.heap.objs.size) → l ≠ s.heap.objs.size →
      (∀ (h' : Heap) (tk : Nat), (∀ b o, b ∉ [s.heap.objs.size] → s₂.heap.get? b = some o → h'.get? b = some o) → (∀ b o, s.heap.get? b = some o → h'.get? b = some o) ∧ ({ s₂ with heap := h', toks := tk } : Shared) = { s with heap := h', toks := tk }) → Q (.ref s.heap.objs.size) s₂) :
    wpAny (model prog w) A (pyIter (.ref l)) Q E s := by
  have small : l < s.heap.objs.size := by
    obtain ⟨_, e, _⟩ := hl
    exact Heap.lt_size e
  refine wpAny_pyIter_tuple hl ?_
  refine h _ rfl ⟨⟨_, Heap.get?_push_size _ rfl, rfl, rfl⟩, hl.push _⟩ (fun b hb => ?_) (Nat.ne_of_lt small) fun h' tk hk => ⟨fun b o e => ?_, rfl⟩
  · show b < (s.heap.push _).objs.size
    rw [Heap.size_push]
    simp only [List.mem_cons, List.not_mem_nil, or_false] at hb
    rcases hb with e | e
    · rw [e]; exact Nat.lt_succ_self _
    · rw [e]; exact Nat.lt_succ_of_lt small
  · refine hk b o (fun hm => ?_) (Heap.get?_push_of_some _ e)
    have eb := List.mem_singleton.mp hm
    exact Nat.lt_irrefl _ (eb ▸ Heap.lt_size e)
theorem sumTup {Q : Value → Shared → Prop} (hh : A.handled = none) (hl : s.heap.IsTuple l its.toArray) (hi : IntsAre its ns)
    (h : ∀ h' tk t', (∀ b o, s.heap.get? b = some o → h'.get? b = some o) → Q (.int ns.sum t') { s with heap := h', toks := tk }) : wpAny (model prog w) A (call (.builtin "sum") [.ref l]) Q E s := by
  obtain ⟨xs, e⟩ := hi.allInts.items
  have hn : numsOf (intItems xs).toList = ns := by
    rw [← e]
    exact hi.numsOf
  rw [nums_intItems] at hn
  rw [e] at hl
  refine call_sum_walkG (iterTupI hl fun s₂ hg st hfp hne fin => ?_)
  refine ⟨_, _, _, _, _, _, numAt xs, rfl, Walks.tuple (A := A.in1) hh _ l hne (intItems xs), st, hfp, (fun _ _ => intItems_at), fun h' tk t' hk => ?_⟩
  obtain ⟨f1, f2⟩ := fin h' tk hk
  have q := h h' tk t' f1
  rw [← f2] at q
  have e1 : preSum (numAt xs) (intItems xs).size = ns.sum := by
    rw [preSum_eq, List.take_of_length_le (by simp [intItems]), hn]
  rw [e1]
  exact q
theorem maxTup {Q : Value → Shared → Prop} (hh : A.handled = none) (hl : s.heap.IsTuple l its.toArray) (hi : IntsAre its ns) (hne0 : 0 < ns.length)
    (h : ∀ h' tk M t', (∀ b o, s.heap.get? b = some o → h'.get? b = some o) → M ∈ ns → (∀ a, a ∈ ns → a ≤ M) → Q (.int M t') { s with heap := h', toks := tk }) : wpAny (model prog w) A (call (.builtin "max") [.ref l]) Q E s := by
  obtain ⟨xs, e⟩ := hi.allInts.items
  have hn : numsOf (intItems xs).toList = ns := by
    rw [← e]
    exact hi.numsOf
  rw [nums_intItems] at hn
  subst hn
  rw [e] at hl
  have hsz : 0 < xs.size := by simpa using hne0
  refine call_max_walk (iterTupI hl fun s₂ hg st hfp hne fin => ?_)
  refine ⟨_, _, _, _, _, _, _, rfl, Walks.tuple (A := A.in1) hh _ l hne (intItems xs), st, hfp, by simpa [intItems] using hsz, CmpOf.ints_gt (numAt xs) (fun _ _ => intItems_at), fun v h' tk hP hk => ?_⟩
  obtain ⟨f1, f2⟩ := fin h' tk hk
  rw [f2]
  have hv : (intItems xs)[argBest (fun i j => decide (numAt xs i > numAt xs j)) (xs.size - 1)]? = some v := by simpa [intItems] using hP
  obtain ⟨t, rfl⟩ := intItems_at hv
  obtain ⟨b1, b2⟩ := argBest_gt (numAt xs) (xs.size - 1)
  refine h h' tk _ t f1 ?_ fun a ha => ?_
  · rw [numAt_eq]
    exact PySem.getD_mem (by rw [List.length_map, Array.length_toList]; omega)
  · obtain ⟨j, hj, rfl⟩ := mem_getD ha
    rw [List.length_map, Array.length_toList] at hj
    rw [← numAt_eq]
    exact b2 j (by omega)
theorem minTup {Q : Value → Shared → Prop} (hh : A.handled = none) (hl : s.heap.IsTuple l its.toArray) (hi : IntsAre its ns) (hne0 : 0 < ns.length)
    (h : ∀ h' tk M t', (∀ b o, s.heap.get? b = some o → h'.get? b = some o) → M ∈ ns → (∀ a, a ∈ ns → M ≤ a) → Q (.int M t') { s with heap := h', toks := tk }) : wpAny (model prog w) A (call (.builtin "min") [.ref l]) Q E s := by
  obtain ⟨xs, e⟩ := hi.allInts.items
  have hn : numsOf (intItems xs).toList = ns := by
    rw [← e]
    exact hi.numsOf
  rw [nums_intItems] at hn
  subst hn
  rw [e] at hl
  have hsz : 0 < xs.size := by simpa using hne0
  refine call_min_walk (iterTupI hl fun s₂ hg st hfp hne fin => ?_)
  refine ⟨_, _, _, _, _, _, _, rfl, Walks.tuple (A := A.in1) hh _ l hne (intItems xs), st, hfp, by simpa [intItems] using hsz, CmpOf.ints_lt (numAt xs) (fun _ _ => intItems_at), fun v h' tk hP hk => ?_⟩
  obtain ⟨f1, f2⟩ := fin h' tk hk
  rw [f2]
  have hv : (intItems xs)[argBest (fun i j => decide (numAt xs i < numAt xs j)) (xs.size - 1)]? = some v := by simpa [intItems] using hP
  obtain ⟨t, rfl⟩ := intItems_at hv
  obtain ⟨b1, b2⟩ := argBest_lt (numAt xs) (xs.size - 1)
  refine h h' tk _ t f1 ?_ fun a ha => ?_
  · rw [numAt_eq]
    exact PySem.getD_mem (by rw [List.length_map, Array.length_toList]; omega)
  · obtain ⟨j, hj, rfl⟩ := mem_getD ha
    rw [List.length_map, Array.length_toList] at hj
    rw [← numAt_eq]
    exact b2 j (by omega)
end
section
variable {X : Cx}
theorem isTup_tuple {h : Heap} {a : Addr} {items : Array Value} (t : IsTup h a items) : h.IsTuple a items := by
  obtain ⟨o, h1, h2, n, h3⟩ := t
  exact ⟨o, h1, h2, n, h3⟩
def rSumT (K : PySem.W.Frag) : List V → Hp → VK → Prop := fun vs H Q => ∃ (a : Addr) (ns : List Int), vs = [V.ref a] ∧ SqT K H a (ns.map V.int) ∧ Q (.int ns.sum) H
def rMaxT (K : PySem.W.Frag) : List V → Hp → VK → Prop := fun vs H Q => ∃ (a : Addr) (ns : List Int), vs = [V.ref a] ∧ SqT K H a (ns.map V.int) ∧ 0 < ns.length ∧ ∀ m, m ∈ ns → (∀ y, y ∈ ns → y ≤ m) → Q (.int m) H
def rMinT (K : PySem.W.Frag) : List V → Hp → VK → Prop := fun vs H Q => ∃ (a : Addr) (ns : List Int), vs = [V.ref a] ∧ SqT K H a (ns.map V.int) ∧ 0 < ns.length ∧ ∀ m, m ∈ ns → (∀ y, y ∈ ns → m ≤ y) → Q (.int m) H
theorem cr_sumT (hc : X.calm = true) : CallR X (.builtin "sum") (rSumT X.K) := by
  intro pins s σ H vs us Q I r h
  obtain ⟨a, ns, rfl, hs, q⟩ := h
  obtain ⟨its, rv, ht, _⟩ := I.tuple hs
  rw [L2.Vals.ref1 r]
  exact sumTup (I.ok.hd hc) (isTup_tuple ht) rv.ints fun h' tk t' hk => ⟨.int _, H, I.kept hk, ⟨_, rfl⟩, q⟩
theorem cr_maxT (hc : X.calm = true) : CallR X (.builtin "max") (rMaxT X.K) := by
  intro pins s σ H vs us Q I r h
  obtain ⟨a, ns, rfl, hs, hne, q⟩ := h
  obtain ⟨its, rv, ht, _⟩ := I.tuple hs
  rw [L2.Vals.ref1 r]
  exact maxTup (I.ok.hd hc) (isTup_tuple ht) rv.ints hne fun h' tk m t' hk h1 h2 => ⟨.int _, H, I.kept hk, ⟨_, rfl⟩, q m h1 h2⟩
theorem cr_minT (hc : X.calm = true) : CallR X (.builtin "min") (rMinT X.K) := by
  intro pins s σ H vs us Q I r h
  obtain ⟨a, ns, rfl, hs, hne, q⟩ := h
  obtain ⟨its, rv, ht, _⟩ := I.tuple hs
  rw [L2.Vals.ref1 r]
  exact minTup (I.ok.hd hc) (isTup_tuple ht) rv.ints hne fun h' tk m t' hk h1 h2 => ⟨.int _, H, I.kept hk, ⟨_, rfl⟩, q m h1 h2⟩
/-! ### texts of data -/
mutual
theorem noDict_of : ∀ {d : D} {p : PyData}, toPy d = some p → p.hasDict = false
  | .none, _, e => by rw [toPy] at e; cases e; rfl
  | .bool b, _, e => by rw [toPy] at e; cases e; rfl
  | .int i, _, e => by rw [toPy] at e; cases e; rfl
  | .str s, _, e => by rw [toPy] at e; cases e; rfl
  | .list l, _, e => by
    rw [toPy] at e
    obtain ⟨x, e1, rfl⟩ := mapSome e
    rw [PyData.hasDict]
    exact noDict_all e1
  | .tup l, _, e => by
    rw [toPy] at e
    obtain ⟨x, e1, rfl⟩ := mapSome e
    rw [PyData.hasDict]
    exact noDict_all e1
  | .scr l, _, e => by rw [toPy] at e; cases e
  | .obj c fs, _, e => by rw [toPy] at e; cases e
  | .dict ks vs, _, e => by rw [toPy] at e; cases e
theorem noDict_all : ∀ {l : List D} {ps : List PyData}, toPyL l = some ps → PyData.hasDictAll ps = false
  | [], _, e => by rw [toPyL] at e; cases e; rfl
  | d :: l, _, e => by
    rw [toPyL] at e
    split at e
    · rename_i x y h1 h2
      cases e
      rw [PyData.hasDictAll, noDict_of h1, noDict_all h2]; rfl
    · cases e
end
def rRepr (K : PySem.W.Frag) : List V → Hp → VK → Prop := fun vs H Q => ∃ (x : V) (d : PyData), vs = [x] ∧ L2.Dp K H x d ∧ d.showable = true ∧ d.hasDict = false ∧ d.depth ≤ 64 ∧ d.shown.length ≤ sizeLine ∧ Q (.str d.shown) H
theorem cr_repr (hg : X.A.guards = some []) (hu : X.A.units + 66 < cLine) : CallR X (.builtin "repr") (rRepr X.K) := by
  intro pins s σ H vs us Q I r h
  obtain ⟨x, d, rfl, hd, hsh, hnd, hdp, hz, q⟩ := h
  obtain ⟨u, rfl, rx⟩ := L2.vals1 r
  obtain ⟨as, hr⟩ := L2.Dp.reads I d x u hd rx
  cases hd with
  | non =>
    cases rx
    exact call_repr_gives (PySem.typeIs_none s) F.slot_NoneType_repr F.entry_NoneType_repr (F.args_NoneType_repr_1 _) gives_none_repr ⟨.str (PyData.shown .none), H, I.tok _, ⟨_, rfl⟩, q⟩ (by rfl) hz
  | bl b =>
    cases rx
    exact call_repr_gives (PySem.typeIs_bool s b) F.slot_bool_repr F.entry_bool_repr (F.args_bool_repr_1 _) (gives_bool_repr b) ⟨.str (PyData.shown (.bool b)), H, I.tok _, ⟨_, rfl⟩, q⟩ (by rfl) hz
  | int i =>
    obtain ⟨t, rfl⟩ := rx
    have hi : i.natAbs.log2 < 1920 := of_decide_eq_true hsh
    exact call_repr_gives (PySem.typeIs_int s i t) F.slot_int_repr F.entry_int_repr (F.args_int_repr_1 _) (gives_int_repr i t hi) ⟨.str (PyData.shown (.int i)), H, I.tok _, ⟨_, rfl⟩, q⟩ (by rfl) hz
  | str z =>
    obtain ⟨t, rfl⟩ := rx
    exact call_repr_gives (PySem.typeIs_str s z t) F.slot_str_repr F.entry_str_repr (F.args_str_repr_1 _) (gives_str_repr z t) ⟨.str (PyData.shown (.str z)), H, I.tok _, ⟨_, rfl⟩, q⟩ (by rfl) hz
  | lst hs ha =>
    cases rx
    exact repr_of_reads' hr hsh (fun z => by rw [hnd] at z; cases z) hg (by omega) (fun _ _ e => e) (fun h' t tk hk => ⟨.str (PyData.shown _), H, I.kept hk, ⟨t, rfl⟩, q⟩) hz
  | tup hs ha =>
    cases rx
    exact repr_of_reads' hr hsh (fun z => by rw [hnd] at z; cases z) hg (by omega) (fun _ _ e => e) (fun h' t tk hk => ⟨.str (PyData.shown _), H, I.kept hk, ⟨t, rfl⟩, q⟩) hz
/-! ### sorting data, with what stands beside -/
def leB (x y : Rt) : Bool := leW x.2 y.2
def rSort (K : PySem.W.Frag) : List V → Hp → VK → Prop := fun vs H Q => ∃ (a : Addr) (bs : List Rt), vs = [V.ref a] ∧ SqL K H a (bs.map (·.1)) ∧ (∀ b ∈ bs, L2.Dp K H b.1 (pyOf b.2)) ∧ sortOk (bs.map (·.2)) = true ∧
  ∀ p, H p = none → Q (.ref p) (upd H p (.lst ((bs.mergeSort leB).map (·.1))))
theorem each_of {bs : List Rt} : ∀ {us : List Value}, Vals (bs.map (·.1)) us → PySem.W.EachIs (fun v (b : Rt) => RelV b.1 v) us bs := by
  induction bs with
  | nil => intro us r; cases r; exact .nil
  | cons b bs ih =>
    intro us r
    cases r with
    | cons h t => exact .cons h (ih t)
theorem vals_each {bs : List Rt} : ∀ {us : List Value}, PySem.W.EachIs (fun v (b : Rt) => RelV b.1 v) us bs → Vals (bs.map (·.1)) us := by
  induction bs with
  | nil => intro us r; cases r; exact .nil
  | cons b bs ih =>
    intro us r
    cases r with
    | cons h t => exact .cons h (ih t)
theorem cr_sortD (hu : X.A.units + 66 < cLine) : CallR X (.builtin "sorted") (rSort X.K) := by
  intro pins s σ H vs us Q I r h
  obtain ⟨a, bs, rfl, hs, hd, hok, q⟩ := h
  obtain ⟨its, rv, hl, hz⟩ := I.list hs
  rw [L2.Vals.ref1 r]
  have er : ∀ {bs : List Rt} {us : List Value}, (∀ b ∈ bs, L2.Dp X.K H b.1 (pyOf b.2)) → Vals (bs.map (·.1)) us → PySem.W.EachIs (fun v (b : Rt) => ∃ as, Reads s.heap v (pyOf b.2) as) us bs := by
    intro bs
    induction bs with
    | nil => intro us _ r; cases r; exact .nil
    | cons b bs ih =>
      intro us hd r
      cases r with
      | cons h t => exact .cons (L2.Dp.reads I _ _ _ (hd b List.mem_cons_self) h) (ih (fun b' hb => hd b' (List.mem_cons_of_mem _ hb)) t)
  unfold sortOk at hok
  simp only [Bool.and_eq_true, Bool.or_eq_true, List.all_eq_true, List.mem_map, decide_eq_true_eq] at hok
  obtain ⟨⟨h1, h2⟩, h3⟩ := hok
  have hlen : bs.length = its.length := by rw [← rv.length, List.length_map]
  rw [List.length_map] at hz
  refine PySem.W.sorted_data (vs := its) (bs := bs) (enc := fun b => pyOf b.2) (R := fun v b => RelV b.1 v) hl.isList (each_of rv) (er hd rv) ?_ ?_ hz (fun b hb => ?_) fun out ho eo => ?_
  · intro d hd1 d' hd2
    obtain ⟨b, hb, rfl⟩ := List.mem_map.mp hd1
    obtain ⟨b', hb', rfl⟩ := List.mem_map.mp hd2
    exact h2 b.2 ⟨b, hb, rfl⟩ b'.2 ⟨b', hb', rfl⟩
  · rcases h3 with h3 | h3
    · refine .inl fun d hd1 => ?_
      obtain ⟨b, hb, rfl⟩ := List.mem_map.mp hd1
      have z := h3 b.2 ⟨b, hb, rfl⟩
      split at z
      · rename_i x y hp
        exact ⟨x, y, hp⟩
      · cases z
    · refine .inr fun d hd1 => ?_
      obtain ⟨b, hb, rfl⟩ := List.mem_map.mp hd1
      have z := h3 b.2 ⟨b, hb, rfl⟩
      refine ⟨fun e => ?_, fun xs e => ?_⟩
      · rw [e] at z; cases z
      · rw [e] at z; cases z
  · have z := (h1 b.2 ⟨b, hb, rfl⟩).2
    show X.A.units + 2 + (pyOf b.2).depth < cLine
    omega
  · obtain ⟨ep, he'⟩ := PyProof.Rows.sortedAll_at s.heap its out.toArray
    have e2 : bs.mergeSort (PySem.W.dataLe false fun b => pyOf b.2) = bs.mergeSort leB := rfl
    rw [e2] at eo
    have rv2 := vals_each eo
    have hlen2 : ((bs.mergeSort leB).map (·.1)).length ≤ sizeLine := by rw [List.length_map, List.length_mergeSort]; exact hz
    exact ⟨.ref _, upd H (s.heap.objs.size + 1) (.lst ((bs.mergeSort leB).map (·.1))), I.laid (t' := s.toks) (fun _ _ => PyProof.Rows.sortedAll_old) (Nat.le_succ _) ⟨hlen2, out, ep, rv2, he'⟩, rfl, q _ (I.hok.fresh (Nat.le_succ _))⟩
end
end Ev
end
section
set_option linter.all false
set_option autoImplicit false
set_option maxRecDepth 10000
/-! Ev11: the rule of a built-in's call. -/
namespace Ev
open PySem PySem.Spec PyProof.Rows
open L2 (V HO Hp upd upd_same upd_ne SqL SqT Rd Key Cx PE PT PW PA PC PG PGs TE TT TA TG TGs OpR IxR UnR CallR MtR VK R2 pe_op pe_un pe_cmpR EP Inv RelV Vals)

def toBi : Bi → Value
  | .len => .builtin "len" | .abs => .builtin "abs" | .int => .type "int" | .max2 => .builtin "max" | .max1 => .builtin "max" | .min2 => .builtin "min" | .min1 => .builtin "min"
  | .sum => .builtin "sum" | .all => .builtin "all" | .any => .builtin "any" | .list => .type "list" | .tuple => .type "tuple" | .sorted => .builtin "sorted" | .repr => .builtin "repr" | .divmod => .builtin "divmod"
  | .isin _ => .none | .sset => .none
section
variable {X : Cx} {I : Inf} {Φ : Fns} {σ : L2.St} {H : Hp} {B : Hp} {G : Gh} {env env' : Env} {t : List Rt}
theorem factL_ne : ∀ {vs : List V} {rs : List Ev.R}, FactL σ vs rs → ∀ r ∈ rs, ∀ i k, r ≠ .elt i k
  | [], [], _, r, h, _, _ => nomatch h
  | _ :: _, r0 :: rs, F, r, h, i, k => by
    rcases List.mem_cons.mp h with e | h
    · subst e
      intro e
      subst e
      exact F.1
    · exact factL_ne F.2 r h i k
  | [], _ :: _, F, _, _, _, _ => F.elim
  | _ :: _, [], F, _, _, _, _ => F.elim
theorem factL_fact {x : V} {r : Ev.R} {vs : List V} {rs : List Ev.R} (F : FactL σ (x :: vs) (r :: rs)) : Fact σ H x r := by
  have h := F.1
  cases r with
  | val w => trivial
  | var i => exact h
  | elt i k => exact h.elim
theorem extL_mem : ∀ {vs : List V} {rs : List Ev.R} {k : Nat} {x : V} {w : W}, vs[k]? = some x → rs[k]? = some (Ev.R.val w) → (x, w) ∈ extL vs rs t
  | [], _, _, _, _, h, _ => by simp at h
  | _ :: _, [], _, _, _, _, h => by simp at h
  | v :: vs, r :: rs, 0, x, w, h1, h2 => by
    simp at h1 h2
    subst h1; subst h2
    exact ext_mem _ rfl
  | v :: vs, r :: rs, k + 1, x, w, h1, h2 => by
    have ih := extL_mem (vs := vs) (rs := rs) (k := k) (by simpa using h1) (by simpa using h2)
    show _ ∈ ext v r (extL vs rs t)
    cases r <;> first | exact ih | exact List.mem_cons_of_mem _ ih
theorem Ok.unextL : ∀ {vs : List V} {rs : List Ev.R}, Ok I B G σ H env (extL vs rs t) → Ok I B G σ H env t
  | [], [], O => O
  | [], _ :: _, O => O
  | _ :: _, [], O => O
  | _ :: _, _ :: _, O => Ok.unextL (Ok.unext O)
theorem views : ∀ {vs : List V} {rs : List Ev.R} {ds : List D} {T : List Rt}, Ok I B G σ H env T → (∀ (w : W) (x : V) (k : Nat), vs[k]? = some x → rs[k]? = some (Ev.R.val w) → (x, w) ∈ T) → FactL σ vs rs → rdL env rs = some ds → ViewL H vs ds
  | [], [], _, _, _, _, _, e => by cases e; exact .nil
  | v :: vs, r :: rs, ds, T, O, hm, F, e => by
    obtain ⟨d, h1, e⟩ := bindSome e
    obtain ⟨ds', h2, e⟩ := mapSome e
    subst e
    have vd : View H v d := O.viewOf (factL_fact F) (fun w h => hm w v 0 rfl (by rw [h]; rfl)) h1
    exact .cons vd (views O (fun w x k a b => hm w x (k + 1) (by simpa using a) (by simpa using b)) F.2 h2)
  | [], _ :: _, _, _, _, _, F, _ => F.elim
  | _ :: _, [], _, _, _, _, F, _ => F.elim
theorem max_of {ns : List Int} (h : ns ≠ []) : maxL ns ∈ ns ∧ ∀ y ∈ ns, y ≤ maxL ns := by
  induction ns with
  | nil => exact absurd rfl h
  | cons x r ih =>
    cases r with
    | nil => simp [maxL]
    | cons y r =>
      obtain ⟨h1, h2⟩ := ih (by simp)
      have e : maxL (x :: y :: r) = max x (maxL (y :: r)) := rfl
      rw [e]
      refine ⟨?_, fun z hz => ?_⟩
      · by_cases hx : x ≤ maxL (y :: r)
        · rw [Int.max_eq_right hx]; exact List.mem_cons_of_mem _ h1
        · rw [Int.max_eq_left (by omega)]; exact List.mem_cons_self
      · rcases List.mem_cons.mp hz with rfl | hz
        · exact Int.le_max_left ..
        · exact Int.le_trans (h2 z hz) (Int.le_max_right ..)
theorem min_of {ns : List Int} (h : ns ≠ []) : minL ns ∈ ns ∧ ∀ y ∈ ns, minL ns ≤ y := by
  induction ns with
  | nil => exact absurd rfl h
  | cons x r ih =>
    cases r with
    | nil => simp [minL]
    | cons y r =>
      obtain ⟨h1, h2⟩ := ih (by simp)
      have e : minL (x :: y :: r) = min x (minL (y :: r)) := rfl
      rw [e]
      refine ⟨?_, fun z hz => ?_⟩
      · by_cases hx : x ≤ minL (y :: r)
        · rw [Int.min_eq_left hx]; exact List.mem_cons_self
        · rw [Int.min_eq_right (by omega)]; exact List.mem_cons_of_mem _ h1
      · rcases List.mem_cons.mp hz with rfl | hz
        · exact Int.min_le_left ..
        · exact Int.le_trans (Int.min_le_right ..) (h2 z hz)
theorem dp_ok {K : PySem.W.Frag} {x : V} {d : D} (v : View H x d) (h : (toPy d).isSome = true) {w : W} (hw : frz w = d) : L2.Dp K H x (pyOf w) := by
  obtain ⟨p, hp⟩ := Option.isSome_iff_exists.mp h
  have : pyOf w = p := by unfold pyOf; rw [hw, hp]; rfl
  rw [this]
  exact v.dp hp
theorem viewL_zip : ∀ {xs : List V} {ws : List W}, ViewL H xs (frzL ws) → ∀ b ∈ xs.zip ws, View H b.1 (frz b.2)
  | [], _, _, b, hb => by simp at hb
  | x :: xs, [], h, b, hb => by simp at hb
  | x :: xs, w :: ws, h, b, hb => by
    rw [frzL] at h
    cases h with
    | cons a r =>
      rcases List.mem_cons.mp (show b ∈ (x, w) :: xs.zip ws from hb) with rfl | hb
      · exact a
      · exact viewL_zip r b hb
/-- a list, its items sorted into a new one -/
theorem sort_fin {x : V} {a : Addr} {xs : List V} {ws l : List W} {Q : VK} (hu : X.A.units + 66 < cLine) (hx : x = .ref a) (hH : H a = some (.lst xs)) (hl : xs.length = ws.length) (vw : ViewL H xs (frzL ws)) (e : sortW ws = some l)
    (O : Ok I B G σ H env (xs.zip ws ++ t)) (k : ∀ v H' G', G.Le G' → Post I B G' σ H' env t v (.val (.lst l)) → Q v H') : anyCall X (.builtin "sorted") [x] H Q := by
  unfold sortW at e
  split at e
  · rename_i hok
    cases e
    have m1 : (xs.zip ws).map (·.1) = xs := List.map_fst_zip (by omega)
    have m2 : (xs.zip ws).map (·.2) = ws := List.map_snd_zip (by omega)
    refine ⟨_, cr_sortD hu, a, xs.zip ws, by rw [hx], by rw [m1]; exact SqL.of hH, fun b hb => ?_, by rw [m2]; exact hok, fun p hp => ?_⟩
    · refine dp_ok (viewL_zip vw b hb) ?_ rfl
      unfold sortOk at hok
      simp only [Bool.and_eq_true, List.all_eq_true] at hok
      exact (hok.1.1 b.2 (List.of_mem_zip hb).2).1
    · have pm : (xs.zip ws ++ t).Perm ((xs.zip ws).mergeSort leB ++ t) := (List.mergeSort_perm _ _).symm.append_right t
      have e2 : ((xs.zip ws).mergeSort leB).map (·.2) = ws.mergeSort leW := by
        have := PySem.W.sort_maps (r := leB) (s := leW) (fun b : Rt => b.2) (l := xs.zip ws) (fun _ _ _ _ => rfl)
        rw [m2] at this
        exact this
      have P := (O.perm pm).node (t1 := (xs.zip ws).mergeSort leB) hp (w := .lst (ws.mergeSort leW)) (o := .lst (((xs.zip ws).mergeSort leB).map (·.1))) fun {fp} z => by
        rw [e2] at z
        exact .lst upd_same z
      exact k _ _ G (.refl G) ⟨P, trivial⟩
  · cases e

theorem Ok.childrenL {v : V} {ws : List W} (O : Ok I B G σ H env ((v, .lst ws) :: t)) : ∃ a xs, v = .ref a ∧ H a = some (.lst xs) ∧ xs.length = ws.length ∧ ViewL H xs (frzL ws) ∧ Ok I B G σ H env (xs.zip ws ++ t) := by
  obtain ⟨R, fp, s, r, o⟩ := O.tr
  obtain ⟨f, g, rfl, rx, rt⟩ := RepWP.uncons (R := t ++ R) r
  cases rx with
  | lst hH rl =>
    rename_i a xs f
    refine ⟨a, xs, rfl, hH, rl.length, rl.view O.fz, O.fz, O.ca, O.cl, O.fn, O.sc, O.bp, O.bz, O.lent, R, f ++ g, s, ?_, ?_⟩
    · rw [List.append_assoc]
      refine RepWP.app ?_ rt
      unfold RepWP
      have hl := rl.length
      rw [List.map_fst_zip (by omega), List.map_snd_zip (by omega)]
      exact rl
    · exact ⟨(List.nodup_cons.mp o.nd).2, fun p hp => o.no p (List.mem_cons_of_mem _ hp)⟩
theorem biD_fin {b : Bi} {vs : List V} {ds : List D} {d : D} {Q : VK} (hc : X.calm = true) (hg : X.A.guards = some []) (hu : X.A.units + 66 < cLine) (O : Ok I B G σ H env t) (vw : ViewL H vs ds) (e : biD b ds = some d) (nb : ∀ ts, b ≠ .isin ts)
    (k : ∀ v H' G', G.Le G' → Post I B G' σ H' env t v (.val (.d d)) → Q v H') : anyCall X (toBi b) vs H Q := by
  have fin : ∀ {v : V}, Rep G v d → Q v H := fun {v} h => k v H G (.refl G) (O.res h)
  unfold biD at e
  split at e
  · cases e
    cases vw with | cons a r => cases a; cases r; exact ⟨_, L2.call_abs, _, rfl, fin (.int _)⟩
  · cases e
    cases vw with | cons a r => cases a; cases r; exact ⟨_, L2.call_int1, .inl ⟨_, rfl, fin (.int _)⟩⟩
  · cases e
    cases vw with | cons a r => cases a; cases r; exact ⟨_, L2.call_int1, .inr ⟨_, rfl, fin (.int _)⟩⟩
  · cases e
    cases vw with | cons a r => cases a; cases r with | cons a r => cases a; cases r; exact ⟨_, L2.call_max2 hc, _, _, rfl, fin (.int _)⟩
  · cases e
    cases vw with | cons a r => cases a; cases r with | cons a r => cases a; cases r; exact ⟨_, L2.call_min2 hc, _, _, rfl, fin (.int _)⟩
  · cases e
    cases vw with
    | cons a r =>
      cases r
      cases a with
      | list h rl => exact ⟨_, L2.call_len_seq, _, _, rfl, .inl (SqL.of h), by rw [rl.length]; exact fin (.int _)⟩
  · cases e
    cases vw with
    | cons a r =>
      cases r
      cases a with
      | tup h rl => exact ⟨_, L2.call_len_seq, _, _, rfl, .inr (SqT.of h), by rw [rl.length]; exact fin (.int _)⟩
  · obtain ⟨ns, h1, rfl⟩ := mapSome e
    cases vw with
    | cons a r =>
      cases r
      cases a with
      | list h rl => exact ⟨_, L2.cr_sum hc, _, ns, rfl, by rw [← rl.ints h1]; exact SqL.of h, fin (.int _)⟩
  · obtain ⟨ns, h1, rfl⟩ := mapSome e
    cases vw with
    | cons a r =>
      cases r
      cases a with
      | tup h rl => exact ⟨_, cr_sumT hc, _, ns, rfl, by rw [← rl.ints h1]; exact SqT.of h, fin (.int _)⟩
  · obtain ⟨ns, h1, e⟩ := bindSome e
    split at e
    · cases e
    · rename_i hn
      cases e
      obtain ⟨m1, m2⟩ := max_of hn
      cases vw with
      | cons a r =>
        cases r
        cases a with
        | list h rl =>
          refine ⟨_, L2.cr_max hc, _, ns, rfl, by rw [← rl.ints h1]; exact SqL.of h, List.length_pos_iff.mpr hn, fun m q1 q2 => ?_⟩
          have : m = maxL ns := Int.le_antisymm (m2 m q1) (q2 _ m1)
          rw [this]; exact fin (.int _)
  · obtain ⟨ns, h1, e⟩ := bindSome e
    split at e
    · cases e
    · rename_i hn
      cases e
      obtain ⟨m1, m2⟩ := min_of hn
      cases vw with
      | cons a r =>
        cases r
        cases a with
        | list h rl =>
          refine ⟨_, L2.cr_min hc, _, ns, rfl, by rw [← rl.ints h1]; exact SqL.of h, List.length_pos_iff.mpr hn, fun m q1 q2 => ?_⟩
          have : m = minL ns := Int.le_antisymm (q2 _ m1) (m2 m q1)
          rw [this]; exact fin (.int _)
  · obtain ⟨ns, h1, e⟩ := bindSome e
    split at e
    · cases e
    · rename_i hn
      cases e
      obtain ⟨m1, m2⟩ := max_of hn
      cases vw with
      | cons a r =>
        cases r
        cases a with
        | tup h rl =>
          refine ⟨_, cr_maxT hc, _, ns, rfl, by rw [← rl.ints h1]; exact SqT.of h, List.length_pos_iff.mpr hn, fun m q1 q2 => ?_⟩
          have : m = maxL ns := Int.le_antisymm (m2 m q1) (q2 _ m1)
          rw [this]; exact fin (.int _)
  · obtain ⟨ns, h1, e⟩ := bindSome e
    split at e
    · cases e
    · rename_i hn
      cases e
      obtain ⟨m1, m2⟩ := min_of hn
      cases vw with
      | cons a r =>
        cases r
        cases a with
        | tup h rl =>
          refine ⟨_, cr_minT hc, _, ns, rfl, by rw [← rl.ints h1]; exact SqT.of h, List.length_pos_iff.mpr hn, fun m q1 q2 => ?_⟩
          have : m = minL ns := Int.le_antisymm (q2 _ m1) (m2 m q1)
          rw [this]; exact fin (.int _)
  · obtain ⟨bs, h1, rfl⟩ := mapSome e
    cases vw with
    | cons a r =>
      cases r
      cases a with
      | list h rl => exact ⟨_, L2.cr_all hc, _, bs, rfl, by rw [← rl.bools h1]; exact SqL.of h, fin (.bool _)⟩
  · obtain ⟨bs, h1, rfl⟩ := mapSome e
    cases vw with
    | cons a r =>
      cases r
      cases a with
      | list h rl => exact ⟨_, L2.cr_any hc, _, bs, rfl, by rw [← rl.bools h1]; exact SqL.of h, fin (.bool _)⟩
  · split at e
    · rename_i hz
      cases e
      simp only [Bool.and_eq_true, decide_eq_true_eq] at hz
      cases vw with
      | cons a r =>
        cases a
        cases r with
        | cons a r =>
          cases a
          cases r
          refine ⟨_, L2.call_divmod, _, _, rfl, hz, fun p hp => ?_⟩
          obtain ⟨G1, l1, P⟩ := O.newTup hp (.cons (.int _) (.cons (.int _) .nil))
          exact k _ _ G1 l1 P
    · cases e
  · exact absurd rfl (nb _)
  · obtain ⟨p, h1, e⟩ := bindSome e
    split at e
    · rename_i hz
      cases e
      simp only [Bool.and_eq_true] at hz
      cases vw with
      | cons a r =>
        cases r
        exact ⟨_, cr_repr hg hu, _, p, rfl, a.dp h1, hz.1.1, noDict_of h1, SeqAt.depth_of_shaped hz.1.2, of_decide_eq_true hz.2, fin (.str _)⟩
    · cases e
  · cases e
theorem bi_fin (hS : ScOk X.K I) {b : Bi} {vs : List V} {rs : List Ev.R} {r : Ev.R} {Q : VK} (hc : X.calm = true) (hg : X.A.guards = some []) (hu : X.A.units + 66 < cLine) (O : Ok I B G σ H env (extL vs rs t)) (F : FactL σ vs rs) (e : biF b rs env = some (r, env')) (nb : ∀ ts, b ≠ .isin ts) (ns : b ≠ .sset)
    (k : ∀ v H' G', G.Le G' → Post I B G' σ H' env' t v r → Q v H') : anyCall X (toBi b) vs H Q := by
  have one : ∀ {r0 : Ev.R}, rs = [r0] → ∃ x, vs = [x] ∧ Ok I B G σ H env (ext x r0 t) ∧ Fact σ H x r0 := by
    intro r0 hr
    subst hr
    match vs, F with
    | [x], F => exact ⟨x, rfl, O, factL_fact F⟩
  unfold biF at e
  split at e
  · rename_i r0
    obtain ⟨x, rfl, O1, F1⟩ := one rfl
    obtain ⟨p, h1, e⟩ := bindSome e
    obtain ⟨G1, l1, O2, sx⟩ := O1.shell F1 h1
    split at e
    · rename_i l hl
      rw [hl] at sx
      obtain ⟨a, xs, rfl, hH, rl⟩ := sx
      cases e
      exact ⟨_, L2.call_list_of, a, xs, rfl, .inl (SqL.of hH), fun q hq => k _ _ G1 l1 ⟨O2.newList hq rl, trivial⟩⟩
    · rename_i l hl
      rw [hl] at sx
      obtain ⟨a, xs, rfl, hH, rl⟩ := sx
      cases e
      exact ⟨_, L2.call_list_of, a, xs, rfl, .inr (SqT.of hH), fun q hq => k _ _ G1 l1 ⟨O2.newList hq rl, trivial⟩⟩
  · rename_i r0
    obtain ⟨x, rfl, O1, F1⟩ := one rfl
    split at e
    · rename_i l hl
      obtain ⟨p, h1, e⟩ := mapSome e
      cases e
      have vx := O1.viewOf F1 ext_mem hl
      obtain ⟨G1, l1, O2⟩ := Post.take ⟨O1, F1⟩ (w := p.1) (env' := p.2) h1
      cases vx with
      | tup hH rl => exact ⟨_, L2.call_tuple_of, _, _, rfl, .inr ⟨SqT.of hH, k _ _ G1 l1 ⟨O2, trivial⟩⟩⟩
    · obtain ⟨p, h1, e⟩ := bindSome e
      split at e
      · rename_i l hl
        obtain ⟨G1, l1, O2, sx⟩ := O1.shell F1 h1
        rw [hl] at sx
        obtain ⟨a, xs, rfl, hH, rl⟩ := sx
        cases e
        refine ⟨_, L2.call_tuple_of, a, xs, rfl, .inl ⟨SqL.of hH, fun q hq => ?_⟩⟩
        obtain ⟨G2, l2, P⟩ := O2.newTup hq rl
        exact k _ _ G2 (l1.trans l2) P
      · cases e
  · rename_i ws
    obtain ⟨x, rfl, O1, F1⟩ := one rfl
    obtain ⟨l, h1, e⟩ := mapSome e
    cases e
    obtain ⟨a, xs, rfl, hH, hl, vw, O2⟩ := Ok.childrenL O1
    exact sort_fin hu rfl hH hl vw h1 O2 k
  · rename_i r0 _
    obtain ⟨x, rfl, O1, F1⟩ := one rfl
    obtain ⟨p, h1, e⟩ := bindSome e
    obtain ⟨G1, l1, O2, sx⟩ := O1.shell F1 h1
    split at e
    · rename_i l hl
      rw [hl] at sx
      obtain ⟨a, xs, rfl, hH, rl⟩ := sx
      obtain ⟨l2, h2, e⟩ := mapSome e
      cases e
      refine sort_fin hu rfl hH (by rw [List.length_map, rl.length]) (by rw [frzL_ds]; exact rl.view O2.fz) h2 (zip_ds rl O2) fun v H' G' l' P => k v H' G' (l1.trans l') P
    · cases e
  · exact absurd rfl ns
  · rename_i r0
    obtain ⟨x, rfl, O1, F1⟩ := one rfl
    split at e
    · rename_i l hg2
      cases e
      obtain ⟨f, rw⟩ := O1.find F1 ext_mem hg2
      cases rw with
      | d rp =>
        obtain ⟨p, rfl, hq⟩ := scr_sq hS O1 rp
        exact ⟨_, L2.call_len_seq, p, l.map V.int, rfl, .inl hq, by rw [List.length_map]; exact k _ _ G (.refl G) (O1.unext.res (.int _))⟩
    · obtain ⟨ds, h1, e⟩ := bindSome e
      obtain ⟨d, h2, e⟩ := mapSome e
      cases e
      have vw := views O (fun w x k h1 h2 => extL_mem h1 h2) F h1
      exact biD_fin hc hg hu O.unextL vw h2 nb k
  · obtain ⟨ds, h1, e⟩ := bindSome e
    obtain ⟨d, h2, e⟩ := mapSome e
    cases e
    have vw := views O (fun w x k h1 h2 => extL_mem h1 h2) F h1
    exact biD_fin hc hg hu O.unextL vw h2 nb k
end
end Ev
end
section
set_option linter.all false
set_option autoImplicit false
set_option maxRecDepth 100000
/-! Ev12: set(xs), xs a list of whole numbers; sorted(set(xs)). -/
namespace Ev
open PySem PySem.Spec PyProof.Rows
open L2 (V HO Hp upd upd_same upd_ne SqL SqT Rd Key Cx PE PT PW PA PC TE TT TA OpR IxR UnR CallR VK R2 EP Inv RelV Vals SetR SetO)

section
variable {P : Program} {w : World} {A : Around} {E : Value → Shared → Prop} {s : Shared}
theorem set_update_ints {I : Addr} {fp wr : List Addr} {G : Array GenState → Array GenState → Prop} {n : Nat} {Pv : Nat → Value → Prop} {St : Nat → Shared → Prop} {R : Result → Shared → Prop}
    (W : WalksS P w A.in1 I fp wr G n Pv St) (S : Addr) (hSf : S ∉ fp) (val : Nat → Int) (hval : ∀ i v, Pv i v → ∃ t, v = .int (val i) t) (hb : n + 1 < scanBound) :
    ∀ (k i : Nat) (s : Shared), n - i = k → i ≤ n → St i s → SetR w s.heap S (fun k' => (firstMet val i).any (· == k')) (firstMet val i).length →
      (∀ s', Moved (S :: wr) G s s' → SetR w s'.heap S (fun k' => (firstMet val n).any (· == k')) (firstMet val n).length → R (.ok (.ret .none)) s') →
      codeAny (model P w) A (.builtin "set.update.loop" ⟨[.ref S, .ref I], []⟩) R s := by
  have hSw : S ∉ wr := fun h => hSf (W.sub _ h)
  have hsub : ∀ b ∈ wr, b ∈ S :: wr := fun b hb => List.mem_cons_of_mem _ hb
  intro k
  induction k with
  | zero =>
    intro i s hk hi hst hS hR
    have hin : i = n := by omega
    subst hin
    refine codeAny_builtin F.entry_set_update_loop ?_
    rw [Around.under_plainId F.plain_set_update_loop _]
    show wpAny _ A.in1 (pyNext (.ref I) >>= _) _ _ s
    refine wpAny_bind (W.done s _ _ hst fun s' hm => ?_)
    show wpAny _ A.in1 (ret Value.none) _ _ s'
    exact wpAny_pure (hR s' (hm.mono hsub) (hS.at fun o e => hm.heap S o hSw e))
  | succ k ih =>
    intro i s hk hi hst hS hR
    have hlt : i < n := by omega
    refine codeAny_builtin F.entry_set_update_loop ?_
    rw [Around.under_plainId F.plain_set_update_loop _]
    show wpAny _ A.in1 (pyNext (.ref I) >>= _) _ _ s
    refine wpAny_bind (W.item i s _ _ hlt hst fun v s' hP hst' hm => ?_)
    obtain ⟨t, rfl⟩ := hval i v hP
    have hS' : SetR w s'.heap S (fun k' => (firstMet val i).any (· == k')) (firstMet val i).length := hS.at fun o e => hm.heap S o hSw e
    show wpAny _ A.in1 (holding [Value.int (val i) t] (setAdd S (.int (val i) t)) >>= _) _ _ s'
    refine wpAny_bind (wpAny_holding ?_)
    unfold setAdd
    refine wpAny_holding ?_
    refine wpAny_bind ((intKind P w).pyHash (k := val i) (intKind_is _ _ _ _) ?_)
    have hroom : (firstMet val i).length + 1 < scanBound := by have := firstMet_length_le val i; omega
    refine L2.setR_add_hashed (s := { s' with toks := s'.toks + 1 }) hS' hroom fun h' hsb hS2 => ?_
    have hSi : SetR w h' S (fun k' => (firstMet val (i + 1)).any (· == k')) (firstMet val (i + 1)).length := by
      have e1 : (fun k' => (firstMet val (i + 1)).any (· == k')) = fun j => (firstMet val i).any (· == j) || decide (j = val i) := funext fun k' => by rw [firstMet_succ, step_any]
      have e2 : (firstMet val (i + 1)).length = if ((firstMet val i).any (· == val i)) = true then (firstMet val i).length else (firstMet val i).length + 1 := by rw [firstMet_succ, step_length]
      rw [e1, e2]
      exact hS2
    refine wpAny_pure ⟨plainId_quiet F.plain_set_update_loop _, ih (i + 1) _ (by omega) hlt (W.frame _ s' _ _ hst' (Nat.le_succ _) fun b hb o e => ?_) hSi fun s'' hm'' hS'' => ?_⟩
    · rw [hsb.2 b (fun h : b = S => hSf (by rw [← h]; exact hb))]; exact e
    · refine hR s'' (Moved.trans W.gtrans ((hm.mono hsub).then_heap (Nat.le_succ _) fun b o hb e => ?_) hm'') hS''
      rw [hsb.2 b (fun h : b = S => hb (by rw [h]; exact List.mem_cons_self))]; exact e

set_option maxHeartbeats 3200000 in
theorem call_set_ints {l : Addr} {items : Array Value} {ns : List Int} {Q : Value → Shared → Prop} (hh : A.handled = none) (hl : s.heap.IsList l items) (hi : IntsAre items.toList ns) (hb : items.size + 1 < scanBound)
    (h : ∀ (h' : Heap) (tk : Nat), SetR w h' s.heap.objs.size (fun k' => (firstMet (fun i => ns.getD i 0) items.size).any (· == k')) (firstMet (fun i => ns.getD i 0) items.size).length →
      (∀ b o, s.heap.get? b = some o → h'.get? b = some o) → Q (.ref s.heap.objs.size) { s with heap := h', toks := tk }) :
    wpAny (model P w) A (call (.type "set") [.ref l]) Q E s := by
  obtain ⟨c, tl, hmro⟩ := F.called_set.mro
  have hmade := F.called_set.made
  have hsub := F.called_set.sub
  refine wpAny_call (codeAny_of_tree ?_)
  show wpAny _ _ (callAny (.type "set") _) _ _ _
  refine wpAny_pure ⟨Code.quiet_builtin _ (by decide +kernel), codeAny_builtin F.entry_type_call ?_⟩
  rw [Around.under_plain (weight_type_call_type "set" [.ref l] []) rfl]
  have h1 := F.called_set.notType
  have h2 := F.called_set.canCreate
  have hct := F.typeCall_set_1 (.ref l)
  repeat (any_goals (first | assumption | wp_step))

  refine codeAny_mono (L2.code_set_led1 (.ref l) (E := E) (Q₁ := fun obj s₁ => obj = .ref s.heap.objs.size ∧ s₁ = { s with heap := s.heap.push { cls := .type "set", dict := none, data := .set #[] 0 (.fresh 0 0 (!w.params.followText "set-order")) } }) ⟨rfl, rfl⟩) fun r s₁ hr => ?_
  cases r with
  | error e => exact hr
  | ok fl =>
    cases fl with
    | ret obj =>
      obtain ⟨rfl, rfl⟩ := hr
      have hS : (s.heap.push { cls := .type "set", dict := none, data := .set #[] 0 (.fresh 0 0 (!w.params.followText "set-order")) }).get? s.heap.objs.size = some { cls := .type "set", dict := none, data := .set #[] 0 (.fresh 0 0 (!w.params.followText "set-order")) } := Heap.get?_push_size _ rfl
      have hT : Shared.TypeIs { s with heap := s.heap.push { cls := .type "set", dict := none, data := .set #[] 0 (.fresh 0 0 (!w.params.followText "set-order")) } } (.ref s.heap.objs.size) "set" := ⟨_, hS, rfl⟩
      have hli := F.called_set.init.lookup
      have hbi := F.called_set.init.bind (.ref s.heap.objs.size)
      repeat (any_goals (first | assumption | wp_step))

      refine codeAny_mono (codeAny_call_builtin (R := wants (fun r s₂ => r = .none ∧ ∃ h' tk, s₂ = { s with heap := h', toks := tk } ∧
          SetR w h' s.heap.objs.size (fun k' => (firstMet (fun i => ns.getD i 0) items.size).any (· == k')) (firstMet (fun i => ns.getD i 0) items.size).length ∧
          (∀ b o, s.heap.get? b = some o → h'.get? b = some o)) E) F.called_set.init.plain F.entry_set_init (check_set_init_1 hT ?_)) fun r₂ s₂ hr₂ => ?_
      · obtain ⟨ol, hol, hcl, nl, hdl⟩ := hl
        obtain ⟨ocls, odict, odata, oslots⟩ := ol
        simp only at hcl hdl
        subst hcl; subst hdl
        have hol' : (s.heap.push { cls := .type "set", dict := none, data := .set #[] 0 (.fresh 0 0 (!w.params.followText "set-order")) }).get? l = some { cls := .type "list", dict := odict, data := .seq items nl, slots := oslots } := Heap.get?_push_of_some _ hol
        have hsls := F.sub_list_set
        have hslf := F.sub_list_frozenset
        have hne : (Value.type "list" == Value.type "dict") = false := by decide
        have hl1 : (s.heap.push { cls := .type "set", dict := none, data := .set #[] 0 (.fresh 0 0 (!w.params.followText "set-order")) }).IsList l items := ⟨_, hol', rfl, nl, rfl⟩
        unfold Builtin.«set.__init__» noKeywords Builtin.Frozenset.updateFrom
        generalize hPI : pyIter = PI
        wp_walk
        subst hPI

        refine wpAny_pyIter_list hl1 ?_
        refine wpAny_bind (wpAny_runValue ?_)
        have hlS : l < s.heap.objs.size := Heap.lt_size hol
        have hh3 : A.in1.in1.in1.handled = none := by simp [hh]
        have hneI : l ≠ (s.heap.push { cls := .type "set", dict := none, data := .set #[] 0 (.fresh 0 0 (!w.params.followText "set-order")) }).objs.size := by
          rw [Heap.size_push]; exact Nat.ne_of_lt (Nat.lt_succ_of_lt hlS)
        have hSf : s.heap.objs.size ∉ [(s.heap.push { cls := .type "set", dict := none, data := .set #[] 0 (.fresh 0 0 (!w.params.followText "set-order")) }).objs.size, l] := by
          rw [Heap.size_push]; simp only [List.mem_cons, List.mem_singleton, List.not_mem_nil, or_false, not_or]
          exact ⟨Nat.ne_of_lt (Nat.lt_succ_self _), Nat.ne_of_gt hlS⟩
        have hval : ∀ (i : Nat) (v : Value), items[i]? = some v → ∃ t, v = .int ((fun i => ns.getD i 0) i) t := fun i v hv =>
          IntsAre.int_at hi i v (by rw [Array.getElem?_toList]; exact hv)
        refine set_update_ints ((Walks.list hh3 _ l hneI items).toS) s.heap.objs.size
          hSf (fun i => ns.getD i 0) hval hb (items.size - 0) 0 _ (by omega) (Nat.zero_le _)
          ⟨⟨_, Heap.get?_push_size _ rfl, rfl, rfl⟩, (hl1.push _)⟩ ?hS0 ?hR
        case hS0 =>
          exact (L2.setR_fresh (h := s.heap) w).at fun o e => Heap.get?_push_of_some _ e
        case hR =>
          intro s' hm hS'
          obtain ⟨h', g2, d', tk', os'⟩ := s'
          have eg : g2 = s.gens := hm.gens
          have ed : d' = s.drawn := hm.drawn
          have eo : os' = s.os := hm.os
          subst eg; subst ed; subst eo
          show wpAny _ _ _ _ _ _
          refine wpAny_pure ?_
          show wpAny _ _ (ret Value.none) _ _ _
          refine wpAny_pure ⟨rfl, h', tk', rfl, hS', fun b o e => ?_⟩
          have hb0 := Heap.lt_size e
          have hb1 : b ≠ s.heap.objs.size := Nat.ne_of_lt hb0
          have hb2 : b ≠ (s.heap.push { cls := .type "set", dict := none, data := .set #[] 0 (.fresh 0 0 (!w.params.followText "set-order")) }).objs.size := by
            rw [Heap.size_push]; exact Nat.ne_of_lt (Nat.lt_succ_of_lt hb0)
          exact hm.heap b o (by simp only [List.mem_cons, List.mem_singleton, List.not_mem_nil, or_false, not_or]; exact ⟨hb1, hb2⟩) (Heap.get?_push_of_some _ (Heap.get?_push_of_some _ e))

      · cases r₂ with
        | error e => exact hr₂
        | ok fl₂ =>
          cases fl₂ with
          | ret r =>
            obtain ⟨rfl, h', tk, rfl, hS', hk'⟩ := hr₂
            repeat (any_goals (first | assumption | wp_step))
            exact h _ _ hS' hk'
          | _ => exact hr₂.elim
    | _ => exact hr.elim
end
section
variable {X : Cx}
def setN0 (ns : List Int) : List Int := firstMet (fun i => ns.getD i 0) ns.length
def rSetOfI (K : PySem.W.Frag) (w : World) : List V → Hp → VK → Prop := fun xs H Q => ∃ (l : Addr) (ns : List Int), xs = [V.ref l] ∧ SqL K H l (ns.map V.int) ∧ ns.length + 1 < scanBound ∧
  ∀ a, H a = none → Q (.ref a) (upd H a (SetO w a (fun k' => (setN0 ns).any (· == k')) (setN0 ns).length))
theorem intsAre_vals : ∀ {ns : List Int} {us : List Value}, Vals (ns.map V.int) us → IntsAre us ns
  | [], _, r => by cases r; exact .nil
  | n :: ns, _, r => by
    cases r with
    | cons ra rt =>
      obtain ⟨tk, rfl⟩ := ra
      exact .cons n tk (intsAre_vals rt)
theorem cr_setOfI (hc : X.calm = true) : CallR X (.type "set") (rSetOfI X.K X.w) := by
  intro pins s σ H xs us Q I r h
  obtain ⟨l, ns, rfl, hl, hf, q⟩ := h
  rw [Vals.ref1 r]
  obtain ⟨its, rv, pl, hz⟩ := I.list hl
  have hn : H s.heap.objs.size = none := I.hok.fresh (Nat.le_refl _)
  have hi : IntsAre its ns := intsAre_vals rv
  have hlen : its.length = ns.length := by rw [← rv.length, List.length_map]
  have hsz : its.toArray.size = ns.length := by rw [List.size_toArray, hlen]
  refine call_set_ints (P := X.prog) (w := X.w) (ns := ns) (I.ok.hd hc) pl.isList (by simpa using hi) (by rw [hsz]; exact hf) fun h' tk R k => ?_
  rw [hsz] at R
  exact ⟨.ref s.heap.objs.size, _, I.laid (t' := tk) k (Nat.le_refl _) (L2.setO_new R), rfl, q _ hn⟩
end

/-! ### what comes out -/
theorem step_mem (σ : List Int) (v k : Int) : k ∈ step_dedup σ v ↔ k ∈ σ ∨ k = v := by
  unfold step_dedup
  split
  · rename_i h
    constructor
    · exact .inl
    · rintro (h' | rfl)
      · exact h'
      · obtain ⟨x, hx, e⟩ := List.any_eq_true.mp h
        rw [← beq_iff_eq.mp e]; exact hx
  · rw [List.mem_append, List.mem_singleton]
theorem step_nodup {σ : List Int} (h : σ.Nodup) (v : Int) : (step_dedup σ v).Nodup := by
  unfold step_dedup
  split
  · exact h
  · rename_i hv
    refine List.nodup_append.mpr ⟨h, by simp, fun a ha b hb e => hv ?_⟩
    rw [List.mem_singleton] at hb
    subst hb; subst e
    exact List.any_eq_true.mpr ⟨a, ha, beq_self_eq_true a⟩
theorem first_mem (val : Nat → Int) : ∀ n k, k ∈ firstMet val n ↔ ∃ i, i < n ∧ val i = k
  | 0, k => by simp [firstMet_zero]
  | n + 1, k => by
    rw [firstMet_succ, step_mem, first_mem val n k]
    constructor
    · rintro (⟨i, h, e⟩ | rfl)
      · exact ⟨i, by omega, e⟩
      · exact ⟨n, by omega, rfl⟩
    · rintro ⟨i, h, e⟩
      by_cases hi : i < n
      · exact .inl ⟨i, hi, e⟩
      · have : i = n := by omega
        subst this
        exact .inr e.symm
theorem first_nodup (val : Nat → Int) : ∀ n, (firstMet val n).Nodup
  | 0 => by rw [firstMet_zero]; exact List.nodup_nil
  | n + 1 => by rw [firstMet_succ]; exact step_nodup (first_nodup val n) _
theorem setN0_mem (ns : List Int) (k : Int) : k ∈ setN0 ns ↔ k ∈ ns := by
  unfold setN0
  rw [first_mem]
  constructor
  · rintro ⟨i, h, rfl⟩
    rw [List.getD_eq_getElem?_getD, List.getElem?_eq_getElem h]
    exact List.getElem_mem h
  · intro h
    obtain ⟨i, hi, e⟩ := List.getElem_of_mem h
    exact ⟨i, hi, by rw [List.getD_eq_getElem?_getD, List.getElem?_eq_getElem hi]; exact e⟩
theorem setSort_mem (l : List Int) (k : Int) : k ∈ setSort l ↔ k ∈ l := by
  unfold setSort
  rw [List.mem_mergeSort, List.mem_eraseDups]
theorem eraseDups_nd : ∀ (n : Nat) (l : List Int), l.length ≤ n → l.eraseDups.Nodup
  | 0, l, h => by have := List.length_eq_zero_iff.mp (Nat.le_zero.mp h); subst this; simp
  | n + 1, [], _ => by simp
  | n + 1, x :: l, h => by
    rw [List.eraseDups_cons]
    refine List.nodup_cons.mpr ⟨fun m => ?_, eraseDups_nd n _ ?_⟩
    · rw [List.mem_eraseDups, List.mem_filter] at m
      simp at m
    · have := List.length_filter_le (fun b => !b == x) l
      simp at h
      omega
theorem setSort_up (l : List Int) : (setSort l).Pairwise (· < ·) := by
  have h1 : (setSort l).Pairwise (fun a b => decide (a ≤ b) = true) := List.pairwise_mergeSort (by intro a b c; simp; omega) (by intro a b; simp; omega) _
  have h2 : (setSort l).Nodup := (List.mergeSort_perm _ _).nodup_iff.mpr (eraseDups_nd _ l (Nat.le_refl _))
  exact L2.lt_of_le_nodup _ (h1.imp fun h => of_decide_eq_true h) h2
theorem up_ext : ∀ {a b : List Int}, a.Pairwise (· < ·) → b.Pairwise (· < ·) → (∀ k, k ∈ a ↔ k ∈ b) → a = b := by
  intro a b ha hb h
  have na : a.Nodup := ha.imp fun h => Int.ne_of_lt h
  have nb : b.Nodup := hb.imp fun h => Int.ne_of_lt h
  have p : a.Perm b := (List.perm_ext_iff_of_nodup na nb).mpr h
  exact p.eq_of_pairwise (le := (· < ·)) (fun x y _ _ h1 h2 => by omega) ha hb
section
variable {X : Cx} {I : Inf} {Φ : Fns} {a : Expr} {ma : E} {pos : Pos}
/-- sorted(set(xs)) -/
theorem se_sset {p p2 q : Pos} (hc : X.calm = true) (hg : L2.Gl X "sorted") (hm : X.mg "sorted" = none) (hg2 : L2.Gl X "set") (hm2 : X.mg "set" = none) (ha : PE X a (TEv I Φ ma))
    (he : starEach [a] X.env = (false, eval a X.env) :: starEach [] X.env) (he2 : starEach [Expr.Call (.Name "set" p2) [a] [] q] X.env = (false, eval (Expr.Call (.Name "set" p2) [a] [] q) X.env) :: starEach [] X.env) :
    PE X (.Call (.Name "sorted" p) [.Call (.Name "set" p2) [a] [] q] [] pos) (TEv I Φ (.bi .sset (.cons ma .nil))) := by
  have h1 := L2.pe_callTy (pos := q) (p := p2) (cr_setOfI hc) hg2 hm2 (by rfl) (L2.pa_cons ha L2.pa_nil he) (hn := by decide) (hdb := by decide) (he := he) (hpl := by rfl)
  have h2 := L2.pe_callB (pos := pos) (p := p) (L2.cr_sortedSet hc) hg hm (by rfl) (L2.pa_cons h1 L2.pa_nil he2) (hn := by decide) (hdb := by decide) (he := he2) (hpl := by rfl)
  refine peImp h2 fun σ H Q ⟨B, G, env, t, r, env', O, e, k⟩ => ?_
  obtain ⟨rs, e0, e⟩ := bindSome e
  obtain ⟨p0, e1, e0⟩ := bindSome e0
  obtain ⟨p1, e2, e0⟩ := bindSome e0
  obtain ⟨q1, e3, e0⟩ := mapSome e0
  cases (show some (([] : List R), p1.2) = some q1 from e3)
  cases e0
  refine ⟨B, G, env, t, p0.1, p0.2, O, e1, fun x H1 G1 l P => ?_⟩
  obtain ⟨G2, l2, P2, ne⟩ := P.stab e2
  have e : (match rd p1.2 p1.1 with
    | some (.list l) => if l.length < 63 then (dInts l).map fun ns => (R.val (.lst ((setSort ns).map fun i => .d (.int i))), p1.2) else none
    | _ => none) = some (r, env') := e
  split at e
  · rename_i l1 hl
    split at e
    · rename_i h63
      obtain ⟨ns, h3, h4⟩ := mapSome e
      cases h4
      have vx := P2.view hl
      cases vx with
      | list hH rl =>
        rename_i ad xs
        have hx := rl.ints h3
        subst hx
        have hlen : ns.length < 63 := by
          have := rl.length
          rw [List.length_map] at this
          omega
        have hle : (setN0 ns).length ≤ ns.length := firstMet_length_le _ _
        refine ⟨ad, ns, rfl, SqL.of hH, by show ns.length + 1 < 4096; omega, fun pa hpa => ?_⟩
        refine ⟨pa, _, _, rfl, upd_same, by omega, fun ms pb up mem ln hpb => ?_⟩
        have hms : ms = setSort ns := up_ext up (setSort_up ns) fun k => by
          rw [mem, setSort_mem, List.any_eq_true]
          constructor
          · rintro ⟨y, hy, e⟩
            rw [← beq_iff_eq.mp e]
            exact (setN0_mem ns y).mp hy
          · intro hk
            exact ⟨k, (setN0_mem ns k).mpr hk, beq_self_eq_true k⟩
        subst hms
        obtain ⟨l3, O3⟩ := Ok.add (o := SetO X.w pa (fun k' => (setN0 ns).any (· == k')) (setN0 ns).length) P2.ok hpa
        have rl2 : ∀ ms : List Int, RepL (G2.add pa (SetO X.w pa (fun k' => (setN0 ns).any (· == k')) (setN0 ns).length)) (ms.map V.int) (ms.map fun i => D.int i) := fun ms => by
          induction ms with
          | nil => exact .nil
          | cons m ms ih => exact .cons (.int m) ih
        have Q4 := O3.newList hpb (rl2 (setSort ns))
        rw [List.map_map] at Q4
        exact k _ _ _ ((l.trans l2).trans l3) ⟨Q4, trivial⟩
    · cases e
  · cases e
end
end Ev
end
section
set_option linter.all false
set_option autoImplicit false
set_option maxRecDepth 100000
/-! Ev13: calls of built-ins by name; isinstance. -/
namespace Ev
open PySem PySem.Spec PyProof.Rows
open L2 (V HO Hp upd upd_same upd_ne SqL SqT Rd Key Cx PE PT PW PA PC TE TT TA OpR IxR UnR CallR VK R2 EP Inv RelV Vals TyX TyOf ClsV)

section
variable {X : Cx} {I : Inf} {Φ : Fns} {e : Expr} {es : List Expr} {m : E} {pos p : Pos} {x : Str} {id : String}
theorem se_biF {b : Bi} (hb : toBi b = .builtin id) (hc : X.calm = true) (hgd : X.A.guards = some []) (hu : X.A.units + 66 < cLine) (hg : L2.Gl X x) (hm : X.mg x = none) (hv : bootBuiltins x = some (.builtin id)) (hn : x ≠ "__name__") (hdb : (x == ("__debug__" : Str)) = false)
    (ha : PA X (e :: es) (TAv I Φ m)) (he : starEach (e :: es) X.env = (false, eval e X.env) :: starEach es X.env) (hpl : (backTo pos (starEach es X.env)).any (·.1) = false) (nb : ∀ ts, b ≠ .isin ts) (ns : b ≠ .sset) (hS : ScOk X.K I) :
    PE X (.Call (.Name x p) (e :: es) [] pos) (TEv I Φ (.bi b m)) := peImp (L2.pe_callB any_call hg hm hv ha hn hdb he hpl) fun σ H Q ⟨B, G, env, t, r, env', O, e, k⟩ => by
  obtain ⟨p, h1, e⟩ := bindSome e
  refine ⟨B, G, env, t, p.1, p.2, O, h1, fun vs H1 G1 l O1 F1 => ?_⟩
  have q := bi_fin (Q := Q) hS hc hgd hu O1 F1 e nb ns fun v H' G' l' P => k v H' G' (l.trans l') P
  rw [hb] at q
  exact q
theorem se_biT {b : Bi} (hb : toBi b = .type id) (hc : X.calm = true) (hgd : X.A.guards = some []) (hu : X.A.units + 66 < cLine) (hg : L2.Gl X x) (hm : X.mg x = none) (hv : bootBuiltins x = some (.type id)) (hn : x ≠ "__name__") (hdb : (x == ("__debug__" : Str)) = false)
    (ha : PA X (e :: es) (TAv I Φ m)) (he : starEach (e :: es) X.env = (false, eval e X.env) :: starEach es X.env) (hpl : (backTo pos (starEach es X.env)).any (·.1) = false) (nb : ∀ ts, b ≠ .isin ts) (ns : b ≠ .sset) (hS : ScOk X.K I) :
    PE X (.Call (.Name x p) (e :: es) [] pos) (TEv I Φ (.bi b m)) := peImp (L2.pe_callTy any_call hg hm hv ha hn hdb he hpl) fun σ H Q ⟨B, G, env, t, r, env', O, e, k⟩ => by
  obtain ⟨p, h1, e⟩ := bindSome e
  refine ⟨B, G, env, t, p.1, p.2, O, h1, fun vs H1 G1 l O1 F1 => ?_⟩
  have q := bi_fin (Q := Q) hS hc hgd hu O1 F1 e nb ns fun v H' G' l' P => k v H' G' (l.trans l') P
  rw [hb] at q
  exact q
end

/-! ### isinstance -/
/-- what an own class needs -/
structure ClsOk (K : PySem.W.Frag) (C : Addr) : Prop where
  cls : L2.Cls K C
  ha : PySem.W.findIn K (.ref C) "__class__" = some (some (.builtin "object.__class__"))
  hn : PySem.W.specialIn K (.builtin "object.__class__") "__get__" = some (some (.builtin "getset_descriptor.__get__"))
  htk : PySem.W.takesIn K (.builtin "object.__class__") = some true
  hm : PySem.W.mroIn K C (.type "object") = some true
  self : PySem.W.kitOne K (.ref C) (.ref C) = some true
  bt : ∀ T : String, T ∈ ["int", "bool", "str", "list", "tuple", "dict"] → PySem.W.kitOne K (.ref C) (.type T) = some false
  tb : ∀ T : String, T ∈ ["NoneType", "bool", "int", "str", "list", "tuple"] → PySem.W.kitOne K (.type T) (.ref C) = some false
def tyN : Ty → String
  | .int => "int" | .bool => "bool" | .str => "str" | .list => "list" | .tuple => "tuple" | .dict => "dict" | .obj _ => ""
def clsV (cl : Nat → Addr) : Ty → V
  | .obj c => .ref (cl c)
  | t => .ty (tyN t)
def clsU (cl : Nat → Addr) : Ty → Value
  | .obj c => .ref (cl c)
  | t => .type (tyN t)
theorem clsVU (cl : Nat → Addr) (t : Ty) : ClsV (clsV cl t) (clsU cl t) := by
  cases t <;> first | exact .ty _ | exact .own _
def datN : D → String
  | .none => "NoneType" | .bool _ => "bool" | .int _ => "int" | .str _ => "str" | .list _ => "list" | .scr _ => "list" | .tup _ => "tuple" | .obj _ _ => "" | .dict _ _ => "dict"
def datU (cl : Nat → Addr) : D → Value
  | .obj c _ => .ref (cl c)
  | d => .type (datN d)
theorem rep_ty {K : PySem.W.Frag} {I : Inf} {G : Gh} {H : Hp} (hS : ScOk K I) (hs : G.sc = I.sc) (z : ∀ a o, G.fz a = some o → H a = some o) (hc : ∀ c, ClsOk K (G.cl c)) {v : V} {d : D} (r : Rep G v d) : TyX K H v (datU G.cl d) := by
  cases r with
  | none => exact .base .non
  | bool b => exact .base (.bl b)
  | int i => exact .base (.int i)
  | str s => exact .base (.str s)
  | list h _ => exact .base (.lst (z _ _ h))
  | tup h _ => exact .base (.tup (z _ _ h))
  | scr h => exact .base (.frz (z _ _ h))
  | scrK h =>
    obtain ⟨o, its, n, h1, h2, _⟩ := hS _ _ (hs ▸ h)
    exact .kList h1 h2
  | @obj a dx q c vs ds h _ _ _ _ _ => exact .base (.ins (z _ _ h) (hc c).cls (hc c).ha (hc c).hn (hc c).htk (hc c).hm)
theorem repW_ty {K : PySem.W.Frag} {I : Inf} {G : Gh} {H : Hp} (hS : ScOk K I) (hs : G.sc = I.sc) (z : ∀ a o, G.fz a = some o → H a = some o) (hc : ∀ c, ClsOk K (G.cl c)) : ∀ {v : V} {w : W} {f : List Addr}, RepW G H v w f → TyX K H v (datU G.cl (frz w))
  | _, _, _, .d r => by rw [frz]; exact rep_ty hS hs z hc r
  | _, _, _, .lst h _ => by rw [frz]; exact .base (.lst h)
  | _, _, _, .tup h _ => by rw [frz]; exact .base (.tup h)
  | _, _, _, .lk r => by rw [frz]; exact repW_ty hS hs z hc r
theorem kit_is {K : PySem.W.Frag} {cl : Nat → Addr} (hc : ∀ c, ClsOk K (cl c)) {d : D} {t : Ty} {b : Bool} (h : isTy d t = some b) : PySem.W.kitOne K (datU cl d) (clsU cl t) = some b := by
  cases d with
  | obj c fs =>
    cases t with
    | obj c' =>
      have h : (if c = c' then some true else none) = some b := h
      by_cases e : c = c'
      · rw [if_pos e] at h
        cases h
        rw [← e]
        exact (hc c).self
      · rw [if_neg e] at h; cases h
    | _ => cases h; exact (hc c).bt _ (by decide)
  | scr _ => cases h
  | dict _ _ => cases h
  | _ =>
    cases t with
    | obj c' => cases h; exact (hc c').tb _ (by simp only [datN]; decide)
    | _ => cases h; simp only [datU, clsU, datN, tyN]; exact L2.kit_ty (by decide +kernel)
theorem kit_any {K : PySem.W.Frag} {cl : Nat → Addr} (hc : ∀ c, ClsOk K (cl c)) {d : D} : ∀ {ts : List Ty} {b : Bool}, isTys d ts = some b → PySem.W.kitAny K (datU cl d) (ts.map (clsU cl)) = some b
  | [], b, h => by cases h; exact L2.kitAny_nil
  | t :: ts, b, h => by
    unfold isTys at h
    split at h
    · rename_i a c h1 h2
      cases h
      refine L2.kitAny_cons (kit_is hc h1) (fun e => ?_) (fun e => by rw [e]; rfl)
      rw [e]
      exact kit_any hc h2
    · cases h
def tCs (cs : List V) : TA := fun _ H Q => Q cs H
section
variable {X : Cx} {I : Inf} {Φ : Fns} {a : Expr} {ma : E} {pos p : Pos}
theorem pa_cs_nil : PA X [] (tCs []) := paImp L2.pa_nil fun _ _ _ h => h
theorem pa_cs_cons {c : Expr} {cs : List Expr} {v : V} {vs : List V} (h1 : PE X c (L2.tC v)) (h2 : PA X cs (tCs vs)) (hs : starEach (c :: cs) X.env = (false, eval c X.env) :: starEach cs X.env) : PA X (c :: cs) (tCs (v :: vs)) :=
  paImp (L2.pa_cons h1 h2 hs) fun _ _ _ h => h
theorem arg1_run {σ : L2.St} {H : Hp} {B : Hp} {G : Gh} {env env' : Env} {t : List Rt} {rs : List Ev.R} {Z : V → Hp → Prop} (O : Ok I B G σ H env t) (e0 : (ev Φ (.cons ma .nil)).es env = some (rs, env'))
    (k : ∀ x H' G' r, rs = [r] → G.Le G' → Post I B G' σ H' env' t x r → Z x H') : TEv I Φ ma σ H Z := by
  obtain ⟨p0, e1, e0⟩ := bindSome e0
  obtain ⟨p1, e2, e0⟩ := bindSome e0
  obtain ⟨q1, e3, e0⟩ := mapSome e0
  cases (show some (([] : List R), p1.2) = some q1 from e3)
  cases e0
  refine ⟨B, G, env, t, p0.1, p0.2, O, e1, fun x H1 G1 l P => ?_⟩
  obtain ⟨G2, l2, P2, ne⟩ := P.stab e2
  exact k x H1 G2 p1.1 rfl (l.trans l2) P2
theorem se_isin1 {ce : Expr} {ty : Ty} (hS : ScOk X.K I) (hcl : ∀ c, ClsOk X.K (I.cl c)) (hg : L2.Gl X "isinstance") (hm : X.mg "isinstance" = none) (ha : PE X a (TEv I Φ ma)) (hce : PE X ce (L2.tC (clsV I.cl ty)))
    (he : starEach [a, ce] X.env = (false, eval a X.env) :: starEach [ce] X.env) (he2 : starEach [ce] X.env = (false, eval ce X.env) :: starEach [] X.env) (hpl : (backTo pos (starEach [ce] X.env)).any (·.1) = false) :
    PE X (.Call (.Name "isinstance" p) [a, ce] [] pos) (TEv I Φ (.bi (.isin [ty]) (.cons ma .nil))) := by
  refine peImp (L2.pe_callB L2.call_isi hg hm (by rfl) (L2.pa_cons ha (L2.pa_cons hce L2.pa_nil he2) he) (hn := by decide) (hdb := by decide) (he := he) (hpl := hpl)) fun σ H Q ⟨B, G, env, t, r, env', O, e, k⟩ => ?_
  obtain ⟨rs, e0, e⟩ := bindSome e
  refine arg1_run O e0 fun x H1 G1 r1 hr l P => ?_
  have e : (rdL rs.2 rs.1).bind (fun ds => (biD (.isin [ty]) ds).map fun d => (R.val (.d d), rs.2)) = some (r, env') := e
  obtain ⟨ds, h1, e⟩ := bindSome e
  obtain ⟨d, h2, e⟩ := mapSome e
  cases e
  rw [hr] at h1
  obtain ⟨d1, h3, h1⟩ := bindSome h1
  obtain ⟨ds', h4, h1⟩ := mapSome h1
  cases (show some ([] : List D) = some ds' from h4)
  subst h1
  obtain ⟨b, h5, h6⟩ := mapSome (show (isTys d1 [ty]).map .bool = some d from h2)
  subst h6
  obtain ⟨w, g1, rfl⟩ := mapSome (show (getW rs.2 r1).map frz = some d1 from h3)
  obtain ⟨f, rw1⟩ := P.1.find P.2 (fun w h => by subst h; exact List.mem_cons_self) g1
  have gc : G1.cl = I.cl := P.ok.cl
  have ty1 := repW_ty (K := X.K) hS P.ok.sc P.ok.fz (by rw [gc]; exact hcl) rw1
  rw [gc] at ty1
  have kt : PySem.W.kitOne X.K (datU I.cl (frz w)) (clsU I.cl ty) = some b := by
    unfold isTys at h5
    split at h5
    · rename_i a1 c1 q1 q2
      cases h5
      cases q2
      rw [Bool.or_false]
      exact kit_is hcl q1
    · cases h5
  exact ⟨x, _, _, _, b, rfl, clsVU I.cl ty, ty1, kt, k _ _ _ l (P.ok.res (.bool b))⟩
theorem se_isinT {ces : List Expr} {tys : List Ty} {x1 : Nat} {pt : Pos} (hS : ScOk X.K I) (hcl : ∀ c, ClsOk X.K (I.cl c)) (hz : tys.length ≤ sizeLine) (hg : L2.Gl X "isinstance") (hm : X.mg "isinstance" = none) (ha : PE X a (TEv I Φ ma)) (hce : PA X ces (tCs (tys.map (clsV I.cl))))
    (he : starEach [a, .Tuple ces x1 pt] X.env = (false, eval a X.env) :: starEach [.Tuple ces x1 pt] X.env) (he2 : starEach [.Tuple ces x1 pt] X.env = (false, eval (.Tuple ces x1 pt) X.env) :: starEach [] X.env) (hpl : (backTo pos (starEach [.Tuple ces x1 pt] X.env)).any (·.1) = false) :
    PE X (.Call (.Name "isinstance" p) [a, .Tuple ces x1 pt] [] pos) (TEv I Φ (.bi (.isin tys) (.cons ma .nil))) := by
  refine peImp (L2.pe_callB L2.call_isiT hg hm (by rfl) (L2.pa_cons ha (L2.pa_cons (L2.pe_tup hce) L2.pa_nil he2) he) (hn := by decide) (hdb := by decide) (he := he) (hpl := hpl)) fun σ H Q ⟨B, G, env, t, r, env', O, e, k⟩ => ?_
  obtain ⟨rs, e0, e⟩ := bindSome e
  refine arg1_run O e0 fun x H1 G1 r1 hr l P => ?_
  have e : (rdL rs.2 rs.1).bind (fun ds => (biD (.isin tys) ds).map fun d => (R.val (.d d), rs.2)) = some (r, env') := e
  obtain ⟨ds, h1, e⟩ := bindSome e
  obtain ⟨d, h2, e⟩ := mapSome e
  cases e
  rw [hr] at h1
  obtain ⟨d1, h3, h1⟩ := bindSome h1
  obtain ⟨ds', h4, h1⟩ := mapSome h1
  cases (show some ([] : List D) = some ds' from h4)
  subst h1
  obtain ⟨b, h5, h6⟩ := mapSome (show (isTys d1 tys).map .bool = some d from h2)
  subst h6
  obtain ⟨w, g1, rfl⟩ := mapSome (show (getW rs.2 r1).map frz = some d1 from h3)
  refine ⟨by rw [List.length_map]; exact hz, fun q hq => ?_⟩
  obtain ⟨l3, O3⟩ := Ok.add (o := .tup (tys.map (clsV I.cl))) P.1 hq
  have P3 : Post I B (G1.add q (.tup (tys.map (clsV I.cl)))) σ (upd H1 q (.tup (tys.map (clsV I.cl)))) rs.2 t x r1 := ⟨O3, by
    have f := P.2
    cases r1 with
    | val w => trivial
    | var i => exact f
    | elt i j =>
      obtain ⟨a0, xs0, f1, f2, f3⟩ := f
      exact ⟨a0, xs0, f1, by rw [upd_ne (fun z => by rw [z, hq] at f2; cases f2)]; exact f2, f3⟩⟩
  obtain ⟨f, rw1⟩ := P3.1.find P3.2 (fun w h => by subst h; exact List.mem_cons_self) g1
  have gc := P3.ok.cl
  have ty1 := repW_ty (K := X.K) hS P3.ok.sc P3.ok.fz (by rw [gc]; exact hcl) rw1
  rw [gc] at ty1
  have pv : ∀ ts : List Ty, Paired ClsV (ts.map (clsV I.cl)) (ts.map (clsU I.cl)) := fun ts => by
    induction ts with
    | nil => exact .nil
    | cons a b ih => exact .cons (clsVU I.cl a) ih
  exact ⟨x, q, _, _, _, b, rfl, upd_same, pv tys, ty1, kit_any hcl h5, k _ _ _ (l.trans l3) (P3.ok.res (.bool b))⟩
end
end Ev
end
section
set_option linter.all false
set_option autoImplicit false
set_option maxRecDepth 100000
/-! Ev14: what a def promises, where no repr is under way; its call; its body; the law's own call. -/
namespace Ev
open PySem PySem.Spec PyProof.Rows
open L2 (V HO Hp upd upd_same upd_ne SqL SqT Rd Key Cx PE PT PW PA PC PS PSs PK TE TT TA TS VK Sp EP Inv RelV Vals Room Env0 CE CR CX0 E0 FunD FnScope start cxOf)

abbrev SpG := List V → Hp → VK → Prop
structure FnG (P : Program) (w : World) (K : PySem.W.Frag) (mg : Str → Option Value) (base : Heap) (k : Nat) (f : Addr) (fd : FuncData) (ps : List Str) (sp : SpG) : Prop where
  len : ∀ vs H Q, sp vs H Q → vs.length = ps.length
  run : ∀ (A : Around) (outer : List PySem.Env) (s : Shared) (H : Hp) (args : Args) (us : List Value) (vs : List V) (Q : VK), Room k A → A.guards = some [] → Env0 P w K mg base A outer s H → BindsTo s fd args (ps.zip us) → Vals vs us → sp vs H Q →
    codeAny (model P w) A (.call (.ref f) args) (CR CX0 outer P w H s Q E0) s
section
variable {P : Program} {w : World} {K : PySem.W.Frag} {mg : Str → Option Value} {base : Heap} {k : Nat} {f : Addr} {fd : FuncData} {ps : List Str} {sp : SpG}
theorem FnG.mono {j : Nat} (F : FnG P w K mg base j f fd ps sp) (h : j ≤ k) : FnG P w K mg base k f fd ps sp := ⟨F.len, fun A outer s H args us vs Q hr => F.run A outer s H args us vs Q (hr.mono h)⟩
/-- a def, by its body -/
theorem fnG_of {x qual : Str} {params : Arguments} {body : List Stmt} {scope : Scope} {dvs : List V} {kws : List (Str × V)} {N : List Str} (F : FunD K x qual params body scope dvs kws f fd) (S : FnScope N ps scope) (len : ∀ vs H Q, sp vs H Q → vs.length = ps.length)
    (hbody : ∀ (cdv : Value) (A : Around) (outer : List PySem.Env) (s : Shared) (H : Hp) (vs : List V) (Q : VK), Room k (A.deeper (envOfC qual scope s.heap.objs.size f cdv)) → A.guards = some [] → sp vs H Q →
      ∃ t, PSs (cxOf CX0 P w K mg base N qual scope f cdv A outer s H E0).nox body t ∧ t { nx := fun _ H' => Q .non H', rt := Q } (start N vs) H) :
    FnG P w K mg base (k + 1) f fd ps sp := by
  obtain ⟨oc, od, dV, kV, doc, pm, an, cdv, ct, osl, rfl, lk, hcd, _, _⟩ := F.ex
  refine ⟨len, fun A outer s H args us vs Q hr hgd e0 hb r hsp => ?_⟩
  have hl := len _ _ _ hsp
  have KX : K.In s.heap := e0.mod.kin.keeps fun b o e => (e0.bs b o e).1
  have lim : s.heap.NoLimit := e0.mod.nolimit.keeps fun b o e => (e0.bs b o e).1
  have hkind : ∀ y ∈ ps.zip us, scope.names.lookup y.1 = some .local ∨ (scope.names.lookup y.1 = some .cell ∧ ((cellsFrom (s.heap.objs.size + 1) scope.names []).lookup y.1).isSome = true) := fun ⟨n, v⟩ hy => by
    rcases S.par n (List.of_mem_zip hy).1 with q | q
    · exact .inl q
    · exact .inr ⟨q, PySem.W.cellsFrom_some _ _ _ (.inl q)⟩
  refine codeAny_call_function hr.depth (KX _ _ lk) rfl S.co S.gen rfl (PySem.W.codeRec_of KX hcd) (hb _ _ _ _ ?_)
  refine wpAny_newFunctionEnv_cells S.kind hkind fun env he s1 x => ?_
  subst he
  refine ⟨lim.keeps x.toInCall.keep, codeAny_func ?_⟩
  obtain ⟨t, ht, hq⟩ := hbody cdv A outer s H vs Q (hr.deeper _) hgd hsp
  have I : Inv (cxOf CX0 P w K mg base N qual scope f cdv A outer s H E0) [] (start N vs) H s1 := L2.inv_start S hr.hd e0 hl r x
  refine wpAny_mono (ht.nox.run [] s1 (start N vs) H _ I hq) (fun fl s' hs => ?_) fun e s' hs => hs
  have fin : ∀ {σ' : L2.St} {H' : Hp} {v : V} {u : Value}, Inv (cxOf CX0 P w K mg base N qual scope f cdv A outer s H E0) [] σ' H' s' → RelV v u → Q v H' → CE outer P w H s Q u s' :=
    fun {σ' H' v u} J rv q => ⟨v, H', J.os, J.bare, J.base, J.hok, rv, q⟩
  cases fl with
  | ret u =>
    obtain ⟨v, σ', H', J, rv, q⟩ := hs
    exact fin J rv q
  | next =>
    obtain ⟨σ', H', J, q⟩ := hs
    exact fin (v := V.non) (u := Value.none) J rfl q
  | brk =>
    obtain ⟨_, _, _, q⟩ := hs
    exact False.elim q
  | cont =>
    obtain ⟨_, _, _, q⟩ := hs
    exact False.elim q
end

/-! ### calls -/
def pick {α : Type} (l : List α) : List Nat → Option (List α)
  | [] => some []
  | j :: js => (l[j]?).bind fun r => (pick l js).map (r :: ·)
theorem pickL_eq (rs : List Ev.R) : ∀ js, pickL rs js = pick rs js
  | [] => rfl
  | j :: js => by unfold pickL pick; rw [pickL_eq rs js]
theorem pick_length {α : Type} {l : List α} : ∀ {js : List Nat} {l' : List α}, pick l js = some l' → l'.length = js.length
  | [], l', h => by cases h; rfl
  | j :: js, l', h => by
    obtain ⟨x, h1, h⟩ := bindSome h
    obtain ⟨y, h2, h⟩ := mapSome h
    subst h
    simp [pick_length h2]
theorem pick_vals {vs : List V} {us : List Value} (r : Vals vs us) : ∀ {js : List Nat} {vs' : List V}, pick vs js = some vs' → ∃ us', pick us js = some us' ∧ Vals vs' us'
  | [], vs', h => by cases h; exact ⟨[], rfl, .nil⟩
  | j :: js, vs', h => by
    obtain ⟨x, h1, h⟩ := bindSome h
    obtain ⟨y, h2, h⟩ := mapSome h
    subst h
    obtain ⟨us', e, q⟩ := pick_vals r h2
    obtain ⟨u, hu, ru⟩ := r.get h1
    exact ⟨u :: us', by unfold pick; rw [hu, e]; rfl, .cons ru q⟩
/-- how a call binds: n values by place, then keywords ks; js: which value is each parameter's -/
def BindsG (K : PySem.W.Frag) (fd : FuncData) (ps : List Str) (n : Nat) (ks : List Str) (js : List Nat) : Prop :=
  ∀ (s : Shared) (us ws ys : List Value), K.In s.heap → us.length = n → ws.length = ks.length → pick (us ++ ws) js = some ys → BindsTo s fd ⟨us, ks.zip ws⟩ (ps.zip ys)
def tCallG (n m : Nat) (js : List Nat) (sp : SpG) (t tk : TA) : TE := fun σ H Q => t σ H fun vs H1 => tk σ H1 fun zs H2 => ∃ ys, vs.length = n ∧ zs.length = m ∧ pick (vs ++ zs) js = some ys ∧ sp ys H2 Q
section
variable {X : Cx} {k n : Nat} {f : Addr} {fd : FuncData} {ps ks : List Str} {sp : SpG} {x : Str} {p pos : Pos} {e : Expr} {es : List Expr} {kws : List Keyword} {t tk : TA} {js : List Nat}
theorem run_fnG {pins : List (Addr × Obj)} {σ : L2.St} {H : Hp} {s : Shared} {Q : VK} {us ws : List Value} {vs zs ys : List V} (F : FnG X.prog X.w X.K X.mg X.base k f fd ps sp) (hr : Room k X.A) (hgd : X.A.guards = some []) (hb : BindsG X.K fd ps n ks js)
    (I : Inv X pins σ H s) (r : Vals vs us) (rz : Vals zs ws) (l1 : vs.length = n) (l2 : zs.length = ks.length) (hy : pick (vs ++ zs) js = some ys) (h : sp ys H Q) : wpAny (model X.prog X.w) X.A (call (.ref f) us (ks.zip ws)) (EP X pins σ Q) X.xe s := by
  obtain ⟨us', e', r'⟩ := pick_vals (r.append rz) hy
  refine wpAny_call (codeAny_mono (F.run X.A X.stack s H ⟨us, ks.zip ws⟩ us' ys Q hr hgd I.env0 (hb s us ws us' I.kIn (r.length.symm.trans l1) (rz.length.symm.trans l2) e') r' h) fun r s' hq => ?_)
  cases r with
  | error e => exact False.elim hq
  | ok fl =>
    cases fl with
    | ret u => exact I.after hq
    | next => exact False.elim hq
    | brk => exact False.elim hq
    | cont => exact False.elim hq
theorem pe_callG0 (F : FnG X.prog X.w X.K X.mg X.base k f fd ps sp) (hr : Room k X.A) (hgd : X.A.guards = some []) (hg : L2.Gl X x) (hm : X.mg x = some (.ref f)) (hk : PySem.W.keepIn X.K (.ref f) = true) (hb : BindsG X.K fd ps 0 [] []) (hdb : (x == ("__debug__" : Str)) = false) :
    PE X (.Call (.Name x p) [] [] pos) (tCallG 0 0 [] sp L2.tNil L2.tNil) := by
  refine ⟨fun pins s σ H Q I h => ?_⟩
  obtain ⟨ys, l1, l2, hy, h⟩ := h
  refine wpAny_Call_Name_kw (L2.ld_glob I hg hm ?_ hdb)
  exact PySem.W.callWith_K0 I.kIn hk (run_fnG (us := []) (ws := []) F hr hgd hb I .nil .nil rfl rfl hy h)
theorem pe_callG (F : FnG X.prog X.w X.K X.mg X.base k f fd ps sp) (hr : Room k X.A) (hgd : X.A.guards = some []) (hg : L2.Gl X x) (hm : X.mg x = some (.ref f)) (hk : PySem.W.keepIn X.K (.ref f) = true) (hb : BindsG X.K fd ps n [] js) (ha : PA X (e :: es) t)
    (hdb : (x == ("__debug__" : Str)) = false) (he : starEach (e :: es) X.env = (false, eval e X.env) :: starEach es X.env) (hpl : (backTo pos (starEach es X.env)).any (·.1) = false) :
    PE X (.Call (.Name x p) (e :: es) [] pos) (tCallG n 0 js sp t L2.tNil) := by
  refine ⟨fun pins s σ H Q I h => ?_⟩
  refine wpAny_Call_Name_kw (L2.ld_glob I hg hm ?_ hdb)
  refine PySem.W.callWith_K (h₀ := X.base) I.ok.mod.kin hk (L2.thn (ha.run pos pins s σ H _ I h) fun us s1 ⟨vs, H1, I1, r, ys, l1, l2, hy, q⟩ => ⟨I1.kIn, ?_⟩) he hpl
  exact run_fnG (ws := []) F hr hgd hb I1 r .nil l1 rfl hy q
theorem pe_callGK (F : FnG X.prog X.w X.K X.mg X.base k f fd ps sp) (hr : Room k X.A) (hgd : X.A.guards = some []) (hg : L2.Gl X x) (hm : X.mg x = some (.ref f)) (hk : PySem.W.keepIn X.K (.ref f) = true) (hb : BindsG X.K fd ps n ks js) (ha : PA X (e :: es) t) (hkw : PK X kws tk)
    (hall : (backToKw pos (keywordEach kws X.env)).all (·.1.isSome) = true) (hks : (backToKw pos (keywordEach kws X.env)).filterMap (·.1) = ks)
    (hdb : (x == ("__debug__" : Str)) = false) (he : starEach (e :: es) X.env = (false, eval e X.env) :: starEach es X.env)
    (hpl : ((backTo pos (starEach (e :: es) X.env)).any (·.1) || (backToKw pos (keywordEach kws X.env)).any (·.1.isNone)) = false) :
    PE X (.Call (.Name x p) (e :: es) kws pos) (tCallG n ks.length js sp t tk) := by
  refine ⟨fun pins s σ H Q I h => ?_⟩
  refine wpAny_Call_Name_kw (L2.ld_glob I hg hm ?_ hdb)
  refine PySem.W.callWith_KW (h₀ := X.base) I.ok.mod.kin hk hall (L2.thn (ha.run pos pins s σ H _ I h) fun us s1 ⟨vs, H1, I1, r, q⟩ => ?_) hpl he
  refine L2.thn (hkw.run pos pins s1 σ H1 _ I1 q) fun ws s2 ⟨zs, H2, I2, rz, ys, l1, l2, hy, q2⟩ => ⟨I2.kIn, ?_⟩
  rw [hks]
  exact run_fnG F hr hgd hb I2 r rz l1 l2 hy q2
theorem pe_callGK0 (F : FnG X.prog X.w X.K X.mg X.base k f fd ps sp) (hr : Room k X.A) (hgd : X.A.guards = some []) (hg : L2.Gl X x) (hm : X.mg x = some (.ref f)) (hk : PySem.W.keepIn X.K (.ref f) = true) (hb : BindsG X.K fd ps 0 ks js) (hkw : PK X kws tk)
    (hall : (backToKw pos (keywordEach kws X.env)).all (·.1.isSome) = true) (hks : (backToKw pos (keywordEach kws X.env)).filterMap (·.1) = ks)
    (hdb : (x == ("__debug__" : Str)) = false) (hpl : ((backTo pos (starEach [] X.env)).any (·.1) || (backToKw pos (keywordEach kws X.env)).any (·.1.isNone)) = false) :
    PE X (.Call (.Name x p) [] kws pos) (tCallG 0 ks.length js sp L2.tNil tk) := by
  refine ⟨fun pins s σ H Q I h => ?_⟩
  refine wpAny_Call_Name_kw (L2.ld_glob I hg hm ?_ hdb)
  refine PySem.W.callWith_KW0 (h₀ := X.base) I.ok.mod.kin hk hall (L2.thn (hkw.run pos pins s σ H _ I h) fun ws s2 ⟨zs, H2, I2, rz, ys, l1, l2, hy, q2⟩ => ⟨I2.kIn, ?_⟩) hpl
  rw [hks]
  exact run_fnG (us := []) F hr hgd hb I2 .nil rz rfl l2 hy q2
end

/-! ### the law's own call -/
theorem law_callG {P : Program} {w : World} {K : PySem.W.Frag} {mg mb : Str → Option Value} {k : Nat} {fa a : Addr} {fd : FuncData} {x : Str} {sp : SpG} {s₁ : Shared} {vs : List Value} {ns : List Int}
    (KX : K.In s₁.heap) (hns : s₁.heap.Ns mainGlobals mg) (hb : s₁.heap.Ns builtinsNs mb) (hbb : ∀ x : Str, x ≠ "__name__" → mb x = bootBuiltins x) (hlim : s₁.heap.NoLimit) (hg : s₁.gens = #[])
    (ha : s₁.heap.get? a = some { cls := .type "list", data := .seq vs.toArray }) (hi : IntsAre vs ns) (hl : ns.length ≤ sizeLine) (hr : Room k callerA)
    (F : ∀ base : Heap, K.In base → base.Ns mainGlobals mg → FnG P w K mg base k fa fd [x] sp) (hbind : ∀ (s : Shared) (u : Value), BindsTo s fd ⟨[u], []⟩ [(x, u)])
    (hsp : ∀ H : Hp, L2.Only H → SqL K H a (ns.map V.int) → sp [.ref a] H (fun v _ => v = .bl true)) :
    codeAny (model P w) callerA (.call (.ref fa) ⟨[.ref a], []⟩) (fun r s' => r = .ok (.ret (.bool true)) ∧ OldK s₁.heap s'.heap ∧ s'.os = s₁.os ∧ AllBare s'.gens) s₁ := by
  have rv := L2.vals_ints hi
  have lenV := hi.length
  have core : ∀ H : Hp, L2.Only H → SqL K H a (ns.map V.int) → L2.HOk P w H s₁.heap → (∀ b, H b ≠ none → b = a) → (H a ≠ none → K.lookup a = none) →
      codeAny (model P w) callerA (.call (.ref fa) ⟨[.ref a], []⟩) (fun r s' => r = .ok (.ret (.bool true)) ∧ OldK s₁.heap s'.heap ∧ s'.os = s₁.os ∧ AllBare s'.gens) s₁ := by
    intro H hO hS hok hA hK
    have noA : ∀ {b : Addr} {o : Obj} {es : Array DictEntry} {ep : Nat}, s₁.heap.get? b = some o → o.data = .dict es ep → H b = none := fun {b o es ep} e d => by
      rcases Option.eq_none_or_eq_some (H b) with q | ⟨u, q⟩
      · exact q
      · have e' : b = a := hA b (by rw [q]; exact fun z => nomatch z)
        rw [e', ha] at e
        cases e
        have d' : Data.seq vs.toArray _ = Data.dict es ep := d
        cases d'
    have nsK : ∀ {b : Addr} {m : Str → Option Value}, s₁.heap.Ns b m → (L2.hidT s₁.heap H).Ns b m := fun {b m} ⟨o, es, ep, e, d, r⟩ => ⟨o, es, ep, L2.hidT_get e (noA e d), d, r⟩
    have hKb : K.In (L2.hidT s₁.heap H) := fun b o e => L2.hidT_get (KX b o e) (by
      rcases Option.eq_none_or_eq_some (H b) with q | ⟨u, q⟩
      · exact q
      · have e' : b = a := hA b (by rw [q]; exact fun z => nomatch z)
        rw [e', hK (e' ▸ (by rw [q]; exact fun z => nomatch z))] at e
        cases e)
    have hM : L2.Mod K mg (L2.hidT s₁.heap H) := ⟨hKb, nsK hns, ⟨mb, nsK hb, hbb⟩, let ⟨mc, h1, h2⟩ := hlim; ⟨mc, nsK h1, h2⟩⟩
    have e0 : Env0 P w K mg (L2.hidT s₁.heap H) callerA [] s₁ H := ⟨rfl, hM, fun b o e => L2.of_hidT e, Nat.le_of_eq (L2.hidT_size _ _), trivial, fun b hb => (nomatch hb), hok, AllBare.of_eq hg⟩
    refine codeAny_mono ((F _ hKb (nsK hns)).run callerA [] s₁ H ⟨[.ref a], []⟩ [.ref a] [.ref a] _ hr rfl e0 (hbind s₁ (.ref a)) (.cons rfl .nil) (hsp H hO hS)) fun r s' h => ?_
    cases r with
    | error e => exact False.elim h
    | ok fl =>
      cases fl with
      | next => exact False.elim h
      | brk => exact False.elim h
      | cont => exact False.elim h
      | ret u =>
        obtain ⟨v, H', os, bare, un, hok', r', q⟩ := h
        have q' : v = .bl true := q
        subst q'
        obtain rfl : u = Value.bool true := r'
        refine ⟨rfl, OldK.of_keep fun b o e => ?_, os, bare⟩
        rcases hO b with q | ⟨ob, xs, z⟩
        · exact un.keep b o e q (fun z => (nomatch z)) (by simp)
        · obtain ⟨e1, _⟩ := hok b _ z
          obtain ⟨e2, _⟩ := hok' b _ (un.frzs b ob _ z)
          rw [e] at e1; cases e1
          exact e2
  cases hk : K.lookup a with
  | some o =>
    have e := KX a o hk
    rw [ha] at e
    cases e
    exact core (fun _ => none) (fun _ => .inl rfl) (.inr ⟨_, vs.toArray, _, hk, rfl, rfl, rfl, by rw [List.size_toArray, lenV]; exact hl, by simpa using rv⟩) (fun b u z => nomatch (show (none : Option HO) = some u from z)) (fun b z => absurd rfl z) fun z => absurd rfl z
  | none =>
    refine core (upd (fun _ => none) a (.frz { cls := .type "list", data := .seq vs.toArray } (.lst (ns.map V.int)))) (fun b => ?_) (.inl (.inr ⟨{ cls := .type "list", data := .seq vs.toArray }, upd_same⟩)) (fun b u z => ?_) (fun b z => ?_) fun _ => hk
    · by_cases hb : b = a
      · exact .inr ⟨_, _, by rw [hb]; exact upd_same⟩
      · exact .inl (upd_ne hb)
    · by_cases hb : b = a
      · subst hb
        rw [upd_same] at z
        cases z
        exact ⟨ha, by rw [List.length_map]; exact hl, vs, _, rv, ha⟩
      · rw [upd_ne hb] at z
        cases z
    · by_cases hb : b = a
      · exact hb
      · exact absurd (upd_ne hb) z
/-- a law, its head's facts at hand -/
theorem walk_ofG {l : PySem.W.OpenLaw} {n k : Nat} {q : Program} {loose : List Str} {XP : (Str → Option Value) → Heap → Prop} {YP : World → Heap → Prop} {d : DefRec} {x : Str}
    (hn : l.most = some n) (hn2 : n ≤ sizeLine) (hdf : d.params.defaults = []) (hr : Room k callerA)
    (F : ∀ (w : World) (mg : Str → Option Value) (fa : Addr) (h : Heap), YP w h → h.Ns mainGlobals mg → mg d.name = some (.ref fa) →
      ∃ (K : PySem.W.Frag) (fd : FuncData) (sp : SpG), K.In h ∧ (∀ (s : Shared) (u : Value), BindsTo s fd ⟨[u], []⟩ [(x, u)]) ∧
        (∀ (H : Hp) (a : Addr) (ns : List Int), ns.length ≤ n → L2.Only H → SqL K H a (ns.map V.int) → sp [.ref a] H (fun v _ => v = .bl true)) ∧
        ∀ base : Heap, K.In base → base.Ns mainGlobals mg → FnG l.prog w K mg base k fa fd [x] sp) :
    PySem.W.WalkO q loose XP YP l.row.toRowW d [] (fun f vs => PySem.call f vs) := by
  refine Att.attach_call hn hdf fun w s₀ s₁ mg mb fa o pm cd doc a vs ns G Y ho hd hcd hmg hobj hints hlen hg => ?_
  obtain ⟨K, fd, sp, KX, hb, hsp, hF⟩ := F w mg fa _ Y G.T.g hmg
  exact law_callG KX G.T.g G.T.b G.T.builtins G.T.nolimit hg hobj hints (Nat.le_trans hlen hn2) hr hF hb fun H hO hS => hsp H a ns hlen hO hS
end Ev
end
section
set_option linter.all false
set_option autoImplicit false
set_option maxRecDepth 100000
/-! Ev15: calls of own defs. -/
namespace Ev
open PySem PySem.Spec PyProof.Rows
open L2 (V HO Hp upd upd_same upd_ne SqL SqT Rd Key Cx PE PT PW PA PC PK TE TT TA OpR IxR UnR CallR VK R2 EP Inv RelV Vals Room)

theorem se_keep {X : Cx} {I : Inf} {Φ : Fns} {a : Expr} {ma : E} (ha : PE X a (TEv I Φ ma)) : PE X a (TEv I Φ (.keep ma)) := peImp ha fun σ H Q ⟨B, G, env, t, r, env', O, e, k⟩ => by
  obtain ⟨p, h1, e⟩ := bindSome e
  obtain ⟨q, h2, e⟩ := mapSome e
  cases e
  refine ⟨B, G, env, t, p.1, p.2, O, h1, fun v H1 G1 l P => ?_⟩
  obtain ⟨G2, l2, O2⟩ := P.take h2
  exact k v H1 G2 (l.trans l2) ⟨O2, trivial⟩

/-! ### what is lent -/
def bor : List V → List (Bool × W) → List W → List Rt
  | v :: vs, (true, w0) :: sl, w :: ws => (v, relk w0 w) :: bor vs sl ws
  | _ :: vs, (false, _) :: sl, _ :: ws => bor vs sl ws
  | _, _, _ => []
def bor0 : List V → List (Bool × W) → List Rt
  | v :: vs, (true, w) :: sl => (v, w) :: bor0 vs sl
  | _ :: vs, (false, _) :: sl => bor0 vs sl
  | _, _ => []
def Inf.top (I : Inf) : Inf := { I with br := fun _ => none }
/-- what a def promises: it does what Φ says -/
def spF (I : Inf) (Φ : Fns) (f : Nat) : SpG := fun vs H Q => ∃ B G sl w ws, vs.length = sl.length ∧ Ok I.top B G [] H [] (vs.zip (sl.map (·.2))) ∧ Φ f sl = some (w, ws) ∧
  ∀ v H' G', G.Le G' → Ok I.top B G' [] H' [] ((v, w) :: bor vs sl ws) → Q v H'
theorem Slots.out {σ : L2.St} {env : Env} {R : List Rt} (s : Slots σ env R) : ∀ {i : Nat} {b : Bool} {w : W}, slot env i = some (b, w) → ∃ v R1, σ[i]? = some (some v) ∧ Slots σ (env.set i none) R1 ∧ R.Perm ((v, w) :: R1) := by
  induction s with
  | nil => intro i b w h; cases i <;> cases h
  | no s ih =>
    intro i b w h
    cases i with
    | zero => cases h
    | succ i =>
      obtain ⟨v, R1, h1, h2, h3⟩ := ih (show slot _ i = _ from h)
      exact ⟨v, R1, by simpa using h1, .no h2, h3⟩
  | yes s ih =>
    rename_i v₀ w₀ b₀ σ env R
    intro i b w h
    cases i with
    | zero => cases h; exact ⟨_, _, rfl, .no s, .refl _⟩
    | succ i =>
      obtain ⟨v, R1, h1, h2, h3⟩ := ih (show slot _ i = _ from h)
      exact ⟨v, _, by simpa using h1, .yes h2, (h3.cons _).trans (.swap ..)⟩
theorem Slots.back {σ : L2.St} {env : Env} {R : List Rt} (s : Slots σ env R) {i : Nat} {v : V} (b : Bool) (w : W) (h : slot env i = none) (hi : i < env.length) (hv : σ[i]? = some (some v)) : ∃ R1, Slots σ (env.set i (some (b, w))) R1 ∧ R1.Perm ((v, w) :: R) := by
  obtain ⟨R1, h1, h2⟩ := s.store v b w hi
  rw [set_same hv] at h1
  rcases h2 with ⟨_, h2⟩ | ⟨x, R0, h2, h3⟩
  · exact ⟨R1, h1, h2⟩
  · -- the slot was empty
    have l1 := h1.out (slot_set (s := some (b, w)) hi)
    obtain ⟨v', R2, q1, q2, q3⟩ := l1
    rw [hv] at q1; cases q1
    have e2 : (env.set i (some (b, w))).set i none = env := by
      rw [List.set_set]
      refine set_same ?_
      unfold slot at h
      rw [List.getD_eq_getElem?_getD] at h
      have : i < env.length := hi
      rw [List.getElem?_eq_getElem this] at h ⊢
      exact congrArg some h
    rw [e2] at q2
    have e3 : ∀ {σ : L2.St} {env : Env} {R R' : List Rt}, Slots σ env R → Slots σ env R' → R = R' := fun {σ env R R'} a b => by
      induction a generalizing R' with
      | nil => cases b; rfl
      | no _ ih => cases b with | no b => exact ih b
      | yes _ ih => cases b with | yes b => rw [ih b]
    rw [e3 s q2]
    exact ⟨R1, h1, q3⟩
theorem slot_none_set {env : Env} {i : Nat} : slot (env.set i none) i = none := by
  unfold slot
  rw [List.getD_eq_getElem?_getD]
  by_cases h : i < env.length
  · rw [List.getElem?_set_self h]; rfl
  · rw [List.getElem?_eq_none (by simpa using h)]; rfl
theorem put_set {env : Env} {i j : Nat} {s : Slot} {w : W} (h : i ≠ j) : put (env.set i s) j w = (put env j w).set i s := by
  unfold put
  rw [slot_set_ne h]
  split
  · exact List.set_comm _ _ h
  · rfl
theorem giveBack_set {i : Nat} {s : Slot} : ∀ {as : List Ev.R} {ws : List W} {env : Env}, i ∉ rvars as → giveBack (env.set i s) as ws = (giveBack env as ws).set i s
  | [], ws, env, _ => by cases ws <;> rfl
  | .var j :: r, [], env, _ => rfl
  | .val _ :: r, [], env, _ => rfl
  | .elt _ _ :: r, [], env, _ => rfl
  | .var j :: r, w :: ws, env, h => by
    have h' : i ≠ j ∧ i ∉ rvars r := by
      have : i ∉ j :: rvars r := h
      simpa using this
    show giveBack (put (env.set i s) j (relkS (slot (env.set i s) j) w)) r ws = (giveBack (put env j (relkS (slot env j) w)) r ws).set i s
    rw [slot_set_ne h'.1, put_set h'.1, giveBack_set h'.2]
  | .val _ :: r, w :: ws, env, h => giveBack_set (as := r) (ws := ws) (env := env) h
  | .elt _ _ :: r, w :: ws, env, h => giveBack_set (as := r) (ws := ws) (env := env) h
theorem slotsOf_set {i : Nat} {s : Slot} {env : Env} : ∀ {as : List Ev.R}, i ∉ rvars as → slotsOf (env.set i s) as = slotsOf env as
  | [], _ => rfl
  | .var j :: r, h => by
    have h' : i ≠ j ∧ i ∉ rvars r := by
      have : i ∉ j :: rvars r := h
      simpa using this
    unfold slotsOf
    rw [slot_set_ne h'.1, slotsOf_set h'.2]
  | .val _ :: r, h => by
    unfold slotsOf
    rw [slotsOf_set (as := r) h]
  | .elt _ _ :: r, h => rfl
theorem giveBack_length : ∀ {as : List Ev.R} {ws : List W} {env : Env}, (giveBack env as ws).length = env.length
  | [], ws, env => by cases ws <;> rfl
  | .var j :: r, [], env => rfl
  | .val _ :: r, [], env => rfl
  | .elt _ _ :: r, [], env => rfl
  | .var j :: r, w :: ws, env => by
    show (giveBack (put env j (relkS (slot env j) w)) r ws).length = _
    rw [giveBack_length]
    unfold put
    split
    · rw [List.length_set]
    · rfl
  | .val _ :: r, w :: ws, env => giveBack_length (as := r) (ws := ws) (env := env)
  | .elt _ _ :: r, w :: ws, env => giveBack_length (as := r) (ws := ws) (env := env)
theorem Lent.back {I : Inf} {σ : L2.St} : ∀ {as : List Ev.R} {ws : List W} {env : Env}, Lent I σ env → Lent I σ (giveBack env as ws)
  | [], ws, env, L => by cases ws <;> exact L
  | .var j :: r, [], env, L => L
  | .val _ :: r, [], env, L => L
  | .elt _ _ :: r, [], env, L => L
  | .var j :: r, w :: ws, env, L => by
    show Lent I σ (giveBack (put env j (relkS (slot env j) w)) r ws)
    refine Lent.back ?_
    cases h : slot env j with
    | none =>
      unfold put; rw [h]; exact L
    | some s =>
      obtain ⟨b, w0⟩ := s
      rw [put_eq h]
      refine L.set h fun z => ?_
      cases w0 with
      | lk w0 => rfl
      | _ => cases z
  | .val _ :: r, w :: ws, env, L => Lent.back (as := r) (ws := ws) L
  | .elt _ _ :: r, w :: ws, env, L => Lent.back (as := r) (ws := ws) L
theorem Slots.lend {σ : L2.St} : ∀ {as : List Ev.R} {vs : List V} {sl : List (Bool × W)} {env : Env} {R : List Rt}, Slots σ env R → FactL σ vs as → slotsOf env as = some sl → (rvars as).Nodup →
    ∃ Rest, R.Perm (bor0 vs sl ++ Rest) ∧ ∀ ws : List W, ws.length = as.length → ∃ R', Slots σ (giveBack env as ws) R' ∧ R'.Perm (bor vs sl ws ++ Rest)
  | [], [], sl, env, R, s, _, e, _ => by
    cases e
    exact ⟨R, .refl _, fun ws hw => by
      have : ws = [] := List.length_eq_zero_iff.mp hw
      subst this
      exact ⟨R, s, .refl _⟩⟩
  | .val w :: r, v :: vs, sl, env, R, s, F, e, nd => by
    obtain ⟨sl', e1, e2⟩ := mapSome (show (slotsOf env r).map ((false, w) :: ·) = some sl from e)
    subst e2
    obtain ⟨Rest, h1, h2⟩ := Slots.lend (as := r) (vs := vs) s F.2 e1 nd
    refine ⟨Rest, h1, fun ws hw => ?_⟩
    cases ws with
    | nil => cases hw
    | cons w0 ws => exact h2 ws (by simpa using hw)
  | .var i :: r, v :: vs, sl, env, R, s, F, e, nd => by
    have e : (match slot env i with | some (_, w) => (slotsOf env r).map ((true, w) :: ·) | none => none) = some sl := e
    cases hs : slot env i with
    | none => rw [hs] at e; cases e
    | some q =>
      obtain ⟨b, w⟩ := q
      rw [hs] at e
      obtain ⟨sl', e1, e2⟩ := mapSome e
      subst e2
      have nd' := List.nodup_cons.mp (show (i :: rvars r).Nodup from nd)
      obtain ⟨v', R1, o1, o2, o3⟩ := s.out hs
      have hv : σ[i]? = some (some v) := F.1
      rw [o1] at hv; cases hv
      obtain ⟨Rest, h1, h2⟩ := Slots.lend (as := r) (vs := vs) (sl := sl') o2 F.2 (by rw [slotsOf_set nd'.1]; exact e1) nd'.2
      have hrk : ∀ w0, relkS (slot env i) w0 = relk w w0 := fun w0 => by rw [hs]; rfl
      refine ⟨Rest, o3.trans (h1.cons _), fun ws hw => ?_⟩
      cases ws with
      | nil => cases hw
      | cons w0 ws =>
        obtain ⟨R', q1, q2⟩ := h2 ws (by simpa using hw)
        rw [giveBack_set nd'.1] at q1
        obtain ⟨R2, z1, z2⟩ := q1.back (i := i) (v := v) b (relk w w0) slot_none_set (by rw [List.length_set, giveBack_length]; exact slot_lt hs) o1
        refine ⟨R2, ?_, z2.trans (q2.cons _)⟩
        show Slots σ (giveBack (put env i (relkS (slot env i) w0)) r ws) R2
        rw [hrk, put_eq hs, giveBack_set nd'.1]
        rw [List.set_set] at z1
        exact z1
  | .elt _ _ :: r, v :: vs, sl, env, R, s, F, e, nd => by cases e
  | [], _ :: _, _, _, _, _, F, _, _ => F.elim
  | _ :: _, [], _, _, _, _, F, _, _ => F.elim
theorem args_perm {σ : L2.St} {env : Env} {t : List Rt} : ∀ {as : List Ev.R} {vs : List V} {sl : List (Bool × W)}, FactL σ vs as → slotsOf env as = some sl → vs.length = sl.length ∧ (extL vs as t ++ bor0 vs sl).Perm (vs.zip (sl.map (·.2)) ++ t)
  | [], [], sl, _, e => by cases e; exact ⟨rfl, by simp [extL, bor0]⟩
  | .val w :: r, v :: vs, sl, F, e => by
    obtain ⟨sl', e1, e2⟩ := mapSome (show (slotsOf env r).map ((false, w) :: ·) = some sl from e)
    subst e2
    obtain ⟨h1, h2⟩ := args_perm (as := r) (vs := vs) F.2 e1
    exact ⟨by simp [h1], h2.cons _⟩
  | .var i :: r, v :: vs, sl, F, e => by
    have e : (match slot env i with | some (_, w) => (slotsOf env r).map ((true, w) :: ·) | none => none) = some sl := e
    cases hs : slot env i with
    | none => rw [hs] at e; cases e
    | some q =>
      obtain ⟨b, w⟩ := q
      rw [hs] at e
      obtain ⟨sl', e1, e2⟩ := mapSome e
      subst e2
      obtain ⟨h1, h2⟩ := args_perm (as := r) (vs := vs) F.2 e1
      refine ⟨by simp [h1], ?_⟩
      show (extL vs r t ++ (v, w) :: bor0 vs sl').Perm ((v, w) :: (vs.zip (sl'.map (·.2)) ++ t))
      exact List.perm_middle.trans (h2.cons _)
  | .elt _ _ :: r, v :: vs, sl, F, e => by cases e
  | [], _ :: _, _, F, _ => F.elim
  | _ :: _, [], _, F, _ => F.elim
/-- a call: what is lent and what is given, the callee, what comes back -/
theorem callee_run {I : Inf} {B : Hp} {G : Gh} {σ : L2.St} {H : Hp} {env : Env} {t : List Rt} {Φ : Fns} {f : Nat} {Q : VK} {as : List Ev.R} {vs : List V} {sl : List (Bool × W)} {w : W} {ws : List W}
    (O : Ok I B G σ H env (extL vs as t)) (F : FactL σ vs as) (nd : (rvars as).Nodup) (hs : slotsOf env as = some sl) (hΦ : Φ f sl = some (w, ws)) (hl : ws.length = as.length)
    (k : ∀ v H' G', G.Le G' → Post I B G' σ H' (giveBack env as ws) t v (.val w) → Q v H') : spF I Φ f vs H Q := by
  obtain ⟨R, fp, s, r, o⟩ := O.tr
  obtain ⟨Rest, p1, back⟩ := s.lend F hs nd
  obtain ⟨hlen, p2⟩ := args_perm (t := t) F hs
  have pm : (extL vs as t ++ R).Perm (vs.zip (sl.map (·.2)) ++ (t ++ Rest)) := by
    refine (p1.append_left _).trans ?_
    rw [← List.append_assoc, ← List.append_assoc]
    exact p2.append_right Rest
  obtain ⟨fp', r', pf⟩ := RepWP.perm pm r
  obtain ⟨f0, g, rfl, r1, r2⟩ := RepWP.unapp r'
  have o' := o.perm pf
  have th := RepWP.there r2
  have dis : ∀ p, p ∈ f0 → p ∉ g := fun p h1 h2 => (List.nodup_append.mp o'.nd).2.2 p h1 p h2 rfl
  generalize hB : (fun p => if p ∈ g then H p else B p : Hp) = B'
  have Bin : ∀ p, p ∈ g → B' p = H p := fun p h => by rw [← hB]; exact if_pos h
  have Bout : ∀ p, p ∉ g → B' p = B p := fun p h => by rw [← hB]; exact if_neg h
  refine ⟨B', G, sl, w, ws, hlen, ⟨O.fz, fun q u e => ?_, O.cl, O.fn, O.sc, fun a u e => ?_, fun a u e => ?_, fun i v b h => (nomatch h), [], f0, .nil, ?_, o'.left.nd, fun p hp => ?_⟩, hΦ, fun v H' G' le O1 => ?_⟩
  · obtain ⟨z1, z2, z3⟩ := O.ca q u e
    refine ⟨z1, ?_, z3⟩
    rw [Bout q fun h => by have := (o'.right.no q h).2.1; rw [e] at this; cases this]
    exact z2
  · by_cases h : a ∈ g
    · rw [← Bin a h]; exact e
    · exact O.bp a u ((Bout a h).symm.trans e)
  · by_cases h : a ∈ g
    · exact ⟨(o'.right.no a h).1, (o'.right.no a h).2.1⟩
    · exact O.bz a u ((Bout a h).symm.trans e)
  · rw [List.append_nil]; exact r1
  · obtain ⟨z1, z2, z3⟩ := o'.left.no p hp
    exact ⟨z1, z2, by rw [Bout p (dis p hp)]; exact z3⟩
  · obtain ⟨R0, fp0, s0, q1, q2⟩ := O1.tr
    cases s0
    rw [List.append_nil] at q1
    obtain ⟨R', s', p'⟩ := back ws hl
    have nB : ∀ p, B' p = none → p ∉ g ∧ B p = none := fun p h => by
      have hg : p ∉ g := fun hg => th p hg ((Bin p hg).symm.trans h)
      exact ⟨hg, (Bout p hg).symm.trans h⟩
    have gB : ∀ p u, B p = some u → p ∉ g := fun p u h hg => by have := (o'.right.no p hg).2.2; rw [h] at this; cases this
    have keep : ∀ p ∈ g, H' p = H p := fun p hp => by
      obtain ⟨u, hu⟩ := Option.ne_none_iff_exists'.mp (th p hp)
      rw [hu]
      exact O1.bp p u ((Bin p hp).trans hu)
    have gz : ∀ p ∈ g, G'.fz p = none ∧ G'.ca p = none := fun p hp => by
      obtain ⟨u, hu⟩ := Option.ne_none_iff_exists'.mp (th p hp)
      exact O1.bz p u ((Bin p hp).trans hu)
    have r3 := RepWP.app q1 (r2.frame le keep)
    have pm2 : ((v, w) :: bor vs sl ws ++ (t ++ Rest)).Perm (((v, w) :: t) ++ R') := by
      refine List.Perm.cons _ ?_
      show (bor vs sl ws ++ (t ++ Rest)).Perm (t ++ R')
      refine List.Perm.trans ?_ (p'.symm.append_left t)
      rw [← List.append_assoc, ← List.append_assoc]
      exact List.perm_append_comm.append_right Rest
    obtain ⟨fp2, r4, pf2⟩ := RepWP.perm pm2 r3
    refine k v H' G' le ⟨⟨O1.fz, fun q u e => ?_, O1.cl, O1.fn, O1.sc, fun a u e => ?_, fun a u e => ?_, O.lent.back, R', fp2, s', r4, ?_⟩, trivial⟩
    · obtain ⟨z1, z2, z3⟩ := O1.ca q u e
      exact ⟨z1, (nB q z2).2, z3⟩
    · exact O1.bp a u ((Bout a (gB a u e)).trans e)
    · exact O1.bz a u ((Bout a (gB a u e)).trans e)
    · refine Own.perm ⟨List.nodup_append.mpr ⟨q2.nd, o'.right.nd, fun a ha b hb e => (nB a (q2.no a ha).2.2).1 (e ▸ hb)⟩, fun p hp => ?_⟩ pf2
      rcases List.mem_append.mp hp with hp | hp
      · obtain ⟨z1, z2, z3⟩ := q2.no p hp
        exact ⟨z1, z2, (nB p z3).2⟩
      · exact ⟨(gz p hp).1, (gz p hp).2, (o'.right.no p hp).2.2⟩

/-! ### arguments in the parameters' order -/
def elen : E → Nat
  | .cons _ r => elen r + 1
  | _ => 0
theorem elen_of {Φ : Fns} : ∀ {m : E} {env env' : Env} {rs : List Ev.R}, (ev Φ m).es env = some (rs, env') → rs.length = elen m := by
  intro m
  induction m with
  | cons a r _ ih =>
    intro env env' rs e
    obtain ⟨p, h1, e⟩ := bindSome e
    obtain ⟨p', h2, e⟩ := bindSome e
    obtain ⟨q, h3, e⟩ := mapSome e
    cases e
    simp [elen, ih h3]
  | nil => intro env env' rs e; cases e; rfl
  | _ => intro env env' rs e; cases e
def valsOf (l : List (V × Ev.R)) : List Rt := l.filterMap fun p => match p.2 with
  | .val w => some (p.1, w)
  | _ => none
theorem extL_vals {t : List Rt} : ∀ {vs : List V} {rs : List Ev.R}, vs.length = rs.length → extL vs rs t = valsOf (vs.zip rs) ++ t
  | [], [], _ => rfl
  | v :: vs, r :: rs, h => by
    show ext v r (extL vs rs t) = _
    rw [extL_vals (by simpa using h)]
    cases r <;> rfl
  | [], _ :: _, h => by cases h
  | _ :: _, [], h => by cases h
def FactA (σ : L2.St) (v : V) : Ev.R → Prop
  | .var i => σ[i]? = some (some v)
  | .val _ => True
  | .elt _ _ => False
theorem factL_iff {σ : L2.St} : ∀ {vs : List V} {rs : List Ev.R}, FactL σ vs rs ↔ vs.length = rs.length ∧ ∀ p ∈ vs.zip rs, FactA σ p.1 p.2
  | [], [] => by simp [FactL]
  | v :: vs, r :: rs => by
    have ih := factL_iff (σ := σ) (vs := vs) (rs := rs)
    constructor
    · intro h
      obtain ⟨h1, h2⟩ := ih.mp h.2
      refine ⟨by simp [h1], fun p hp => ?_⟩
      rcases List.mem_cons.mp (show p ∈ (v, r) :: vs.zip rs from hp) with rfl | hp
      · have := h.1
        cases r <;> exact this
      · exact h2 p hp
    · intro h
      refine ⟨?_, ih.mpr ⟨by simpa using h.1, fun p hp => h.2 p (List.mem_cons_of_mem _ hp)⟩⟩
      have := h.2 (v, r) List.mem_cons_self
      cases r <;> exact this
  | [], _ :: _ => by simp [FactL]
  | _ :: _, [] => by simp [FactL]
theorem range_get {α : Type} : ∀ l : List α, (List.range l.length).filterMap (fun j => l[j]?) = l
  | [] => rfl
  | x :: l => by
    rw [List.length_cons, List.range_succ_eq_map, List.filterMap_cons, List.filterMap_map]
    have ih := range_get l
    simpa [Function.comp_def] using ih
theorem pick_fm {α : Type} {l : List α} : ∀ {js : List Nat} {l' : List α}, pick l js = some l' → l' = js.filterMap fun j => l[j]?
  | [], l', h => by cases h; rfl
  | j :: js, l', h => by
    obtain ⟨x, h1, h⟩ := bindSome h
    obtain ⟨y, h2, h⟩ := mapSome h
    subst h
    rw [List.filterMap_cons, h1, ← pick_fm h2]
theorem pick_perm {α : Type} {l l' : List α} {js : List Nat} (h : pick l js = some l') (p : js.Perm (List.range l.length)) : l.Perm l' := by
  rw [pick_fm h]
  have := (p.filterMap fun j => l[j]?).symm
  rw [range_get] at this
  exact this
theorem pick_zip {α β : Type} {l : List α} {m : List β} (hl : l.length = m.length) : ∀ {js : List Nat} {m' : List β}, pick m js = some m' → ∃ l', pick l js = some l' ∧ pick (l.zip m) js = some (l'.zip m') ∧ l'.length = m'.length
  | [], m', h => by cases h; exact ⟨[], rfl, rfl, rfl⟩
  | j :: js, m', h => by
    obtain ⟨x, h1, h⟩ := bindSome h
    obtain ⟨y, h2, h⟩ := mapSome h
    subst h
    obtain ⟨l', a1, a2, a3⟩ := pick_zip hl h2
    have hj : j < m.length := (List.getElem?_eq_some_iff.mp h1).1
    have hj' : j < l.length := by omega
    refine ⟨l[j] :: l', ?_, ?_, by simp [a3]⟩
    · unfold pick
      rw [List.getElem?_eq_getElem hj', a1]; rfl
    · unfold pick
      rw [a2]
      have : (l.zip m)[j]? = some (l[j], x) := by
        rw [List.getElem?_zip_eq_some]
        exact ⟨List.getElem?_eq_getElem hj', h1⟩
      rw [this]; rfl
theorem extL_app {t : List Rt} {vs zs : List V} {rs qs : List Ev.R} (h1 : vs.length = rs.length) (h2 : zs.length = qs.length) : (extL zs qs (extL vs rs t)).Perm (extL (vs ++ zs) (rs ++ qs) t) := by
  rw [extL_vals h2, extL_vals h1, extL_vals (by simp [h1, h2]), List.zip_append h1]
  unfold valsOf
  rw [List.filterMap_append, ← List.append_assoc]
  exact List.perm_append_comm.append_right t
theorem call_run {I : Inf} {Φ : Fns} {ma mk : E} {f n m : Nat} {js : List Nat} {σ : L2.St} {H : Hp} {Q : VK} (hn : elen ma = n) (hm : elen mk = m) (hp : js.Perm (List.range (n + m)))
    (h : TEv I Φ (.call f ma mk js) σ H Q) : tCallG n m js (spF I Φ f) (TAv I Φ ma) (TAv I Φ mk) σ H Q := by
  obtain ⟨B, G, env, t, r, env', O, e, k⟩ := h
  obtain ⟨p, h1, e⟩ := bindSome e
  obtain ⟨q, h2, e⟩ := bindSome e
  have l1 := elen_of h1
  have l2 := elen_of h2
  refine ⟨B, G, env, t, p.1, p.2, O, h1, fun vs H1 G1 le1 O1 F1 => ?_⟩
  refine ⟨B, G1, p.2, _, q.1, q.2, O1, h2, fun zs H2 G2 le2 O2 F2 => ?_⟩
  obtain ⟨v1, w1⟩ := factL_iff.mp F1
  obtain ⟨v2, w2⟩ := factL_iff.mp F2
  have e : (pickL (p.1 ++ q.1) js).bind (fun as => if (rvars as).Nodup then (slotsOf q.2 as).bind fun sl => (Φ f sl).bind fun pp => if pp.2.length = as.length then some (Ev.R.val pp.1, giveBack q.2 as pp.2) else none else none) = some (r, env') := e
  obtain ⟨as, h3, e⟩ := bindSome e
  rw [pickL_eq] at h3
  split at e
  · rename_i nd
    obtain ⟨sl, h4, e⟩ := bindSome e
    obtain ⟨pp, h5, e⟩ := bindSome e
    split at e
    · rename_i hl
      cases e
      have hlen : (vs ++ zs).length = (p.1 ++ q.1).length := by simp [v1, v2]
      obtain ⟨ys, y1, y2, y3⟩ := pick_zip hlen h3
      have O3 := O2.perm (extL_app v1 v2)
      have zl : ((vs ++ zs).zip (p.1 ++ q.1)).length = n + m := by
        rw [List.length_zip, hlen, Nat.min_self, List.length_append]; omega
      have pz := pick_perm y2 (by rw [zl]; exact hp)
      have O4 : Ok I B G2 σ H2 q.2 (extL ys as t) := O3.perm (by
        rw [extL_vals hlen, extL_vals y3]
        exact (pz.filterMap _).append_right t)
      have F4 : FactL σ ys as := factL_iff.mpr ⟨y3, fun x hx => by
        have hx' := pz.mem_iff.mpr hx
        rw [List.zip_append v1] at hx'
        exact (List.mem_append.mp hx').elim (w1 x) (w2 x)⟩
      exact ⟨ys, by omega, by omega, y1, callee_run O4 F4 nd h4 h5 hl fun v H' G' le P => k v H' G' ((le1.trans le2).trans le) P⟩
    · cases e
  · cases e
section
variable {X : Cx} {I : Inf} {Φ : Fns} {k n f : Nat} {fa : Addr} {fd : FuncData} {ps ks : List Str} {x : Str} {p pos kpos : Pos} {e : Expr} {es : List Expr} {kws : List Keyword} {js : List Nat} {ma mk : E} {nm : Option Str}
theorem pkImp {t t' : TA} (h : PK X kws t) (k : ∀ σ H Q, t' σ H Q → t σ H Q) : PK X kws t' := ⟨fun pos pins s σ H Q I h' => h.run pos pins s σ H Q I (k _ _ _ h')⟩
theorem sw_nil : PK X [] (TAv I Φ .nil) := pkImp L2.pk_nil fun σ H Q ⟨B, G, env, t, rs, env', O, e, k⟩ => by
  cases (show some (([] : List Ev.R), env) = some (rs, env') from e)
  exact k [] H G (.refl G) O trivial
theorem sw_cons (ha : PE X e (TEv I Φ ma)) (hr : PK X kws (TAv I Φ mk)) : PK X (⟨nm, e, kpos⟩ :: kws) (TAv I Φ (.cons ma mk)) := pkImp (L2.pk_cons ha hr) fun σ H Q ⟨B, G, env, t, rs, env', O, e, k⟩ => by
  obtain ⟨p, h1, e⟩ := bindSome e
  obtain ⟨p', h2, e⟩ := bindSome e
  obtain ⟨q, h3, e⟩ := mapSome e
  cases e
  refine ⟨B, G, env, t, p.1, p.2, O, h1, fun x H1 G1 l P => ?_⟩
  obtain ⟨G2, l2, P2, ne⟩ := P.stab h2
  refine ⟨B, G2, p'.2, _, q.1, q.2, P2.1, h3, fun vs H2 G3 l3 O3 F3 => ?_⟩
  refine k (x :: vs) H2 G3 ((l.trans l2).trans l3) (O3.perm extL_ext) ⟨?_, F3⟩
  have f := P2.2
  cases hr' : p'.1 with
  | val w => trivial
  | var i => rw [hr'] at f; exact f
  | elt i j => exact absurd hr' (ne i j)
/-- f(e, .., k = v, ..) -/
theorem se_call (F : FnG X.prog X.w X.K X.mg X.base k fa fd ps (spF I Φ f)) (hr : Room k X.A) (hgd : X.A.guards = some []) (hg : L2.Gl X x) (hm : X.mg x = some (.ref fa)) (hk : PySem.W.keepIn X.K (.ref fa) = true) (hb : BindsG X.K fd ps n ks js)
    (hn : elen ma = n) (hmk : elen mk = ks.length) (hp : js.Perm (List.range (n + ks.length))) (ha : PA X (e :: es) (TAv I Φ ma)) (hkw : PK X kws (TAv I Φ mk))
    (hall : (backToKw pos (keywordEach kws X.env)).all (·.1.isSome) = true) (hks : (backToKw pos (keywordEach kws X.env)).filterMap (·.1) = ks)
    (hdb : (x == ("__debug__" : Str)) = false) (he : starEach (e :: es) X.env = (false, eval e X.env) :: starEach es X.env)
    (hpl : ((backTo pos (starEach (e :: es) X.env)).any (·.1) || (backToKw pos (keywordEach kws X.env)).any (·.1.isNone)) = false) :
    PE X (.Call (.Name x p) (e :: es) kws pos) (TEv I Φ (.call f ma mk js)) :=
  peImp (pe_callGK F hr hgd hg hm hk hb ha hkw hall hks hdb he hpl) fun σ H Q h => call_run hn hmk hp h
theorem se_call0 (F : FnG X.prog X.w X.K X.mg X.base k fa fd ps (spF I Φ f)) (hr : Room k X.A) (hgd : X.A.guards = some []) (hg : L2.Gl X x) (hm : X.mg x = some (.ref fa)) (hk : PySem.W.keepIn X.K (.ref fa) = true) (hb : BindsG X.K fd ps 0 ks js)
    (hmk : elen mk = ks.length) (hp : js.Perm (List.range (0 + ks.length))) (hkw : PK X kws (TAv I Φ mk))
    (hall : (backToKw pos (keywordEach kws X.env)).all (·.1.isSome) = true) (hks : (backToKw pos (keywordEach kws X.env)).filterMap (·.1) = ks)
    (hdb : (x == ("__debug__" : Str)) = false) (hpl : ((backTo pos (starEach [] X.env)).any (·.1) || (backToKw pos (keywordEach kws X.env)).any (·.1.isNone)) = false) :
    PE X (.Call (.Name x p) [] kws pos) (TEv I Φ (.call f .nil mk js)) :=
  peImp (pe_callGK0 F hr hgd hg hm hk hb hkw hall hks hdb hpl) fun σ H Q h => by
    have hy : TAv I Φ .nil σ H _ := call_run (n := 0) rfl hmk hp h
    obtain ⟨B, G, env, t, rs, env', O, e, k⟩ := hy
    cases (show some (([] : List Ev.R), env) = some (rs, env') from e)
    exact k [] H G (.refl G) O trivial
end
end Ev
end
section
set_option linter.all false
set_option autoImplicit false
set_option maxRecDepth 100000
/-! Ev16: what a loop walks. -/
namespace Ev
open PySem PySem.Spec PyProof.Rows
open L2 (V HO Hp upd upd_same upd_ne SqL SqT Rd Key Cx PE PT PW PA PC PK PI It Itl Itt Itr Ite Itz TE TT TA TI VK R2 EP Inv RelV Vals)
open RZ (ItzT)

abbrev Brs := Nat → Option (V × Bool)
def Inf.wb (I : Inf) (br : Brs) : Inf := { I with br := br }
/-- behind the loop the names are free again -/
def Unlocks (I : Inf) (br : Brs) (lk : List Nat) : Prop := ∀ B G σ H env t, Ok (I.wb br) B G σ H env t → Ok I B G σ H env t ∧ Ok I B G σ H (unlock env lk) t
/-- the list at a is what src says, as long as the names stay -/
def LAt (I : Inf) (G0 : Gh) (src : Src) (a : Addr) : Prop := ∀ B G σ H env t, G0.Le G → Ok I B G σ H env t → ∀ k r, nxt env src k = some r → ∃ xs, H a = some (.lst xs) ∧ match r with
  | none => xs.length ≤ k
  | some d => ∃ x, xs[k]? = some x ∧ Rep G x d
def TAt (I : Inf) (G0 : Gh) (src : Src) (a : Addr) : Prop := ∀ B G σ H env t, G0.Le G → Ok I B G σ H env t → ∀ k r, nxt env src k = some r → ∃ xs, H a = some (.tup xs) ∧ match r with
  | none => xs.length ≤ k
  | some d => ∃ x, xs[k]? = some x ∧ Rep G x d
def Yields (I : Inf) (G0 : Gh) (src : Src) (J : It) : Prop := ∀ B G σ H env t k r, G0.Le G → Ok I B G σ H env t → nxt env src k = some r → match r with
  | none => J.stop k H
  | some d => J.go k H ∧ ∀ x H', J.yld k H x H' → ∃ G', G.Le G' ∧ Ok I B G' σ H' env ((x, .d d) :: t)
theorem Ok.wb {I : Inf} {br : Brs} {B : Hp} {G : Gh} {σ : L2.St} {H : Hp} {env : Env} {t : List Rt} (O : Ok I B G σ H env t) (L : Lent (I.wb br) σ env) : Ok (I.wb br) B G σ H env t := ⟨O.fz, O.ca, O.cl, O.fn, O.sc, O.bp, O.bz, L, O.tr⟩
theorem Ok.unwb {I : Inf} {br : Brs} {B : Hp} {G : Gh} {σ : L2.St} {H : Hp} {env : Env} {t : List Rt} (O : Ok (I.wb br) B G σ H env t) (L : Lent I σ env) : Ok I B G σ H env t := ⟨O.fz, O.ca, O.cl, O.fn, O.sc, O.bp, O.bz, L, O.tr⟩
theorem Unlocks.nil (I : Inf) : Unlocks I I.br [] := fun B G σ H env t O => ⟨O, O⟩
theorem LAt.mono {I : Inf} {G G' : Gh} {src : Src} {a : Addr} (h : LAt I G src a) (l : G.Le G') : LAt I G' src a := fun B G1 σ H env t l1 O => h B G1 σ H env t (l.trans l1) O
theorem TAt.mono {I : Inf} {G G' : Gh} {src : Src} {a : Addr} (h : TAt I G src a) (l : G.Le G') : TAt I G' src a := fun B G1 σ H env t l1 O => h B G1 σ H env t (l.trans l1) O
theorem get_none {α : Type} {l : List α} {k : Nat} (h : l[k]? = none) : l.length ≤ k := List.getElem?_eq_none_iff.mp h
theorem fx_at {I : Inf} {G : Gh} {ds : List D} {a : Addr} {xs : List V} (h : G.fz a = some (.lst xs)) (r : RepL G xs ds) : LAt I G (.fx ds) a := fun B G1 σ H env t l O k r' e => ⟨xs, O.fz _ _ (l.fz _ _ h), by
  have e' : some ds[k]? = some r' := e
  cases e'
  cases hd : ds[k]? with
  | none => rw [r.length]; exact get_none hd
  | some d =>
    obtain ⟨u, h1, h2⟩ := r.get hd
    exact ⟨u, h1, h2.mono l⟩⟩
theorem fx_atT {I : Inf} {G : Gh} {ds : List D} {a : Addr} {xs : List V} (h : G.fz a = some (.tup xs)) (r : RepL G xs ds) : TAt I G (.fx ds) a := fun B G1 σ H env t l O k r' e => ⟨xs, O.fz _ _ (l.fz _ _ h), by
  have e' : some ds[k]? = some r' := e
  cases e'
  cases hd : ds[k]? with
  | none => rw [r.length]; exact get_none hd
  | some d =>
    obtain ⟨u, h1, h2⟩ := r.get hd
    exact ⟨u, h1, h2.mono l⟩⟩
theorem repWL_get {G : Gh} {H : Hp} {xs : List V} {ws : List W} {fp : List Addr} {k : Nat} {w : W} (r : RepWL G H xs ws fp) (h : ws[k]? = some w) : ∃ x f, xs[k]? = some x ∧ RepW G H x w f :=
  let ⟨x, _, f, _, h1, _, h3, _⟩ := r.focus h
  ⟨x, f, h1, h3⟩
/-- a locked name -/
theorem lv_at {I : Inf} {G : Gh} {i : Nat} {a : Addr} {b : Bool} (h : I.br i = some (.ref a, b)) : LAt I G (.lv i) a := fun B G1 σ H env t l O k r e => by
  have e' : (match slot env i with | some (_, .lk (.lst ws)) => (match ws[k]? with | none => some none | some (.d x) => some (some x) | _ => none) | _ => none) = some r := e
  obtain ⟨⟨w, hs, _⟩, h3⟩ := O.lent i _ _ h
  obtain ⟨v, f, h1, h2, _⟩ := O.at hs
  rw [h1] at h3; cases h3
  rw [hs] at e'
  cases h2 with
  | lk h2 =>
    cases h2 with
    | lst hH rl =>
      dsimp only at e'
      refine ⟨_, hH, ?_⟩
      split at e'
      · rename_i hk
        cases e'
        show List.length _ ≤ k
        rw [rl.length]; exact get_none hk
      · rename_i x hk
        cases e'
        obtain ⟨u, f', u1, u2⟩ := repWL_get rl hk
        cases u2 with
        | d u2 => exact ⟨u, u1, u2⟩
      · cases e'
    | _ => cases e'
  | _ => cases e'
/-- locking -/
theorem lock_ok {I : Inf} {B : Hp} {G : Gh} {σ : L2.St} {H : Hp} {env : Env} {t : List Rt} {i : Nat} {b : Bool} {v : V} {w : W} (O : Ok I B G σ H env t) (hs : slot env i = some (b, .lk w)) (hv : σ[i]? = some (some v)) : Ok (I.wb fun j => if j = i then some (v, b) else I.br j) B G σ H env t := O.wb fun j v' b' h => by
  have h : (if j = i then some (v, b) else I.br j) = some (v', b') := h
  by_cases e : j = i
  · rw [if_pos e] at h
    cases h
    rw [e]
    exact ⟨⟨_, hs, .inr rfl⟩, hv⟩
  · rw [if_neg e] at h
    exact O.lent j v' b' h
theorem lent_back {I : Inf} {σ σ0 : L2.St} {env env0 : Env} {i : Nat} {b : Bool} {v : V} {w : W} (L : Lent (I.wb fun j => if j = i then some (v, b) else I.br j) σ env) (L0 : Lent I σ0 env0) (hs : slot env0 i = some (b, w)) (hv : σ0[i]? = some (some v)) : Lent I σ env := fun j v' b' h => by
  by_cases e : j = i
  · subst e
    obtain ⟨⟨w', q1, q2⟩, q3⟩ := L0 j v' b' h
    rw [hs] at q1; cases q1
    rw [hv] at q3; cases q3
    exact L j v b (if_pos rfl)
  · exact L j v' b' ((if_neg e).trans h)
theorem unlk_ok {I : Inf} {B : Hp} {G : Gh} {σ : L2.St} {H : Hp} {env : Env} {t : List Rt} {i : Nat} {v : V} {b : Bool} (O : Ok (I.wb fun j => if j = i then some (v, b) else I.br j) B G σ H env t) (L : Lent I σ env) (hb : ∀ v' b', I.br i = some (v', b') → b' = true) :
    Ok I B G σ H (unlock1 env i) t := by
  have O1 : Ok I B G σ H env t := O.unwb L
  cases hs : slot env i with
  | none =>
    have : unlock1 env i = env := by unfold unlock1; rw [hs]
    rw [this]; exact O1
  | some s =>
    obtain ⟨b1, w⟩ := s
    by_cases hw : ∃ w0, w = .lk w0
    · obtain ⟨w0, rfl⟩ := hw
      have e1 : unlock1 env i = env.set i (some (b1, w0)) := by unfold unlock1; rw [hs]
      rw [e1]
      obtain ⟨R, fp, s, r, o⟩ := O1.tr
      obtain ⟨k, v1, h1, h2, h3⟩ := s.at hs
      have h2' : (t ++ R)[t.length + k]? = some (v1, .lk w0) := by rw [List.getElem?_append_right (Nat.le_add_right _ _)]; simpa using h2
      obtain ⟨f, a1, a2, a3⟩ := roots_at r o h2'
      cases a1 with
      | lk a1 =>
        obtain ⟨fp', q1, q2⟩ := a3 (Step.id O1.fz) a1 a2.nd fun p hp => ⟨.inl hp, a2.no p hp⟩
        rw [List.set_append_right _ _ (Nat.le_add_right _ _)] at q1
        refine ⟨O1.fz, O1.ca, O1.cl, O1.fn, O1.sc, O1.bp, O1.bz, fun j v' b' h => ?_, _, fp', h3 b1 w0, by simpa using q1, q2⟩
        obtain ⟨⟨x, z1, z2⟩, z3⟩ := L j v' b' h
        refine ⟨?_, z3⟩
        by_cases hj : i = j
        · subst hj
          rw [hs] at z1; cases z1
          exact ⟨w0, slot_set (slot_lt hs), .inl (hb _ _ h)⟩
        · exact ⟨x, by rw [slot_set_ne hj]; exact z1, z2⟩
    · have e1 : unlock1 env i = env := by
        unfold unlock1; rw [hs]
        cases w with
        | lk w0 => exact absurd ⟨w0, rfl⟩ hw
        | _ => rfl
      rw [e1]; exact O1
/-- which sequence, as src says -/
def SAt (I : Inf) (br : Brs) (G : Gh) (src : Src) (b : Bool) (a : Addr) : Prop := ∀ br' : Brs, (∀ j ∈ srcVars src, ∀ x, br j = some x → br' j = some x) → if b = true then LAt (I.wb br') G src a else TAt (I.wb br') G src a
def HAt (H : Hp) (b : Bool) (a : Addr) : Prop := if b = true then ∃ xs, H a = some (.lst xs) else ∃ xs, H a = some (.tup xs)
theorem walk_take {I : Inf} {B : Hp} {G : Gh} {σ : L2.St} {H : Hp} {env env' : Env} {t : List Rt} {v : V} {r : Ev.R} {b : Bool} {src : Src} {lk : List Nat} (P : Post I B G σ H env t v r)
    (e : ((take env r).bind fun p => match frz p.1 with
      | .list l => some ((true, Src.fx l, ([] : List Nat)), p.2)
      | .tup l => some ((false, Src.fx l, []), p.2)
      | _ => none) = some ((b, src, lk), env')) :
    ∃ G' a, G.Le G' ∧ lk = [] ∧ Ok I B G' σ H env' t ∧ v = .ref a ∧ SAt I I.br G' src b a ∧ HAt H b a := by
  obtain ⟨p, h1, e⟩ := bindSome e
  obtain ⟨G1, l1, O1⟩ := P.take h1
  -- frozen now
  obtain ⟨f, a2, a3, a4⟩ := O1.tmp (k := 0) (v := v) (w := p.1) rfl
  have st : Step G1 H f (G1.freeze H f) H := Step.freeze O1.fz
  have rp : Rep (G1.freeze H f) v (frz p.1) := a2.frozen st.le fun p hp => Gh.freeze_at hp
  have O2 : Ok I B (G1.freeze H f) σ H p.2 t := (a4 (w' := .d (frz p.1)) (f' := []) st (.d rp) List.nodup_nil fun _ h => nomatch h).drop1
  split at e
  · rename_i l hl
    cases e
    rw [hl] at rp
    cases rp with
    | list hz rl => exact ⟨_, _, l1.trans st.le, rfl, O2, rfl, fun br' _ => fx_at hz rl, ⟨_, O2.fz _ _ hz⟩⟩
  · rename_i l hl
    cases e
    rw [hl] at rp
    cases rp with
    | tup hz rl => exact ⟨_, _, l1.trans st.le, rfl, O2, rfl, fun br' _ => fx_atT hz rl, ⟨_, O2.fz _ _ hz⟩⟩
  · cases e
theorem ext_lock {I : Inf} {B : Hp} {G : Gh} {σ : L2.St} {H : Hp} {env : Env} {t : List Rt} {i : Nat} {b : Bool} {v : V} {w : W} (O : Ok I B G σ H env t) (hs : slot env i = some (b, w)) (hv : σ[i]? = some (some v)) : ∀ j x, I.br j = some x → (fun j => if j = i then some (v, b) else I.br j) j = some x := fun j x h => by
  obtain ⟨v', b'⟩ := x
  by_cases e : j = i
  · subst e
    obtain ⟨⟨w', z1, _⟩, z3⟩ := O.lent j v' b' h
    rw [hs] at z1; cases z1
    rw [hv] at z3; cases z3
    exact if_pos rfl
  · exact (if_neg e).trans h
theorem walk_run {I : Inf} {B : Hp} {G : Gh} {σ : L2.St} {H : Hp} {env env' : Env} {t : List Rt} {v : V} {r : Ev.R} {b : Bool} {src : Src} {lk : List Nat} (P : Post I B G σ H env t v r) (e : walkR env r = some ((b, src, lk), env')) :
    ∃ G' br a, G.Le G' ∧ Unlocks I br lk ∧ Ok (I.wb br) B G' σ H env' t ∧ v = .ref a ∧ SAt I br G' src b a ∧ HAt H b a ∧ ∀ j x, I.br j = some x → br j = some x := by
  have plain : ((take env r).bind fun p => match frz p.1 with
      | .list l => some ((true, Src.fx l, ([] : List Nat)), p.2)
      | .tup l => some ((false, Src.fx l, []), p.2)
      | _ => none) = some ((b, src, lk), env') → ∃ G' br a, G.Le G' ∧ Unlocks I br lk ∧ Ok (I.wb br) B G' σ H env' t ∧ v = .ref a ∧ SAt I br G' src b a ∧ HAt H b a ∧ ∀ j x, I.br j = some x → br j = some x := fun e => by
    obtain ⟨G', a, h1, h2, h3, h4, h5, h6⟩ := walk_take P e
    subst h2
    exact ⟨G', I.br, a, h1, Unlocks.nil I, h3, h4, h5, h6, fun _ _ h => h⟩
  cases r with
  | val w => exact plain e
  | elt i k => exact plain e
  | var i =>
    cases hs : slot env i with
    | none => refine plain ?_; unfold walkR at e; dsimp only at e; rw [hs] at e; exact e
    | some s =>
      obtain ⟨b1, w⟩ := s
      have O : Ok I B G σ H env t := P.1
      obtain ⟨v', f, h1, h2, h3, h4⟩ := O.at hs
      have q : σ[i]? = some (some v) := P.2
      rw [h1] at q; cases q
      unfold walkR at e
      dsimp only at e
      rw [hs] at e
      cases w with
      | lst ws =>
        have e : some ((true, Src.lv i, [i]), put env i (.lk (.lst ((frzL ws).map W.d)))) = some ((b, src, lk), env') := e
        cases e
        cases h2 with
        | lst hH rl =>
          rename_i a xs f
          obtain ⟨st, rl', hz⟩ := freeze_items (f := []) O h3 rl
          rw [put_eq hs]
          have O2 := h4 (w' := .lk (.lst ((frzL ws).map W.d))) (f' := [a]) st (.lk (.lst hH (RepWL.of rl'))) (by simp) (own_head h3 hz rfl) (fun z => nomatch z)
          have hs2 : slot (env.set i (some (b1, .lk (.lst ((frzL ws).map W.d))))) i = some (b1, .lk (.lst ((frzL ws).map W.d))) := slot_set (slot_lt hs)
          refine ⟨_, _, a, st.le, fun B1 G1 σ1 H1 env1 t1 O1 => ?_, lock_ok O2 hs2 h1, rfl, fun br' hb' => lv_at (b := b1) (hb' i (List.mem_singleton.mpr rfl) _ (if_pos rfl)), ⟨xs, hH⟩, ext_lock O hs h1⟩
          have L1 := lent_back O1.lent O.lent hs h1
          refine ⟨O1.unwb L1, unlk_ok O1 L1 fun v' b' h => ?_⟩
          obtain ⟨⟨x, z1, z2⟩, _⟩ := O.lent i v' b' h
          rw [hs] at z1; cases z1
          exact z2.elim id fun z => nomatch z
      | lk w0 =>
        cases w0 with
        | lst ws =>
          have e : some ((true, Src.lv i, ([] : List Nat)), env) = some ((b, src, lk), env') := e
          cases e
          cases h2 with
          | lk h2 =>
            cases h2 with
            | lst hH rl =>
              rename_i a xs f
              exact ⟨G, _, a, .refl G, fun B1 G1 σ1 H1 env1 t1 O1 => ⟨O1.unwb (lent_back O1.lent O.lent hs h1), O1.unwb (lent_back O1.lent O.lent hs h1)⟩, lock_ok O hs h1, rfl, fun br' hb' => lv_at (b := b1) (hb' i (List.mem_singleton.mpr rfl) _ (if_pos rfl)), ⟨xs, hH⟩, ext_lock O hs h1⟩
        | _ => exact plain e
      | _ => exact plain e
end Ev
end
section
set_option linter.all false
set_option autoImplicit false
set_option maxRecDepth 100000
/-! Ev16a: enumerate over a tuple. -/
namespace Ev
open PySem PySem.Spec PyProof.Rows
open L2 (V HO Hp upd upd_same upd_ne SqL SqT Rd Key Cx PE PT PW PA PC PK PI PG PGs PS PSs It Itl Itt Itr Ite Itz Ends TE TT TA TI TS TG VK R2 EP Inv RelV Vals Turn ObjOk)

set_option maxHeartbeats 1000000 in
theorem enum_new1 {v : Value} {o : Obj} {H : Heap → Prop} (B : Begins v o H) :
    Meets (Builtin.«enumerate.__new__» ⟨[.type "enumerate", v], []⟩) (fun _ R s => H s.heap ∧
      R (.ok (.ret (.ref (s.heap.push o).objs.size))) { s with heap := (s.heap.push o).push { cls := .type "enumerate", data := .fields #[.none, .bool false, .ref s.heap.objs.size, rawInt 0, .none, .none] } }) :=
  .of_wp fun prog w A R s h => by
    obtain ⟨hp, g, d, tk, os⟩ := s; obtain ⟨h1, h⟩ := h
    have hsub := sub_enumerate
    have q1 : ∀ {A' : Around} {E : Value → Shared → Prop} {Q : Value → Shared → Prop}, Q (.ref hp.objs.size) ⟨hp.push o, g, d, tk, os⟩ → wpAny (model prog w) A' (pyIter v) Q E ⟨hp, g, d, tk, os⟩ :=
      fun q => B.iter prog w _ _ ⟨hp, g, d, tk, os⟩ _ h1 q
    wp_walk using q1
    refine wpAny_stack_any fun st => wpAny_pure ?_
    split
    · rename_i c _ _ _ _ _
      cases (c == Value.type "enumerate")
      · wp_walk using q1
        exact ⟨_, rfl, h⟩
      · wp_walk using q1
        exact ⟨_, rfl, h⟩
    · wp_walk using q1
      exact ⟨_, rfl, h⟩
theorem enum_begins1 {prog : Program} {w : World} {A : Around} {E : Value → Shared → Prop} {s : Shared} {v : Value} {o : Obj} {H : Heap → Prop} {Q : Value → Shared → Prop} (B : Begins v o H) (h1 : H s.heap)
    (h : ∀ h', IsEnum h' (s.heap.objs.size + 1) s.heap.objs.size 0 .none → h'.get? s.heap.objs.size = some o → h'.objs.size = s.heap.objs.size + 2 →
      (∀ b o, s.heap.get? b = some o → h'.get? b = some o) → Q (.ref (s.heap.objs.size + 1)) { s with heap := h' }) :
    wpAny (model prog w) A (call (.type "enumerate") [v]) Q E s := by
  refine callType_new F.called_enumerate (by decide) (F.typeCall_enumerate_1 _) (F.newCall_enumerate_1 _) (fun obj => F.args_object_init_2 obj _) F.entry_enumerate_new
    (enum_new1 B) ⟨h1, ?_⟩
  have hz : (s.heap.push o).objs.size = s.heap.objs.size + 1 := Heap.size_push ..
  show _ ∧ _
  rw [hz]
  have he : IsEnum ((s.heap.push o).push { cls := .type "enumerate", data := .fields #[.none, .bool false, .ref s.heap.objs.size, rawInt 0, .none, .none] }) (s.heap.objs.size + 1) s.heap.objs.size 0 .none := by
    have := Heap.get?_push_size (s.heap.push o) (o := { cls := .type "enumerate", data := .fields #[.none, .bool false, .ref s.heap.objs.size, rawInt 0, .none, .none] }) rfl
    rw [hz] at this; exact this
  refine ⟨⟨_, he, rfl⟩, h _ he (Heap.get?_push_of_some _ (Heap.get?_push_size _ B.free)) (by rw [Heap.size_push, hz]) fun b o x => Heap.get?_push_of_some _ (Heap.get?_push_of_some _ x)⟩
theorem enum_endT {prog : Program} {w : World} {A : Around} {E : Value → Shared → Prop} {s : Shared} {e it l : Addr} {i : Nat} {items : Array Value} {old : Value} {Q : Option Value → Shared → Prop} (hh : A.handled = none)
    (he : IsEnum s.heap e it i old) (hit : s.heap.IsTupleIter it l i) (hl : s.heap.IsTuple l items) (hx : items[i]? = none)
    (hQ : ∀ h', Heap.ExtBut it s.heap h' → Q none { s with heap := h' }) : wpAny (model prog w) A (pyNext (.ref e)) Q E s := by
  have hT : s.TypeIs (.ref e) "enumerate" := ⟨_, he, rfl⟩
  unfold pyNext
  refine wpAny_bind (wpAny_attempt (wpAny_callSpecial?_slot (name := Str.ofString "__next__") hT F.slot_enumerate_next
    (wpAny_call_entry F.slot_enumerate_next hT F.entry_enumerate_next ?_ (F.args_enumerate_next_1 _))))
  show wpAny _ _ (field (.ref e) 2 >>= _) _ _ _
  refine wpAny_bind (wpAny_field he rfl (x := .ref it) rfl ?_)
  refine wpAny_bind (wpAny_nextOf_tuple_end hh hit hl hx fun h' x he' hx' => ?_)
  obtain ⟨o, ho, hc⟩ := hx'
  refine wpAny_bind (wpAny_isInstance (T := "StopIteration") (b := true) ⟨o, ho, hc⟩ isSubtype_stop ?_)
  exact wpAny_pure (hQ _ he')
/-- the tuple at a as it stands at each turn, each item in a new pair -/
def IteT (K : PySem.W.Frag) (a : Addr) : It :=
  ⟨fun i H => ∃ (xs : List V) (x : V), SqT K H a xs ∧ xs[i]? = some x, fun i H v H' => ∃ T x, v = .ref T ∧ H T = none ∧ H' = upd H T (.tup [.int (i : Nat), x]) ∧ ∀ xs, SqT K H a xs → xs[i]? = some x, fun i H => ∃ xs : List V, SqT K H a xs ∧ xs.length ≤ i⟩
theorem turn_enumT {P : Program} {w : World} {K : PySem.W.Frag} {elts : List Expr} {kk : Nat} {tpos : Pos} (a e it : Addr) :
    Turn P w K (.Tuple elts kk tpos) (IteT K a) [e, it] e (fun i h => (∃ old, IsEnum h e it ((i : Nat) : Int) old) ∧ h.IsTupleIter it a i ∧ e ≠ it) where
  mem := by simp
  obj := fun i h st b hb => by
    obtain ⟨⟨old, he⟩, ⟨o, ho, hc, hd⟩, _⟩ := st
    have e' : b = e ∨ b = it := by simpa using hb
    rcases e' with z | z
    · rw [z]; exact ⟨_, he, fun v q => nomatch q⟩
    · rw [z]; exact ⟨o, ho, fun v q => by rw [hd] at q; cases q⟩
  keep := fun i h h' st k => let ⟨⟨old, he⟩, hi, hne⟩ := st; ⟨⟨old, k e (by simp) _ he⟩, hi.at fun o q => k it (by simp) o q, hne⟩
  item := by
    intro X hP hw hK hc i pins s σ H E I hf st hg
    subst hP hw hK
    obtain ⟨⟨old, he⟩, hit, hne⟩ := st
    obtain ⟨xs, x, hq, hx⟩ := hg
    obtain ⟨its, rv, p, hz⟩ := I.tuple hq
    obtain ⟨u, hu, ru⟩ := rv.get hx
    have hel : e < s.heap.objs.size := Heap.lt_size he
    have hil : it < s.heap.objs.size := by obtain ⟨_, q, _⟩ := hit; exact Heap.lt_size q
    have hT0 : s.heap.IsTuple a its.toArray := p
    have hae : a ≠ e := fun z => by
      obtain ⟨o, ho, hc, _⟩ := hT0
      rw [z, he] at ho; cases ho
      have hc' : Value.type "enumerate" = Value.type "tuple" := hc
      injection hc' with hc'
      exact absurd hc' (by decide)
    have hai : a ≠ it := fun z => by
      obtain ⟨o, ho, hc, _⟩ := hT0
      obtain ⟨o2, ho2, hc2, _⟩ := id hit
      rw [z, ho2] at ho; cases ho; rw [hc2] at hc
      injection hc with hc'
      exact absurd hc' (by decide)
    have hD := Draws.tuple (prog := X.prog) (w := X.w) (A := X.A.in1) (I.ok.hd hc) it a hai its.toArray
    have hlt : i < its.toArray.size := by
      rcases Nat.lt_or_ge i its.toArray.size with q | q
      · exact q
      · rw [List.getElem?_eq_none (by simpa using q)] at hu; cases hu
    refine wpAny_pyNext_enum_itemD hD he ⟨hit, hT0⟩ hlt hne (by simp [hne, Ne.symm hae]) fun u' h' tk hP' ho hst' hT hsz hk => ?_
    have hu' : u' = u := by
      have h1 : its.toArray[i]? = some u' := hP'
      have h2 : its.toArray[i]? = some u := by simpa using hu
      rw [h2] at h1; cases h1; rfl
    subst hu'
    obtain ⟨hit', _⟩ := hst'
    refine ⟨_, rfl, wpAny_letOwnedTupleGo_enum (s := { s with heap := h', toks := tk + 1 }) ho fun h'' he' sb => ?_⟩
    have hT2 : h''.get? s.heap.objs.size = some { cls := .type "tuple", data := .seq #[.int i tk, u'] } := (sb.2 _ (Nat.ne_of_gt hel)).trans hT
    have new : ObjOk X.prog X.w (upd H s.heap.objs.size (.tup [.int (i : Nat), x])) h'' s.heap.objs.size (.tup [.int (i : Nat), x]) :=
      ⟨by show 2 ≤ sizeLine; decide, [.int i tk, u'], .cons ⟨_, rfl⟩ (.cons ru .nil), ⟨_, hT2, rfl, _, rfl⟩⟩
    have I1 : Inv X pins σ (upd H s.heap.objs.size (.tup [.int (i : Nat), x])) { s with heap := h'', toks := tk + 1 } :=
      I.turnedNew (ch := [e, it]) (fun b ob hb q => (sb.2 b (fun z => hb (by simp [z]))).trans (hk b ob (fun z => hb (by simp [z])) (fun z => hb (by simp [z])) q)) hf (Nat.le_refl _) new
    refine ⟨.ref s.heap.objs.size, _, I1, rfl, ⟨_, x, rfl, I.hok.fresh (Nat.le_refl _), rfl, fun ys hy => by rw [I.tuple_inj hy hq]; exact hx⟩, ⟨⟨u', ?_⟩, hit'.at fun o q => (sb.2 it (Ne.symm hne)).trans q, hne⟩, fun b hb => ?_⟩
    · have e1 : ((i + 1 : Nat) : Int) = (i : Int) + 1 := by omega
      rw [e1]; exact he'
    · have hb' : b < s.heap.objs.size := by
        have e' : b = e ∨ b = it := by simpa using hb
        rcases e' with z | z
        · rw [z]; exact hel
        · rw [z]; exact hil
      rw [upd_ne (Nat.ne_of_lt hb')]
      exact (hf b hb).1
  done := by
    intro X hP hw hK hc i pins s σ H E I hf st hg
    subst hP hw hK
    obtain ⟨⟨old, he⟩, hit, hne⟩ := st
    obtain ⟨xs, hq, hx⟩ := hg
    obtain ⟨its, rv, p, hz⟩ := I.tuple hq
    have hT0 : s.heap.IsTuple a its.toArray := p
    have hai : a ≠ it := fun z => by
      obtain ⟨o, ho, hc, _⟩ := hT0
      obtain ⟨o2, ho2, hc2, _⟩ := id hit
      rw [z, ho2] at ho; cases ho; rw [hc2] at hc
      injection hc with hc'
      exact absurd hc' (by decide)
    obtain ⟨f0, f1, f2, f3, f4, f5⟩ := hf it (by simp)
    have hl := rv.length
    exact enum_endT (A := X.A) (I.ok.hd hc) he hit hT0 (by simp; omega) fun h' eb => ⟨rfl, I.turned (t' := s.toks) (fun b o hb q => eb b o hb q) f0 f1 f3 f4 f5⟩
  self := fun A i s Q E st h => let ⟨⟨_, he⟩, _⟩ := st; wpAny_pyIter_enum he h
def iEnumT (K : PySem.W.Frag) (ta : TA) : TI := fun σ H R => ta σ H fun vs H1 => ∃ a xs, vs = [.ref a] ∧ SqT K H1 a xs ∧ R (IteT K a) H1
theorem pi_enumT {X : Cx} {e : Expr} {ta : TA} {p pos tpos : Pos} {elts : List Expr} {kk : Nat} (hg : L2.Gl X "enumerate") (hm : X.mg "enumerate" = none) (ha : PA X [e] ta) (hs : starEach [e] X.env = (false, eval e X.env) :: starEach [] X.env) :
    PI X (.Tuple elts kk tpos) (.Call (.Name "enumerate" p) [e] [] pos) (iEnumT X.K ta) := by
  refine ⟨fun pins s σ H R I h => ?_⟩
  refine Call_ (L2.ld_blt I hg hm boot_enumerate (PyProof.Rows.callWith_type1 (L2.thn (ha.run pos pins s σ H _ I h) fun us s1 ⟨vs, H1, I1, r1, q1⟩ => ?_) hs rfl))
  obtain ⟨a, xs, ex, hq, q⟩ := q1
  subst ex
  cases r1 with
  | cons r rr =>
    cases rr
    cases r
    obtain ⟨its, rv, p', hz⟩ := I1.tuple hq
    refine enum_begins1 (begins_tuple a its.toArray) (show s1.heap.IsTuple a its.toArray from p') fun h' he hit hsz hk => wpAny_pyIter_enum he ?_
    have I2 : Inv X pins σ H1 { s1 with heap := h' } := I1.kept (t' := s1.toks) hk
    refine ⟨s1.heap.objs.size + 1, [s1.heap.objs.size + 1, s1.heap.objs.size], _, _, H1, rfl, I2, turn_enumT a (s1.heap.objs.size + 1) s1.heap.objs.size, ⟨⟨.none, he⟩, ⟨_, hit, rfl, rfl⟩, Nat.succ_ne_self _⟩, fun b hb => ?_, q⟩
    have e' : b = s1.heap.objs.size + 1 ∨ b = s1.heap.objs.size := by simpa using hb
    have hle : s1.heap.objs.size ≤ b := by
      rcases e' with z | z
      · rw [z]; exact Nat.le_add_right _ _
      · rw [z]; exact Nat.le_refl _
    exact I1.fpOk hle (I1.hok.fresh hle)
theorem iteT_yields {K : PySem.W.Frag} {I : Inf} {G : Gh} {src : Src} {a : Addr} (h : TAt I G src a) : Yields I G (.en src) (IteT K a) := fun B G1 σ H env t k r l O e => by
  have e' : (match nxt env src k with | some (some x) => some (some (.tup [.int k, x])) | r => r) = some r := e
  cases hn : nxt env src k with
  | none => rw [hn] at e'; cases e'
  | some r0 =>
    rw [hn] at e'
    obtain ⟨xs, hH, q⟩ := h B G1 σ H env t l O k r0 hn
    cases r0 with
    | none => cases e'; exact ⟨xs, SqT.of hH, q⟩
    | some d =>
      cases e'
      obtain ⟨x, hx, rx⟩ := q
      refine ⟨⟨xs, x, SqT.of hH, hx⟩, fun v H' ⟨T, x', e1, e2, e3, e4⟩ => ?_⟩
      subst e1; subst e3
      have e5 := e4 xs (SqT.of hH)
      rw [hx] at e5
      cases e5
      obtain ⟨G2, l2, P⟩ := O.newTup e2 (.cons (.int _) (.cons rx .nil))
      exact ⟨G2, l2, P.1⟩
end Ev
end
section
set_option linter.all false
set_option autoImplicit false
set_option maxRecDepth 100000
/-! Ev17: iterables, statements. -/
namespace Ev
open PySem PySem.Spec PyProof.Rows
open L2 (V HO Hp upd upd_same upd_ne SqL SqT Rd Key Cx PE PT PW PA PC PK PI PG PGs PS PSs It Itl Itt Itr Ite Itz Ends TE TT TA TI TS TG VK R2 EP Inv RelV Vals)
open RZ (ItzT)

def anyI (X : Cx) (tg it : Expr) : TI := fun σ H R => ∃ wi, PI X tg it wi ∧ wi σ H R
theorem any_pi {X : Cx} {tg it : Expr} : PI X tg it (anyI X tg it) := ⟨fun pins s σ H R I ⟨_, h, hw⟩ => h.run pins s σ H R I hw⟩
theorem piImp {X : Cx} {tg it : Expr} {w w' : TI} (h : PI X tg it w) (k : ∀ σ H R, w' σ H R → w σ H R) : PI X tg it w' := ⟨fun pins s σ H R I hw => h.run pins s σ H R I (k _ _ _ hw)⟩
def TIv (I : Inf) (Φ : Fns) (m : E) : TI := fun σ H R => ∃ B G env t b src lk env', Ok I B G σ H env t ∧ (ev Φ m).i env = some ((b, src, lk), env') ∧
  ∀ J H' G' br, G.Le G' → Unlocks I br lk → Ok (I.wb br) B G' σ H' env' t → (∀ br' : Brs, (∀ j ∈ srcVars src, ∀ x, br j = some x → br' j = some x) → Yields (I.wb br') G' src J) → R J H'
theorem itl_yields {K : PySem.W.Frag} {I : Inf} {G : Gh} {src : Src} {a : Addr} (h : LAt I G src a) : Yields I G src (Itl K a) := fun B G1 σ H env t k r l O e => by
  obtain ⟨xs, hH, q⟩ := h B G1 σ H env t l O k r e
  cases r with
  | none => exact ⟨xs, SqL.of hH, q⟩
  | some d =>
    obtain ⟨x, hx, rx⟩ := q
    refine ⟨⟨xs, x, SqL.of hH, hx⟩, fun x' H' ⟨e1, e2⟩ => ?_⟩
    subst e1
    have e3 := e2 xs (SqL.of hH)
    rw [hx] at e3
    cases e3
    exact ⟨G1, .refl G1, O.push rx⟩
theorem itt_yields {K : PySem.W.Frag} {I : Inf} {G : Gh} {src : Src} {a : Addr} (h : TAt I G src a) : Yields I G src (Itt K a) := fun B G1 σ H env t k r l O e => by
  obtain ⟨xs, hH, q⟩ := h B G1 σ H env t l O k r e
  cases r with
  | none => exact ⟨xs, SqT.of hH, q⟩
  | some d =>
    obtain ⟨x, hx, rx⟩ := q
    refine ⟨⟨xs, x, SqT.of hH, hx⟩, fun x' H' ⟨e1, e2⟩ => ?_⟩
    subst e1
    have e3 := e2 xs (SqT.of hH)
    rw [hx] at e3
    cases e3
    exact ⟨G1, .refl G1, O.push rx⟩
theorem itr_yields {I : Inf} {G : Gh} {lo : Int} {n : Nat} : Yields I G (.fx (rngL lo n)) (Itr lo n) := fun B G1 σ H env t k r l O e => by
  have e' : some (rngL lo n)[k]? = some r := e
  cases e'
  unfold rngL
  rw [List.getElem?_map]
  by_cases hk : k < n
  · rw [List.getElem?_range hk]
    refine ⟨hk, fun x H' ⟨e1, e2⟩ => ?_⟩
    subst e1; subst e2
    exact ⟨G1, .refl G1, O.push (.int _)⟩
  · rw [List.getElem?_eq_none (by simpa using hk)]
    exact Nat.le_of_not_lt hk
theorem ite_yields {K : PySem.W.Frag} {I : Inf} {G : Gh} {src : Src} {a : Addr} (h : LAt I G src a) : Yields I G (.en src) (Ite K a) := fun B G1 σ H env t k r l O e => by
  have e' : (match nxt env src k with | some (some x) => some (some (.tup [.int k, x])) | r => r) = some r := e
  cases hn : nxt env src k with
  | none => rw [hn] at e'; cases e'
  | some r0 =>
    rw [hn] at e'
    obtain ⟨xs, hH, q⟩ := h B G1 σ H env t l O k r0 hn
    cases r0 with
    | none => cases e'; exact ⟨xs, SqL.of hH, q⟩
    | some d =>
      cases e'
      obtain ⟨x, hx, rx⟩ := q
      refine ⟨⟨xs, x, SqL.of hH, hx⟩, fun v H' ⟨T, x', e1, e2, e3, e4⟩ => ?_⟩
      subst e1; subst e3
      have e5 := e4 xs (SqL.of hH)
      rw [hx] at e5
      cases e5
      obtain ⟨G2, l2, P⟩ := O.newTup e2 (.cons (.int _) (.cons rx .nil))
      exact ⟨G2, l2, P.1⟩
theorem zp_cases {env : Env} {s t : Src} {k : Nat} {r : Option D} (e : nxt env (.zp s t) k = some r) : ∃ r1 r2, nxt env s k = some r1 ∧ nxt env t k = some r2 ∧ ((∃ x y, r1 = some x ∧ r2 = some y ∧ r = some (.tup [x, y])) ∨ ((r1 = none ∨ r2 = none) ∧ r = none)) := by
  have e' : (match nxt env s k, nxt env t k with
    | some (some x), some (some y) => some (some (D.tup [x, y]))
    | some none, some _ => some none
    | some (some _), some none => some none
    | _, _ => none) = some r := e
  cases h1 : nxt env s k with
  | none => rw [h1] at e'; cases e'
  | some r1 =>
    cases h2 : nxt env t k with
    | none =>
      rw [h1, h2] at e'
      cases r1 <;> cases e'
    | some r2 =>
      rw [h1, h2] at e'
      refine ⟨r1, r2, rfl, rfl, ?_⟩
      cases r1 with
      | none => cases e'; exact .inr ⟨.inl rfl, rfl⟩
      | some x =>
        cases r2 with
        | none => cases e'; exact .inr ⟨.inr rfl, rfl⟩
        | some y => cases e'; exact .inl ⟨x, y, rfl, rfl, rfl⟩
theorem itz_yields {K : PySem.W.Frag} {I : Inf} {G : Gh} {s1 s2 : Src} {a b : Addr} (h : LAt I G s1 a) (h' : LAt I G s2 b) : Yields I G (.zp s1 s2) (Itz K a b) := fun B G1 σ H env t k r l O e => by
  obtain ⟨r1, r2, n1, n2, hc⟩ := zp_cases e
  obtain ⟨xs, hH, q⟩ := h B G1 σ H env t l O k r1 n1
  obtain ⟨ys, hH', q'⟩ := h' B G1 σ H env t l O k r2 n2
  rcases hc with ⟨x, y, rfl, rfl, rfl⟩ | ⟨hc, rfl⟩
  · obtain ⟨u, hu, ru⟩ := q
    obtain ⟨v, hv, rv⟩ := q'
    refine ⟨⟨xs, ys, u, v, SqL.of hH, SqL.of hH', hu, hv⟩, fun z H' ⟨T, u', v', e1, e2, e3, e4, e5⟩ => ?_⟩
    subst e1; subst e3
    have e6 := e4 xs (SqL.of hH)
    have e7 := e5 ys (SqL.of hH')
    rw [hu] at e6; rw [hv] at e7
    cases e6; cases e7
    obtain ⟨G2, l2, P⟩ := O.newTup e2 (.cons ru (.cons rv .nil))
    exact ⟨G2, l2, P.1⟩
  · refine ⟨xs, ys, SqL.of hH, SqL.of hH', ?_⟩
    rcases hc with rfl | rfl
    · exact .inl q
    · exact .inr q'
theorem itzT_yields {K : PySem.W.Frag} {I : Inf} {G : Gh} {s1 s2 : Src} {a b : Addr} (h : TAt I G s1 a) (h' : TAt I G s2 b) : Yields I G (.zp s1 s2) (ItzT K a b) := fun B G1 σ H env t k r l O e => by
  obtain ⟨r1, r2, n1, n2, hc⟩ := zp_cases e
  obtain ⟨xs, hH, q⟩ := h B G1 σ H env t l O k r1 n1
  obtain ⟨ys, hH', q'⟩ := h' B G1 σ H env t l O k r2 n2
  rcases hc with ⟨x, y, rfl, rfl, rfl⟩ | ⟨hc, rfl⟩
  · obtain ⟨u, hu, ru⟩ := q
    obtain ⟨v, hv, rv⟩ := q'
    refine ⟨⟨xs, ys, u, v, SqT.of hH, SqT.of hH', hu, hv⟩, fun z H' ⟨T, u', v', e1, e2, e3, e4, e5⟩ => ?_⟩
    subst e1; subst e3
    have e6 := e4 xs (SqT.of hH)
    have e7 := e5 ys (SqT.of hH')
    rw [hu] at e6; rw [hv] at e7
    cases e6; cases e7
    obtain ⟨G2, l2, P⟩ := O.newTup e2 (.cons ru (.cons rv .nil))
    exact ⟨G2, l2, P.1⟩
  · refine ⟨xs, ys, SqT.of hH, SqT.of hH', ?_⟩
    rcases hc with rfl | rfl
    · exact .inl q
    · exact .inr q'
section
variable {X : Cx} {I : Inf} {Φ : Fns} {a b tg : Expr} {ma mb : E} {pos p tpos : Pos} {elts : List Expr} {kk : Nat}
theorem si_of (ha : PE X a (TEv I Φ ma)) : PI X tg a (TIv I Φ (.iof ma)) := piImp any_pi fun σ H R ⟨B, G, env, t, b, src, lk, env', O, e, k⟩ => by
  obtain ⟨p, h1, h2⟩ := bindSome e
  cases b with
  | true =>
    refine ⟨_, L2.pi_list ha, B, G, env, t, p.1, p.2, O, h1, fun v H1 G1 l P => ?_⟩
    obtain ⟨G2, br, a, l2, U, O2, rfl, hL, hH, _⟩ := walk_run P h2
    obtain ⟨xs, hx⟩ := (hH : ∃ xs, H1 a = some (.lst xs))
    exact ⟨a, rfl, ⟨xs, SqL.of hx⟩, k _ _ _ _ (l.trans l2) U O2 fun br' h' => itl_yields (hL br' h')⟩
  | false =>
    refine ⟨_, L2.pi_tup ha, B, G, env, t, p.1, p.2, O, h1, fun v H1 G1 l P => ?_⟩
    obtain ⟨G2, br, a, l2, U, O2, rfl, hL, hH, _⟩ := walk_run P h2
    obtain ⟨xs, hx⟩ := (hH : ∃ xs, H1 a = some (.tup xs))
    exact ⟨a, rfl, ⟨xs, SqT.of hx⟩, k _ _ _ _ (l.trans l2) U O2 fun br' h' => itt_yields (hL br' h')⟩
theorem rng_ok {i : Int} (h : rngOk i = true) : -(2 ^ 62) ≤ i ∧ i < 2 ^ 62 := by
  unfold rngOk at h
  simp only [Bool.and_eq_true, decide_eq_true_eq] at h
  exact h
theorem si_rng1 (hg : L2.Gl X "range") (hm : X.mg "range" = none) (ha : PE X a (TEv I Φ ma)) (hs : starEach [a] X.env = (false, eval a X.env) :: starEach [] X.env) : PI X tg (.Call (.Name "range" p) [a] [] pos) (TIv I Φ (.irng1 ma)) :=
  piImp (L2.pi_range1 hg hm (L2.pa_cons ha L2.pa_nil hs) hs) fun σ H R ⟨B, G, env, t, b, src, lk, env', O, e, k⟩ => by
    obtain ⟨p, h1, e⟩ := bindSome e
    refine ⟨B, G, env, t, p.1, p.2, O, h1, fun v H1 G1 l P => ?_⟩
    split at e
    · rename_i j hj
      split at e
      · rename_i hr
        cases e
        have vx := P.view hj
        cases vx
        exact ⟨j, rfl, (rng_ok hr).1, (rng_ok hr).2, k _ _ _ I.br l (Unlocks.nil I) P.ok fun _ _ => itr_yields⟩
      · cases e
    · cases e
theorem si_rng2 (hg : L2.Gl X "range") (hm : X.mg "range" = none) (ha : PE X a (TEv I Φ ma)) (hb : PE X b (TEv I Φ mb)) (hs : starEach [a, b] X.env = [(false, eval a X.env), (false, eval b X.env)]) (hs2 : starEach [b] X.env = [(false, eval b X.env)])
    (hs3 : starEach [a, b] X.env = (false, eval a X.env) :: starEach [b] X.env) (hs4 : starEach [b] X.env = (false, eval b X.env) :: starEach [] X.env) : PI X tg (.Call (.Name "range" p) [a, b] [] pos) (TIv I Φ (.irng2 ma mb)) :=
  piImp (L2.pi_range2 hg hm (L2.pa_cons ha (L2.pa_cons hb L2.pa_nil hs4) hs3) hs hs2) fun σ H R ⟨B, G, env, t, b, src, lk, env', O, e, k⟩ => by
    obtain ⟨p, h1, e⟩ := bindSome e
    obtain ⟨p', h2, e⟩ := bindSome e
    obtain ⟨q, h3, e⟩ := bindSome e
    refine two_run O h1 h2 h3 fun x y H1 G1 l T => ?_
    split at e
    · rename_i i j hi hj
      split at e
      · rename_i hr
        cases e
        rw [Bool.and_eq_true] at hr
        have vx := T.vx hi
        have vy := T.vy hj
        cases vx
        cases vy
        exact ⟨i, j, rfl, ⟨(rng_ok hr.1).1, (rng_ok hr.1).2, (rng_ok hr.2).1, (rng_ok hr.2).2⟩, k _ _ _ I.br l (Unlocks.nil I) T.base fun _ _ => itr_yields⟩
      · cases e
    · cases e
theorem si_enum (hg : L2.Gl X "enumerate") (hm : X.mg "enumerate" = none) (ha : PE X a (TEv I Φ ma)) (hs : starEach [a] X.env = (false, eval a X.env) :: starEach [] X.env) : PI X (.Tuple elts kk tpos) (.Call (.Name "enumerate" p) [a] [] pos) (TIv I Φ (.ienum ma)) :=
  piImp any_pi fun σ H R ⟨B, G, env, t, b, src, lk, env', O, e, k⟩ => by
    obtain ⟨p, h1, e⟩ := bindSome e
    obtain ⟨q, h2, e⟩ := mapSome e
    obtain ⟨⟨qb, qs, ql⟩, qe⟩ := q
    cases e
    cases qb with
    | true =>
      refine ⟨_, L2.pi_enum hg hm (L2.pa_cons ha L2.pa_nil hs) hs, B, G, env, t, p.1, p.2, O, h1, fun v H1 G1 l P => ?_⟩
      obtain ⟨G2, br, a, l2, U, O2, rfl, hL, hH, _⟩ := walk_run P h2
      obtain ⟨xs, hx⟩ := (hH : ∃ xs, H1 a = some (.lst xs))
      exact ⟨a, xs, rfl, SqL.of hx, k _ _ _ _ (l.trans l2) U O2 fun br' h' => ite_yields (hL br' h')⟩
    | false =>
      refine ⟨_, pi_enumT hg hm (L2.pa_cons ha L2.pa_nil hs) hs, B, G, env, t, p.1, p.2, O, h1, fun v H1 G1 l P => ?_⟩
      obtain ⟨G2, br, a, l2, U, O2, rfl, hL, hH, _⟩ := walk_run P h2
      obtain ⟨xs, hx⟩ := (hH : ∃ xs, H1 a = some (.tup xs))
      exact ⟨a, xs, rfl, SqT.of hx, k _ _ _ _ (l.trans l2) U O2 fun br' h' => iteT_yields (hL br' h')⟩
theorem unlock_app {env : Env} : ∀ {l1 l2 : List Nat}, unlock env (l1 ++ l2) = unlock (unlock env l1) l2
  | [], l2 => by cases l2 <;> rfl
  | i :: l1, l2 => by
    show unlock (unlock1 env i) (l1 ++ l2) = unlock (unlock (unlock1 env i) l1) l2
    exact unlock_app
theorem si_zip (hg : L2.Gl X "zip") (hm : X.mg "zip" = none) (ha : PE X a (TEv I Φ ma)) (hb : ∀ br, PE X b (TEv (I.wb br) Φ mb)) (hs : starEach [a, b] X.env = (false, eval a X.env) :: starEach [b] X.env) (hs4 : starEach [b] X.env = (false, eval b X.env) :: starEach [] X.env)
    (hpl : (backTo pos (starEach [b] X.env)).any (·.1) = false) : PI X (.Tuple elts kk tpos) (.Call (.Name "zip" p) [a, b] [] pos) (TIv I Φ (.izip ma mb)) := by
  have hb' : PE X b (fun σ H Q => ∃ br, TEv (I.wb br) Φ mb σ H Q) := ⟨fun pins s σ H Q J ⟨br, h⟩ => (hb br).run pins s σ H Q J h⟩
  refine piImp (RZ.pi_zipA hg hm (L2.pa_cons ha (L2.pa_cons hb' L2.pa_nil hs4) hs) hs hpl) fun σ H R ⟨B, G, env, t, b, src, lk, env', O, e, k⟩ => ?_
  obtain ⟨p, h1, e⟩ := bindSome e
  obtain ⟨⟨⟨pb, ps, pl⟩, pe⟩, h2, e⟩ := bindSome e
  obtain ⟨q, h3, e⟩ := bindSome e
  obtain ⟨⟨⟨qb, qs, ql⟩, qe⟩, h4, e⟩ := bindSome e
  have e : (if pb = qb ∧ (nxt qe ps 0).isSome = true then some ((false, Src.zp ps qs, ql ++ pl), qe) else none) = some ((b, src, lk), env') := e
  split at e
  · rename_i hc
    cases e
    obtain ⟨hpq, hn⟩ := hc
    subst hpq
    obtain ⟨r0, hn⟩ := Option.isSome_iff_exists.mp hn
    refine ⟨B, G, env, t, p.1, p.2, O, h1, fun x H1 G1 l P => ?_⟩
    obtain ⟨G2, br, a1, l2, U, O2, rfl, hL, _, _⟩ := walk_run P h2
    refine ⟨br, B, G2, pe, t, q.1, q.2, O2, h3, fun y H2 G3 l3 P3 => ?_⟩
    obtain ⟨G4, br2, a2, l4, U2, O4, rfl, hL2, hH2, ex⟩ := walk_run P3 h4
    have lall := ((l.trans l2).trans l3).trans l4
    have UU : Unlocks I br2 (ql ++ pl) := fun B' G' σ' H' env' t' O' => by
      obtain ⟨z1, z2⟩ := U2 B' G' σ' H' env' t' O'
      refine ⟨(U _ _ _ _ _ _ z1).1, ?_⟩
      rw [unlock_app]
      exact (U _ _ _ _ _ _ z2).2
    refine ⟨a1, a2, ?_⟩
    cases pb with
    | true =>
      have hL' : ∀ br', (∀ j ∈ srcVars ps, ∀ x, br2 j = some x → br' j = some x) → LAt (I.wb br') G4 ps a1 := fun br' h' => LAt.mono (hL br' fun j hj x e => h' j hj x (ex j x e)) (l3.trans l4)
      obtain ⟨ys, hy⟩ := (hH2 : ∃ xs, H2 a2 = some (.lst xs))
      obtain ⟨xs, hx, _⟩ := hL' br2 (fun _ _ _ h => h) B G4 σ H2 env' t (.refl _) O4 0 r0 hn
      exact ⟨xs, ys, rfl, .inl ⟨SqL.of hx, SqL.of hy, k _ _ _ br2 lall UU O4 fun br' h' => itz_yields (hL' br' fun j hj => h' j (List.mem_append_left _ hj)) (hL2 br' fun j hj => h' j (List.mem_append_right _ hj))⟩⟩
    | false =>
      have hL' : ∀ br', (∀ j ∈ srcVars ps, ∀ x, br2 j = some x → br' j = some x) → TAt (I.wb br') G4 ps a1 := fun br' h' => TAt.mono (hL br' fun j hj x e => h' j hj x (ex j x e)) (l3.trans l4)
      obtain ⟨ys, hy⟩ := (hH2 : ∃ xs, H2 a2 = some (.tup xs))
      obtain ⟨xs, hx, _⟩ := hL' br2 (fun _ _ _ h => h) B G4 σ H2 env' t (.refl _) O4 0 r0 hn
      exact ⟨xs, ys, rfl, .inr ⟨SqT.of hx, SqT.of hy, k _ _ _ br2 lall UU O4 fun br' h' => itzT_yields (hL' br' fun j hj => h' j (List.mem_append_left _ hj)) (hL2 br' fun j hj => h' j (List.mem_append_right _ hj))⟩⟩
  · cases e
end
end Ev
end
section
set_option linter.all false
set_option autoImplicit false
set_option maxRecDepth 100000
/-! Ev18: statements. -/
namespace Ev
open PySem PySem.Spec PyProof.Rows
open L2 (V HO Hp upd upd_same upd_ne SqL SqT Rd Key Cx PE PT PW PA PC PK PI PG PGs PS PSs It Ends TE TT TA TI TS TG VK EP Inv RelV Vals)

def FlK (D : Ends) (I : Inf) (B : Hp) (G : Gh) (t : List Rt) : Fl → Prop
  | .nx e => ∀ σ' H' G', G.Le G' → Ok I B G' σ' H' e t → D.nx σ' H'
  | .bk e => ∀ σ' H' G', G.Le G' → Ok I B G' σ' H' e t → D.bk σ' H'
  | .ct e => ∀ σ' H' G', G.Le G' → Ok I B G' σ' H' e t → D.ct σ' H'
  | .rt w e => ∀ v σ' H' G', G.Le G' → Ok I B G' σ' H' e ((v, w) :: t) → D.rt v H'
theorem FlK.mono {D : Ends} {I : Inf} {B : Hp} {G G1 : Gh} {t : List Rt} {f : Fl} (k : FlK D I B G t f) (l : G.Le G1) : FlK D I B G1 t f := by
  cases f with
  | nx e => exact fun σ' H' G' l' O => k σ' H' G' (l.trans l') O
  | bk e => exact fun σ' H' G' l' O => k σ' H' G' (l.trans l') O
  | ct e => exact fun σ' H' G' l' O => k σ' H' G' (l.trans l') O
  | rt w e => exact fun v σ' H' G' l' O => k v σ' H' G' (l.trans l') O
def TSv (I : Inf) (Φ : Fns) (m : E) : TS := fun D σ H => ∃ B G env t f, Ok I B G σ H env t ∧ evS Φ whO m env = some f ∧ FlK D I B G t f
theorem psImp {X : Cx} {st : Stmt} {t t' : TS} (h : PS X st t) (k : ∀ D σ H, t' D σ H → t D σ H) : PS X st t' := ⟨fun pins s σ H D I hw => h.run pins s σ H D I (k _ _ _ hw)⟩
theorem pssImp {X : Cx} {st : List Stmt} {t t' : TS} (h : PSs X st t) (k : ∀ D σ H, t' D σ H → t D σ H) : PSs X st t' := ⟨fun pins s σ H D I hw => h.run pins s σ H D I (k _ _ _ hw)⟩
section
variable {X : Cx} {I : Inf} {Φ : Fns} {e c : Expr} {st : Stmt} {rest sa sb : List Stmt} {ma mb mc me mt : E} {pos : Pos}
theorem ss_nil : PSs X [] (TSv I Φ .skip) := pssImp L2.pss_nil fun D σ H ⟨B, G, env, t, f, O, e, k⟩ => by
  cases (show some (Fl.nx env) = some f from e)
  exact k σ H G (.refl G) O
theorem ss_pass : PS X (.Pass pos) (TSv I Φ .skip) := psImp L2.ps_pass fun D σ H ⟨B, G, env, t, f, O, e, k⟩ => by
  cases (show some (Fl.nx env) = some f from e)
  exact k σ H G (.refl G) O
theorem ss_doc {x : Str} {j : Nat} {pos' : Pos} : PS X (.Expr (.Constant (.str x) j pos) pos') (TSv I Φ .skip) := psImp L2.ps_doc fun D σ H ⟨B, G, env, t, f, O, e, k⟩ => by
  cases (show some (Fl.nx env) = some f from e)
  exact k σ H G (.refl G) O
theorem ss_brk : PS X (.Break pos) (TSv I Φ .brk) := psImp L2.ps_break fun D σ H ⟨B, G, env, t, f, O, e, k⟩ => by
  cases (show some (Fl.bk env) = some f from e)
  exact k σ H G (.refl G) O
theorem ss_cont : PS X (.Continue pos) (TSv I Φ .cont) := psImp L2.ps_continue fun D σ H ⟨B, G, env, t, f, O, e, k⟩ => by
  cases (show some (Fl.ct env) = some f from e)
  exact k σ H G (.refl G) O
theorem ss_never : PS X st (TSv I Φ .never) := psImp L2.ps_never fun D σ H ⟨B, G, env, t, f, O, e, k⟩ => nomatch (show (none : Option Fl) = some f from e)
theorem seq_run {t1 : TS} {D : Ends} {σ : L2.St} {H : Hp} (h : TSv I Φ (.seq ma mb) D σ H) (k1 : ∀ D σ H, TSv I Φ ma D σ H → t1 D σ H) : t1 { D with nx := TSv I Φ mb D } σ H := by
  obtain ⟨B, G, env, t, f, O, e, k⟩ := h
  obtain ⟨f1, h1, e⟩ := bindSome e
  refine k1 _ _ _ ⟨B, G, env, t, f1, O, h1, ?_⟩
  cases f1 with
  | nx e1 => exact fun σ' H' G' l O' => ⟨B, G', e1, t, f, O', e, k.mono l⟩
  | bk e1 => cases e; exact k
  | ct e1 => cases e; exact k
  | rt w e1 => cases e; exact k
theorem ss_cons (h1 : PS X st (TSv I Φ ma)) (h2 : PSs X rest (TSv I Φ mb)) : PSs X (st :: rest) (TSv I Φ (.seq ma mb)) := pssImp (L2.pss_cons h1 h2) fun D σ H h => seq_run h fun _ _ _ h => h
/-- behind a return, a raise, ..: nothing is looked at -/
theorem ss_cut (h1 : PS X st (TSv I Φ ma)) : PSs X (st :: rest) (TSv I Φ (.seq ma .never)) := pssImp (L2.pss_cons h1 (L2.pss_never)) fun D σ H h => by
  obtain ⟨B, G, env, t, f, O, e, k⟩ := h
  obtain ⟨f1, h1, e⟩ := bindSome e
  refine ⟨B, G, env, t, f1, O, h1, ?_⟩
  cases f1 with
  | nx e1 => cases (show (none : Option Fl) = some f from e)
  | bk e1 => cases e; exact k
  | ct e1 => cases e; exact k
  | rt w e1 => cases e; exact k
theorem ss_ex (he : PE X e (TEv I Φ me)) (hs : swapsWith e none pos.line X.env = pure false) : PS X (.Expr e pos) (TSv I Φ (.ex me)) := psImp (L2.ps_expr he hs) fun D σ H ⟨B, G, env, t, f, O, e, k⟩ => by
  obtain ⟨p, h1, e⟩ := mapSome e
  cases e
  exact ⟨B, G, env, t, p.1, p.2, O, h1, fun v H1 G1 l P => k σ H1 G1 l P.ok⟩
theorem Ok.move {B : Hp} {G : Gh} {σ : L2.St} {H : Hp} {env : Env} {t : List Rt} (O : Ok I B G σ H env t) {i : Nat} {v : V} {w : W} (hs : slot env i = some (false, w)) (hw : isLk w = false) (hv : σ[i]? = some (some v)) : Ok I B G σ H (env.set i none) ((v, w) :: t) := by
  obtain ⟨R, fp, s, r, o⟩ := O.tr
  obtain ⟨v', R1, q1, q2, q3⟩ := s.out hs
  rw [hv] at q1; cases q1
  obtain ⟨fp', r', pf⟩ := RepWP.perm ((q3.append_left t).trans List.perm_middle) r
  refine ⟨O.fz, O.ca, O.cl, O.fn, O.sc, O.bp, O.bz, fun j v' b h => ?_, R1, fp', q2, r', o.perm pf⟩
  obtain ⟨⟨x, z1, z2⟩, z3⟩ := O.lent j v' b h
  refine ⟨⟨x, ?_, z2⟩, z3⟩
  by_cases hj : i = j
  · subst hj
    rw [hs] at z1; cases z1
    rcases z2 with z2 | z2
    · cases z2
    · rw [hw] at z2; cases z2
  · rw [slot_set_ne hj]; exact z1
theorem ss_ret (he : PE X e (TEv I Φ me)) : PS X (.Return (some e) pos) (TSv I Φ (.ret me)) := psImp (L2.ps_ret he) fun D σ H ⟨B, G, env, t, f, O, e, k⟩ => by
  obtain ⟨p, h1, e⟩ := bindSome e
  refine ⟨B, G, env, t, p.1, p.2, O, h1, fun v H1 G1 l P => ?_⟩
  have tk : (Ev.take p.2 p.1).map (fun q => Fl.rt q.1 q.2) = some f → D.rt v H1 := fun e => by
    obtain ⟨q, h2, e⟩ := mapSome e
    cases e
    obtain ⟨G2, l2, O2⟩ := P.take h2
    exact k v σ H1 G2 (l.trans l2) O2
  split at e
  · rename_i i hi
    split at e
    · rename_i w hs
      split at e
      · cases e
      · rename_i hw
        cases e
        rw [hi] at P
        exact k v σ H1 G1 l (Ok.move P.1 hs (by simpa using hw) P.2)
    · exact tk e
  · exact tk e
theorem ss_retN : PS X (.Return none pos) (TSv I Φ .retN) := psImp L2.ps_retN fun D σ H ⟨B, G, env, t, f, O, e, k⟩ => by
  cases (show some (Fl.rt (.d .none) env) = some f from e)
  exact k .non σ H G (.refl G) (O.push .none)
theorem ss_if (hc : PT X c (TTv I Φ mc)) (ha : PSs X sa (TSv I Φ ma)) (hb : PSs X sb (TSv I Φ mb)) : PS X (.If c sa sb pos) (TSv I Φ (.if_ mc ma mb)) := psImp (L2.ps_if hc ha hb) fun D σ H ⟨B, G, env, t, f, O, e, k⟩ => by
  obtain ⟨p, h1, e⟩ := bindSome e
  refine ⟨B, G, env, t, p.1, p.2, O, h1, fun H1 G1 l O1 => ?_⟩
  split at e
  · rename_i hp
    rw [if_pos hp]
    exact ⟨B, G1, p.2, t, f, O1, e, k.mono l⟩
  · rename_i hp
    rw [if_neg hp]
    exact ⟨B, G1, p.2, t, f, O1, e, k.mono l⟩
/-! ### stores -/
theorem asg_run {D : Ends} {σ : L2.St} {H : Hp} (h : TSv I Φ (.asg mt me) D σ H) : TEv I Φ me σ H fun x H1 => TGv I Φ mt x σ H1 D.nx := by
  obtain ⟨B, G, env, t, f, O, e, k⟩ := h
  obtain ⟨p, h1, e⟩ := bindSome e
  obtain ⟨q, h2, e⟩ := bindSome e
  obtain ⟨env2, h3, e⟩ := mapSome e
  cases e
  refine ⟨B, G, env, t, p.1, p.2, O, h1, fun v H1 G1 l P => ?_⟩
  obtain ⟨G2, l2, O2⟩ := P.take h2
  exact ⟨B, G2, q.2, t, q.1, env2, O2, h3, fun σ' H' G' l' _ O' => k σ' H' G' ((l.trans l2).trans l') O'⟩
theorem tev_mono {σ : L2.St} {H : Hp} {Q Q' : VK} (h : TEv I Φ me σ H Q) (k : ∀ v H', Q v H' → Q' v H') : TEv I Φ me σ H Q' := by
  obtain ⟨B, G, env, t, r, env', O, e, q⟩ := h
  exact ⟨B, G, env, t, r, env', O, e, fun v H' G' l P => k v H' (q v H' G' l P)⟩
theorem name_run {i : Nat} {v : V} {σ : L2.St} {H : Hp} {Q : L2.St → Hp → Prop} (h : TGv I Φ (.tname i) v σ H Q) : Q (σ.set i (some v)) H := by
  obtain ⟨B, G, env, t, w, env', O, e, k⟩ := h
  have e' : setN i w env = some env' := e
  unfold setN at e'
  split at e'
  · cases e'
  · cases e'
  · rename_i n1 n2
    split at e'
    · rename_i hl
      cases e'
      exact k _ _ G (.refl G) (Keep.set ..) (O.store hl n1 n2)
    · cases e'
theorem ss_asg {tg : Expr} (he : PE X e (TEv I Φ me)) (hg : PG X tg (TGv I Φ mt)) (hs : swapsWithSole [tg] e pos.line X.env = pure false) (hw : swappedStores [tg] e X.env = pure none) (h1 : (assignEach [tg] X.env).map (·.2) = [assign tg X.env]) :
    PS X (.Assign [tg] e pos) (TSv I Φ (.asg mt me)) := psImp (L2.ps_asg he hg hs hw h1) fun D σ H h => asg_run h
theorem ss_set {i : Nat} {x : Str} {pos' : Pos} (hN : X.N.Nodup) (hi : X.N[i]? = some x) (hx : L2.Loc X.env.scope x) (he : PE X e (TEv I Φ me)) (hs : swapsWith e (some (.Name x pos')) pos.line X.env = pure false) (hf : X.fn x = true ∨ X.env.scope.names.lookup x = some .local) :
    PS X (.Assign [.Name x pos'] e pos) (TSv I Φ (.asg (.tname i) me)) := psImp (L2.ps_set hN hi hx he hs hf) fun D σ H h => tev_mono (asg_run h) fun v H' h => name_run h
theorem zip2 {vs : List V} {w1 w2 : W} (h : vs.length = 2) : ∃ v1 v2, vs = [v1, v2] := match vs, h with
  | [v1, v2], _ => ⟨v1, v2, rfl⟩
theorem ss_par {i j : Nat} {x y : Str} {a b : Expr} {px py pt : Pos} {kt k2 : Nat} {pt2 : Pos} (hc : X.calm = true) (hN : X.N.Nodup) (hi : X.N[i]? = some x) (hj : X.N[j]? = some y) (hij : i ≠ j)
    (hx : X.env.scope.names.lookup x = some .local) (hy : X.env.scope.names.lookup y = some .local) (ha : PA X [a, b] (TKv I Φ me))
    (hw : swappedStores [.Tuple [.Name x px, .Name y py] kt pt] (.Tuple [a, b] k2 pt2) X.env = pure (some [x, y]))
    (hs : swapsWithSole [.Tuple [.Name x px, .Name y py] kt pt] (.Tuple [a, b] k2 pt2) pos.line X.env = pure false) :
    PS X (.Assign [.Tuple [.Name x px, .Name y py] kt pt] (.Tuple [a, b] k2 pt2) pos) (TSv I Φ (.par [i, j] me)) := psImp (L2.ps_par hc hN hi hj hij hx hy ha hw hs) fun D σ H ⟨B, G, env, t, f, O, e, k⟩ => by
  obtain ⟨p, h1, e⟩ := bindSome e
  refine ⟨B, G, env, t, p.1, p.2, O, h1, fun vs H1 G1 l hl O1 => ?_⟩
  split at e
  · obtain ⟨env2, h2, e⟩ := mapSome e
    cases e
    match hp : p.1, h2, hl, O1 with
    | [w1, w2], h2, hl, O1 =>
      match vs, hl, O1 with
      | [v1, v2], _, O1 =>
        refine ⟨v1, v2, rfl, ?_⟩
        obtain ⟨e1, g1, g2⟩ := bindSome h2
        obtain ⟨e0, g0, g1⟩ := bindSome g1
        cases (show some p.2 = some e0 from g0)
        have O2 : Ok I B G1 σ H1 p.2 ((v2, w2) :: (v1, w1) :: t) := O1.perm (.swap ..)
        rw [List.set_comm _ _ hij]
        have s2 : TGv I Φ (.tname j) v2 σ H1 fun σ' H' => TGv I Φ (.tname i) v1 σ' H' D.nx := ⟨B, G1, p.2, _, w2, e1, O2, g1, fun σ' H' G' l' _ O' => ⟨B, G', e1, t, w1, env2, O', g2, fun σ2 H2 G2 l2 _ O2 => k σ2 H2 G2 ((l.trans l').trans l2) O2⟩⟩
        exact name_run (name_run s2)
    | [], h2, _, _ => cases h2
    | [_], h2, _, _ => obtain ⟨_, g1, _⟩ := bindSome h2; cases g1
    | _ :: _ :: _ :: _, h2, _, _ =>
      obtain ⟨_, g1, _⟩ := bindSome h2
      obtain ⟨_, g1, _⟩ := bindSome g1
      cases g1
  · cases e
/-! ### while -/
theorem whO_some {c : Env → Option (Bool × Env)} {b : Env → Option Fl} {env : Env} {f : Fl} (h : whO c b env = some f) : ∃ n, whN c b n env = some f := by
  unfold whO at h
  split at h
  · exact ⟨_, h⟩
  · cases h
theorem ss_while (hxe : X.xe = fun _ _ => False) (hc : PT X c (TTv I Φ mc)) (hb : PSs X sb (TSv I Φ mb)) : PS X (.While c sb [] pos) (TSv I Φ (.while_ mc mb)) := psImp (L2.ps_while (by rw [hxe]; exact PassesOwn.never) hc hb) fun D σ H ⟨B, G, env, t, f, O, e, k⟩ => by
  obtain ⟨n, hn⟩ := whO_some (show whO (fun e => evT Φ mc e) (fun e => evS Φ whO mb e) env = some f from e)
  refine ⟨fun m σ H => ∃ G1 env1, G.Le G1 ∧ Ok I B G1 σ H env1 t ∧ whN (fun e => evT Φ mc e) (fun e => evS Φ whO mb e) m env1 = some f, ⟨n, G, env, .refl G, O, hn⟩, fun m σ1 H1 ⟨G1, env1, l1, O1, h1⟩ => ?_⟩
  cases m with
  | zero => cases h1
  | succ m =>
    obtain ⟨p, h2, h1⟩ := bindSome h1
    refine ⟨B, G1, env1, t, p.1, p.2, O1, h2, fun H2 G2 l2 O2 => ?_⟩
    split at h1
    · rename_i hp
      rw [if_pos hp]
      obtain ⟨f1, h3, h1⟩ := bindSome h1
      refine ⟨fun σ' H' => ∃ G1 env1, G.Le G1 ∧ Ok I B G1 σ' H' env1 t ∧ whN (fun e => evT Φ mc e) (fun e => evS Φ whO mb e) m env1 = some f, fun σ' H' h => ⟨m, Nat.lt_succ_self m, h⟩, B, G2, p.2, t, f1, O2, h3, ?_⟩
      cases f1 with
      | nx e1 => exact fun σ' H' G' l' O' => ⟨G', e1, (l1.trans l2).trans l', O', h1⟩
      | ct e1 => exact fun σ' H' G' l' O' => ⟨G', e1, (l1.trans l2).trans l', O', h1⟩
      | bk e1 => cases h1; exact fun σ' H' G' l' O' => k σ' H' G' ((l1.trans l2).trans l') O'
      | rt w e1 => cases h1; exact fun v σ' H' G' l' O' => k v σ' H' G' ((l1.trans l2).trans l') O'
    · rename_i hp
      rw [if_neg hp]
      cases h1
      exact k σ1 H2 G2 (l1.trans l2) O2
/-! ### for -/
theorem ss_for {tg it : Expr} {mi : E} (hxe : X.xe = fun _ _ => False) (hc : X.calm = true) (hi : PI X tg it (TIv I Φ mi)) (hg : ∀ br, PG X tg (TGv (I.wb br) Φ mt)) (hb : ∀ br, PSs X sb (TSv (I.wb br) Φ mb)) (hs : ∀ x, foldedSetIterable it X.env x = pure x) :
    PS X (.For tg it sb [] pos) (TSv I Φ (.for_ mt mi mb)) := by
  have hg' : PG X tg (fun v σ H Q => ∃ br, TGv (I.wb br) Φ mt v σ H Q) := ⟨fun pins s σ H v u Q J r ⟨br, h⟩ => (hg br).run pins s σ H v u Q J r h⟩
  have hb' : PSs X sb (fun D σ H => ∃ br, TSv (I.wb br) Φ mb D σ H) := ⟨fun pins s σ H D J ⟨br, h⟩ => (hb br).run pins s σ H D J h⟩
  refine psImp (L2.ps_for (by rw [hxe]; exact PassesOwn.never) hc hi hg' hb' hs) fun D σ H ⟨B, G, env, t, f, O, e, k⟩ => ?_
  obtain ⟨⟨⟨b, src, lk⟩, env'⟩, h1, e⟩ := bindSome e
  obtain ⟨f0, h2, e⟩ := mapSome e
  refine ⟨B, G, env, t, b, src, lk, env', O, h1, fun J H1 G1 br l1 U O1 Y => ?_⟩
  have h2 : forG (fun x e => asgT Φ mt (.d x) e) (fun e => evS Φ whO mb e) src (srcLen env' src) 0 env' = some f0 := h2
  refine ⟨fun i m σ H => ∃ G2 env2, G1.Le G2 ∧ Ok (I.wb br) B G2 σ H env2 t ∧ forG (fun x e => asgT Φ mt (.d x) e) (fun e => evS Φ whO mb e) src m i env2 = some f0, ⟨_, G1, env', .refl G1, O1, h2⟩, fun i m σ1 H1 ⟨G2, env2, l2, O2, hf⟩ => ?_⟩
  rw [forG] at hf
  cases hn : nxt env2 src i with
  | none => rw [hn] at hf; cases hf
  | some r =>
    rw [hn] at hf
    have y := Y br (fun _ _ _ h => h) B G2 σ1 H1 env2 t i r l2 O2 hn
    cases r with
    | none =>
      have hf : some (Fl.nx env2) = some f0 := hf
      cases hf
      cases e
      exact .inl ⟨y, k σ1 H1 G2 (l1.trans l2) (U _ _ _ _ _ _ O2).2⟩
    | some x =>
      cases m with
      | zero => cases hf
      | succ m =>
        have hf : (asgT Φ mt (.d x) env2).bind (fun env3 => (evS Φ whO mb env3).bind fun f => match f with
          | .nx e => forG (fun x e => asgT Φ mt (.d x) e) (fun e => evS Φ whO mb e) src m (i + 1) e
          | .ct e => forG (fun x e => asgT Φ mt (.d x) e) (fun e => evS Φ whO mb e) src m (i + 1) e
          | .bk e => some (.nx e)
          | .rt w e => some (.rt w e)) = some f0 := hf
        obtain ⟨env3, h3, hf⟩ := bindSome hf
        obtain ⟨f1, h4, hf⟩ := bindSome hf
        refine .inr ⟨y.1, fun σ' H' => ∃ G2 env2, G1.Le G2 ∧ Ok (I.wb br) B G2 σ' H' env2 t ∧ forG (fun x e => asgT Φ mt (.d x) e) (fun e => evS Φ whO mb e) src m (i + 1) env2 = some f0, fun σ' H' h => ⟨m, Nat.lt_succ_self m, h⟩, fun v H2 hy => ?_⟩
        obtain ⟨G3, l3, O3⟩ := y.2 v H2 hy
        refine ⟨br, B, G3, env2, t, .d x, env3, O3, h3, fun σ4 H4 G4 l4 _ O4 => ⟨br, B, G4, env3, t, f1, O4, h4, ?_⟩⟩
        have lall := (l2.trans l3).trans l4
        cases f1 with
        | nx e1 => exact fun σ' H' G' l' O' => ⟨G', e1, lall.trans l', O', hf⟩
        | ct e1 => exact fun σ' H' G' l' O' => ⟨G', e1, lall.trans l', O', hf⟩
        | bk e1 =>
          cases hf
          cases e
          exact fun σ' H' G' l' O' => k σ' H' G' ((l1.trans lall).trans l') (U _ _ _ _ _ _ O').2
        | rt w e1 =>
          cases hf
          cases e
          exact fun v σ' H' G' l' O' => k v σ' H' G' ((l1.trans lall).trans l') (U _ _ _ _ _ _ O').1
end
end Ev
end
section
set_option linter.all false
set_option autoImplicit false
set_option maxRecDepth 100000
/-! Ev18a: three names side by side. -/
namespace Ev
open PySem PySem.Spec PyProof.Rows
open L2 (V HO Hp upd upd_same upd_ne Cx PE PA PS TA TS EP Inv RelV Vals)

def tPar3 (i j k : Nat) (ta : TA) : TS := fun D σ H => ta σ H fun vs H1 => ∃ v w z, vs = [v, w, z] ∧ D.nx (((σ.set k (some z)).set j (some w)).set i (some v)) H1
theorem vals3 {v w z : V} {us : List Value} (r : Vals [v, w, z] us) : ∃ u1 u2 u3, us = [u1, u2, u3] ∧ RelV v u1 ∧ RelV w u2 ∧ RelV z u3 := by
  cases r with
  | cons a r =>
    cases r with
    | cons b r =>
      cases r with
      | cons c r =>
        cases r
        exact ⟨_, _, _, rfl, a, b, c⟩
theorem ps_par3 {X : Cx} {i j k : Nat} {x y z : Str} {a b c : Expr} {ta : TA} {px py pz pt pos : Pos} {kt k2 : Nat} {pt2 : Pos} (hc : X.calm = true) (hN : X.N.Nodup) (hi : X.N[i]? = some x) (hj : X.N[j]? = some y) (hk : X.N[k]? = some z)
    (hx : X.env.scope.names.lookup x = some .local) (hy : X.env.scope.names.lookup y = some .local) (hz : X.env.scope.names.lookup z = some .local) (ha : PA X [a, b, c] ta)
    (hw : swappedStores [.Tuple [.Name x px, .Name y py, .Name z pz] kt pt] (.Tuple [a, b, c] k2 pt2) X.env = pure (some [x, y, z]))
    (hs : swapsWithSole [.Tuple [.Name x px, .Name y py, .Name z pz] kt pt] (.Tuple [a, b, c] k2 pt2) pos.line X.env = pure false) :
    PS X (.Assign [.Tuple [.Name x px, .Name y py, .Name z pz] kt pt] (.Tuple [a, b, c] k2 pt2) pos) (tPar3 i j k ta) := by
  refine ⟨fun pins s σ H D J h => ?_⟩
  rw [exec_Assign_arm]
  refine wpAny_bind (wpAny_standAt ?_)
  rw [hs]
  refine wpAny_bind (wpAny_pure ?_)
  rw [if_neg (by decide)]
  refine wpAny_bind (Tuple_ (L2.thn (ha.run _ pins s σ H _ J h) fun us s1 ⟨vs, H1, I1, r1, v, w, q, e1, q1⟩ => ?_))
  subst e1
  obtain ⟨u1, u2, u3, rfl, rv, rw', rz⟩ := vals3 r1
  refine wpAny_newObj_type ?_ (by show 3 ≤ sizeLine; decide)
  have I2 : Inv X pins σ H1 { s1 with heap := s1.heap.push { cls := .type "tuple", data := .seq [u1, u2, u3].toArray } } := I1.kept (t' := s1.toks) fun b o e => Heap.get?_push_of_some _ e
  rw [hw]
  refine wpAny_bind (wpAny_pure ?_)
  show wpAny (model X.prog X.w) X.A (do rule "assign.swapped-stores"; let items ← unpackItems (.ref s1.heap.objs.size) 3 none; assignInOrder [fun v => bindName X.env z v, fun v => bindName X.env y v, fun v => bindName X.env x v] items.reverse; pure Flow.next) _ _ _
  refine wpAny_bind (wpAny_rule (wpAny_bind (unpackItems_tuple (items := #[u1, u2, u3]) (J.ok.hd hc) (IsTup.new s1.heap _) fun h' hx' => ?_)))
  have I3 := I2.kept (h' := h') (t' := s1.toks) fun b o e => hx' b o (Nat.ne_of_lt (Heap.lt_size e)) e
  show wpAny _ _ (assignInOrder [fun v => bindName X.env z v, fun v => bindName X.env y v, fun v => bindName X.env x v] [u3, u2, u1] >>= fun _ => pure Flow.next) _ _ _
  refine wpAny_bind (assignInOrder_cons (wpAny_bindName (L2.store_ok I3 hN hk (.inl hz) rz (fun s2 I4 => ?_) (.inr hz))))
  refine assignInOrder_cons (wpAny_bindName (L2.store_ok I4 hN hj (.inl hy) rw' (fun s3 I5 => ?_) (.inr hy)))
  refine assignInOrder_cons (wpAny_bindName (L2.store_ok I5 hN hi (.inl hx) rv (fun s4 I6 => assignInOrder_nil (wpAny_pure ?_)) (.inr hx)))
  exact ⟨_, H1, I6, q1⟩
section
variable {X : Cx} {I : Inf} {Φ : Fns} {me : E}
theorem ss_par3 {i j l : Nat} {x y z : Str} {a b c : Expr} {px py pz pt pos : Pos} {kt k2 : Nat} {pt2 : Pos} (hc : X.calm = true) (hN : X.N.Nodup) (hi : X.N[i]? = some x) (hj : X.N[j]? = some y) (hl : X.N[l]? = some z)
    (hx : X.env.scope.names.lookup x = some .local) (hy : X.env.scope.names.lookup y = some .local) (hz : X.env.scope.names.lookup z = some .local) (ha : PA X [a, b, c] (TKv I Φ me))
    (hw : swappedStores [.Tuple [.Name x px, .Name y py, .Name z pz] kt pt] (.Tuple [a, b, c] k2 pt2) X.env = pure (some [x, y, z]))
    (hs : swapsWithSole [.Tuple [.Name x px, .Name y py, .Name z pz] kt pt] (.Tuple [a, b, c] k2 pt2) pos.line X.env = pure false) :
    PS X (.Assign [.Tuple [.Name x px, .Name y py, .Name z pz] kt pt] (.Tuple [a, b, c] k2 pt2) pos) (TSv I Φ (.par [i, j, l] me)) := psImp (ps_par3 hc hN hi hj hl hx hy hz ha hw hs) fun D σ H ⟨B, G, env, t, f, O, e, k⟩ => by
  obtain ⟨p, h1, e⟩ := bindSome e
  refine ⟨B, G, env, t, p.1, p.2, O, h1, fun vs H1 G1 le hlen O1 => ?_⟩
  split at e
  · obtain ⟨env2, h2, e⟩ := mapSome e
    cases e
    match hp : p.1, h2, hlen, O1 with
    | [w1, w2, w3], h2, hlen, O1 =>
      match vs, hlen, O1 with
      | [v1, v2, v3], _, O1 =>
        refine ⟨v1, v2, v3, rfl, ?_⟩
        obtain ⟨e1, g1, g2⟩ := bindSome h2
        obtain ⟨e0, g0, g1⟩ := bindSome g1
        obtain ⟨e9, g9, g0⟩ := bindSome g0
        cases (show some p.2 = some e9 from g9)
        have O2 : Ok I B G1 σ H1 p.2 ((v3, w3) :: (v2, w2) :: (v1, w1) :: t) := O1.perm ((List.reverse_perm [(v1, w1), (v2, w2), (v3, w3)]).symm.append_right t)
        have s3 : TGv I Φ (.tname l) v3 σ H1 fun σ' H' => TGv I Φ (.tname j) v2 σ' H' fun σ'' H'' => TGv I Φ (.tname i) v1 σ'' H'' D.nx :=
          ⟨B, G1, p.2, _, w3, e0, O2, g0, fun σ1 H1' G1' l1 _ O3 => ⟨B, G1', e0, _, w2, e1, O3, g1, fun σ2 H2 G2 l2 _ O4 => ⟨B, G2, e1, t, w1, env2, O4, g2, fun σ4 H4 G4 l4 _ O5 => k σ4 H4 G4 (((le.trans l1).trans l2).trans l4) O5⟩⟩⟩
        exact name_run (name_run (name_run s3))
    | [], h2, _, _ => cases h2
    | [_], h2, _, _ => obtain ⟨_, g1, _⟩ := bindSome h2; cases g1
    | [_, _], h2, _, _ =>
      obtain ⟨_, g1, _⟩ := bindSome h2
      obtain ⟨_, g1, _⟩ := bindSome g1
      cases g1
    | _ :: _ :: _ :: _ :: _, h2, _, _ =>
      obtain ⟨_, g1, _⟩ := bindSome h2
      obtain ⟨_, g1, _⟩ := bindSome g1
      obtain ⟨_, g1, _⟩ := bindSome g1
      cases g1
  · cases e
end
end Ev
end
section
set_option linter.all false
set_option autoImplicit false
set_option maxRecDepth 100000
/-! Ev19: comprehensions. -/
namespace Ev
open PySem PySem.Spec PyProof.Rows
open L2 (V HO Hp upd upd_same upd_ne SqL SqT Rd Key Cx PE PT PTs PW PA PC PK PI PG PGs PS PSs It Ends TE TT TA TI TS TG VK EP Inv RelV Vals wipe)

def offB (br : Brs) (own : List Nat) : Brs := fun j => if j ∈ own then none else br j
theorem Lent.imp {I J : Inf} {σ : L2.St} {env : Env} (L : Lent I σ env) (h : ∀ j x, J.br j = some x → I.br j = some x) : Lent J σ env := fun j v b e => L j v b (h j _ e)
theorem off_imp {br : Brs} {own : List Nat} : ∀ j x, offB br own j = some x → br j = some x := fun j x h => by
  unfold offB at h
  split at h
  · cases h
  · exact h
theorem set_none_id {env : Env} {i : Nat} (h : slot env i = none) : env.set i none = env := by
  by_cases hi : i < env.length
  · refine set_same ?_
    unfold slot at h
    rw [List.getD_eq_getElem?_getD] at h
    rw [List.getElem?_eq_getElem hi] at h ⊢
    exact congrArg some h
  · exact List.set_eq_of_length_le (by omega)
theorem Lent.drop {I : Inf} {σ : L2.St} {env : Env} {i : Nat} (L : Lent I σ env) : Lent (I.wb (offB I.br [i])) σ (env.set i none) := fun j v b e => by
  obtain ⟨⟨w, h1, h2⟩, h3⟩ := L j v b (off_imp j _ e)
  have ne : i ≠ j := fun z => by
    subst z
    have e : offB I.br [i] i = some (v, b) := e
    unfold offB at e
    rw [if_pos (List.mem_singleton.mpr rfl)] at e
    cases e
  exact ⟨⟨w, by rw [slot_set_ne ne]; exact h1, h2⟩, h3⟩
section
variable {I : Inf} {B : Hp} {G : Gh} {σ : L2.St} {H : Hp} {env : Env} {t : List Rt}
/-- one name put aside -/
theorem out1 (O : Ok I B G σ H env t) (i : Nat) : ∃ S, Ok (I.wb (offB I.br [i])) B G σ H (env.set i none) (S ++ t) ∧
    ∀ {B' G' H' envF t'}, Ok (I.wb (offB I.br [i])) B' G' σ H' envF (S ++ t') → slot envF i = none → envF.length = env.length → Ok I B' G' σ H' (envF.set i (slot env i)) t' := by
  cases hs : slot env i with
  | none =>
    refine ⟨[], ?_, fun {B' G' H' envF t'} O' h _ => ?_⟩
    · have e := set_none_id hs
      have L := O.lent.drop (i := i)
      rw [e] at L ⊢
      exact O.wb L
    · rw [set_none_id h]
      refine O'.unwb fun j v b e => ?_
      by_cases hj : j = i
      · subst hj
        obtain ⟨⟨w, h1, _⟩, _⟩ := O.lent j v b e
        rw [hs] at h1; cases h1
      · exact O'.lent j v b (by show offB I.br [i] j = _; unfold offB; rw [if_neg (by simpa using hj)]; exact e)
  | some s =>
    obtain ⟨b, w⟩ := s
    obtain ⟨R, fp, s, r, o⟩ := O.tr
    obtain ⟨v, R1, q1, q2, q3⟩ := s.out hs
    obtain ⟨fp', r', pf⟩ := RepWP.perm ((q3.append_left t).trans List.perm_middle) r
    refine ⟨[(v, w)], ⟨O.fz, O.ca, O.cl, O.fn, O.sc, O.bp, O.bz, O.lent.drop, R1, fp', q2, r', o.perm pf⟩, fun {B' G' H' envF t'} O' h hl => ?_⟩
    obtain ⟨R2, fp2, s2, r2, o2⟩ := O'.tr
    have hi : i < envF.length := by rw [hl]; exact slot_lt hs
    obtain ⟨R3, z1, z2⟩ := s2.back (i := i) (v := v) b w h hi q1
    have r2' : RepWP G' H' ((v, w) :: (t' ++ R2)) fp2 := r2
    obtain ⟨fp3, r3, pf3⟩ := RepWP.perm ((List.perm_middle (a := (v, w)) (l₁ := t') (l₂ := R2)).symm.trans (z2.symm.append_left t')) r2'
    refine ⟨O'.fz, O'.ca, O'.cl, O'.fn, O'.sc, O'.bp, O'.bz, fun j v' b' e => ?_, R3, fp3, z1, r3, o2.perm pf3⟩
    obtain ⟨⟨w', y1, y2⟩, y3⟩ := O.lent j v' b' e
    refine ⟨?_, y3⟩
    by_cases hj : i = j
    · subst hj
      rw [hs] at y1; cases y1
      exact ⟨w, slot_set hi, y2⟩
    · obtain ⟨⟨w2, u1, u2⟩, _⟩ := O'.lent j v' b' (by show offB I.br [i] j = _; unfold offB; rw [if_neg (by simpa using Ne.symm hj)]; exact e)
      exact ⟨w2, by rw [slot_set_ne hj]; exact u1, u2⟩
end
theorem restE_set {old : Env} {i : Nat} {s : Slot} : ∀ {r : List Nat} {env : Env}, i ∉ r → restE (env.set i s) old r = (restE env old r).set i s
  | [], env, _ => rfl
  | j :: r, env, h => by
    have h1 : i ≠ j ∧ i ∉ r := by simpa using h
    show restE ((env.set i s).set j (slot old j)) old r = (restE (env.set j (slot old j)) old r).set i s
    rw [List.set_comm _ _ h1.1, restE_set h1.2]
theorem restE_slot {old : Env} {i : Nat} : ∀ {r : List Nat} {env : Env}, i ∉ r → slot (restE env old r) i = slot env i
  | [], env, _ => rfl
  | j :: r, env, h => by
    have h1 : i ≠ j ∧ i ∉ r := by simpa using h
    show slot (restE (env.set j (slot old j)) old r) i = _
    rw [restE_slot h1.2, slot_set_ne h1.1.symm]
theorem restE_length {old : Env} : ∀ {r : List Nat} {env : Env}, (restE env old r).length = env.length
  | [], env => rfl
  | j :: r, env => by
    show (restE (env.set j (slot old j)) old r).length = _
    rw [restE_length, List.length_set]
theorem wipeE_length : ∀ {r : List Nat} {env : Env}, (wipeE env r).length = env.length
  | [], env => rfl
  | j :: r, env => by
    show (wipeE (env.set j none) r).length = _
    rw [wipeE_length, List.length_set]
theorem wipeE_slot : ∀ {r : List Nat} {env : Env} {i : Nat}, slot (wipeE env r) i = if i ∈ r then none else slot env i
  | [], env, i => by simp [wipeE]
  | j :: r, env, i => by
    show slot (wipeE (env.set j none) r) i = _
    rw [wipeE_slot]
    by_cases hr : i ∈ r
    · simp [hr]
    · rw [if_neg hr]
      by_cases hj : j = i
      · subst hj
        simp [slot_none_set]
      · rw [slot_set_ne hj, if_neg (by simp [hr, Ne.symm hj])]
theorem offB_off {br : Brs} {i : Nat} {r : List Nat} : offB (offB br [i]) r = offB br (i :: r) := funext fun j => by
  unfold offB
  by_cases h1 : j ∈ r
  · simp [h1]
  · by_cases h2 : j = i
    · simp [h2]
    · simp [h1, h2]
theorem outs : ∀ (own : List Nat) {I : Inf} {B : Hp} {G : Gh} {σ : L2.St} {H : Hp} {env : Env} {t : List Rt} (old : Env), own.Nodup → (∀ j ∈ own, slot env j = slot old j) → Ok I B G σ H env t → ∃ S, Ok (I.wb (offB I.br own)) B G σ H (wipeE env own) (S ++ t) ∧
    ∀ {B' G' H' envF t'}, Ok (I.wb (offB I.br own)) B' G' σ H' envF (S ++ t') → (∀ j ∈ own, slot envF j = none) → envF.length = env.length → Ok I B' G' σ H' (restE envF old own) t'
  | [], I, B, G, σ, H, env, t, old, _, _, O => ⟨[], O.wb (O.lent.imp (J := I.wb (offB I.br [])) fun j x h => off_imp (br := I.br) (own := []) j x h), fun {B' G' H' envF t'} O' _ _ => O'.unwb (Lent.imp (I := I.wb (offB I.br [])) O'.lent fun j x h => by show offB I.br [] j = _; unfold offB; rw [if_neg (by simp)]; exact h)⟩
  | i :: own, I, B, G, σ, H, env, t, old, nd, ho, O => by
    obtain ⟨n1, n2⟩ := List.nodup_cons.mp nd
    obtain ⟨S1, O1, back1⟩ := out1 O i
    obtain ⟨S2, O2, back2⟩ := outs own (I := I.wb (offB I.br [i])) (env := env.set i none) old n2 (fun j hj => by
      have ne : i ≠ j := fun e => n1 (by rw [e]; exact hj)
      rw [slot_set_ne ne]
      exact ho j (List.mem_cons_of_mem _ hj)) O1
    have eo : offB (I.wb (offB I.br [i])).br own = offB I.br (i :: own) := offB_off
    refine ⟨S2 ++ S1, ?_, fun {B' G' H' envF t'} O' hn hl => ?_⟩
    · have z : Ok (I.wb (offB (I.wb (offB I.br [i])).br own)) B G σ H (wipeE (env.set i none) own) (S2 ++ (S1 ++ t)) := O2
      rw [eo] at z
      rw [List.append_assoc]
      exact z
    · rw [List.append_assoc] at O'
      have z : Ok (I.wb (offB (I.wb (offB I.br [i])).br own)) B' G' σ H' envF (S2 ++ (S1 ++ t')) := by rw [eo]; exact O'
      have y := back2 z (fun j hj => hn j (List.mem_cons_of_mem _ hj)) (by rw [List.length_set]; exact hl)
      have x := back1 y (by rw [restE_slot n1]; exact hn i List.mem_cons_self) (by rw [restE_length]; exact hl)
      show Ok I B' G' σ H' (restE (envF.set i (slot old i)) old own) t'
      rw [restE_set n1, ← ho i List.mem_cons_self]
      exact x
/-- names that are not assigned may hold what they will -/
theorem Slots.irr {σ : L2.St} {env : Env} {R : List Rt} (s : Slots σ env R) : ∀ {σ' : L2.St}, σ'.length = σ.length → (∀ i, slot env i ≠ none → σ'[i]? = σ[i]?) → Slots σ' env R := by
  induction s with
  | nil => intro σ' hl _; rw [List.length_eq_zero_iff.mp hl]; exact .nil
  | no s ih =>
    intro σ' hl h
    cases σ' with
    | nil => cases hl
    | cons x σ' => exact .no (ih (by simpa using hl) fun i hi => by have := h (i + 1) hi; simpa using this)
  | yes s ih =>
    intro σ' hl h
    cases σ' with
    | nil => cases hl
    | cons x σ' =>
      have h0 := h 0 (fun z => by cases z)
      simp at h0
      subst h0
      exact .yes (ih (by simpa using hl) fun i hi => by have := h (i + 1) hi; simpa using this)
section
variable {I : Inf} {B : Hp} {G : Gh} {σ σ' : L2.St} {H : Hp} {env : Env} {t : List Rt}
theorem Ok.irr (O : Ok I B G σ H env t) (hl : σ'.length = σ.length) (h : ∀ i, slot env i ≠ none → σ'[i]? = σ[i]?) : Ok I B G σ' H env t := by
  obtain ⟨R, fp, s, r, o⟩ := O.tr
  refine ⟨O.fz, O.ca, O.cl, O.fn, O.sc, O.bp, O.bz, fun j v b e => ?_, R, fp, s.irr hl h, r, o⟩
  obtain ⟨⟨w, h1, h2⟩, h3⟩ := O.lent j v b e
  exact ⟨⟨w, h1, h2⟩, (h j (by rw [h1]; exact fun z => nomatch z)).trans h3⟩
theorem wipe_get : ∀ {vs : List Nat} {j : Nat}, j ∉ vs → (wipe σ vs)[j]? = σ[j]?
  | [], j, _ => rfl
  | v :: vs, j, h => by
    have h1 : j ≠ v ∧ j ∉ vs := by simpa using h
    show ((wipe σ vs).set v none)[j]? = _
    rw [List.getElem?_set_ne h1.1.symm, wipe_get h1.2]
theorem wipe_in : ∀ {vs : List Nat} {j : Nat}, j ∈ vs → j < σ.length → (wipe σ vs)[j]? = some none
  | v :: vs, j, h, hj => by
    show ((wipe σ vs).set v none)[j]? = _
    by_cases e : v = j
    · subst e
      rw [List.getElem?_set_self (by rw [L2.wipe_length]; exact hj)]
    · rw [List.getElem?_set_ne e]
      exact wipe_in ((List.mem_cons.mp h).resolve_left (Ne.symm e)) hj
theorem wipe_ext {vs : List Nat} (hl : σ'.length = σ.length) (h : ∀ j, j ∉ vs → σ'[j]? = σ[j]?) : wipe σ' vs = wipe σ vs := by
  apply List.ext_getElem?
  intro j
  by_cases hj : j ∈ vs
  · by_cases hb : j < σ.length
    · rw [wipe_in hj hb, wipe_in hj (by omega)]
    · rw [List.getElem?_eq_none (by rw [L2.wipe_length]; omega), List.getElem?_eq_none (by rw [L2.wipe_length]; omega)]
  · rw [wipe_get hj, wipe_get hj, h j hj]
theorem wipe_wipe {vs : List Nat} : wipe (wipe σ vs) vs = wipe σ vs := wipe_ext (L2.wipe_length ..) fun j hj => wipe_get hj
theorem Slots.forgets {R : List Rt} : ∀ (own : List Nat) {env : Env} {R : List Rt}, Slots σ env R → ∃ S R1, Slots σ (wipeE env own) R1 ∧ R.Perm (S ++ R1)
  | [], env, R, s => ⟨[], R, s, .refl _⟩
  | i :: own, env, R, s => by
    cases hs : slot env i with
    | none =>
      obtain ⟨S, R1, h1, h2⟩ := Slots.forgets (R := R) own s
      refine ⟨S, R1, ?_, h2⟩
      show Slots σ (wipeE (env.set i none) own) R1
      rw [set_none_id hs]; exact h1
    | some q =>
      obtain ⟨v, R0, _, h2, h3⟩ := s.out hs
      obtain ⟨S, R1, h4, h5⟩ := Slots.forgets (R := R) own h2
      exact ⟨_ :: S, R1, h4, h3.trans (h5.cons _)⟩
/-- the names of a block forgotten -/
theorem Ok.forgets (O : Ok I B G σ H env t) (own : List Nat) (hb : ∀ j ∈ own, I.br j = none) : Ok I B G σ H (wipeE env own) t := by
  obtain ⟨R, fp, s, r, o⟩ := O.tr
  obtain ⟨S, R1, h1, h2⟩ := Slots.forgets (R := []) own s
  obtain ⟨fp', r', pf⟩ := RepWP.perm (show (t ++ R).Perm (S ++ (R1 ++ t)) by have z := (h2.append_left t).trans List.perm_append_comm; rw [List.append_assoc] at z; exact z) r
  obtain ⟨f, g, rfl, _, rg⟩ := RepWP.unapp (R := S) (R' := R1 ++ t) r'
  obtain ⟨g', rg', pg⟩ := RepWP.perm (List.perm_append_comm (l₁ := R1) (l₂ := t)) rg
  refine ⟨O.fz, O.ca, O.cl, O.fn, O.sc, O.bp, O.bz, fun j v b e => ?_, R1, g', h1, rg', (o.perm pf).right.perm pg⟩
  obtain ⟨⟨w, z1, z2⟩, z3⟩ := O.lent j v b e
  have hj : j ∉ own := fun hj => by have := hb j hj; rw [e] at this; cases this
  exact ⟨⟨w, by rw [wipeE_slot, if_neg hj]; exact z1, z2⟩, z3⟩
/-- behind the items of a temporary list -/
theorem Ok.behind {D : Addr} {acc : List W} {y : V} {w : W} (O : Ok I B G σ H env ((y, w) :: (.ref D, .lst acc) :: t)) :
    ∃ xs, H D = some (.lst xs) ∧ xs.length = acc.length ∧ Ok I B G σ (upd H D (.lst (xs ++ [y]))) env ((.ref D, .lst (acc ++ [w])) :: t) := by
  obtain ⟨R, fp, s, r, o⟩ := O.tr
  obtain ⟨fy, g, rfl, ry, r1⟩ := RepWP.uncons (R := (.ref D, .lst acc) :: (t ++ R)) r
  obtain ⟨fl, g', rfl, rl, r2⟩ := RepWP.uncons (R := t ++ R) r1
  cases rl with
  | lst hH rl =>
    rename_i xs fl
    have pm : (fy ++ (D :: fl ++ g')).Perm ((D :: (fl ++ (fy ++ []))) ++ g') := List.perm_iff_count.mpr fun a => by simp only [List.count_append, List.count_cons, List.count_nil]; omega
    have own1 := o.perm pm
    obtain ⟨z1, z2, z3⟩ := own1.no D (List.mem_append_left _ List.mem_cons_self)
    have nd := (List.nodup_append.mp own1.nd).1
    have nD : ∀ p, p ∈ fl ++ (fy ++ []) → p ≠ D := fun p hp e => (List.nodup_cons.mp nd).1 (e ▸ hp)
    have nG : ∀ p, p ∈ g' → p ≠ D := fun p hp e => (List.nodup_append.mp own1.nd).2.2 D List.mem_cons_self p hp e.symm
    refine ⟨xs, hH, rl.length, O.rest (Step.write (f := [D]) O.fz List.mem_cons_self z1) (fun p hp => by rw [List.mem_singleton.mp hp]; exact ⟨z2, z3⟩) O.lent ⟨R, _, s, RepWP.cons (.lst upd_same (RepWL.append (RepWL.frame (.refl G) rl fun p hp => upd_ne (nD p (List.mem_append_left _ hp))) (.cons (RepW.frame (.refl G) ry fun p hp => upd_ne (nD p (List.mem_append_right _ (List.mem_append_left _ hp)))) .nil))) (r2.frame (.refl G) fun p hp => upd_ne (nG p hp)), own1⟩⟩
end

section
variable {X : Cx} {I : Inf} {Φ : Fns} {elt tg iter : Expr} {ifs : List Expr} {me mt mi mc : E} {scope : Scope} {pos : Pos} {own : List (Str × Nat)}
theorem lc_run (ht : ∀ j ∈ tns mt, j ∈ own.map (·.2)) {σ : L2.St} {H : Hp} {Q : VK} (h : TEv I Φ (.comp me mt mi mc (own.map (·.2))) σ H Q) :
    L2.tLc (TIv I Φ mi) (fun v σ H Q => ∃ br, TGv (I.wb br) Φ mt v σ H Q) (fun σ H Q => ∃ br, TTv (I.wb br) Φ mc σ H Q) (fun σ H Q => ∃ br, TEv (I.wb br) Φ me σ H Q) (own.map (·.2)) σ H Q := by
  obtain ⟨B, G, env, t, r, env', O, e, k⟩ := h
  generalize own.map (·.2) = ow at ht e ⊢
  obtain ⟨⟨⟨b, src, lk⟩, env1⟩, h1, e⟩ := bindSome e
  split at e
  · rename_i hc
    obtain ⟨hnd, hall⟩ := hc
    obtain ⟨r0, h2, e⟩ := mapSome e
    cases e
    simp only [List.all_eq_true, Bool.and_eq_true, Bool.not_eq_true', decide_eq_true_eq] at hall
    have hsv : ∀ j ∈ srcVars src, j ∉ ow := fun j hj ho => by
      have := (hall j ho).1
      rw [List.contains_eq_mem, decide_eq_false_iff_not] at this
      exact this hj
    refine ⟨B, G, env, t, b, src, lk, env1, O, h1, fun J H1 G1 br l1 U O1 Y => fun D hD => ?_⟩
    obtain ⟨S, O2, back⟩ := outs ow env1 hnd (fun _ _ => rfl) O1
    have Y' : Yields (I.wb (offB br ow)) G1 src J := Y _ fun j hj x hx => by unfold offB; rw [if_neg (hsv j hj)]; exact hx
    have O3 : Ok (I.wb (offB br ow)) B G1 (wipe σ ow) H1 (wipeE env1 ow) (S ++ t) := Ok.irr O2 (L2.wipe_length ..) fun j hj => wipe_get fun hm => hj (by rw [wipeE_slot, if_pos hm])
    have O4 : Ok (I.wb (offB br ow)) B G1 (wipe σ ow) (upd H1 D (.lst [])) (wipeE env1 ow) ((.ref D, .lst []) :: (S ++ t)) := O3.newList (ds := []) hD .nil
    refine ⟨fun i m H => ∃ G2 env2 acc, G1.Le G2 ∧ Ok (I.wb (offB br ow)) B G2 (wipe σ ow) H env2 ((.ref D, .lst acc) :: (S ++ t)) ∧ (∀ j ∈ ow, slot env2 j = none) ∧ env2.length = env1.length ∧
      compG (fun x e => (ev Φ mt).a (.d x) e) (fun e => (ev Φ mc).t e) (fun e => ((ev Φ me).e e).bind fun q => Ev.take q.2 q.1) ow src m i acc env2 = some r0, ⟨_, G1, _, [], .refl G1, O4, fun j hj => by rw [wipeE_slot, if_pos hj], wipeE_length, h2⟩, fun i m Hh ⟨G2, env2, acc, l2, O5, hn0, hlen, hf⟩ => ?_⟩
    rw [compG] at hf
    cases hn : nxt env2 src i with
    | none => rw [hn] at hf; cases hf
    | some q =>
      rw [hn] at hf
      have y := Y' B G2 _ Hh env2 _ i q l2 O5 hn
      cases q with
      | none =>
        have hf : some (acc, env2) = some r0 := hf
        cases hf
        refine .inl ⟨y, ?_⟩
        have O6 : Ok (I.wb (offB br ow)) B G2 (wipe σ ow) Hh env2 (S ++ ((.ref D, .lst acc) :: t)) := O5.perm List.perm_middle.symm
        have O7 : Ok (I.wb (offB (I.wb br).br ow)) B G2 σ Hh env2 (S ++ ((.ref D, .lst acc) :: t)) := Ok.irr O6 (L2.wipe_length ..).symm fun j hj => (wipe_get fun hm => hj (hn0 j hm)).symm
        have O8 := back O7 hn0 hlen
        exact k _ Hh G2 (l1.trans l2) ⟨(U _ _ _ _ _ _ O8).2, trivial⟩
      | some x =>
        cases m with
        | zero => cases hf
        | succ m =>
          have hf : ((ev Φ mt).a (.d x) env2).bind (fun env3 => ((ev Φ mc).t env3).bind fun p => if p.1 then (((ev Φ me).e p.2).bind fun q => Ev.take q.2 q.1).bind fun q => (if decide (acc.length < sizeLine) then compG (fun x e => (ev Φ mt).a (.d x) e) (fun e => (ev Φ mc).t e) (fun e => ((ev Φ me).e e).bind fun q => Ev.take q.2 q.1) ow src m (i + 1) (acc ++ [q.1]) (wipeE q.2 ow) else none)
            else compG (fun x e => (ev Φ mt).a (.d x) e) (fun e => (ev Φ mc).t e) (fun e => ((ev Φ me).e e).bind fun q => Ev.take q.2 q.1) ow src m (i + 1) acc (wipeE p.2 ow)) = some r0 := hf
          obtain ⟨env3, h3, hf⟩ := bindSome hf
          obtain ⟨p, h4, hf⟩ := bindSome hf
          have bo : ∀ j ∈ ow, (I.wb (offB br ow)).br j = none := fun j hj => by show offB br ow j = none; unfold offB; rw [if_pos hj]
          refine .inr ⟨y.1, fun H' => ∃ G2 env2 acc, G1.Le G2 ∧ Ok (I.wb (offB br ow)) B G2 (wipe σ ow) H' env2 ((.ref D, .lst acc) :: (S ++ t)) ∧ (∀ j ∈ ow, slot env2 j = none) ∧ env2.length = env1.length ∧
            compG (fun x e => (ev Φ mt).a (.d x) e) (fun e => (ev Φ mc).t e) (fun e => ((ev Φ me).e e).bind fun q => Ev.take q.2 q.1) ow src m (i + 1) acc env2 = some r0, fun H' h => ⟨m, Nat.lt_succ_self m, h⟩, fun v H2 hy => ?_⟩
          obtain ⟨G3, l3, O6⟩ := y.2 v H2 hy
          refine ⟨_, B, G3, env2, _, .d x, env3, O6, h3, fun σ4 H4 G4 l4 K4 O7 => ?_⟩
          have hw : wipe σ4 ow = wipe σ ow := (wipe_ext K4.1 fun j hj => K4.2 j fun hm => hj (ht j hm)).trans wipe_wipe
          refine ⟨hw, _, B, G4, env3, _, p.1, p.2, O7, h4, fun H5 G5 l5 O8 => ?_⟩
          have len4 : σ4.length = σ.length := by rw [K4.1, L2.wipe_length]
          -- a turn's end
          have fin : ∀ {G6 : Gh} {H6 : Hp} {env6 : Env} {acc6 : List W}, G5.Le G6 → Ok (I.wb (offB br ow)) B G6 σ4 H6 env6 ((.ref D, .lst acc6) :: (S ++ t)) →
              Ok (I.wb (offB br ow)) B G6 (wipe σ ow) H6 (wipeE env6 ow) ((.ref D, .lst acc6) :: (S ++ t)) ∧ (∀ j ∈ ow, slot (wipeE env6 ow) j = none) ∧ (wipeE env6 ow).length = env1.length := fun {G6 H6 env6 acc6} l6 O9 => by
            refine ⟨Ok.irr (O9.forgets ow bo) (by rw [L2.wipe_length, len4]) fun j hj => ?_, fun j hj => by rw [wipeE_slot, if_pos hj], ?_⟩
            · rw [← hw]
              exact wipe_get fun hm => hj (by rw [wipeE_slot, if_pos hm])
            · rw [wipeE_length, ← O9.len, len4, ← O1.len]
          split at hf
          · rename_i hp
            dsimp only
            rw [if_pos hp]
            obtain ⟨q, h5, hf⟩ := bindSome hf
            obtain ⟨q0, h6, h7⟩ := bindSome h5
            refine ⟨_, B, G5, p.2, _, q0.1, q0.2, O8, h6, fun yv H6 G6 l6 P6 => ?_⟩
            obtain ⟨G7, l7, O9⟩ := P6.take h7
            obtain ⟨xs, hx, hxl, O10⟩ := O9.behind
            split at hf
            · rename_i hz
              obtain ⟨z1, z2, z3⟩ := fin (l6.trans l7) O10
              exact ⟨xs, hx, by rw [hxl]; exact of_decide_eq_true hz, G7, _, _, (((((l2.trans l3).trans l4).trans l5).trans l6).trans l7), z1, z2, z3, hf⟩
            · cases hf
          · rename_i hp
            dsimp only
            rw [if_neg hp]
            obtain ⟨z1, z2, z3⟩ := fin (.refl _) O8
            exact ⟨G5, _, _, (((l2.trans l3).trans l4).trans l5), z1, z2, z3, hf⟩
  · cases e
theorem se_comp (hc : X.calm = true) (hN : X.N.Nodup) (hi : PI X tg iter (TIv I Φ mi)) (ok : L2.BlkOk X.N X.env.scope scope own) (htn : ∀ j ∈ tns mt, j ∈ own.map (·.2))
    (hg : ∀ (s : Shared) (H : Hp) (C : Addr) (cl : List (Str × Addr)) (fp : List Addr) (br : Brs), PG (X.blk s H scope (compEnvC scope cl C X.env) fp) tg (TGv (I.wb br) Φ mt))
    (ht : ∀ (s : Shared) (H : Hp) (C : Addr) (cl : List (Str × Addr)) (fp : List Addr) (br : Brs), PTs (X.blk s H scope (compEnvC scope cl C X.env) fp) ifs (TTv (I.wb br) Φ mc))
    (he : ∀ (s : Shared) (H : Hp) (C : Addr) (cl : List (Str × Addr)) (fp : List Addr) (br : Brs), PE (X.blk s H scope (compEnvC scope cl C X.env) fp) elt (TEv (I.wb br) Φ me)) (hs : ∀ x, foldedSetIterable iter X.env x = pure x) :
    PE X (.ListComp elt [⟨tg, iter, ifs, 0⟩] scope pos) (TEv I Φ (.comp me mt mi mc (own.map (·.2)))) :=
  peImp (L2.pe_lc hc hN hi ok (fun s H C cl fp => ⟨fun pins s' σ H v u Q J r ⟨br, h⟩ => (hg s _ C cl fp br).run pins s' σ H v u Q J r h⟩) (fun s H C cl fp => ⟨fun pins s' σ H Q J ⟨br, h⟩ => (ht s _ C cl fp br).run pins s' σ H Q J h⟩)
    (fun s H C cl fp => ⟨fun pins s' σ H Q J ⟨br, h⟩ => (he s _ C cl fp br).run pins s' σ H Q J h⟩) hs) fun σ H Q h => lc_run htn h
theorem ss_setLc {i : Nat} {y : Str} {py spos : Pos} (hc : X.calm = true) (hN : X.N.Nodup) (hy : X.N[i]? = some y) (hyl : X.env.scope.names.lookup y = some .local)
    (hsw : swapsWith (.ListComp elt [⟨tg, iter, ifs, 0⟩] scope pos) (some (.Name y py)) spos.line X.env = pure true) (hi : PI X tg iter (TIv I Φ mi)) (ok : L2.BlkOk X.N X.env.scope scope own) (htn : ∀ j ∈ tns mt, j ∈ own.map (·.2))
    (hg : ∀ (s : Shared) (H : Hp) (C : Addr) (cl : List (Str × Addr)) (fp : List Addr) (br : Brs), PG (X.blk s H scope (compEnvC scope cl C X.env) fp) tg (TGv (I.wb br) Φ mt))
    (ht : ∀ (s : Shared) (H : Hp) (C : Addr) (cl : List (Str × Addr)) (fp : List Addr) (br : Brs), PTs (X.blk s H scope (compEnvC scope cl C X.env) fp) ifs (TTv (I.wb br) Φ mc))
    (he : ∀ (s : Shared) (H : Hp) (C : Addr) (cl : List (Str × Addr)) (fp : List Addr) (br : Brs), PE (X.blk s H scope (compEnvC scope cl C X.env) fp) elt (TEv (I.wb br) Φ me)) (hs : ∀ x, foldedSetIterable iter X.env x = pure x) :
    PS X (.Assign [.Name y py] (.ListComp elt [⟨tg, iter, ifs, 0⟩] scope pos) spos) (TSv I Φ (.asg (.tname i) (.comp me mt mi mc (own.map (·.2))))) :=
  psImp (L2.ps_setLc hc hN hy hyl hsw hi ok (fun s H C cl fp => ⟨fun pins s' σ H v u Q J r ⟨br, h⟩ => (hg s _ C cl fp br).run pins s' σ H v u Q J r h⟩) (fun s H C cl fp => ⟨fun pins s' σ H Q J ⟨br, h⟩ => (ht s _ C cl fp br).run pins s' σ H Q J h⟩)
    (fun s H C cl fp => ⟨fun pins s' σ H Q J ⟨br, h⟩ => (he s _ C cl fp br).run pins s' σ H Q J h⟩) hs) fun D σ H h => lc_run htn (tev_mono (asg_run h) fun v H' h => name_run h)
end
end Ev
end
section
set_option linter.all false
set_option autoImplicit false
set_option maxRecDepth 100000
/-! Ev20: a def's body keeps its promise. -/
namespace Ev
open PySem PySem.Spec PyProof.Rows
open L2 (V HO Hp upd upd_same upd_ne SqL SqT Rd Key Cx PE PT PTs PW PA PC PK PI PG PGs PS PSs It Ends TE TT TA TI TS TG VK EP Inv RelV Vals Room FunD FnScope start cxOf CX0 E0)

theorem Slots.rep : ∀ n : Nat, Slots (List.replicate n none) (List.replicate n none) []
  | 0 => .nil
  | n + 1 => .no (Slots.rep n)
theorem Slots.begin {k : Nat} : ∀ {vs : List V} {sl : List (Bool × W)}, vs.length = sl.length → Slots (vs.map some ++ List.replicate k none) (sl.map some ++ List.replicate k none) (vs.zip (sl.map (·.2)))
  | [], [], _ => Slots.rep k
  | v :: vs, (b, w) :: sl, h => .yes (Slots.begin (by simpa using h))
  | [], _ :: _, h => by cases h
  | _ :: _, [], h => by cases h
theorem unlk_rep {G : Gh} {H : Hp} {v : V} {w : W} {f : List Addr} (r : RepW G H v w f) : RepW G H v (unlk w) f := by
  cases r with
  | lk r => exact r
  | d r => exact .d r
  | lst h r => exact .lst h r
  | tup h r => exact .tup h r
theorem relk_rep {G : Gh} {H : Hp} {v : V} {w w0 : W} {f : List Addr} (r : RepW G H v w f) : RepW G H v (relk w0 w) f := by
  cases w0 with
  | lk w0 => exact .lk r
  | _ => exact r
theorem bor_out : ∀ {vs : List V} {sl : List (Bool × W)} {σ : L2.St} {env : Env} {R : List Rt}, Slots σ env R → vs.length = sl.length →
    (∀ i v w0, sl[i]? = some (true, w0) → vs[i]? = some v → (∃ w, slot env i = some (true, w)) ∧ σ[i]? = some (some v)) →
    ∃ bs Rest, R.Perm (bs ++ Rest) ∧ ∀ (G : Gh) (H : Hp) (fp : List Addr), RepWP G H bs fp → RepWP G H (bor vs sl ((env.take vs.length).map slotW)) fp
  | [], [], σ, env, R, s, _, _ => ⟨[], R, .refl _, fun G H fp r => by simpa [bor] using r⟩
  | v :: vs, (b, w0) :: sl, σ, env, R, s, hl, h => by
    cases s with
    | nil => exact ⟨[], [], .refl _, fun G H fp r => by cases b <;> exact r⟩
    | no s =>
      obtain ⟨bs, Rest, p, q⟩ := bor_out (vs := vs) (sl := sl) s (by simpa using hl) fun i v' w' h1 h2 => by
        have := h (i + 1) v' w' (by simpa using h1) (by simpa using h2)
        exact ⟨this.1, by simpa using this.2⟩
      cases b with
      | true =>
        obtain ⟨⟨w, z⟩, _⟩ := h 0 v w0 rfl rfl
        cases z
      | false => exact ⟨bs, Rest, p, fun G H fp r => q G H fp r⟩
    | yes s =>
      rename_i v1 w1 b1 σ env R
      obtain ⟨bs, Rest, p, q⟩ := bor_out (vs := vs) (sl := sl) s (by simpa using hl) fun i v' w' h1 h2 => by
        have := h (i + 1) v' w' (by simpa using h1) (by simpa using h2)
        exact ⟨this.1, by simpa using this.2⟩
      cases b with
      | true =>
        obtain ⟨_, z⟩ := h 0 v w0 rfl rfl
        have z : some (some v1) = some (some v) := z
        cases z
        refine ⟨(v, w1) :: bs, Rest, p.cons _, fun G H fp r => ?_⟩
        obtain ⟨f, g, rfl, r1, r2⟩ := RepWP.uncons r
        exact RepWP.cons (relk_rep (unlk_rep r1)) (q G H g r2)
      | false => exact ⟨bs, (v1, w1) :: Rest, (p.cons _).trans List.perm_middle.symm, fun G H fp r => q G H fp r⟩
  | [], _ :: _, _, _, _, _, h, _ => by cases h
  | _ :: _, [], _, _, _, _, h, _ => by cases h
/-- the lent parameters -/
def lentB (vs : List V) (sl : List (Bool × W)) : Brs := fun i => match sl[i]?, vs[i]? with
  | some (true, _), some v => some (v, true)
  | _, _ => none
theorem lentB_some {vs : List V} {sl : List (Bool × W)} {i : Nat} {v : V} {b : Bool} (h : lentB vs sl i = some (v, b)) : ∃ w, sl[i]? = some (true, w) ∧ vs[i]? = some v ∧ b = true := by
  unfold lentB at h
  split at h
  · rename_i w v' h1 h2
    cases h
    exact ⟨_, h1, h2, rfl⟩
  · cases h
theorem slot_begin {sl : List (Bool × W)} {k i : Nat} {s : Bool × W} (h : sl[i]? = some s) : slot (sl.map some ++ List.replicate k none) i = some s := by
  unfold slot
  have hi : i < sl.length := (List.getElem?_eq_some_iff.mp h).1
  rw [List.getD_eq_getElem?_getD, List.getElem?_append_left (by simpa using hi), List.getElem?_map, h]
  rfl
section
variable {P : Program} {w : World} {K : PySem.W.Frag} {mg : Str → Option Value} {base : Heap} {k : Nat} {fa : Addr} {fd : FuncData} {ps : List Str} {I : Inf} {Φ Φ' : Fns} {f : Nat} {fn : Fn}
theorem fn_sound {x qual : Str} {params : Arguments} {body : List Stmt} {scope : Scope} {dvs : List V} {kws : List (Str × V)} {N : List Str} (F : FunD K x qual params body scope dvs kws fa fd) (S : FnScope N ps scope)
    (hp : ps.length = fn.par) (hN : N.length = fn.size) (hΦ : ∀ sl, Φ' f sl = runF Φ whO fn sl)
    (hb : ∀ (cdv : Value) (A : Around) (outer : List PySem.Env) (s : Shared) (H : Hp), Room k (A.deeper (envOfC qual scope s.heap.objs.size fa cdv)) → A.guards = some [] →
      ∀ br, PSs (cxOf CX0 P w K mg base N qual scope fa cdv A outer s H E0).nox body (TSv (I.wb br) Φ fn.body)) :
    FnG P w K mg base (k + 1) fa fd ps (spF I Φ' f) := by
  refine fnG_of F S (fun vs H Q ⟨B, G, sl, r, ws, hl, O, e, q⟩ => ?_) fun cdv A outer s H vs Q hr hgd ⟨B, G, sl, r, ws, hl, O, e, q⟩ => ?_
  · rw [hΦ] at e
    unfold runF at e
    split at e
    · rename_i h; rw [hl, hp]; exact h
    · cases e
  · rw [hΦ] at e
    unfold runF at e
    split at e
    · rename_i hpar
      obtain ⟨fl, h1, h2⟩ := bindSome e
      refine ⟨TSv (I.wb (lentB vs sl)) Φ fn.body, hb cdv A outer s H hr hgd _, B, G, _, [], fl, ?_, h1, ?_⟩
      · have hk : N.length - vs.length = fn.size - fn.par := by rw [hN, hl, hpar]
        obtain ⟨R, fp, s0, r0, o⟩ := O.tr
        cases s0
        rw [List.append_nil] at r0
        refine ⟨O.fz, O.ca, O.cl, O.fn, O.sc, O.bp, O.bz, fun i v b h => ?_, _, fp, by unfold L2.start; rw [hk]; exact Slots.begin hl, r0, o⟩
        obtain ⟨w0, h3, h4, rfl⟩ := lentB_some h
        refine ⟨⟨w0, slot_begin h3, .inl rfl⟩, ?_⟩
        have hi : i < vs.length := (List.getElem?_eq_some_iff.mp h4).1
        unfold L2.start
        rw [List.getElem?_append_left (by simpa using hi), List.getElem?_map, h4]
        rfl
      · have fin : ∀ {v : V} {w0 : W} {σ' : L2.St} {H' : Hp} {G' : Gh} {env' : Env}, G.Le G' → Ok (I.wb (lentB vs sl)) B G' σ' H' env' [(v, w0)] → r = w0 → ws = (env'.take fn.par).map slotW → Q v H' := by
          intro v w0 σ' H' G' env' l O' hr1 hws
          subst hr1
          obtain ⟨R, fp, s1, r1, o1⟩ := O'.tr
          obtain ⟨bs, Rest, p1, p2⟩ := bor_out (vs := vs) (sl := sl) s1 hl fun i v' w' h3 h4 => by
            obtain ⟨⟨w2, z1, _⟩, z2⟩ := O'.lent i v' true (by show lentB vs sl i = _; unfold lentB; rw [h3, h4])
            exact ⟨⟨w2, z1⟩, z2⟩
          obtain ⟨fp2, r2, pf⟩ := RepWP.perm (show ([(v, r)] ++ R).Perm (((v, r) :: bs) ++ Rest) from p1.cons _) r1
          obtain ⟨f1, g1, rfl, r3, _⟩ := RepWP.unapp (R := (v, r) :: bs) (R' := Rest) r2
          obtain ⟨fv, fb, rfl, r4, r5⟩ := RepWP.uncons r3
          have r6 := p2 G' H' fb r5
          rw [hl, hpar, ← hws] at r6
          refine q v H' G' l ⟨O'.fz, O'.ca, O'.cl, O'.fn, O'.sc, O'.bp, O'.bz, fun i v b h => (nomatch h), [], fv ++ fb, .nil, ?_, (o1.perm pf).left⟩
          rw [List.append_nil]
          exact RepWP.cons r4 r6
        cases fl with
        | nx e1 =>
          cases h2
          exact fun σ' H' G' l O' => fin l (O'.push .none) rfl rfl
        | rt w1 e1 =>
          cases h2
          exact fun v σ' H' G' l O' => fin l O' rfl rfl
        | bk e1 => cases h2
        | ct e1 => cases h2
    · cases e
end
end Ev
end
section
set_option linter.all false
set_option autoImplicit false
set_option maxRecDepth 100000
/-! Ev20a: a class called. -/
namespace Ev
open PySem PySem.Spec PyProof.Rows
open L2 (V HO Hp upd upd_same upd_ne SqL Cx PE PT PS PSs PA VK TS TE TA EP Inv RelV Vals Room FunD FnScope cxOf CX0 E0 putF Cls NoAttr Mk)

mutual
/-- what owned trees stand on: lists and tuples -/
theorem RepW.what {G : Gh} {H : Hp} : ∀ {v : V} {w : W} {f : List Addr}, RepW G H v w f → ∀ p ∈ f, ∃ xs, H p = some (.lst xs) ∨ H p = some (.tup xs)
  | _, _, _, .d _ => fun p h => nomatch h
  | _, _, _, .lst h r => fun p hp => (List.mem_cons.mp hp).elim (fun e => by subst e; exact ⟨_, .inl h⟩) (RepWL.what r p)
  | _, _, _, .tup h r => fun p hp => (List.mem_cons.mp hp).elim (fun e => by subst e; exact ⟨_, .inr h⟩) (RepWL.what r p)
  | _, _, _, .lk r => RepW.what r
theorem RepWL.what {G : Gh} {H : Hp} : ∀ {v : List V} {w : List W} {f : List Addr}, RepWL G H v w f → ∀ p ∈ f, ∃ xs, H p = some (.lst xs) ∨ H p = some (.tup xs)
  | _, _, _, .nil => fun p h => nomatch h
  | _, _, _, .cons a b => fun p hp => (List.mem_append.mp hp).elim (RepW.what a p) (RepWL.what b p)
end
/-- a call: what is lent and what is given; G as it is, what else is guarded -/
theorem callee_core {I : Inf} {B : Hp} {G : Gh} {σ : L2.St} {H : Hp} {env : Env} {t : List Rt} {as : List Ev.R} {vs : List V} {sl : List (Bool × W)}
    (O : Ok I B G σ H env (extL vs as t)) (F : FactL σ vs as) (nd : (rvars as).Nodup) (hs : slotsOf env as = some sl) :
    ∃ B' : Hp, vs.length = sl.length ∧ Ok I.top B' G [] H [] (vs.zip (sl.map (·.2))) ∧ (∀ p, B p = none → (∀ xs, H p ≠ some (.lst xs)) → (∀ xs, H p ≠ some (.tup xs)) → B' p = none) ∧
      ∀ (v : V) (w : W) (ws : List W) (H' : Hp) (G' : Gh), ws.length = as.length → G.Le G' → Ok I.top B' G' [] H' [] ((v, w) :: bor vs sl ws) → Post I B G' σ H' (giveBack env as ws) t v (.val w) := by
  obtain ⟨R, fp, s, r, o⟩ := O.tr
  obtain ⟨Rest, p1, back⟩ := s.lend F hs nd
  obtain ⟨hlen, p2⟩ := args_perm (t := t) F hs
  have pm : (extL vs as t ++ R).Perm (vs.zip (sl.map (·.2)) ++ (t ++ Rest)) := by
    refine (p1.append_left _).trans ?_
    rw [← List.append_assoc, ← List.append_assoc]
    exact p2.append_right Rest
  obtain ⟨fp', r', pf⟩ := RepWP.perm pm r
  obtain ⟨f0, g, rfl, r1, r2⟩ := RepWP.unapp r'
  have o' := o.perm pf
  have th := RepWP.there r2
  have dis : ∀ p, p ∈ f0 → p ∉ g := fun p h1 h2 => (List.nodup_append.mp o'.nd).2.2 p h1 p h2 rfl
  generalize hB : (fun p => if p ∈ g then H p else B p : Hp) = B'
  have Bin : ∀ p, p ∈ g → B' p = H p := fun p h => by rw [← hB]; exact if_pos h
  have Bout : ∀ p, p ∉ g → B' p = B p := fun p h => by rw [← hB]; exact if_neg h
  refine ⟨B', hlen, ⟨O.fz, fun q u e => ?_, O.cl, O.fn, O.sc, fun a u e => ?_, fun a u e => ?_, fun i v b h => (nomatch h), [], f0, .nil, ?_, o'.left.nd, fun p hp => ?_⟩, fun p h1 h2 h3 => ?_, fun v w ws H' G' hl le O1 => ?_⟩
  · obtain ⟨z1, z2, z3⟩ := O.ca q u e
    refine ⟨z1, ?_, z3⟩
    rw [Bout q fun h => by have := (o'.right.no q h).2.1; rw [e] at this; cases this]
    exact z2
  · by_cases h : a ∈ g
    · rw [← Bin a h]; exact e
    · exact O.bp a u ((Bout a h).symm.trans e)
  · by_cases h : a ∈ g
    · exact ⟨(o'.right.no a h).1, (o'.right.no a h).2.1⟩
    · exact O.bz a u ((Bout a h).symm.trans e)
  · rw [List.append_nil]; exact r1
  · obtain ⟨z1, z2, z3⟩ := o'.left.no p hp
    exact ⟨z1, z2, by rw [Bout p (dis p hp)]; exact z3⟩
  · rw [Bout p fun hg => ?_]
    · exact h1
    · obtain ⟨xs, e⟩ := RepWL.what r2 p hg
      exact e.elim (h2 xs) (h3 xs)
  · obtain ⟨R0, fp0, s0, q1, q2⟩ := O1.tr
    cases s0
    rw [List.append_nil] at q1
    obtain ⟨R', s', p'⟩ := back ws hl
    have nB : ∀ p, B' p = none → p ∉ g ∧ B p = none := fun p h => by
      have hg : p ∉ g := fun hg => th p hg ((Bin p hg).symm.trans h)
      exact ⟨hg, (Bout p hg).symm.trans h⟩
    have gB : ∀ p u, B p = some u → p ∉ g := fun p u h hg => by have := (o'.right.no p hg).2.2; rw [h] at this; cases this
    have keep : ∀ p ∈ g, H' p = H p := fun p hp => by
      obtain ⟨u, hu⟩ := Option.ne_none_iff_exists'.mp (th p hp)
      rw [hu]
      exact O1.bp p u ((Bin p hp).trans hu)
    have gz : ∀ p ∈ g, G'.fz p = none ∧ G'.ca p = none := fun p hp => by
      obtain ⟨u, hu⟩ := Option.ne_none_iff_exists'.mp (th p hp)
      exact O1.bz p u ((Bin p hp).trans hu)
    have r3 := RepWP.app q1 (r2.frame le keep)
    have pm2 : ((v, w) :: bor vs sl ws ++ (t ++ Rest)).Perm (((v, w) :: t) ++ R') := by
      refine List.Perm.cons _ ?_
      show (bor vs sl ws ++ (t ++ Rest)).Perm (t ++ R')
      refine List.Perm.trans ?_ (p'.symm.append_left t)
      rw [← List.append_assoc, ← List.append_assoc]
      exact List.perm_append_comm.append_right Rest
    obtain ⟨fp2, r4, pf2⟩ := RepWP.perm pm2 r3
    refine ⟨⟨O1.fz, fun q u e => ?_, O1.cl, O1.fn, O1.sc, fun a u e => ?_, fun a u e => ?_, O.lent.back, R', fp2, s', r4, ?_⟩, trivial⟩
    · obtain ⟨z1, z2, z3⟩ := O1.ca q u e
      exact ⟨z1, (nB q z2).2, z3⟩
    · exact O1.bp a u ((Bout a (gB a u e)).trans e)
    · exact O1.bz a u ((Bout a (gB a u e)).trans e)
    · refine Own.perm ⟨List.nodup_append.mpr ⟨q2.nd, o'.right.nd, fun a ha b hb e => (nB a (q2.no a ha).2.2).1 (e ▸ hb)⟩, fun p hp => ?_⟩ pf2
      rcases List.mem_append.mp hp with hp | hp
      · obtain ⟨z1, z2, z3⟩ := q2.no p hp
        exact ⟨z1, z2, (nB p z3).2⟩
      · exact ⟨(gz p hp).1, (gz p hp).2, (o'.right.no p hp).2.2⟩
/-- an object's __init__: what it promises -/
def spI (I : Inf) (Φ : Fns) (f c : Nat) : SpG := fun vs H Q => ∃ x dx vs' B0 G sl w ws, vs = .ref x :: vs' ∧ vs'.length = sl.length ∧ B0 x = none ∧ Ok I.top (upd B0 x (.ins (I.cl c) dx [])) G [] H [] (vs'.zip (sl.map (·.2))) ∧ Φ f sl = some (w, ws) ∧
  ∀ H' G', G.Le G' → Ok I.top B0 G' [] H' [] ((.ref x, w) :: bor vs' sl ws) → Q .non H'

theorem Ok.guard {I : Inf} {B : Hp} {G : Gh} {σ : L2.St} {H : Hp} {env : Env} {t : List Rt} (O : Ok I B G σ H env t) {x : Addr} {C dx : Addr} (hx : H x = some (.ins C dx [])) (h1 : G.fz x = none) (h2 : G.ca x = none) (h3 : B x = none) : Ok I (upd B x (.ins C dx [])) G σ H env t := by
  obtain ⟨R, fp, s, r, o⟩ := O.tr
  have np : ∀ p ∈ fp, p ≠ x := fun p hp e => by
    obtain ⟨xs, q⟩ := RepWL.what r p hp
    rw [e, hx] at q
    rcases q with q | q <;> cases q
  refine ⟨O.fz, fun q u e => ?_, O.cl, O.fn, O.sc, fun a u e => ?_, fun a u e => ?_, O.lent, R, fp, s, r, o.nd, fun p hp => ?_⟩
  · obtain ⟨a1, a2, a3⟩ := O.ca q u e
    exact ⟨a1, by rw [upd_ne (fun z => by rw [z, h2] at e; cases e)]; exact a2, a3⟩
  · by_cases h : a = x
    · subst h
      rw [upd_same] at e; cases e; exact hx
    · rw [upd_ne h] at e; exact O.bp a u e
  · by_cases h : a = x
    · subst h; exact ⟨h1, h2⟩
    · rw [upd_ne h] at e; exact O.bz a u e
  · obtain ⟨a1, a2, a3⟩ := o.no p hp
    exact ⟨a1, a2, by rw [upd_ne (np p hp)]; exact a3⟩
theorem pick_range {α : Type} (l : List α) : pick l (List.range l.length) = some l := by
  have go : ∀ (js : List Nat), (∀ j ∈ js, j < l.length) → pick l js = some (js.filterMap fun j => l[j]?) := fun js => by
    induction js with
    | nil => intro _; rfl
    | cons j js ih =>
      intro h
      unfold pick
      rw [ih fun i hi => h i (List.mem_cons_of_mem _ hi), List.getElem?_eq_getElem (h j List.mem_cons_self), List.filterMap_cons, List.getElem?_eq_getElem (h j List.mem_cons_self)]
      rfl
  rw [go _ fun j hj => List.mem_range.mp hj, range_get]
theorem make_guards {A : Around} {C : Addr} {us : List Value} {kw : List (Str × Value)} (h : A.guards = some []) : (A.under (.builtin "type.__call__" ⟨.ref C :: us, kw⟩)).guards = some [] := by
  first
    | exact h
    | simp [Around.under, Code.guards, Code.isGuard, guardIds, pushGuards, h]
section
variable {X : Cx} {I : Inf} {Φ : Fns} {k n f c : Nat} {C fa : Addr} {fd : FuncData} {ps : List Str} {sp : SpG} {x : Str} {p pos : Pos} {e : Expr} {es : List Expr} {t : TA} {ma : E}
theorem run_makeG {pins : List (Addr × Obj)} {σ : L2.St} {H : Hp} {s : Shared} {Q : VK} {us : List Value} {vs : List V} (M : Mk X.K C fa) (F : FnG X.prog X.w X.K X.mg X.base k fa fd ps sp) (hr : Room (k + 1) X.A) (hgd : X.A.guards = some []) (hb : BindsG X.K fd ps (n + 1) [] (List.range (n + 1)))
    (J : Inv X pins σ H s) (r : Vals vs us) (hn : vs.length = n)
    (h : ∀ x dx, H x = none → H dx = none → dx ≠ x → sp (.ref x :: vs) (upd (upd H dx (.own x)) x (.ins C dx [])) (fun v H2 => v = .non ∧ Q (.ref x) H2)) :
    wpAny (model X.prog X.w) X.A (call (.ref C) us) (EP X pins σ Q) X.xe s := by
  have hq := h (s.heap.objs.size + 1) s.heap.objs.size (J.hok.fresh (Nat.le_succ _)) (J.hok.fresh (Nat.le_refl _)) (Nat.ne_of_lt (Nat.lt_succ_self _))
  have I2 := L2.Inv.made (C := C) J
  have r2 : Vals (V.ref (s.heap.objs.size + 1) :: vs) (Value.ref (s.heap.objs.size + 1) :: us) := .cons rfl r
  have hl : (Value.ref (s.heap.objs.size + 1) :: us).length = n + 1 := by rw [List.length_cons, ← r.length, hn]
  have hp : pick (Value.ref (s.heap.objs.size + 1) :: us ++ []) (List.range (n + 1)) = some (Value.ref (s.heap.objs.size + 1) :: us) := by
    rw [List.append_nil, ← hl]
    exact pick_range _
  have hbb := hb { s with heap := (s.heap.push PySem.W.emptyDict).push (PySem.W.instObj C s.heap.objs.size) } (Value.ref (s.heap.objs.size + 1) :: us) [] _ I2.kIn hl rfl hp
  refine wpAny_call (L2.make_map (f := fa) J.kIn M.makes M.init (beq_iff_eq.mp M.fn) (codeAny_mono (F.run _ X.stack _ _ ⟨Value.ref (s.heap.objs.size + 1) :: us, []⟩ (Value.ref (s.heap.objs.size + 1) :: us) _ _ (hr.make C us []) (make_guards hgd)
    (I2.env0.make C us []) hbb r2 hq) fun r s' hq' => ?_))
  cases r with
  | error e => exact False.elim hq'
  | ok fl =>
    cases fl with
    | ret u =>
      obtain ⟨v, H', I3, rv, ev, q3⟩ := I2.after hq'
      subst ev
      exact ⟨rv, ⟨V.ref (s.heap.objs.size + 1), H', I3, rfl, q3⟩⟩
    | next => exact False.elim hq'
    | brk => exact False.elim hq'
    | cont => exact False.elim hq'
def tMakeG (C : Addr) (n : Nat) (sp : SpG) (t : TA) : TE := fun σ H Q => t σ H fun vs H1 => vs.length = n ∧ ∀ x dx, H1 x = none → H1 dx = none → dx ≠ x → sp (.ref x :: vs) (upd (upd H1 dx (.own x)) x (.ins C dx [])) (fun v H2 => v = .non ∧ Q (.ref x) H2)
theorem pe_makeG (M : Mk X.K C fa) (F : FnG X.prog X.w X.K X.mg X.base k fa fd ps sp) (hr : Room (k + 1) X.A) (hgd : X.A.guards = some []) (hg : L2.Gl X x) (hm : X.mg x = some (.ref C)) (hb : BindsG X.K fd ps (n + 1) [] (List.range (n + 1)))
    (ha : PA X (e :: es) t) (hdb : (x == ("__debug__" : Str)) = false) (he : starEach (e :: es) X.env = (false, eval e X.env) :: starEach es X.env) (hpl : (backTo pos (starEach es X.env)).any (·.1) = false) :
    PE X (.Call (.Name x p) (e :: es) [] pos) (tMakeG C n sp t) := by
  refine ⟨fun pins s σ H Q J h => ?_⟩
  refine wpAny_Call_Name_kw (L2.ld_glob J hg hm ?_ hdb)
  refine PySem.W.callWith_K (h₀ := X.base) J.ok.mod.kin M.kp (L2.thn (ha.run pos pins s σ H _ J h) fun us s1 ⟨vs, H1, I1, r, hn, q⟩ => ⟨I1.kIn, ?_⟩) he hpl
  exact run_makeG M F hr hgd hb I1 r hn q
theorem se_make (M : Mk X.K (I.cl c) fa) (F : FnG X.prog X.w X.K X.mg X.base k fa fd ps (spI I Φ f c)) (hr : Room (k + 1) X.A) (hgd : X.A.guards = some []) (hg : L2.Gl X x) (hm : X.mg x = some (.ref (I.cl c))) (hb : BindsG X.K fd ps (n + 1) [] (List.range (n + 1)))
    (hn : elen ma = n) (ha : PA X (e :: es) (TAv I Φ ma)) (hdb : (x == ("__debug__" : Str)) = false) (he : starEach (e :: es) X.env = (false, eval e X.env) :: starEach es X.env) (hpl : (backTo pos (starEach es X.env)).any (·.1) = false) :
    PE X (.Call (.Name x p) (e :: es) [] pos) (TEv I Φ (.call f ma .nil (List.range n))) := by
  refine peImp (pe_makeG M F hr hgd hg hm hb ha hdb he hpl) fun σ H Q ⟨B, G, env, t, r, env', O, e, kk⟩ => ?_
  obtain ⟨p, h1, e⟩ := bindSome e
  obtain ⟨q, h2, e⟩ := bindSome e
  cases (show some (([] : List Ev.R), p.2) = some q from h2)
  have l1 := elen_of h1
  have e : (pickL (p.1 ++ []) (List.range n)).bind (fun as => if (rvars as).Nodup then (slotsOf p.2 as).bind fun sl => (Φ f sl).bind fun pp => if pp.2.length = as.length then some (Ev.R.val pp.1, giveBack p.2 as pp.2) else none else none) = some (r, env') := e
  obtain ⟨as, h3, e⟩ := bindSome e
  rw [pickL_eq, List.append_nil, ← hn, ← l1, pick_range] at h3
  cases h3
  split at e
  · rename_i nd
    obtain ⟨sl, h4, e⟩ := bindSome e
    obtain ⟨pp, h5, e⟩ := bindSome e
    split at e
    · rename_i hl
      cases e
      refine ⟨B, G, env, t, p.1, p.2, O, h1, fun vs H1 G1 le1 O1 F1 => ⟨((factL_iff.mp F1).1.trans l1).trans hn, fun x dx hx hdx hne => ?_⟩⟩
      have O2 := O1.step (Step.alloc (f := []) (o := .own x) O1.fz hdx)
      have hx2 : upd H1 dx (.own x) x = none := by rw [upd_ne (Ne.symm hne)]; exact hx
      have O3 := O2.step (Step.alloc (f := []) (o := .ins (I.cl c) dx []) O2.fz hx2)
      obtain ⟨z1, z2, z3⟩ := O2.hpn hx2
      obtain ⟨B', hlen, Oz, hBn, back⟩ := callee_core O3 F1 nd h4
      have hbx : B' x = none := hBn x z3 (fun xs => by rw [upd_same]; exact fun z => nomatch z) (fun xs => by rw [upd_same]; exact fun z => nomatch z)
      exact ⟨x, dx, vs, B', G1, sl, pp.1, pp.2, rfl, hlen, hbx, Oz.guard upd_same z1 z2 hbx, h5, fun H' G' l O' => ⟨rfl, kk (.ref x) H' G' (le1.trans l) (back (.ref x) pp.1 pp.2 H' G' hl l O')⟩⟩
    · cases e
  · cases e
end
end Ev
end
section
set_option linter.all false
set_option autoImplicit false
set_option maxRecDepth 100000
/-! Ev20b: what is frozen, xs[::-1], list(range(n)). -/
namespace Ev
open PySem PySem.Spec PyProof.Rows
open L2 (V HO Hp upd upd_same upd_ne SqL SqT Rd Key Cx PE PT PW PA PC PK TE TT TA OpR IxR UnR CallR VK R2 EP Inv RelV Vals Room)
/-- the last temporary, frozen -/
theorem Ok.frzHead {I : Inf} {B : Hp} {G : Gh} {σ : L2.St} {H : Hp} {env : Env} {t : List Rt} {v : V} {w : W} (O : Ok I B G σ H env ((v, w) :: t)) : ∃ G', G.Le G' ∧ Ok I B G' σ H env ((v, .d (frz w)) :: t) := by
  obtain ⟨f, h1, h2, h3⟩ := O.tmp (k := 0) rfl
  have st : Step G H f (G.freeze H f) H := Step.freeze O.fz
  have rp : Rep (G.freeze H f) v (frz w) := h1.frozen st.le fun p hp => Gh.freeze_at hp
  exact ⟨_, st.le, h3 (w' := .d (frz w)) (f' := []) st (.d rp) List.nodup_nil fun _ h => nomatch h⟩
section
variable {X : Cx} {I : Inf} {Φ : Fns} {a : Expr} {ma : E}
theorem se_fz (ha : PE X a (TEv I Φ ma)) : PE X a (TEv I Φ (.fz ma)) := peImp ha fun σ H Q ⟨B, G, env, t, r, env', O, e, k⟩ => by
  obtain ⟨p, h1, e⟩ := bindSome e
  obtain ⟨q, h2, e⟩ := mapSome e
  cases e
  refine ⟨B, G, env, t, p.1, p.2, O, h1, fun v H1 G1 l P => ?_⟩
  obtain ⟨G2, l2, O2⟩ := P.take h2
  obtain ⟨G3, l3, O3⟩ := O2.frzHead
  exact k v H1 G3 ((l.trans l2).trans l3) ⟨O3, trivial⟩
theorem repL_rev {G : Gh} : ∀ {xs : List V} {ds : List D}, RepL G xs ds → RepL G xs.reverse ds.reverse
  | _, _, .nil => .nil
  | _, _, .cons a b => by
    rw [List.reverse_cons, List.reverse_cons]
    exact RepL.append (repL_rev b) (.cons a .nil)
theorem se_rev {k : Nat} {p1 p2 p3 pos : Pos} (ha : PE X a (TEv I Φ ma)) : PE X (.Subscript a (.Slice none none (some (.UnaryOp .USub (.Constant (.int 1) k p1) p2)) p3) pos) (TEv I Φ (.rev ma)) := peImp (L2.pe_revL ha) fun σ H Q ⟨B, G, env, t, r, env', O, e, kk⟩ => by
  obtain ⟨p, h1, e⟩ := bindSome e
  obtain ⟨q, h2, e⟩ := bindSome e
  refine ⟨B, G, env, t, p.1, p.2, O, h1, fun v H1 G1 l P => ?_⟩
  obtain ⟨G2, l2, O2, sx⟩ := P.1.shell P.2 h2
  split at e
  · rename_i l0 hl
    rw [hl] at sx
    obtain ⟨q0, xs, rfl, hH, rl⟩ := sx
    cases e
    exact ⟨q0, xs, rfl, SqL.of hH, fun q hq => kk _ _ G2 (l.trans l2) ⟨O2.newList hq (repL_rev rl), trivial⟩⟩
  · cases e
theorem repL_rng {G : Gh} {j : Int} : RepL G (L2.rgV 0 j) (rngL 0 j.toNat) := by
  unfold L2.rgV rngL
  rw [Int.sub_zero]
  generalize List.range j.toNat = z
  induction z with
  | nil => exact .nil
  | cons m ms ih => exact .cons (.int _) ih
theorem se_lrng1 {p p2 q pos : Pos} (hc : X.calm = true) (hg : L2.Gl X "list") (hm : X.mg "list" = none) (hg2 : L2.Gl X "range") (hm2 : X.mg "range" = none) (ha : PE X a (TEv I Φ ma))
    (he : starEach [a] X.env = (false, eval a X.env) :: starEach [] X.env) (he2 : starEach [Expr.Call (.Name "range" p2) [a] [] q] X.env = (false, eval (Expr.Call (.Name "range" p2) [a] [] q) X.env) :: starEach [] X.env) :
    PE X (.Call (.Name "list" p) [.Call (.Name "range" p2) [a] [] q] [] pos) (TEv I Φ (.lrng1 ma)) := peImp (L2.pe_listRg hc hg hm (L2.prg_1 hg2 hm2 ha he) he2) fun σ H Q ⟨B, G, env, t, r, env', O, e, k⟩ => by
  obtain ⟨p, h1, e⟩ := bindSome e
  refine ⟨B, G, env, t, p.1, p.2, O, h1, fun v H1 G1 l P => ?_⟩
  split at e
  · rename_i j hj
    split at e
    · rename_i hr
      cases e
      have vx := P.view hj
      cases vx
      rw [Bool.and_eq_true] at hr
      have hr1 := rng_ok hr.1
      have hr2 := of_decide_eq_true hr.2
      exact ⟨j, rfl, ⟨by decide, by decide, hr1.1, hr1.2, by omega⟩, fun q hq => k _ _ G1 l ⟨P.ok.newList hq repL_rng, trivial⟩⟩
    · cases e
  · cases e
end
end Ev
end
section
set_option linter.all false
set_option autoImplicit false
set_option maxRecDepth 100000
/-! Ev21: the checker: is a mini-AST what the text says? -/
namespace Ev
open PySem

/-- what a def's (or a block's) names are -/
structure Gam where
  N : List Str
  sc : Scope
  fn : Str → Bool
/-- a call: the name, how many by place, the keywords, the parameters' order, which def -/
structure CallE where
  x : Str
  n : Nat
  ks : List Str
  js : List Nat
  f : Nat
structure Tab where
  calls : List CallE
  makes : List (CallE × Nat)
  gint : List (Str × Int)
  gstr : List (Str × Str)
  cls : List (Str × Nat)
  flds : Nat → List Str
section
def glB (Γ : Gam) (x : Str) : Bool := decide (Γ.sc.names.lookup x = some .globalImplicit)
def visB (Γ : Gam) (x : Str) : Bool := match Γ.sc.names.lookup x with
  | some .local | some .cell | some .free => true
  | _ => false
def locB (Γ : Gam) (x : Str) : Bool := match Γ.sc.names.lookup x with
  | some .local => true
  | some .cell => Γ.fn x
  | _ => false
def okN (x : Str) : Bool := decide (x ≠ ("__debug__" : Str)) && decide (x ≠ ("__classdict__" : Str))
def nstar : Expr → Bool
  | .Starred .. => false
  | _ => true
def ncomp : Expr → Bool
  | .ListComp .. | .SetComp .. | .DictComp .. => false
  | _ => true
def nset : Expr → Bool
  | .Set .. => false
  | _ => true
def nslice : Expr → Bool
  | .Slice .. => false
  | _ => true
/-- a test that asks for the value's truth -/
def ptest : Expr → Bool
  | .UnaryOp .Not _ _ | .BoolOp .. | .IfExp .. | .Compare .. => false
  | _ => true
def ncall : Expr → Bool
  | .Call (.Name _ _) [] [] _ => false
  | _ => true
def tyName (T : Tab) : Ty → Str → Bool
  | .int, x => decide (x = "int") | .bool, x => decide (x = "bool") | .str, x => decide (x = "str") | .list, x => decide (x = "list") | .tuple, x => decide (x = "tuple") | .dict, x => decide (x = "dict")
  | .obj c, x => T.cls.contains (x, c)
def ckTy (T : Tab) (Γ : Gam) (t : Ty) : Expr → Bool
  | .Name x _ => glB Γ x && tyName T t x && okN x
  | _ => false
def ckTys (T : Tab) (Γ : Gam) : List Ty → List Expr → Bool
  | [], [] => true
  | t :: ts, e :: es => ckTy T Γ t e && ckTys T Γ ts es
  | _, _ => false
def kwNames (kws : List Keyword) : List (Option Str) := kws.map fun k => k.arg
def biName (b : Bi) (x : Str) : Bool := match b with
  | .len => decide (x = "len") | .abs => decide (x = "abs") | .int => decide (x = "int") | .max2 => decide (x = "max") | .max1 => decide (x = "max") | .min2 => decide (x = "min") | .min1 => decide (x = "min")
  | .sum => decide (x = "sum") | .all => decide (x = "all") | .any => decide (x = "any") | .list => decide (x = "list") | .tuple => decide (x = "tuple") | .sorted => decide (x = "sorted") | .repr => decide (x = "repr") | .divmod => decide (x = "divmod")
  | _ => false
/-- a, b = .. : which names change places -/
def ownL (Γ : Gam) (own : List Nat) : List (Str × Nat) := own.filterMap fun i => (Γ.N[i]?).map (·, i)
/-- does a comprehension store its name itself? -/
def swB (Γ : Gam) (scope : Scope) (cpos : Pos) (y : Str) (py : Pos) : Bool :=
  decide (Γ.sc.names.lookup y = some .local) && (py.line == cpos.line) && !(scope.names.any fun (n, k) => n == y && (k == .local || k == .cell))
def blkG (Γ : Gam) (scope : Scope) : Gam := ⟨Γ.N, L2.relS scope Γ.sc, fun x => scope.names.lookup x == some .cell⟩
def nswap (ts : List Expr) : Expr → Bool
  | .Tuple vs _ _ => !(ts.length == 2 || ts.length == 3) || vs.length != ts.length
  | _ => true

structure Ck where
  e : Gam → Expr → Bool
  t : Gam → Expr → Bool
  bo : Gam → BoolOp → List Expr → Bool
  bt : Gam → BoolOp → List Expr → Bool
  es : Gam → List Expr → Bool
  kw : Gam → List Keyword → Bool
  tk : Gam → List Expr → Bool
  o : Gam → Option Expr → Bool
  i : Gam → Expr → Expr → Bool
  a : Gam → Expr → Bool
  as : Gam → List Expr → Bool
  ifs : Gam → List Expr → Bool
  s : Gam → Stmt → Bool
  ss : Gam → List Stmt → Bool
def noCk : Ck := ⟨fun _ _ => false, fun _ _ => false, fun _ _ _ => false, fun _ _ _ => false, fun _ _ => false, fun _ _ => false, fun _ _ => false, fun _ _ => false, fun _ _ _ => false, fun _ _ => false, fun _ _ => false, fun _ _ => false, fun _ _ => false, fun _ _ => false⟩
/-- an expression whose test is its value's truth -/
def ofC (f : Gam → Expr → Bool) : Ck := { noCk with
  e := f
  t := fun Γ e => ptest e && f Γ e
  bo := fun Γ _ es => match es with | [x] => f Γ x | _ => false
  bt := fun Γ _ es => match es with | [x] => ptest x && f Γ x | _ => false
  o := fun Γ oe => match oe with | some x => f Γ x | none => false
  ifs := fun Γ es => match es with | [x] => ptest x && f Γ x | _ => false }
/-- an expression with a test of its own -/
def ofT (f : Gam → Expr → Bool) (g : Gam → Expr → Bool) : Ck := { noCk with
  e := f
  t := g
  bo := fun Γ _ es => match es with | [x] => f Γ x | _ => false
  bt := fun Γ _ es => match es with | [x] => g Γ x | _ => false
  ifs := fun Γ es => match es with | [x] => g Γ x | _ => false }
variable (T : Tab)
def ckVar (i : Nat) : Gam → Expr → Bool := fun Γ e => match e with
  | .Name x _ => decide (Γ.N[i]? = some x) && visB Γ x && okN x
  | _ => false
def ck : E → Ck
  | .none_ => { ofT (fun _ e => match e with | .Constant .none _ _ => true | _ => false) (fun _ _ => false) with t := fun _ _ => false }
  | .bool b => { ofT (fun _ e => match e with | .Constant (.bool c) _ _ => decide (b = c) | _ => false) (fun _ e => match e with | .Constant (.bool c) _ _ => decide (b = c) | _ => false) with
      ifs := fun _ es => es.isEmpty && b }
  | .int i => ofC fun Γ e => match e with
    | .Constant (.int c) _ _ => decide (i = c)
    | .Name x _ => glB Γ x && okN x && T.gint.contains (x, i)
    | _ => false
  | .str s => ofC fun Γ e => match e with
    | .Constant (.str c) _ _ => decide (s = c)
    | .Name x _ => glB Γ x && okN x && T.gstr.contains (x, s)
    | _ => false
  | .var i => ofC (ckVar i)
  | .nil => { noCk with es := fun _ es => es.isEmpty, kw := fun _ ks => ks.isEmpty, tk := fun _ es => es.isEmpty, o := fun _ oe => oe.isNone, as := fun _ es => es.isEmpty }
  | .cons a r => { noCk with
      es := fun Γ es => match es with | x :: xs => nstar x && (ck a).e Γ x && (ck r).es Γ xs | _ => false,
      kw := fun Γ ks => match ks with | k :: ks => (ck a).e Γ k.value && (ck r).kw Γ ks | _ => false,
      tk := fun Γ es => match es with | x :: xs => nstar x && (ck a).e Γ x && (ck r).tk Γ xs | _ => false,
      as := fun Γ es => match es with | x :: xs => nstar x && (ck a).a Γ x && (ck r).as Γ xs | _ => false }
  | .list es => ofC fun Γ e => match e with | .List xs _ => (ck es).tk Γ xs | _ => false
  | .tup es => ofC fun Γ e => match e with | .Tuple xs _ _ => (ck es).tk Γ xs | _ => false
  | .bin o a b => ofC fun Γ e => match e with | .BinOp x op y _ => decide (op = toOp o) && (ck a).e Γ x && (ck b).e Γ y | _ => false
  | .neg a => ofC fun Γ e => match e with | .UnaryOp .USub x _ => (ck a).e Γ x | _ => false
  | .inv a => ofC fun Γ e => match e with | .UnaryOp .Invert x _ => (ck a).e Γ x | _ => false
  | .cmp o a b => 
    let f := fun Γ e => match e with | .Compare x [op] [y] _ => decide (op = toCop o) && (ck a).e Γ x && (ck b).e Γ y && nset y | _ => false
    ofT f f
  | .chain o o' a b c => 
    let f := fun Γ e => match e with | .Compare x [op, op'] [y, z] _ => decide (op = toCop o) && decide (op' = toCop o') && (ck a).e Γ x && (ck b).e Γ y && (ck c).e Γ z && nset z | _ => false
    ofT f f
  | .and_ a b => 
    let f := fun Γ e => match e with | .BoolOp .And (x :: y :: r) _ => (ck a).e Γ x && (ck b).bo Γ .And (y :: r) | _ => false
    let g := fun Γ e => match e with | .BoolOp .And (x :: y :: r) _ => (ck a).t Γ x && (ck b).bt Γ .And (y :: r) | _ => false
    { ofT f g with
      bo := fun Γ op es => match es with | [x] => f Γ x | x :: y :: r => decide (op = .And) && (ck a).e Γ x && (ck b).bo Γ .And (y :: r) | [] => false,
      bt := fun Γ op es => match es with | [x] => g Γ x | x :: y :: r => decide (op = .And) && (ck a).t Γ x && (ck b).bt Γ .And (y :: r) | [] => false }
  | .or_ a b => 
    let f := fun Γ e => match e with | .BoolOp .Or (x :: y :: r) _ => (ck a).e Γ x && (ck b).bo Γ .Or (y :: r) | _ => false
    let g := fun Γ e => match e with | .BoolOp .Or (x :: y :: r) _ => (ck a).t Γ x && (ck b).bt Γ .Or (y :: r) | _ => false
    { ofT f g with
      bo := fun Γ op es => match es with | [x] => f Γ x | x :: y :: r => decide (op = .Or) && (ck a).e Γ x && (ck b).bo Γ .Or (y :: r) | [] => false,
      bt := fun Γ op es => match es with | [x] => g Γ x | x :: y :: r => decide (op = .Or) && (ck a).t Γ x && (ck b).bt Γ .Or (y :: r) | [] => false }
  | .not_ a => ofT (fun Γ e => match e with | .UnaryOp .Not x _ => (ck a).e Γ x | _ => false) (fun Γ e => match e with | .UnaryOp .Not x _ => (ck a).t Γ x | _ => false)
  | .ite c a b => ofT (fun Γ e => match e with | .IfExp z x y _ => (ck c).t Γ z && (ck a).e Γ x && (ck b).e Γ y | _ => false) fun _ _ => false
  | .sub a b => ofC fun Γ e => match e with | .Subscript x y _ => (ck a).e Γ x && (ck b).e Γ y && nslice y | _ => false
  | .slice a lo hi => ofC fun Γ e => match e with | .Subscript x (.Slice l h none _) _ => (ck a).e Γ x && (ck lo).o Γ l && (ck hi).o Γ h | _ => false
  | .attr a c k => ofC fun Γ e => match e with | .Attribute x f _ => (ck a).e Γ x && ncall x && decide ((T.flds c)[k]? = some f) | _ => false
  | .keep a => ofC fun Γ e => ncomp e && (ck a).e Γ e
  | .fz a => ofC fun Γ e => ncomp e && (ck a).e Γ e
  | .rev a => ofC fun Γ e => match e with | .Subscript x (.Slice none none (some (.UnaryOp .USub (.Constant (.int c) _ _) _)) _) _ => decide (c = 1) && (ck a).e Γ x | _ => false
  | .lrng1 a => ofC fun Γ e => match e with | .Call (.Name x _) [.Call (.Name y _) [z] [] _] [] _ => glB Γ x && decide (x = "list") && glB Γ y && decide (y = "range") && nstar z && (ck a).e Γ z | _ => false
  | .call f es ks js => ofC fun Γ e => match e with
    | .Call (.Name x _) xs kws _ => glB Γ x && okN x && (ck es).es Γ xs && (ck ks).kw Γ kws && (T.calls.any fun c => decide (c.x = x) && decide (c.n = elen es) && decide (c.ks.map some = kwNames kws) && decide (c.js = js) && decide (c.f = f) && js.isPerm (List.range (c.n + c.ks.length)) && decide (elen ks = c.ks.length)) || (match xs, kws with | _ :: _, [] => glB Γ x && okN x && (ck es).es Γ xs && decide (ks = .nil) && T.makes.any (fun q => decide (q.1.x = x) && decide (q.1.n = elen es) && decide (js = List.range q.1.n) && decide (q.1.f = f)) | _, _ => false)
    | _ => false
  | .bi b es => ofC fun Γ e => match b, e with
    | .sset, .Call (.Name x _) [.Call (.Name y _) [z] [] _] [] _ => glB Γ x && decide (x = "sorted") && glB Γ y && decide (y = "set") && nstar z && (ck es).es Γ [z]
    | .isin ts, .Call (.Name x _) [z, .Tuple cs _ _] [] _ => glB Γ x && decide (x = "isinstance") && nstar z && (ck es).es Γ [z] && ckTys T Γ ts cs && decide (ts.length ≤ 8)
    | .isin ts, .Call (.Name x _) [z, c] [] _ => glB Γ x && decide (x = "isinstance") && nstar z && nstar c && (ck es).es Γ [z] && (match ts with | [t] => ckTy T Γ t c | _ => false)
    | b, .Call (.Name x _) (z :: zs) [] _ => glB Γ x && biName b x && (ck es).es Γ (z :: zs)
    | _, _ => false
  | .comp elt t it c own => ofC fun Γ e => match e with
    | .ListComp x [⟨tg, iter, ifs, 0⟩] scope _ => (ck it).i Γ tg iter && L2.blkC Γ.N Γ.sc scope (ownL Γ own) && decide ((ownL Γ own).map (·.2) = own) && (tns t).all (fun j => own.contains j) && nset iter &&
        (ck t).a (blkG Γ scope) tg && (ck c).ifs (blkG Γ scope) ifs && (ck elt).e (blkG Γ scope) x
    | _ => false
  | .append a b => ofC fun Γ e => match e with | .Call (.Attribute x m ap) [y] [] cp => decide (m = "append") && (ck a).e Γ x && ncall x && (ck b).e Γ y && nstar y && (ap.endLine == cp.line) | _ => false
  | .extend a b => ofC fun Γ e => match e with | .Call (.Attribute x m ap) [y] [] cp => decide (m = "extend") && (ck a).e Γ x && ncall x && (ck b).e Γ y && nstar y && (ap.endLine == cp.line) | _ => false
  | .pop a => ofC fun Γ e => match e with | .Call (.Attribute x m ap) [] [] cp => decide (m = "pop") && (ck a).e Γ x && ncall x && (ap.endLine == cp.line) | _ => false
  | .popAt a b => ofC fun Γ e => match e with | .Call (.Attribute x m ap) [y] [] cp => decide (m = "pop") && (ck a).e Γ x && ncall x && (ck b).e Γ y && nstar y && (ap.endLine == cp.line) | _ => false
  | .index a b => ofC fun Γ e => match e with | .Call (.Attribute x m ap) [y] [] cp => decide (m = "index") && (ck a).e Γ x && ncall x && (ck b).e Γ y && nstar y && (ap.endLine == cp.line) | _ => false
  | .tname i => { noCk with a := fun Γ e => match e with | .Name x _ => decide (Γ.N[i]? = some x) && locB Γ x | _ => false }
  | .ttup ts => { noCk with a := fun Γ e => match e with | .Tuple xs _ _ => (ck ts).as Γ xs && decide (xs.length = tlen ts) | _ => false }
  | .tsub a b => { noCk with a := fun Γ e => match e with | .Subscript x y _ => (ck a).e Γ x && (ck b).e Γ y && nslice y | _ => false }
  | .iof a => { noCk with i := fun Γ _ e => (ck a).e Γ e }
  | .irng1 a => { noCk with i := fun Γ _ e => match e with | .Call (.Name x _) [y] [] _ => glB Γ x && decide (x = "range") && nstar y && (ck a).e Γ y | _ => false }
  | .irng2 a b => { noCk with i := fun Γ _ e => match e with | .Call (.Name x _) [y, z] [] _ => glB Γ x && decide (x = "range") && nstar y && nstar z && (ck a).e Γ y && (ck b).e Γ z | _ => false }
  | .ienum a => { noCk with i := fun Γ tg e => match tg, e with | .Tuple .., .Call (.Name x _) [y] [] _ => glB Γ x && decide (x = "enumerate") && nstar y && (ck a).e Γ y | _, _ => false }
  | .izip a b => { noCk with i := fun Γ tg e => match tg, e with | .Tuple .., .Call (.Name x _) [y, z] [] _ => glB Γ x && decide (x = "zip") && nstar y && nstar z && (ck a).e Γ y && (ck b).e Γ z | _, _ => false }
  | .skip => { noCk with s := fun _ st => match st with | .Pass _ => true | .Expr (.Constant (.str _) _ _) _ => true | _ => false, ss := fun _ sts => sts.isEmpty }
  | .seq a b => { noCk with ss := fun Γ sts => match sts with | st :: r => (ck a).s Γ st && ((ck b).ss Γ r || decide (b = .never)) | _ => false }
  | .asg t e => { noCk with s := fun Γ st => match st with
    | .Assign [.Name y py] (.ListComp x gs scope cp) sp => if swB Γ scope cp y py then
          (match t, e, gs with
          | .tname i, .comp elt t' it c own, [⟨tg, iter, ifs, 0⟩] => decide (Γ.N[i]? = some y) && (ck e).e Γ (.ListComp x gs scope cp)
          | _, _, _ => false)
        else (match t with | .tname i => decide (Γ.N[i]? = some y) && locB Γ y && (ck e).e Γ (.ListComp x gs scope cp) | _ => false)
    | .Assign [.Name y _] v sp => (match t with | .tname i => decide (Γ.N[i]? = some y) && locB Γ y && ncomp v && (ck e).e Γ v | _ => false)
    | .Assign [.Tuple ts k p] v sp => (ck t).a Γ (.Tuple ts k p) && ncomp v && nswap ts v && (ck e).e Γ v
    | .Assign [.Subscript x y p] v sp => (ck t).a Γ (.Subscript x y p) && ncomp v && (ck e).e Γ v
    | _ => false }
  | .par is es => { noCk with s := fun Γ st => match is, st with
    | [i, j], .Assign [.Tuple [.Name x px, .Name y py] _ _] (.Tuple [a, b] _ _) _ => decide (Γ.N[i]? = some x) && decide (Γ.N[j]? = some y) && decide (i ≠ j) && decide (Γ.sc.names.lookup x = some .local) && decide (Γ.sc.names.lookup y = some .local) && decide (x ≠ y) &&
        (px.line == py.line) && nstar a && nstar b && !(foldedForSure 8 a && foldedForSure 8 b) && !(constantsAlone 8 a && constantsAlone 8 b) && (ck es).tk Γ [a, b]
    | [i, j, l], .Assign [.Tuple [.Name x px, .Name y py, .Name z pz] _ _] (.Tuple [a, b, c] _ _) _ => decide (Γ.N[i]? = some x) && decide (Γ.N[j]? = some y) && decide (Γ.N[l]? = some z) && decide (Γ.sc.names.lookup x = some .local) && decide (Γ.sc.names.lookup y = some .local) && decide (Γ.sc.names.lookup z = some .local) &&
        decide (x ≠ y) && decide (x ≠ z) && decide (y ≠ z) && (px.line == py.line) && (px.line == pz.line) && nstar a && nstar b && nstar c && !(foldedForSure 8 a && (foldedForSure 8 b && foldedForSure 8 c)) && !(constantsAlone 8 a && (constantsAlone 8 b && constantsAlone 8 c)) && (ck es).tk Γ [a, b, c]
    | _, _ => false }
  | .ex e => { noCk with s := fun Γ st => match st with | .Expr x _ => (ck e).e Γ x && ncomp x | _ => false }
  | .ret e => { noCk with s := fun Γ st => match st with | .Return (some x) _ => (ck e).e Γ x | _ => false }
  | .retN => { noCk with s := fun Γ st => match st with | .Return none _ => true | _ => false }
  | .if_ c a b => { noCk with s := fun Γ st => match st with | .If z x y _ => (ck c).t Γ z && (ck a).ss Γ x && (ck b).ss Γ y | _ => false }
  | .while_ c b => { noCk with s := fun Γ st => match st with | .While z x [] _ => (ck c).t Γ z && (ck b).ss Γ x | _ => false }
  | .for_ t it b => { noCk with s := fun Γ st => match st with | .For tg iter x [] _ => (ck it).i Γ tg iter && (ck t).a Γ tg && nset iter && (ck b).ss Γ x | _ => false }
  | .brk => { noCk with s := fun Γ st => match st with | .Break _ => true | _ => false }
  | .cont => { noCk with s := fun Γ st => match st with | .Continue _ => true | _ => false }
  | .never => { noCk with s := fun _ _ => true, ss := fun _ _ => true }
  | .init _ _ => noCk
end
end Ev
end
section
set_option linter.all false
set_option autoImplicit false
set_option maxRecDepth 100000
/-! Ev22: what the checker says, holds: side conditions, contexts. -/
namespace Ev
open PySem PySem.Spec PyProof.Rows
open L2 (V HO Hp upd upd_same upd_ne SqL SqT Rd Key Cx PE PT PTs PW PA PC PK PI PG PGs PS PSs PO It Ends TE TT TA TI TS TG VK EP Inv RelV Vals Room FunD FnScope cxOf CX0 E0)

/-! ### side conditions -/
section
variable {env : PySem.Env} {pos : Pos}
theorem star_ok {x : Expr} {xs : List Expr} (h : nstar x = true) : starEach (x :: xs) env = (false, eval x env) :: starEach xs env := by
  cases x <;> first | rfl | cases h
theorem star_any : ∀ {es : List Expr}, es.all nstar = true → (backTo pos (starEach es env)).any (·.1) = false
  | [], _ => rfl
  | x :: xs, h => by
    rw [List.all_cons, Bool.and_eq_true] at h
    rw [star_ok h.1]
    exact star_any (es := xs) h.2
theorem kw_ok : ∀ {kws : List Keyword} {ks : List Str}, ks.map some = kwNames kws → (backToKw pos (keywordEach kws env)).all (·.1.isSome) = true ∧ (backToKw pos (keywordEach kws env)).filterMap (·.1) = ks ∧ (backToKw pos (keywordEach kws env)).any (·.1.isNone) = false
  | [], ks, h => by
    have : ks = [] := List.map_eq_nil_iff.mp h
    subst this
    exact ⟨rfl, rfl, rfl⟩
  | ⟨nm, v, kp⟩ :: kws, [], h => by cases h
  | ⟨nm, v, kp⟩ :: kws, k :: ks, h => by
    have h' : some k :: ks.map some = nm :: kwNames kws := h
    injection h' with h1 h2
    subst h1
    obtain ⟨a, b, c⟩ := kw_ok (kws := kws) h2
    exact ⟨a, congrArg (k :: ·) b, c⟩
theorem swaps_no {v : Expr} {tg : Option Expr} {l : Nat} (h : ncomp v = true) : swapsWith v tg l env = pure false := by
  cases v <;> first | rfl | cases h
theorem folded_no {it : Expr} (h : nset it = true) : ∀ x, foldedSetIterable it env x = pure x := fun x => by
  cases it <;> first | rfl | cases h
theorem base_ok {o : Expr} {m : Str} {w : PySem.Sem Value} (h : ncall o = true) : attributeBase o m env w = w := by
  cases o with
  | Call f as ks p => cases f <;> cases as <;> cases ks <;> first | rfl | cases h
  | _ => rfl
theorem marks_no {op : CmpOp} {y : Expr} (h : nset y = true) : behindInMarks op y = false := by
  cases y <;> first | rfl | cases h
theorem plain_ix {y : Expr} (h : nslice y = true) : L2.PlainIx y := fun o i => by
  cases y <;> first | rfl | cases h
theorem asg_sub {a b : Expr} (h : nslice b = true) : ∀ v, assign (.Subscript a b pos) env v = (do
      let ov ← holding [v] (eval a env)
      let iv ← holding [v, ov] (eval b env)
      standAt pos
      holding [v, ov, iv] (setItem ov iv v)
      release [v, ov, iv] []) := fun v => by
  cases b <;> first | rfl | cases h
theorem truth_of {x : Expr} (h : ptest x = true) : ∀ whole, isTrue x env whole = (do let v ← whole; standAt x.pos; holding [v] (truthy v)) := fun whole => by
  cases x with
  | UnaryOp op _ _ => cases op <;> first | rfl | cases h
  | BoolOp => cases h
  | IfExp => cases h
  | Compare => cases h
  | _ => rfl
theorem tgt_ok : ∀ {es : List Expr}, es.all nstar = true → (assignEach es env).length = es.length ∧ (assignEach es env).findIdx? (·.1) = none
  | [], _ => ⟨rfl, rfl⟩
  | x :: xs, h => by
    rw [List.all_cons, Bool.and_eq_true] at h
    obtain ⟨h1, h2⟩ := tgt_ok (es := xs) h.2
    have e : assignEach (x :: xs) env = (false, assign x env) :: assignEach xs env := by
      have h0 := h.1
      cases x <;> first | rfl | cases h0
    rw [e]
    refine ⟨by rw [List.length_cons, h1, List.length_cons], ?_⟩
    rw [List.findIdx?_cons, h2]
    rfl
theorem asg_each {x : Expr} {xs : List Expr} (h : nstar x = true) : (assignEach (x :: xs) env).map (·.2) = assign x env :: (assignEach xs env).map (·.2) := by
  cases x <;> first | rfl | cases h
theorem few_ok {b : Expr} (h : nstar b = true) : ((PySem.backTo pos (starEach [b] env)).all (fun x => !x.1) && (backToKw pos (keywordEach [] env)).all (fun x => x.1.isSome) && decide ([b].length + ([] : List Keyword).length + (if ([] : List Keyword).isEmpty then 0 else 1) < 30)) = true := by
  rw [star_ok h]
  rfl
theorem stores_no {ts : List Expr} {k : Nat} {p : Pos} {v : Expr} (h : nswap ts v = true) : swappedStores [.Tuple ts k p] v env = pure none := by
  cases v with
  | Tuple vs k2 p2 =>
    have h : (!(ts.length == 2 || ts.length == 3) || vs.length != ts.length) = true := h
    unfold swappedStores
    dsimp only
    rw [if_pos (by rw [h]; rfl)]
  | _ => rfl
theorem stores_par {x y : Str} {px py pt : Pos} {kt k2 : Nat} {a b : Expr} {pt2 : Pos} (hk : env.blockKind = .function) (hx : env.kindOf x = some .local) (hy : env.kindOf y = some .local) (hxy : x ≠ y) (hl : (px.line == py.line) = true) (ha : nstar a = true) (hb : nstar b = true)
    (h1 : (foldedForSure 8 a && foldedForSure 8 b) = false) (h2 : (constantsAlone 8 a && constantsAlone 8 b) = false) : swappedStores [.Tuple [.Name x px, .Name y py] kt pt] (.Tuple [a, b] k2 pt2) env = pure (some [x, y]) := by
  have hl' : py.line = px.line := (beq_iff_eq.mp hl).symm
  have hn : ([x, y] : List Str).eraseDups.length = 2 := by
    rw [List.eraseDups_cons]
    have : (List.filter (fun b => !b == x) [y]) = [y] := by
      rw [List.filter_cons, if_pos (by simp [Ne.symm hxy])]; rfl
    rw [this]; rfl
  have e2 : ([a, b].all (foldedForSure 8)) = false := by simpa [Bool.and_eq_false_iff] using h1
  have e3 : ([a, b].all (constantsAlone 8)) = false := by simpa [Bool.and_eq_false_iff] using h2
  unfold swappedStores
  dsimp only
  rw [if_neg (by rw [hk]; simp)]
  rw [if_neg (by cases a <;> cases b <;> first | exact Bool.false_ne_true | exact absurd ha Bool.false_ne_true | exact absurd hb Bool.false_ne_true)]
  rw [e2, e3]
  simp [hx, hy, hl', Expr.pos, hn]
theorem stores_par3 {x y z : Str} {px py pz pt : Pos} {kt k2 : Nat} {a b c : Expr} {pt2 : Pos} (hk : env.blockKind = .function) (hx : env.kindOf x = some .local) (hy : env.kindOf y = some .local) (hz : env.kindOf z = some .local) (hxy : x ≠ y) (hxz : x ≠ z) (hyz : y ≠ z) (hl : (px.line == py.line) = true) (hl2 : (px.line == pz.line) = true)
    (ha : nstar a = true) (hb : nstar b = true) (hc : nstar c = true) (h1 : (foldedForSure 8 a && (foldedForSure 8 b && foldedForSure 8 c)) = false) (h2 : (constantsAlone 8 a && (constantsAlone 8 b && constantsAlone 8 c)) = false) :
    swappedStores [.Tuple [.Name x px, .Name y py, .Name z pz] kt pt] (.Tuple [a, b, c] k2 pt2) env = pure (some [x, y, z]) := by
  have hl' : py.line = px.line := (beq_iff_eq.mp hl).symm
  have hl2' : pz.line = px.line := (beq_iff_eq.mp hl2).symm
  have hn : ([x, y, z] : List Str).eraseDups.length = 3 := by
    rw [List.eraseDups_cons]
    have e1 : (List.filter (fun b => !b == x) [y, z]) = [y, z] := by
      rw [List.filter_cons, if_pos (by simp [Ne.symm hxy]), List.filter_cons, if_pos (by simp [Ne.symm hxz])]; rfl
    rw [e1, List.eraseDups_cons]
    have e2 : (List.filter (fun b => !b == y) [z]) = [z] := by
      rw [List.filter_cons, if_pos (by simp [Ne.symm hyz])]; rfl
    rw [e2]; rfl
  have e2 : ([a, b, c].all (foldedForSure 8)) = false := by rw [List.all_cons, List.all_cons, List.all_cons, List.all_nil, Bool.and_true]; exact h1
  have e3 : ([a, b, c].all (constantsAlone 8)) = false := by rw [List.all_cons, List.all_cons, List.all_cons, List.all_nil, Bool.and_true]; exact h2
  unfold swappedStores
  dsimp only
  rw [if_neg (by rw [hk]; simp)]
  rw [if_neg (by
    intro h
    obtain ⟨e, he, h⟩ := List.any_eq_true.mp h
    have hne : nstar e = true := by
      rcases List.mem_cons.mp he with rfl | he
      · exact ha
      · rcases List.mem_cons.mp he with rfl | he
        · exact hb
        · rw [List.mem_singleton.mp he]; exact hc
    cases e <;> first | exact absurd h Bool.false_ne_true | exact absurd hne Bool.false_ne_true)]
  rw [e2, e3]
  simp [hx, hy, hz, hl', hl2', Expr.pos, hn]
end
/-! ### contexts -/
def bltNames : List Str := ["len", "abs", "int", "max", "min", "sum", "all", "any", "list", "tuple", "sorted", "repr", "divmod", "isinstance", "set", "range", "enumerate", "zip", "bool", "str", "dict"]
structure Pc (T : Tab) (I : Inf) (Φ : Fns) (prog : Program) (w : World) (K : PySem.W.Frag) (mg : Str → Option Value) (base : Heap) (A : Around) : Prop where
  bl : ∀ x ∈ bltNames, mg x = none
  gi : ∀ x i, (x, i) ∈ T.gint → ∃ u, mg x = some (.int i u)
  gs : ∀ x s, (x, s) ∈ T.gstr → ∃ u, mg x = some (.str s u)
  cls : ∀ x c, (x, c) ∈ T.cls → mg x = some (.ref (I.cl c))
  hcl : ∀ c, ClsOk K (I.cl c)
  fn : ∀ c, I.fn c = T.flds c
  noat : ∀ (c k : Nat) (f : Str), (T.flds c)[k]? = some f → L2.NoAttr K (I.cl c) f
  hS : ScOk K I
  calls : ∀ c ∈ T.calls, ∃ k fa fd ps, FnG prog w K mg base k fa fd ps (spF I Φ c.f) ∧ Room k A ∧ mg c.x = some (.ref fa) ∧ PySem.W.keepIn K (.ref fa) = true ∧ BindsG K fd ps c.n c.ks c.js
  makes : ∀ q ∈ T.makes, ∃ k fa fd ps, L2.Mk K (I.cl q.2) fa ∧ FnG prog w K mg base k fa fd ps (spI I Φ q.1.f q.2) ∧ Room (k + 1) A ∧ mg q.1.x = some (.ref (I.cl q.2)) ∧ BindsG K fd ps (q.1.n + 1) [] (List.range (q.1.n + 1))
structure CxOk (T : Tab) (I : Inf) (Φ : Fns) (Γ : Gam) (X : Cx) : Prop where
  N : X.N = Γ.N
  nd : X.N.Nodup
  sc : X.env.scope = Γ.sc
  fk : Γ.sc.kind = .function
  calm : X.calm = true
  guards : X.A.guards = some []
  units : X.A.units + 66 < cLine
  fn : X.fn = Γ.fn
  xe : X.xe = fun _ _ => False
  P : Pc T I Φ X.prog X.w X.K X.mg X.base X.A
section
variable {T : Tab} {I : Inf} {Φ : Fns} {Γ : Gam} {X : Cx} (ok : CxOk T I Φ Γ X)
include ok
theorem CxOk.gl {x : Str} (h : glB Γ x = true) : L2.Gl X x := by
  show X.env.scope.names.lookup x = _
  rw [ok.sc]
  exact of_decide_eq_true h
theorem CxOk.vis {x : Str} (h : visB Γ x = true) : L2.Vis X.env.scope x := by
  rw [ok.sc]
  unfold visB at h
  unfold L2.Vis
  split at h
  · rename_i e; exact .inl e
  · rename_i e; exact .inr (.inl e)
  · rename_i e; exact .inr (.inr e)
  · cases h
theorem CxOk.loc {x : Str} (h : locB Γ x = true) : L2.Loc X.env.scope x ∧ (X.fn x = true ∨ X.env.scope.names.lookup x = some .local) := by
  rw [ok.sc, ok.fn]
  unfold locB at h
  unfold L2.Loc
  split at h
  · rename_i e; exact ⟨.inl e, .inr e⟩
  · rename_i e; exact ⟨.inr e, .inl h⟩
  · cases h
theorem CxOk.name {i : Nat} {x : Str} (h : decide (Γ.N[i]? = some x) = true) : X.N[i]? = some x := by
  rw [ok.N]; exact of_decide_eq_true h
theorem CxOk.blk {s : Shared} {H : Hp} {C : Addr} {cl : List (Str × Addr)} {fp : List Addr} {scope : Scope} (hk : scope.kind = .function) : CxOk T I Φ (blkG Γ scope) (X.blk s H scope (compEnvC scope cl C X.env) fp) where
  N := ok.N
  nd := ok.nd
  sc := by
    show relabel scope X.env = L2.relS scope Γ.sc
    rw [← ok.sc]; rfl
  fk := hk
  calm := ok.calm
  guards := ok.guards
  units := ok.units
  fn := rfl
  xe := rfl
  P := ok.P
omit ok in
theorem okN_db {x : Str} (h : okN x = true) : (x == ("__debug__" : Str)) = false ∧ (x == ("__classdict__" : Str)) = false := by
  unfold okN at h
  simp only [Bool.and_eq_true, decide_eq_true_eq] at h
  exact ⟨beq_eq_false_iff_ne.mpr h.1, beq_eq_false_iff_ne.mpr h.2⟩
end
end Ev
end
section
set_option linter.all false
set_option autoImplicit false
set_option maxRecDepth 100000
/-! Ev23: what the checker says, holds. -/
namespace Ev
open PySem PySem.Spec PyProof.Rows
open L2 (V HO Hp upd upd_same upd_ne SqL SqT Rd Key Cx PE PT PTs PW PA PC PK PI PG PGs PS PSs PO It Ends TE TT TA TI TS TG VK EP Inv RelV Vals Room FunD FnScope cxOf CX0 E0)

structure Good (T : Tab) (I : Inf) (Φ : Fns) (m : E) : Prop where
  e : ∀ {Γ X} (ok : CxOk T I Φ Γ X) (br : Brs) {x : Expr}, (ck T m).e Γ x = true → PE X x (TEv (I.wb br) Φ m)
  p : ∀ {Γ X} (ok : CxOk T I Φ Γ X) (br : Brs) {x : Expr}, (ck T m).e Γ x = true → pureE m = true → PE X x (TPv (I.wb br) Φ m)
  t : ∀ {Γ X} (ok : CxOk T I Φ Γ X) (br : Brs) {x : Expr}, (ck T m).t Γ x = true → PT X x (TTv (I.wb br) Φ m)
  bo : ∀ {Γ X} (ok : CxOk T I Φ Γ X) (br : Brs) {op : BoolOp} {es : List Expr} {pos : Pos}, (ck T m).bo Γ op es = true → PE X (.BoolOp op es pos) (TEv (I.wb br) Φ m)
  bt : ∀ {Γ X} (ok : CxOk T I Φ Γ X) (br : Brs) {op : BoolOp} {es : List Expr} {pos : Pos}, (ck T m).bt Γ op es = true → PW X (.BoolOp op es pos) (TTv (I.wb br) Φ m)
  es : ∀ {Γ X} (ok : CxOk T I Φ Γ X) (br : Brs) {xs : List Expr}, (ck T m).es Γ xs = true → PA X xs (TAv (I.wb br) Φ m) ∧ xs.all nstar = true ∧ xs.length = elen m
  kw : ∀ {Γ X} (ok : CxOk T I Φ Γ X) (br : Brs) {ks : List Keyword}, (ck T m).kw Γ ks = true → PK X ks (TAv (I.wb br) Φ m)
  tk : ∀ {Γ X} (ok : CxOk T I Φ Γ X) (br : Brs) {xs : List Expr}, (ck T m).tk Γ xs = true → PA X xs (TKv (I.wb br) Φ m)
  o : ∀ {Γ X} (ok : CxOk T I Φ Γ X) (br : Brs) {x : Option Expr}, (ck T m).o Γ x = true → PO X x (TOv (I.wb br) Φ m)
  i : ∀ {Γ X} (ok : CxOk T I Φ Γ X) (br : Brs) {tg x : Expr}, (ck T m).i Γ tg x = true → PI X tg x (TIv (I.wb br) Φ m)
  a : ∀ {Γ X} (ok : CxOk T I Φ Γ X) (br : Brs) {x : Expr}, (ck T m).a Γ x = true → PG X x (TGv (I.wb br) Φ m)
  as : ∀ {Γ X} (ok : CxOk T I Φ Γ X) (br : Brs) {xs : List Expr}, (ck T m).as Γ xs = true → PGs X xs (TGsv (I.wb br) Φ m) ∧ xs.all nstar = true
  ifs : ∀ {Γ X} (ok : CxOk T I Φ Γ X) (br : Brs) {xs : List Expr}, (ck T m).ifs Γ xs = true → PTs X xs (TTv (I.wb br) Φ m)
  s : ∀ {Γ X} (ok : CxOk T I Φ Γ X) (br : Brs) {st : Stmt}, (ck T m).s Γ st = true → PS X st (TSv (I.wb br) Φ m)
  ss : ∀ {Γ X} (ok : CxOk T I Φ Γ X) (br : Brs) {sts : List Stmt}, (ck T m).ss Γ sts = true → PSs X sts (TSv (I.wb br) Φ m)
  one : ∀ {Γ X} (ok : CxOk T I Φ Γ X) (br : Brs) {z : Expr}, (ck T m).es Γ [z] = true → ∃ ma, m = .cons ma .nil ∧ PE X z (TEv (I.wb br) Φ ma)
  lc : ∀ {Γ X} (ok : CxOk T I Φ Γ X) (br : Brs) {elt : Expr} {gs : List Comprehension} {scope : Scope} {cp py sp : Pos} {i : Nat} {y : Str}, (ck T m).e Γ (.ListComp elt gs scope cp) = true → X.N[i]? = some y → X.env.scope.names.lookup y = some .local →
    swapsWith (.ListComp elt gs scope cp) (some (.Name y py)) sp.line X.env = pure true → PS X (.Assign [.Name y py] (.ListComp elt gs scope cp) sp) (TSv (I.wb br) Φ (.asg (.tname i) m))

section
variable {T : Tab} {I : Inf} {Φ : Fns} {m : E}
theorem ff {P : Prop} (h : false = true) : P := Bool.noConfusion h
theorem good_ofC {f : Gam → Expr → Bool} (hck : ck T m = ofC f) (ht : PlainT Φ m) (ho : PlainO Φ m) (hl : ∀ Γ elt gs scope cp, f Γ (.ListComp elt gs scope cp) = false)
    (he : ∀ {Γ X} (ok : CxOk T I Φ Γ X) (br : Brs) {x : Expr}, f Γ x = true → PE X x (TEv (I.wb br) Φ m)) (hp : ∀ {Γ X} (ok : CxOk T I Φ Γ X) (br : Brs) {x : Expr}, f Γ x = true → pureE m = true → PE X x (TPv (I.wb br) Φ m)) : Good T I Φ m := by
  have tt : ∀ {Γ X} (ok : CxOk T I Φ Γ X) (br : Brs) {x : Expr}, (ptest x && f Γ x) = true → PT X x (TTv (I.wb br) Φ m) := fun {Γ X} ok br {x} h => by
    rw [Bool.and_eq_true] at h
    exact st_truth ht (he ok br h.2) (truth_of h.1)
  refine ⟨fun {Γ X} ok br {x} h => ?_, fun {Γ X} ok br {x} h => ?_, fun {Γ X} ok br {x} h => ?_, fun {Γ X} ok br {op es pos} h => ?_, fun {Γ X} ok br {op es pos} h => ?_, fun {Γ X} ok br {xs} h => ?_, fun {Γ X} ok br {ks} h => ?_, fun {Γ X} ok br {xs} h => ?_, fun {Γ X} ok br {x} h => ?_, fun {Γ X} ok br {tg x} h => ?_,
    fun {Γ X} ok br {x} h => ?_, fun {Γ X} ok br {xs} h => ?_, fun {Γ X} ok br {xs} h => ?_, fun {Γ X} ok br {st} h => ?_, fun {Γ X} ok br {sts} h => ?_, fun {Γ X} ok br {z} h => ?_, fun {Γ X} ok br {elt gs scope cp py sp i y} h => ?_⟩ <;> rw [hck] at h
  · exact he ok br h
  · exact hp ok br h
  · exact tt ok br h
  · match es, h with
    | [x], h => exact se_one (he ok br h)
    | [], h => exact ff h
    | _ :: _ :: _, h => exact ff h
  · match es, h with
    | [x], h =>
      cases op with
      | And => exact st_and1 (tt ok br h)
      | Or => exact st_or1 (tt ok br h)
    | [], h => exact ff h
    | _ :: _ :: _, h => exact ff h
  · exact ff h
  · exact ff h
  · exact ff h
  · match x, h with
    | some x, h => exact so_some ho (he ok br h)
    | none, h => exact ff h
  · exact ff h
  · exact ff h
  · exact ff h
  · match xs, h with
    | [x], h => exact L2.pts_one (tt ok br h)
    | [], h => exact ff h
    | _ :: _ :: _, h => exact ff h
  · exact ff h
  · exact ff h
  · exact ff h
  · exact ff ((hl Γ elt gs scope cp).symm.trans h)
theorem good_ofT {f g : Gam → Expr → Bool} (hck : ck T m = ofT f g) (hl : ∀ Γ elt gs scope cp, f Γ (.ListComp elt gs scope cp) = false)
    (hp : ∀ {Γ X} (ok : CxOk T I Φ Γ X) (br : Brs) {x : Expr}, f Γ x = true → pureE m = true → PE X x (TPv (I.wb br) Φ m))
    (he : ∀ {Γ X} (ok : CxOk T I Φ Γ X) (br : Brs) {x : Expr}, f Γ x = true → PE X x (TEv (I.wb br) Φ m)) (tt : ∀ {Γ X} (ok : CxOk T I Φ Γ X) (br : Brs) {x : Expr}, g Γ x = true → PT X x (TTv (I.wb br) Φ m)) : Good T I Φ m := by
  refine ⟨fun {Γ X} ok br {x} h => ?_, fun {Γ X} ok br {x} h => ?_, fun {Γ X} ok br {x} h => ?_, fun {Γ X} ok br {op es pos} h => ?_, fun {Γ X} ok br {op es pos} h => ?_, fun {Γ X} ok br {xs} h => ?_, fun {Γ X} ok br {ks} h => ?_, fun {Γ X} ok br {xs} h => ?_, fun {Γ X} ok br {x} h => ?_, fun {Γ X} ok br {tg x} h => ?_,
    fun {Γ X} ok br {x} h => ?_, fun {Γ X} ok br {xs} h => ?_, fun {Γ X} ok br {xs} h => ?_, fun {Γ X} ok br {st} h => ?_, fun {Γ X} ok br {sts} h => ?_, fun {Γ X} ok br {z} h => ?_, fun {Γ X} ok br {elt gs scope cp py sp i y} h => ?_⟩ <;> rw [hck] at h
  · exact he ok br h
  · exact hp ok br h
  · exact tt ok br h
  · match es, h with
    | [x], h => exact se_one (he ok br h)
    | [], h => exact ff h
    | _ :: _ :: _, h => exact ff h
  · match es, h with
    | [x], h =>
      cases op with
      | And => exact st_and1 (tt ok br h)
      | Or => exact st_or1 (tt ok br h)
    | [], h => exact ff h
    | _ :: _ :: _, h => exact ff h
  · exact ff h
  · exact ff h
  · exact ff h
  · exact ff h
  · exact ff h
  · exact ff h
  · exact ff h
  · match xs, h with
    | [x], h => exact L2.pts_one (tt ok br h)
    | [], h => exact ff h
    | _ :: _ :: _, h => exact ff h
  · exact ff h
  · exact ff h
  · exact ff h
  · exact ff ((hl Γ elt gs scope cp).symm.trans h)
theorem good_i {f : Gam → Expr → Expr → Bool} (hck : ck T m = { noCk with i := f }) (hi : ∀ {Γ X} (ok : CxOk T I Φ Γ X) (br : Brs) {tg x : Expr}, f Γ tg x = true → PI X tg x (TIv (I.wb br) Φ m)) : Good T I Φ m := by
  refine ⟨fun {Γ X} ok br {x} h => ?_, fun {Γ X} ok br {x} h => ?_, fun {Γ X} ok br {x} h => ?_, fun {Γ X} ok br {op es pos} h => ?_, fun {Γ X} ok br {op es pos} h => ?_, fun {Γ X} ok br {xs} h => ?_, fun {Γ X} ok br {ks} h => ?_, fun {Γ X} ok br {xs} h => ?_, fun {Γ X} ok br {x} h => ?_, fun {Γ X} ok br {tg x} h => ?_,
    fun {Γ X} ok br {x} h => ?_, fun {Γ X} ok br {xs} h => ?_, fun {Γ X} ok br {xs} h => ?_, fun {Γ X} ok br {st} h => ?_, fun {Γ X} ok br {sts} h => ?_, fun {Γ X} ok br {z} h => ?_, fun {Γ X} ok br {elt gs scope cp py sp i y} h => ?_⟩ <;> rw [hck] at h <;> first | exact hi ok br h | exact ff h
theorem good_a {f : Gam → Expr → Bool} (hck : ck T m = { noCk with a := f }) (hi : ∀ {Γ X} (ok : CxOk T I Φ Γ X) (br : Brs) {x : Expr}, f Γ x = true → PG X x (TGv (I.wb br) Φ m)) : Good T I Φ m := by
  refine ⟨fun {Γ X} ok br {x} h => ?_, fun {Γ X} ok br {x} h => ?_, fun {Γ X} ok br {x} h => ?_, fun {Γ X} ok br {op es pos} h => ?_, fun {Γ X} ok br {op es pos} h => ?_, fun {Γ X} ok br {xs} h => ?_, fun {Γ X} ok br {ks} h => ?_, fun {Γ X} ok br {xs} h => ?_, fun {Γ X} ok br {x} h => ?_, fun {Γ X} ok br {tg x} h => ?_,
    fun {Γ X} ok br {x} h => ?_, fun {Γ X} ok br {xs} h => ?_, fun {Γ X} ok br {xs} h => ?_, fun {Γ X} ok br {st} h => ?_, fun {Γ X} ok br {sts} h => ?_, fun {Γ X} ok br {z} h => ?_, fun {Γ X} ok br {elt gs scope cp py sp i y} h => ?_⟩ <;> rw [hck] at h <;> first | exact hi ok br h | exact ff h
theorem good_s {f : Gam → Stmt → Bool} {g : Gam → List Stmt → Bool} (hck : ck T m = { noCk with s := f, ss := g }) (hs : ∀ {Γ X} (ok : CxOk T I Φ Γ X) (br : Brs) {st : Stmt}, f Γ st = true → PS X st (TSv (I.wb br) Φ m))
    (hss : ∀ {Γ X} (ok : CxOk T I Φ Γ X) (br : Brs) {sts : List Stmt}, g Γ sts = true → PSs X sts (TSv (I.wb br) Φ m)) : Good T I Φ m := by
  refine ⟨fun {Γ X} ok br {x} h => ?_, fun {Γ X} ok br {x} h => ?_, fun {Γ X} ok br {x} h => ?_, fun {Γ X} ok br {op es pos} h => ?_, fun {Γ X} ok br {op es pos} h => ?_, fun {Γ X} ok br {xs} h => ?_, fun {Γ X} ok br {ks} h => ?_, fun {Γ X} ok br {xs} h => ?_, fun {Γ X} ok br {x} h => ?_, fun {Γ X} ok br {tg x} h => ?_,
    fun {Γ X} ok br {x} h => ?_, fun {Γ X} ok br {xs} h => ?_, fun {Γ X} ok br {xs} h => ?_, fun {Γ X} ok br {st} h => ?_, fun {Γ X} ok br {sts} h => ?_, fun {Γ X} ok br {z} h => ?_, fun {Γ X} ok br {elt gs scope cp py sp i y} h => ?_⟩ <;> rw [hck] at h <;> first | exact hs ok br h | exact hss ok br h | exact ff h
theorem good_s1 {f : Gam → Stmt → Bool} (hck : ck T m = { noCk with s := f }) (hs : ∀ {Γ X} (ok : CxOk T I Φ Γ X) (br : Brs) {st : Stmt}, f Γ st = true → PS X st (TSv (I.wb br) Φ m)) : Good T I Φ m :=
  good_s (g := fun _ _ => false) hck hs fun {_ _} _ _ {_} h => ff h
end
end Ev
end
section
set_option linter.all false
set_option autoImplicit false
set_option maxRecDepth 100000
/-! Ev24: one induction over the mini-AST: the checker is right. -/
namespace Ev
open PySem PySem.Spec PyProof.Rows
open L2 (V HO Hp upd upd_same upd_ne SqL SqT Rd Key Cx PE PT PTs PW PA PC PK PI PG PGs PS PSs PO It Ends TE TT TA TI TS TG VK EP Inv RelV Vals Room FunD FnScope cxOf CX0 E0)

theorem an {a b : Bool} (h : (a && b) = true) : a = true ∧ b = true := by rwa [Bool.and_eq_true] at h
theorem dc {p : Prop} [Decidable p] (h : decide p = true) : p := of_decide_eq_true h
section
variable {X : Cx} {I : Inf} {Φ : Fns}
theorem sp_globI {x : Str} {i : Int} {u : Tok} {p : Pos} (hg : L2.Gl X x) (hm : X.mg x = some (.int i u)) (hd : (x == ("__debug__" : Str)) = false) : PE X (.Name x p) (TPv I Φ (.int i)) := peImp (L2.pe_glob hg hm (v := .int i) ⟨u, rfl⟩ hd) fun σ H Q ⟨B, G, env, t, r, O, e, k⟩ => by
  cases (show some (R.val (.d (.int i)), env) = some (r, env) from e)
  exact k _ (O.res (.int i))
theorem sp_globS {x : Str} {z : Str} {u : Tok} {p : Pos} (hg : L2.Gl X x) (hm : X.mg x = some (.str z u)) (hd : (x == ("__debug__" : Str)) = false) : PE X (.Name x p) (TPv I Φ (.str z)) := peImp (L2.pe_glob hg hm (v := .str z) ⟨u, rfl⟩ hd) fun σ H Q ⟨B, G, env, t, r, O, e, k⟩ => by
  cases (show some (R.val (.d (.str z)), env) = some (r, env) from e)
  exact k _ (O.res (.str z))
theorem st_bool {bo : Bool} {j : Nat} {p : Pos} : PT X (.Constant (.bool bo) j p) (TTv I Φ (.bool bo)) := ptImp (L2.pt_truth L2.pe_bl fun _ => rfl) fun σ H Q ⟨B, G, env, t, k, env', O, e, q⟩ => by
  cases (show some (bo, env) = some (k, env') from e)
  exact ⟨bo, rfl, q H G (.refl G) O⟩
theorem sf_nil : PTs X [] (TTv I Φ (.bool true)) := ⟨fun pins s σ H Q J ⟨B, G, env, t, k, env', O, e, q⟩ => by
  cases (show some (true, env) = some (k, env') from e)
  exact L2.pts_nil.run pins s σ H Q J (q H G (.refl G) O)⟩
end
section
variable {T : Tab} {I : Inf} {Φ : Fns}
theorem good_none : Good T I Φ .none_ := by
  refine good_ofT (f := fun _ e => match e with | .Constant .none _ _ => true | _ => false) (g := fun _ _ => false) rfl (fun _ _ _ _ _ => rfl) (fun {Γ X} ok br {x} h _ => ?_) (fun {Γ X} ok br {x} h => ?_) (fun {Γ X} ok br {x} h => ff h)
  · split at h
    · exact sp_none
    · exact ff h
  · split at h
    · exact se_none
    · exact ff h
theorem good_int (i : Int) : Good T I Φ (.int i) := by
  refine good_ofC rfl rfl rfl (fun _ _ _ _ _ => rfl) (fun {Γ X} ok br {x} h => ?_) (fun {Γ X} ok br {x} h _ => ?_)
  · split at h
    · rw [dc h]; exact se_int
    · obtain ⟨h, h3⟩ := an h
      obtain ⟨h1, h2⟩ := an h
      obtain ⟨u, hm⟩ := ok.P.gi _ _ (List.contains_iff_mem.mp h3)
      exact se_globI (ok.gl h1) hm (okN_db h2).1
    · exact ff h
  · split at h
    · rw [dc h]; exact sp_int
    · obtain ⟨h, h3⟩ := an h
      obtain ⟨h1, h2⟩ := an h
      obtain ⟨u, hm⟩ := ok.P.gi _ _ (List.contains_iff_mem.mp h3)
      exact sp_globI (ok.gl h1) hm (okN_db h2).1
    · exact ff h
theorem good_str (z : Str) : Good T I Φ (.str z) := by
  refine good_ofC rfl rfl rfl (fun _ _ _ _ _ => rfl) (fun {Γ X} ok br {x} h => ?_) (fun {Γ X} ok br {x} h _ => ?_)
  · split at h
    · rw [dc h]; exact se_str
    · obtain ⟨h, h3⟩ := an h
      obtain ⟨h1, h2⟩ := an h
      obtain ⟨u, hm⟩ := ok.P.gs _ _ (List.contains_iff_mem.mp h3)
      exact se_globS (ok.gl h1) hm (okN_db h2).1
    · exact ff h
  · split at h
    · rw [dc h]; exact sp_str
    · obtain ⟨h, h3⟩ := an h
      obtain ⟨h1, h2⟩ := an h
      obtain ⟨u, hm⟩ := ok.P.gs _ _ (List.contains_iff_mem.mp h3)
      exact sp_globS (ok.gl h1) hm (okN_db h2).1
    · exact ff h
theorem good_var (i : Nat) : Good T I Φ (.var i) := by
  refine good_ofC (f := ckVar i) rfl rfl rfl (fun _ _ _ _ _ => rfl) (fun {Γ X} ok br {x} h => ?_) (fun {Γ X} ok br {x} h _ => ?_)
  · unfold ckVar at h
    split at h
    · obtain ⟨h, h3⟩ := an h
      obtain ⟨h1, h2⟩ := an h
      exact se_var (ok.name h1) (ok.vis h2) (okN_db h3).1 (okN_db h3).2
    · exact ff h
  · unfold ckVar at h
    split at h
    · obtain ⟨h, h3⟩ := an h
      obtain ⟨h1, h2⟩ := an h
      exact sp_var (ok.name h1) (ok.vis h2) (okN_db h3).1 (okN_db h3).2
    · exact ff h
theorem np {m : E} {P : Prop} (h : pureE m = true) (e : pureE m = false) : P := ff (e.symm.trans h)
theorem good_list {es : E} (g : Good T I Φ es) : Good T I Φ (.list es) := by
  refine good_ofC rfl rfl rfl (fun _ _ _ _ _ => rfl) (fun {Γ X} ok br {x} h => ?_) (fun {Γ X} ok br {x} h z => ff z)
  split at h
  · exact se_list (g.tk ok br h)
  · exact ff h
theorem good_tup {es : E} (g : Good T I Φ es) : Good T I Φ (.tup es) := by
  refine good_ofC rfl rfl rfl (fun _ _ _ _ _ => rfl) (fun {Γ X} ok br {x} h => ?_) (fun {Γ X} ok br {x} h z => ff z)
  split at h
  · exact se_tup (g.tk ok br h)
  · exact ff h
theorem good_bin {o : Bop} {a b : E} (ga : Good T I Φ a) (gb : Good T I Φ b) : Good T I Φ (.bin o a b) := by
  refine good_ofC rfl rfl rfl (fun _ _ _ _ _ => rfl) (fun {Γ X} ok br {x} h => ?_) (fun {Γ X} ok br {x} h z => ff z)
  split at h
  · obtain ⟨h, h3⟩ := an h
    obtain ⟨h1, h2⟩ := an h
    rw [dc h1]
    exact se_bin (ga.e ok br h2) (gb.e ok br h3)
  · exact ff h
theorem good_neg {a : E} (ga : Good T I Φ a) : Good T I Φ (.neg a) := by
  refine good_ofC rfl rfl rfl (fun _ _ _ _ _ => rfl) (fun {Γ X} ok br {x} h => ?_) (fun {Γ X} ok br {x} h z => ff z)
  split at h
  · exact se_neg (ga.e ok br h)
  · exact ff h
theorem good_inv {a : E} (ga : Good T I Φ a) : Good T I Φ (.inv a) := by
  refine good_ofC rfl rfl rfl (fun _ _ _ _ _ => rfl) (fun {Γ X} ok br {x} h => ?_) (fun {Γ X} ok br {x} h z => ff z)
  split at h
  · exact se_inv (ga.e ok br h)
  · exact ff h
theorem u65 {n k : Nat} (h : n + 66 < k) : n + 65 < k := by omega
theorem good_cmp {o : Cop} {a b : E} (ga : Good T I Φ a) (gb : Good T I Φ b) : Good T I Φ (.cmp o a b) := by
  refine good_ofT rfl (fun _ _ _ _ _ => rfl) (fun {Γ X} ok br {x} h z => ff z) (fun {Γ X} ok br {x} h => ?_) (fun {Γ X} ok br {x} h => ?_)
  · split at h
    · obtain ⟨h, h4⟩ := an h
      obtain ⟨h, h3⟩ := an h
      obtain ⟨h1, h2⟩ := an h
      rw [dc h1]
      exact se_cmp (u65 ok.units) (ga.e ok br h2) (gb.e ok br h3) (marks_no h4)
    · exact ff h
  · split at h
    · obtain ⟨h, h4⟩ := an h
      obtain ⟨h, h3⟩ := an h
      obtain ⟨h1, h2⟩ := an h
      rw [dc h1]
      exact st_cmp (u65 ok.units) (ga.e ok br h2) (gb.e ok br h3) (marks_no h4)
    · exact ff h
theorem good_chain {o o' : Cop} {a b c : E} (ga : Good T I Φ a) (gb : Good T I Φ b) (gc : Good T I Φ c) : Good T I Φ (.chain o o' a b c) := by
  refine good_ofT rfl (fun _ _ _ _ _ => rfl) (fun {Γ X} ok br {x} h z => ff z) (fun {Γ X} ok br {x} h => ?_) (fun {Γ X} ok br {x} h => ?_)
  · split at h
    · obtain ⟨h, h6⟩ := an h
      obtain ⟨h, h5⟩ := an h
      obtain ⟨h, h4⟩ := an h
      obtain ⟨h, h3⟩ := an h
      obtain ⟨h1, h2⟩ := an h
      rw [dc h1, dc h2]
      exact se_chain (u65 ok.units) (ga.e ok br h3) (gb.e ok br h4) (gc.e ok br h5) (marks_no h6)
    · exact ff h
  · split at h
    · obtain ⟨h, h6⟩ := an h
      obtain ⟨h, h5⟩ := an h
      obtain ⟨h, h4⟩ := an h
      obtain ⟨h, h3⟩ := an h
      obtain ⟨h1, h2⟩ := an h
      rw [dc h1, dc h2]
      exact st_chain (u65 ok.units) (ga.e ok br h3) (gb.e ok br h4) (gc.e ok br h5) (marks_no h6)
    · exact ff h
theorem good_not {a : E} (ga : Good T I Φ a) : Good T I Φ (.not_ a) := by
  refine good_ofT rfl (fun _ _ _ _ _ => rfl) (fun {Γ X} ok br {x} h z => ff z) (fun {Γ X} ok br {x} h => ?_) (fun {Γ X} ok br {x} h => ?_)
  · split at h
    · exact se_not (ga.e ok br h)
    · exact ff h
  · split at h
    · exact st_not (ga.t ok br h)
    · exact ff h
theorem good_ite {c a b : E} (gc : Good T I Φ c) (ga : Good T I Φ a) (gb : Good T I Φ b) : Good T I Φ (.ite c a b) := by
  refine good_ofT (g := fun _ _ => false) rfl (fun _ _ _ _ _ => rfl) (fun {Γ X} ok br {x} h z => ff z) (fun {Γ X} ok br {x} h => ?_) (fun {Γ X} ok br {x} h => ff h)
  split at h
  · obtain ⟨h, h3⟩ := an h
    obtain ⟨h1, h2⟩ := an h
    exact se_ite (gc.t ok br h1) (ga.e ok br h2) (gb.e ok br h3)
  · exact ff h
theorem good_sub {a b : E} (ga : Good T I Φ a) (gb : Good T I Φ b) : Good T I Φ (.sub a b) := by
  refine good_ofC rfl rfl rfl (fun _ _ _ _ _ => rfl) (fun {Γ X} ok br {x} h => ?_) (fun {Γ X} ok br {x} h z => ff z)
  split at h
  · obtain ⟨h, h3⟩ := an h
    obtain ⟨h1, h2⟩ := an h
    exact se_sub ok.P.hS (ga.e ok br h1) (gb.e ok br h2) (gb.p ok br h2) (plain_ix h3)
  · exact ff h
theorem good_slice {a lo hi : E} (ga : Good T I Φ a) (gl : Good T I Φ lo) (gh : Good T I Φ hi) : Good T I Φ (.slice a lo hi) := by
  refine good_ofC rfl rfl rfl (fun _ _ _ _ _ => rfl) (fun {Γ X} ok br {x} h => ?_) (fun {Γ X} ok br {x} h z => ff z)
  split at h
  · obtain ⟨h, h3⟩ := an h
    obtain ⟨h1, h2⟩ := an h
    exact se_slice ok.P.hS (ga.e ok br h1) (gl.o ok br h2) (gh.o ok br h3)
  · exact ff h
theorem good_attr {a : E} {c k : Nat} (ga : Good T I Φ a) : Good T I Φ (.attr a c k) := by
  refine good_ofC rfl rfl rfl (fun _ _ _ _ _ => rfl) (fun {Γ X} ok br {x} h => ?_) (fun {Γ X} ok br {x} h z => ff z)
  split at h
  · obtain ⟨h, h3⟩ := an h
    obtain ⟨h1, h2⟩ := an h
    exact se_attr (ga.e ok br h1) (base_ok h2) (by show (I.fn c)[k]? = _; rw [ok.P.fn]; exact dc h3) (ok.P.hcl c).cls (ok.P.noat c k _ (dc h3))
  · exact ff h
theorem good_keep {a : E} (ga : Good T I Φ a) : Good T I Φ (.keep a) := by
  refine good_ofC rfl rfl rfl (fun _ _ _ _ _ => rfl) (fun {Γ X} ok br {x} h => ?_) (fun {Γ X} ok br {x} h z => ff z)
  exact se_keep (ga.e ok br (an h).2)
theorem good_fz {a : E} (ga : Good T I Φ a) : Good T I Φ (.fz a) := by
  refine good_ofC rfl rfl rfl (fun _ _ _ _ _ => rfl) (fun {Γ X} ok br {x} h => ?_) (fun {Γ X} ok br {x} h z => ff z)
  exact se_fz (ga.e ok br (an h).2)
theorem good_rev {a : E} (ga : Good T I Φ a) : Good T I Φ (.rev a) := by
  refine good_ofC rfl rfl rfl (fun _ _ _ _ _ => rfl) (fun {Γ X} ok br {x} h => ?_) (fun {Γ X} ok br {x} h z => ff z)
  split at h
  · obtain ⟨h1, h2⟩ := an h
    have e := dc h1
    subst e
    exact se_rev (ga.e ok br h2)
  · exact ff h
theorem good_lrng1 {a : E} (ga : Good T I Φ a) : Good T I Φ (.lrng1 a) := by
  refine good_ofC rfl rfl rfl (fun _ _ _ _ _ => rfl) (fun {Γ X} ok br {x} h => ?_) (fun {Γ X} ok br {x} h z => ff z)
  split at h
  · obtain ⟨h, h6⟩ := an h
    obtain ⟨h, h5⟩ := an h
    obtain ⟨h, h4⟩ := an h
    obtain ⟨h, h3⟩ := an h
    obtain ⟨h1, h2⟩ := an h
    have e1 := dc h2
    have e2 := dc h4
    subst e1; subst e2
    exact se_lrng1 ok.calm (ok.gl h1) (ok.P.bl _ (by decide +kernel)) (ok.gl h3) (ok.P.bl _ (by decide +kernel)) (ga.e ok br h6) (star_ok h5) (star_ok rfl)
  · exact ff h
theorem good_call {f : Nat} {es ks : E} {js : List Nat} (ge : Good T I Φ es) (gk : Good T I Φ ks) : Good T I Φ (.call f es ks js) := by
  refine good_ofC rfl rfl rfl (fun _ _ _ _ _ => rfl) (fun {Γ X} ok br {x} h => ?_) (fun {Γ X} ok br {x} h z => ff z)
  split at h
  · rename_i x p xs kws pos
    rw [Bool.or_eq_true] at h
    rcases h with h | h
    case inr =>
      match xs, kws, h with
      | y :: ys, [], h =>
        obtain ⟨h, h5⟩ := an h
        obtain ⟨h, h4⟩ := an h
        obtain ⟨h, h3⟩ := an h
        obtain ⟨h1, h2⟩ := an h
        obtain ⟨q, hq, h6⟩ := List.any_eq_true.mp h5
        obtain ⟨h6, k4⟩ := an h6
        obtain ⟨h6, k3⟩ := an h6
        obtain ⟨k1, k2⟩ := an h6
        obtain ⟨kk, fa, fd, ps, M, F, hr, hm, hb⟩ := ok.P.makes q hq
        have e0 := dc h4
        have e1 := dc k1
        have e2 := dc k2
        have e3 := dc k3
        have e4 := dc k4
        subst e0; subst e1; subst e3; subst e4
        obtain ⟨pa, hst, hlen⟩ := ge.es ok br h3
        rw [List.all_cons] at hst
        have hst' := an hst
        exact se_make (I := I.wb br) M F hr ok.guards (ok.gl h1) hm hb e2.symm pa (okN_db h2).1 (star_ok hst'.1) (star_any hst'.2)
      | [], _, h => exact ff h
      | _ :: _, _ :: _, h => exact ff h
    obtain ⟨h, h5⟩ := an h
    obtain ⟨h, h4⟩ := an h
    obtain ⟨h, h3⟩ := an h
    obtain ⟨h1, h2⟩ := an h
    obtain ⟨c, hc, h6⟩ := List.any_eq_true.mp h5
    obtain ⟨h6, k7⟩ := an h6
    obtain ⟨h6, k6⟩ := an h6
    obtain ⟨h6, k5⟩ := an h6
    obtain ⟨h6, k4⟩ := an h6
    obtain ⟨h6, k3⟩ := an h6
    obtain ⟨k1, k2⟩ := an h6
    obtain ⟨kk, fa, fd, ps, F, hr, hm, hk, hb⟩ := ok.P.calls c hc
    have e1 := dc k1
    have e2 := dc k2
    have e3 := dc k3
    have e4 := dc k4
    have e5 := dc k5
    subst e1; subst e4; subst e5
    obtain ⟨pa, hst, hlen⟩ := ge.es ok br h3
    have pk := gk.kw ok br h4
    obtain ⟨w1, w2, w3⟩ := kw_ok (env := X.env) (pos := pos) e3
    have hp := List.isPerm_iff.mp k6
    cases xs with
    | nil =>
      have e6 : es = .nil := by
        cases es <;> first | rfl | (exact ff h3)
      subst e6
      rw [e2] at hb hp
      exact se_call0 F hr ok.guards (ok.gl h1) hm hk hb (dc k7) hp pk w1 w2 (okN_db h2).1 (by rw [w3]; rfl)
    | cons y ys =>
      rw [List.all_cons] at hst
      have hst' := an hst
      refine se_call F hr ok.guards (ok.gl h1) hm hk hb e2.symm (dc k7) hp pa pk w1 w2 (okN_db h2).1 (star_ok hst'.1) ?_
      rw [star_any (es := y :: ys) (by rw [List.all_cons, hst'.1, hst'.2]; rfl), w3]
      rfl
  · exact ff h
end
end Ev
end
section
set_option linter.all false
set_option autoImplicit false
set_option maxRecDepth 100000
/-! Ev25: one induction, on: and, or, arguments, built-ins, comprehensions, methods, targets, iterables. -/
namespace Ev
open PySem PySem.Spec PyProof.Rows
open L2 (V HO Hp upd upd_same upd_ne SqL SqT Rd Key Cx PE PT PTs PW PA PC PK PI PG PGs PS PSs PO It Ends TE TT TA TI TS TG VK EP Inv RelV Vals Room FunD FnScope cxOf CX0 E0)
section
variable {T : Tab} {I : Inf} {Φ : Fns}
theorem good_bool (b : Bool) : Good T I Φ (.bool b) := by
  have tt : ∀ {Γ X} (ok : CxOk T I Φ Γ X) (br : Brs) {x : Expr}, (match x with | .Constant (.bool c) _ _ => decide (b = c) | _ => false) = true → PT X x (TTv (I.wb br) Φ (.bool b)) := fun {Γ X} ok br {x} h => by
    split at h
    · rw [dc h]; exact st_bool
    · exact ff h
  refine ⟨fun {Γ X} ok br {x} h => ?_, fun {Γ X} ok br {x} h z => ?_, fun {Γ X} ok br {x} h => ?_, fun {Γ X} ok br {op es pos} h => ?_, fun {Γ X} ok br {op es pos} h => ?_, fun {Γ X} ok br {xs} h => ff h, fun {Γ X} ok br {ks} h => ff h, fun {Γ X} ok br {xs} h => ff h, fun {Γ X} ok br {x} h => ff h, fun {Γ X} ok br {tg x} h => ff h,
    fun {Γ X} ok br {x} h => ff h, fun {Γ X} ok br {xs} h => ff h, fun {Γ X} ok br {xs} h => ?_, fun {Γ X} ok br {st} h => ff h, fun {Γ X} ok br {sts} h => ff h, fun {Γ X} ok br {z} h => ff h, fun {Γ X} ok br {elt gs scope cp py sp i y} h => ff h⟩
  · have h : (match (generalizing := false) x with | .Constant (.bool c) _ _ => decide (b = c) | _ => false) = true := h
    split at h
    · rw [dc h]; exact se_bool
    · exact ff h
  · have h : (match (generalizing := false) x with | .Constant (.bool c) _ _ => decide (b = c) | _ => false) = true := h
    split at h
    · rw [dc h]; exact sp_bool
    · exact ff h
  · exact tt ok br h
  · match es, h with
    | [x], h =>
      have h : (match (generalizing := false) x with | .Constant (.bool c) _ _ => decide (b = c) | _ => false) = true := h
      split at h
      · rw [dc h]; exact se_one se_bool
      · exact ff h
    | [], h => exact ff h
    | _ :: _ :: _, h => exact ff h
  · match es, h with
    | [x], h =>
      cases op with
      | And => exact st_and1 (tt ok br h)
      | Or => exact st_or1 (tt ok br h)
    | [], h => exact ff h
    | _ :: _ :: _, h => exact ff h
  · have h := an h
    rw [h.2]
    have e : xs = [] := List.isEmpty_iff.mp h.1
    rw [e]
    exact sf_nil
theorem good_and {a b : E} (ga : Good T I Φ a) (gb : Good T I Φ b) : Good T I Φ (.and_ a b) := by
  have he : ∀ {Γ X} (ok : CxOk T I Φ Γ X) (br : Brs) {x : Expr}, (match x with | .BoolOp .And (x :: y :: r) _ => (ck T a).e Γ x && (ck T b).bo Γ .And (y :: r) | _ => false) = true → PE X x (TEv (I.wb br) Φ (.and_ a b)) := fun {Γ X} ok br {x} h => by
    split at h
    · obtain ⟨h1, h2⟩ := an h; exact se_and (ga.e ok br h1) (gb.bo ok br h2)
    · exact ff h
  have ht : ∀ {Γ X} (ok : CxOk T I Φ Γ X) (br : Brs) {x : Expr}, (match x with | .BoolOp .And (x :: y :: r) _ => (ck T a).t Γ x && (ck T b).bt Γ .And (y :: r) | _ => false) = true → PT X x (TTv (I.wb br) Φ (.and_ a b)) := fun {Γ X} ok br {x} h => by
    split at h
    · obtain ⟨h1, h2⟩ := an h; exact (st_and (ga.t ok br h1) (gb.bt ok br h2)).pt
    · exact ff h
  refine ⟨fun {Γ X} ok br {x} h => he ok br h, fun {Γ X} ok br {x} h z => ff z, fun {Γ X} ok br {x} h => ht ok br h, fun {Γ X} ok br {op es pos} h => ?_, fun {Γ X} ok br {op es pos} h => ?_, fun {Γ X} ok br {xs} h => ff h, fun {Γ X} ok br {ks} h => ff h, fun {Γ X} ok br {xs} h => ff h, fun {Γ X} ok br {x} h => ff h, fun {Γ X} ok br {tg x} h => ff h,
    fun {Γ X} ok br {x} h => ff h, fun {Γ X} ok br {xs} h => ff h, fun {Γ X} ok br {xs} h => ?_, fun {Γ X} ok br {st} h => ff h, fun {Γ X} ok br {sts} h => ff h, fun {Γ X} ok br {z} h => ff h, fun {Γ X} ok br {elt gs scope cp py sp i y} h => ff h⟩
  · match es, h with
    | [x], h => exact se_one (he ok br h)
    | [], h => exact ff h
    | x :: y :: r, h =>
      obtain ⟨h, h3⟩ := an h
      obtain ⟨h1, h2⟩ := an h
      rw [dc h1]
      exact se_and (ga.e ok br h2) (gb.bo ok br h3)
  · match es, h with
    | [x], h =>
      cases op with
      | And => exact st_and1 (ht ok br h)
      | Or => exact st_or1 (ht ok br h)
    | [], h => exact ff h
    | x :: y :: r, h =>
      obtain ⟨h, h3⟩ := an h
      obtain ⟨h1, h2⟩ := an h
      rw [dc h1]
      exact st_and (ga.t ok br h2) (gb.bt ok br h3)
  · match xs, h with
    | [x], h => exact L2.pts_one (ht ok br h)
    | [], h => exact ff h
    | _ :: _ :: _, h => exact ff h
theorem good_or {a b : E} (ga : Good T I Φ a) (gb : Good T I Φ b) : Good T I Φ (.or_ a b) := by
  have he : ∀ {Γ X} (ok : CxOk T I Φ Γ X) (br : Brs) {x : Expr}, (match x with | .BoolOp .Or (x :: y :: r) _ => (ck T a).e Γ x && (ck T b).bo Γ .Or (y :: r) | _ => false) = true → PE X x (TEv (I.wb br) Φ (.or_ a b)) := fun {Γ X} ok br {x} h => by
    split at h
    · obtain ⟨h1, h2⟩ := an h; exact se_or (ga.e ok br h1) (gb.bo ok br h2)
    · exact ff h
  have ht : ∀ {Γ X} (ok : CxOk T I Φ Γ X) (br : Brs) {x : Expr}, (match x with | .BoolOp .Or (x :: y :: r) _ => (ck T a).t Γ x && (ck T b).bt Γ .Or (y :: r) | _ => false) = true → PT X x (TTv (I.wb br) Φ (.or_ a b)) := fun {Γ X} ok br {x} h => by
    split at h
    · obtain ⟨h1, h2⟩ := an h; exact (st_or (ga.t ok br h1) (gb.bt ok br h2)).pt
    · exact ff h
  refine ⟨fun {Γ X} ok br {x} h => he ok br h, fun {Γ X} ok br {x} h z => ff z, fun {Γ X} ok br {x} h => ht ok br h, fun {Γ X} ok br {op es pos} h => ?_, fun {Γ X} ok br {op es pos} h => ?_, fun {Γ X} ok br {xs} h => ff h, fun {Γ X} ok br {ks} h => ff h, fun {Γ X} ok br {xs} h => ff h, fun {Γ X} ok br {x} h => ff h, fun {Γ X} ok br {tg x} h => ff h,
    fun {Γ X} ok br {x} h => ff h, fun {Γ X} ok br {xs} h => ff h, fun {Γ X} ok br {xs} h => ?_, fun {Γ X} ok br {st} h => ff h, fun {Γ X} ok br {sts} h => ff h, fun {Γ X} ok br {z} h => ff h, fun {Γ X} ok br {elt gs scope cp py sp i y} h => ff h⟩
  · match es, h with
    | [x], h => exact se_one (he ok br h)
    | [], h => exact ff h
    | x :: y :: r, h =>
      obtain ⟨h, h3⟩ := an h
      obtain ⟨h1, h2⟩ := an h
      rw [dc h1]
      exact se_or (ga.e ok br h2) (gb.bo ok br h3)
  · match es, h with
    | [x], h =>
      cases op with
      | And => exact st_and1 (ht ok br h)
      | Or => exact st_or1 (ht ok br h)
    | [], h => exact ff h
    | x :: y :: r, h =>
      obtain ⟨h, h3⟩ := an h
      obtain ⟨h1, h2⟩ := an h
      rw [dc h1]
      exact st_or (ga.t ok br h2) (gb.bt ok br h3)
  · match xs, h with
    | [x], h => exact L2.pts_one (ht ok br h)
    | [], h => exact ff h
    | _ :: _ :: _, h => exact ff h
theorem good_nil : Good T I Φ .nil := by
  refine ⟨fun {Γ X} ok br {x} h => ff h, fun {Γ X} ok br {x} h z => ff z, fun {Γ X} ok br {x} h => ff h, fun {Γ X} ok br {op es pos} h => ff h, fun {Γ X} ok br {op es pos} h => ff h, fun {Γ X} ok br {xs} h => ?_, fun {Γ X} ok br {ks} h => ?_, fun {Γ X} ok br {xs} h => ?_, fun {Γ X} ok br {x} h => ?_, fun {Γ X} ok br {tg x} h => ff h,
    fun {Γ X} ok br {x} h => ff h, fun {Γ X} ok br {xs} h => ?_, fun {Γ X} ok br {xs} h => ff h, fun {Γ X} ok br {st} h => ff h, fun {Γ X} ok br {sts} h => ff h, fun {Γ X} ok br {z} h => ff h, fun {Γ X} ok br {elt gs scope cp py sp i y} h => ff h⟩
  · have e : xs = [] := List.isEmpty_iff.mp h
    rw [e]; exact ⟨sa_nil, rfl, rfl⟩
  · have e : ks = [] := List.isEmpty_iff.mp h
    rw [e]; exact sw_nil
  · have e : xs = [] := List.isEmpty_iff.mp h
    rw [e]; exact sk_nil
  · cases x with
    | none => exact so_nil
    | some x => exact ff h
  · have e : xs = [] := List.isEmpty_iff.mp h
    rw [e]; exact ⟨sgs_nil, rfl⟩
theorem es_none {m : E} {Γ : Gam} (h : (ck T m).es Γ [] = true) : m = .nil := by
  cases m <;> first | rfl | exact ff h
theorem good_cons {a r : E} (ga : Good T I Φ a) (gr : Good T I Φ r) : Good T I Φ (.cons a r) := by
  refine ⟨fun {Γ X} ok br {x} h => ff h, fun {Γ X} ok br {x} h z => ff z, fun {Γ X} ok br {x} h => ff h, fun {Γ X} ok br {op es pos} h => ff h, fun {Γ X} ok br {op es pos} h => ff h, fun {Γ X} ok br {xs} h => ?_, fun {Γ X} ok br {ks} h => ?_, fun {Γ X} ok br {xs} h => ?_, fun {Γ X} ok br {x} h => ff h, fun {Γ X} ok br {tg x} h => ff h,
    fun {Γ X} ok br {x} h => ff h, fun {Γ X} ok br {xs} h => ?_, fun {Γ X} ok br {xs} h => ff h, fun {Γ X} ok br {st} h => ff h, fun {Γ X} ok br {sts} h => ff h, fun {Γ X} ok br {z} h => ?_, fun {Γ X} ok br {elt gs scope cp py sp i y} h => ff h⟩
  · match xs, h with
    | x :: xs, h =>
      obtain ⟨h, h3⟩ := an h
      obtain ⟨h1, h2⟩ := an h
      obtain ⟨q1, q2, q3⟩ := gr.es ok br h3
      refine ⟨sa_cons (ga.e ok br h2) q1 (star_ok h1), ?_, ?_⟩
      · rw [List.all_cons, h1, q2]; rfl
      · show xs.length + 1 = elen r + 1
        rw [q3]
    | [], h => exact ff h
  · match ks, h with
    | ⟨nm, v, kp⟩ :: ks, h =>
      obtain ⟨h1, h2⟩ := an h
      exact sw_cons (ga.e ok br h1) (gr.kw ok br h2)
    | [], h => exact ff h
  · match xs, h with
    | x :: xs, h =>
      obtain ⟨h, h3⟩ := an h
      obtain ⟨h1, h2⟩ := an h
      exact sk_cons (ga.e ok br h2) (gr.tk ok br h3) (star_ok h1)
    | [], h => exact ff h
  · match xs, h with
    | x :: xs, h =>
      obtain ⟨h, h3⟩ := an h
      obtain ⟨h1, h2⟩ := an h
      obtain ⟨q1, q2⟩ := gr.as ok br h3
      exact ⟨sgs_cons (ga.a ok br h2) q1 (asg_each h1), by rw [List.all_cons, h1, q2]; rfl⟩
    | [], h => exact ff h
  · obtain ⟨h, h3⟩ := an h
    obtain ⟨h1, h2⟩ := an h
    exact ⟨a, by rw [es_none h3], ga.e ok br h2⟩
/-! ### built-ins -/
theorem blt {X : Cx} {Γ : Gam} (ok : CxOk T I Φ Γ X) {x : Str} (h : bltNames.contains x = true) : X.mg x = none := ok.P.bl x (List.contains_iff_mem.mp h)
theorem ty_pe {X : Cx} {Γ : Gam} (ok : CxOk T I Φ Γ X) (br : Brs) {t : Ty} {e : Expr} (h : ckTy T Γ t e = true) : PE X e (L2.tC (clsV (I.wb br).cl t)) := by
  unfold ckTy at h
  split at h
  · rename_i x p
    obtain ⟨h, h3⟩ := an h
    obtain ⟨h1, h2⟩ := an h
    cases t with
    | obj c =>
      have hc := ok.P.cls x c (List.contains_iff_mem.mp h2)
      exact L2.pe_glob (v := .ref (I.cl c)) (ok.gl h1) hc rfl (okN_db h3).1
    | int => have e := dc h2; subst e; exact L2.pe_bltn (v := .ty "int") (ok.gl h1) (ok.P.bl _ (by decide +kernel)) rfl rfl (by decide) (by decide)
    | bool => have e := dc h2; subst e; exact L2.pe_bltn (v := .ty "bool") (ok.gl h1) (ok.P.bl _ (by decide +kernel)) rfl rfl (by decide) (by decide)
    | str => have e := dc h2; subst e; exact L2.pe_bltn (v := .ty "str") (ok.gl h1) (ok.P.bl _ (by decide +kernel)) rfl rfl (by decide) (by decide)
    | list => have e := dc h2; subst e; exact L2.pe_bltn (v := .ty "list") (ok.gl h1) (ok.P.bl _ (by decide +kernel)) rfl rfl (by decide) (by decide)
    | tuple => have e := dc h2; subst e; exact L2.pe_bltn (v := .ty "tuple") (ok.gl h1) (ok.P.bl _ (by decide +kernel)) rfl rfl (by decide) (by decide)
    | dict => have e := dc h2; subst e; exact L2.pe_bltn (v := .ty "dict") (ok.gl h1) (ok.P.bl _ (by decide +kernel)) rfl rfl (by decide) (by decide)
  · exact ff h
theorem ty_star {Γ : Gam} {t : Ty} {e : Expr} (h : ckTy T Γ t e = true) : nstar e = true := by
  cases e <;> first | rfl | exact ff h
theorem tys_pa {X : Cx} {Γ : Gam} (ok : CxOk T I Φ Γ X) (br : Brs) : ∀ {ts : List Ty} {es : List Expr}, ckTys T Γ ts es = true → PA X es (tCs (ts.map (clsV (I.wb br).cl)))
  | [], [], _ => pa_cs_nil
  | t :: ts, e :: es, h => by
    obtain ⟨h1, h2⟩ := an h
    exact pa_cs_cons (ty_pe ok br h1) (tys_pa ok br h2) (star_ok (ty_star h1))
  | [], _ :: _, h => ff h
  | _ :: _, [], h => ff h
theorem good_bi {b : Bi} {es : E} (g : Good T I Φ es) : Good T I Φ (.bi b es) := by
  refine good_ofC rfl rfl rfl (fun _ _ _ _ _ => by cases b <;> rfl) (fun {Γ X} ok br {x} h => ?_) (fun {Γ X} ok br {x} h z => ff z)
  split at h
  · -- sorted(set(z))
    obtain ⟨h, h6⟩ := an h
    obtain ⟨h, h5⟩ := an h
    obtain ⟨h, h4⟩ := an h
    obtain ⟨h, h3⟩ := an h
    obtain ⟨h1, h2⟩ := an h
    obtain ⟨ma, rfl, pe⟩ := g.one ok br h6
    have e1 := dc h2
    have e2 := dc h4
    subst e1; subst e2
    exact se_sset ok.calm (ok.gl h1) (ok.P.bl _ (by decide +kernel)) (ok.gl h3) (ok.P.bl _ (by decide +kernel)) pe (star_ok h5) (star_ok rfl)
  · -- isinstance, a tuple of classes
    obtain ⟨h, h6⟩ := an h
    obtain ⟨h, h5⟩ := an h
    obtain ⟨h, h4⟩ := an h
    obtain ⟨h, h3⟩ := an h
    obtain ⟨h1, h2⟩ := an h
    obtain ⟨ma, rfl, pe⟩ := g.one ok br h4
    have e1 := dc h2
    subst e1
    exact se_isinT (I := I.wb br) ok.P.hS ok.P.hcl (Nat.le_trans (dc h6) (by decide)) (ok.gl h1) (ok.P.bl _ (by decide +kernel)) pe (tys_pa ok br h5) (star_ok h3) (star_ok rfl) rfl
  · -- isinstance
    obtain ⟨h, h6⟩ := an h
    obtain ⟨h, h5⟩ := an h
    obtain ⟨h, h4⟩ := an h
    obtain ⟨h, h3⟩ := an h
    obtain ⟨h1, h2⟩ := an h
    obtain ⟨ma, rfl, pe⟩ := g.one ok br h5
    have e1 := dc h2
    subst e1
    split at h6
    · exact se_isin1 (I := I.wb br) ok.P.hS ok.P.hcl (ok.gl h1) (ok.P.bl _ (by decide +kernel)) pe (ty_pe ok br h6) (star_ok h3) (star_ok h4) (star_any (es := [_]) (by rw [List.all_cons, h4]; rfl))
    · exact ff h6
  · rename_i x p z zs pos _ _ _
    obtain ⟨h, h3⟩ := an h
    obtain ⟨h1, h2⟩ := an h
    obtain ⟨pa, hst, _⟩ := g.es ok br h3
    rw [List.all_cons] at hst
    have hst' := an hst
    have hs := star_ok (env := X.env) (xs := zs) hst'.1
    have hp := star_any (env := X.env) (pos := pos) hst'.2
    cases b <;> first
      | exact ff h2
      | (have e1 := dc h2
         subst e1
         first
          | exact se_biF (I := I.wb br) rfl ok.calm ok.guards ok.units (ok.gl h1) (ok.P.bl _ (by decide +kernel)) rfl (by decide) (by decide) pa hs hp (fun _ => nofun) nofun ok.P.hS
          | exact se_biT (I := I.wb br) rfl ok.calm ok.guards ok.units (ok.gl h1) (ok.P.bl _ (by decide +kernel)) rfl (by decide) (by decide) pa hs hp (fun _ => nofun) nofun ok.P.hS)
  · exact ff h
end
end Ev
end
section
set_option linter.all false
set_option autoImplicit false
set_option maxRecDepth 100000
/-! Ev26: one induction, its end. -/
namespace Ev
open PySem PySem.Spec PyProof.Rows
open L2 (V HO Hp upd upd_same upd_ne SqL SqT Rd Key Cx PE PT PTs PW PA PC PK PI PG PGs PS PSs PO It Ends TE TT TA TI TS TG VK EP Inv RelV Vals Room FunD FnScope cxOf CX0 E0)
section
variable {T : Tab} {I : Inf} {Φ : Fns}
theorem good_append {a b : E} (ga : Good T I Φ a) (gb : Good T I Φ b) : Good T I Φ (.append a b) := by
  refine good_ofC rfl rfl rfl (fun _ _ _ _ _ => rfl) (fun {Γ X} ok br {x} h => ?_) (fun {Γ X} ok br {x} h z => ff z)
  split at h
  · obtain ⟨h, h6⟩ := an h
    obtain ⟨h, h5⟩ := an h
    obtain ⟨h, h4⟩ := an h
    obtain ⟨h, h3⟩ := an h
    obtain ⟨h1, h2⟩ := an h
    have e := dc h1
    subst e
    exact se_append (ga.e ok br h2) (gb.e ok br h4) (gb.p ok br h4) (base_ok h3) (star_ok h5) (few_ok h5) h6 rfl
  · exact ff h
theorem good_extend {a b : E} (ga : Good T I Φ a) (gb : Good T I Φ b) : Good T I Φ (.extend a b) := by
  refine good_ofC rfl rfl rfl (fun _ _ _ _ _ => rfl) (fun {Γ X} ok br {x} h => ?_) (fun {Γ X} ok br {x} h z => ff z)
  split at h
  · obtain ⟨h, h6⟩ := an h
    obtain ⟨h, h5⟩ := an h
    obtain ⟨h, h4⟩ := an h
    obtain ⟨h, h3⟩ := an h
    obtain ⟨h1, h2⟩ := an h
    have e := dc h1
    subst e
    exact se_extend (ga.e ok br h2) (gb.e ok br h4) (gb.p ok br h4) (base_ok h3) (star_ok h5) (few_ok h5) h6 rfl
  · exact ff h
theorem good_popAt {a b : E} (ga : Good T I Φ a) (gb : Good T I Φ b) : Good T I Φ (.popAt a b) := by
  refine good_ofC rfl rfl rfl (fun _ _ _ _ _ => rfl) (fun {Γ X} ok br {x} h => ?_) (fun {Γ X} ok br {x} h z => ff z)
  split at h
  · obtain ⟨h, h6⟩ := an h
    obtain ⟨h, h5⟩ := an h
    obtain ⟨h, h4⟩ := an h
    obtain ⟨h, h3⟩ := an h
    obtain ⟨h1, h2⟩ := an h
    have e := dc h1
    subst e
    exact se_popAt (ga.e ok br h2) (gb.e ok br h4) (gb.p ok br h4) (base_ok h3) (star_ok h5) (few_ok h5) h6 rfl
  · exact ff h
theorem good_index {a b : E} (ga : Good T I Φ a) (gb : Good T I Φ b) : Good T I Φ (.index a b) := by
  refine good_ofC rfl rfl rfl (fun _ _ _ _ _ => rfl) (fun {Γ X} ok br {x} h => ?_) (fun {Γ X} ok br {x} h z => ff z)
  split at h
  · obtain ⟨h, h6⟩ := an h
    obtain ⟨h, h5⟩ := an h
    obtain ⟨h, h4⟩ := an h
    obtain ⟨h, h3⟩ := an h
    obtain ⟨h1, h2⟩ := an h
    have e := dc h1
    subst e
    exact se_index (ga.e ok br h2) (gb.e ok br h4) (base_ok h3) (star_ok h5) (few_ok h5) h6 rfl
  · exact ff h
theorem good_pop {a : E} (ga : Good T I Φ a) : Good T I Φ (.pop a) := by
  refine good_ofC rfl rfl rfl (fun _ _ _ _ _ => rfl) (fun {Γ X} ok br {x} h => ?_) (fun {Γ X} ok br {x} h z => ff z)
  split at h
  · obtain ⟨h, h4⟩ := an h
    obtain ⟨h, h3⟩ := an h
    obtain ⟨h1, h2⟩ := an h
    have e := dc h1
    subst e
    exact se_pop (ga.e ok br h2) (base_ok h3) h4
  · exact ff h
/-! ### comprehensions -/
theorem comp_parts {elt t it c : E} {own : List Nat} (ge : Good T I Φ elt) (gt : Good T I Φ t) (gi : Good T I Φ it) (gc : Good T I Φ c) {Γ : Gam} {X : Cx} (ok : CxOk T I Φ Γ X) (br : Brs) {x : Expr} {gs : List Comprehension} {scope : Scope} {cp : Pos}
    (h : (ck T (.comp elt t it c own)).e Γ (.ListComp x gs scope cp) = true) : ∃ tg iter ifs ow, gs = [⟨tg, iter, ifs, 0⟩] ∧ ow.map (·.2) = own ∧ PI X tg iter (TIv (I.wb br) Φ it) ∧ L2.BlkOk X.N X.env.scope scope ow ∧ (∀ j ∈ tns t, j ∈ ow.map (·.2)) ∧
      (∀ (s : Shared) (H : Hp) (C : Addr) (cl : List (Str × Addr)) (fp : List Addr) (br' : Brs), PG (X.blk s H scope (compEnvC scope cl C X.env) fp) tg (TGv ((I.wb br).wb br') Φ t)) ∧
      (∀ (s : Shared) (H : Hp) (C : Addr) (cl : List (Str × Addr)) (fp : List Addr) (br' : Brs), PTs (X.blk s H scope (compEnvC scope cl C X.env) fp) ifs (TTv ((I.wb br).wb br') Φ c)) ∧
      (∀ (s : Shared) (H : Hp) (C : Addr) (cl : List (Str × Addr)) (fp : List Addr) (br' : Brs), PE (X.blk s H scope (compEnvC scope cl C X.env) fp) x (TEv ((I.wb br).wb br') Φ elt)) ∧ ∀ y, foldedSetIterable iter X.env y = pure y := by
  match gs, h with
  | [⟨tg, iter, ifs, 0⟩], h =>
    obtain ⟨h, h8⟩ := an h
    obtain ⟨h, h7⟩ := an h
    obtain ⟨h, h6⟩ := an h
    obtain ⟨h, h5⟩ := an h
    obtain ⟨h, h4⟩ := an h
    obtain ⟨h, h3⟩ := an h
    obtain ⟨h1, h2⟩ := an h
    have bk : L2.BlkOk X.N X.env.scope scope (ownL Γ own) := by rw [ok.N, ok.sc]; exact L2.blkOk_by h2
    have okb : ∀ (s : Shared) (H : Hp) (C : Addr) (cl : List (Str × Addr)) (fp : List Addr), CxOk T I Φ (blkG Γ scope) (X.blk s H scope (compEnvC scope cl C X.env) fp) := fun s H C cl fp => ok.blk bk.kind
    refine ⟨tg, iter, ifs, ownL Γ own, rfl, dc h3, gi.i ok br h1, bk, fun j hj => ?_, fun s H C cl fp br' => gt.a (okb s H C cl fp) br' h6, fun s H C cl fp br' => gc.ifs (okb s H C cl fp) br' h7, fun s H C cl fp br' => ge.e (okb s H C cl fp) br' h8, folded_no h5⟩
    rw [dc h3]
    exact List.contains_iff_mem.mp (List.all_eq_true.mp h4 j hj)
  | [], h => exact ff h
  | [⟨tg, iter, ifs, (n + 1 : Nat)⟩], h => exact ff h
  | [⟨tg, iter, ifs, Int.negSucc n⟩], h => exact ff h
  | ⟨_, _, _, n⟩ :: _ :: _, h =>
    cases n with
    | ofNat n => cases n <;> exact ff h
    | negSucc n => exact ff h
theorem good_comp {elt t it c : E} {own : List Nat} (ge : Good T I Φ elt) (gt : Good T I Φ t) (gi : Good T I Φ it) (gc : Good T I Φ c) : Good T I Φ (.comp elt t it c own) := by
  have he : ∀ {Γ X} (ok : CxOk T I Φ Γ X) (br : Brs) {x : Expr}, (ck T (.comp elt t it c own)).e Γ x = true → PE X x (TEv (I.wb br) Φ (.comp elt t it c own)) := fun {Γ X} ok br {x} h => by
    cases x with
    | ListComp x gs scope cp =>
      obtain ⟨tg, iter, ifs, ow, rfl, rfl, h1, h2, h3, h4, h5, h6, h7⟩ := comp_parts ge gt gi gc ok br h
      exact se_comp ok.calm ok.nd h1 h2 h3 h4 h5 h6 h7
    | _ => exact ff h
  have tt : ∀ {Γ X} (ok : CxOk T I Φ Γ X) (br : Brs) {x : Expr}, (ptest x && (ck T (.comp elt t it c own)).e Γ x) = true → PT X x (TTv (I.wb br) Φ (.comp elt t it c own)) := fun {Γ X} ok br {x} h => by
    rw [Bool.and_eq_true] at h
    exact st_truth rfl (he ok br h.2) (truth_of h.1)
  refine ⟨fun {Γ X} ok br {x} h => he ok br h, fun {Γ X} ok br {x} h z => ff z, fun {Γ X} ok br {x} h => tt ok br h, fun {Γ X} ok br {op es pos} h => ?_, fun {Γ X} ok br {op es pos} h => ?_, fun {Γ X} ok br {xs} h => ff h, fun {Γ X} ok br {ks} h => ff h, fun {Γ X} ok br {xs} h => ff h, fun {Γ X} ok br {x} h => ?_, fun {Γ X} ok br {tg x} h => ff h,
    fun {Γ X} ok br {x} h => ff h, fun {Γ X} ok br {xs} h => ff h, fun {Γ X} ok br {xs} h => ?_, fun {Γ X} ok br {st} h => ff h, fun {Γ X} ok br {sts} h => ff h, fun {Γ X} ok br {z} h => ff h, fun {Γ X} ok br {elt gs scope cp py sp i y} h hi hy hsw => ?_⟩
  · match es, h with
    | [x], h => exact se_one (he ok br h)
    | [], h => exact ff h
    | _ :: _ :: _, h => exact ff h
  · match es, h with
    | [x], h =>
      cases op with
      | And => exact st_and1 (tt ok br h)
      | Or => exact st_or1 (tt ok br h)
    | [], h => exact ff h
    | _ :: _ :: _, h => exact ff h
  · match x, h with
    | some x, h => exact so_some rfl (he ok br h)
    | none, h => exact ff h
  · match xs, h with
    | [x], h => exact L2.pts_one (tt ok br h)
    | [], h => exact ff h
    | _ :: _ :: _, h => exact ff h
  · obtain ⟨tg, iter, ifs, ow, rfl, rfl, h1, h2, h3, h4, h5, h6, h7⟩ := comp_parts ge gt gi gc ok br h
    exact ss_setLc ok.calm ok.nd hi hy hsw h1 h2 h3 h4 h5 h6 h7
/-! ### targets, iterables -/
theorem good_tname (i : Nat) : Good T I Φ (.tname i) := good_a rfl fun {Γ X} ok br {x} h => by
  split at h
  · obtain ⟨h1, h2⟩ := an h
    obtain ⟨l1, l2⟩ := ok.loc h2
    exact sg_name ok.nd (ok.name h1) l1 l2
  · exact ff h
theorem good_ttup {ts : E} (g : Good T I Φ ts) : Good T I Φ (.ttup ts) := good_a rfl fun {Γ X} ok br {x} h => by
  split at h
  · obtain ⟨h1, h2⟩ := an h
    obtain ⟨q1, q2⟩ := g.as ok br h1
    obtain ⟨t1, t2⟩ := tgt_ok (env := X.env) q2
    exact sg_tup ok.calm q1 (t1.trans (dc h2)) t2
  · exact ff h
theorem good_tsub {a b : E} (ga : Good T I Φ a) (gb : Good T I Φ b) : Good T I Φ (.tsub a b) := good_a rfl fun {Γ X} ok br {x} h => by
  split at h
  · obtain ⟨h, h3⟩ := an h
    obtain ⟨h1, h2⟩ := an h
    exact sg_sub (ga.e ok br h1) (gb.e ok br h2) (gb.p ok br h2) (asg_sub h3)
  · exact ff h
theorem good_iof {a : E} (ga : Good T I Φ a) : Good T I Φ (.iof a) := good_i rfl fun {Γ X} ok br {tg x} h => si_of (ga.e ok br h)
theorem good_irng1 {a : E} (ga : Good T I Φ a) : Good T I Φ (.irng1 a) := good_i rfl fun {Γ X} ok br {tg x} h => by
  split at h
  · obtain ⟨h, h4⟩ := an h
    obtain ⟨h, h3⟩ := an h
    obtain ⟨h1, h2⟩ := an h
    have e := dc h2
    subst e
    exact si_rng1 (ok.gl h1) (ok.P.bl _ (by decide +kernel)) (ga.e ok br h4) (star_ok h3)
  · exact ff h
theorem good_irng2 {a b : E} (ga : Good T I Φ a) (gb : Good T I Φ b) : Good T I Φ (.irng2 a b) := good_i rfl fun {Γ X} ok br {tg x} h => by
  split at h
  · obtain ⟨h, h6⟩ := an h
    obtain ⟨h, h5⟩ := an h
    obtain ⟨h, h4⟩ := an h
    obtain ⟨h, h3⟩ := an h
    obtain ⟨h1, h2⟩ := an h
    have e := dc h2
    subst e
    have s2 := star_ok (env := X.env) (xs := []) h4
    exact si_rng2 (ok.gl h1) (ok.P.bl _ (by decide +kernel)) (ga.e ok br h5) (gb.e ok br h6) (by rw [star_ok h3, s2]; rfl) s2 (star_ok h3) s2
  · exact ff h
theorem good_ienum {a : E} (ga : Good T I Φ a) : Good T I Φ (.ienum a) := good_i rfl fun {Γ X} ok br {tg x} h => by
  split at h
  · obtain ⟨h, h4⟩ := an h
    obtain ⟨h, h3⟩ := an h
    obtain ⟨h1, h2⟩ := an h
    have e := dc h2
    subst e
    exact si_enum (ok.gl h1) (ok.P.bl _ (by decide +kernel)) (ga.e ok br h4) (star_ok h3)
  · exact ff h
theorem good_izip {a b : E} (ga : Good T I Φ a) (gb : Good T I Φ b) : Good T I Φ (.izip a b) := good_i rfl fun {Γ X} ok br {tg x} h => by
  split at h
  · obtain ⟨h, h6⟩ := an h
    obtain ⟨h, h5⟩ := an h
    obtain ⟨h, h4⟩ := an h
    obtain ⟨h, h3⟩ := an h
    obtain ⟨h1, h2⟩ := an h
    have e := dc h2
    subst e
    exact si_zip (I := I.wb br) (ok.gl h1) (ok.P.bl _ (by decide +kernel)) (ga.e ok br h5) (fun br' => gb.e ok br' h6) (star_ok h3) (star_ok h4) (star_any (es := [_]) (by rw [List.all_cons, h4]; rfl))
  · exact ff h
/-! ### statements -/
theorem good_skip : Good T I Φ .skip := good_s rfl (fun {Γ X} ok br {st} h => by
    split at h
    · exact ss_pass
    · exact ss_doc
    · exact ff h) fun {Γ X} ok br {sts} h => by
  have e : sts = [] := List.isEmpty_iff.mp h
  rw [e]; exact ss_nil
theorem good_never : Good T I Φ .never := good_s rfl (fun {Γ X} ok br {st} h => ss_never) fun {Γ X} ok br {sts} h => pssImp L2.pss_never fun D σ H ⟨B, G, env, t, f, O, e, k⟩ => nomatch (show (none : Option Fl) = some f from e)
theorem good_seq {a b : E} (ga : Good T I Φ a) (gb : Good T I Φ b) : Good T I Φ (.seq a b) := good_s (f := fun _ _ => false) rfl (fun {Γ X} ok br {st} h => ff h) fun {Γ X} ok br {sts} h => by
  split at h
  · obtain ⟨h1, h2⟩ := an h
    rw [Bool.or_eq_true] at h2
    rcases h2 with h2 | h2
    · exact ss_cons (ga.s ok br h1) (gb.ss ok br h2)
    · rw [dc h2]; exact ss_cut (ga.s ok br h1)
  · exact ff h
theorem good_brk : Good T I Φ .brk := good_s1 rfl fun {Γ X} ok br {st} h => by
  split at h
  · exact ss_brk
  · exact ff h
theorem good_cont : Good T I Φ .cont := good_s1 rfl fun {Γ X} ok br {st} h => by
  split at h
  · exact ss_cont
  · exact ff h
theorem good_retN : Good T I Φ .retN := good_s1 rfl fun {Γ X} ok br {st} h => by
  split at h
  · exact ss_retN
  · exact ff h
theorem good_ret {e : E} (g : Good T I Φ e) : Good T I Φ (.ret e) := good_s1 rfl fun {Γ X} ok br {st} h => by
  split at h
  · exact ss_ret (g.e ok br h)
  · exact ff h
theorem good_ex {e : E} (g : Good T I Φ e) : Good T I Φ (.ex e) := good_s1 rfl fun {Γ X} ok br {st} h => by
  split at h
  · obtain ⟨h1, h2⟩ := an h
    exact ss_ex (g.e ok br h1) (swaps_no h2)
  · exact ff h
theorem good_if {c a b : E} (gc : Good T I Φ c) (ga : Good T I Φ a) (gb : Good T I Φ b) : Good T I Φ (.if_ c a b) := good_s1 rfl fun {Γ X} ok br {st} h => by
  split at h
  · obtain ⟨h, h3⟩ := an h
    obtain ⟨h1, h2⟩ := an h
    exact ss_if (gc.t ok br h1) (ga.ss ok br h2) (gb.ss ok br h3)
  · exact ff h
theorem good_while {c b : E} (gc : Good T I Φ c) (gb : Good T I Φ b) : Good T I Φ (.while_ c b) := good_s1 rfl fun {Γ X} ok br {st} h => by
  split at h
  · obtain ⟨h1, h2⟩ := an h
    exact ss_while ok.xe (gc.t ok br h1) (gb.ss ok br h2)
  · exact ff h
theorem good_for {t it b : E} (gt : Good T I Φ t) (gi : Good T I Φ it) (gb : Good T I Φ b) : Good T I Φ (.for_ t it b) := good_s1 rfl fun {Γ X} ok br {st} h => by
  split at h
  · obtain ⟨h, h4⟩ := an h
    obtain ⟨h, h3⟩ := an h
    obtain ⟨h1, h2⟩ := an h
    exact ss_for ok.xe ok.calm (gi.i ok br h1) (fun br' => gt.a ok br' h2) (fun br' => gb.ss ok br' h4) (folded_no h3)
  · exact ff h
theorem blk_fun {X : Cx} {Γ : Gam} (ok : CxOk T I Φ Γ X) : X.env.blockKind = .function := by
  unfold PySem.Env.blockKind
  rw [ok.sc, ok.fk]
  rfl
theorem not_t {b : Bool} (h : (!b) = true) : b = false := by
  cases b <;> first | rfl | exact ff h
theorem good_par {is : List Nat} {es : E} (g : Good T I Φ es) : Good T I Φ (.par is es) := good_s1 rfl fun {Γ X} ok br {st} h => by
  split at h
  · obtain ⟨h, h12⟩ := an h
    obtain ⟨h, h11⟩ := an h
    obtain ⟨h, h10⟩ := an h
    obtain ⟨h, h9⟩ := an h
    obtain ⟨h, h8⟩ := an h
    obtain ⟨h, h7⟩ := an h
    obtain ⟨h, h6⟩ := an h
    obtain ⟨h, h5⟩ := an h
    obtain ⟨h, h4⟩ := an h
    obtain ⟨h, h3⟩ := an h
    obtain ⟨h1, h2⟩ := an h
    have kx := dc h4
    have ky := dc h5
    rw [← ok.sc] at kx ky
    exact ss_par ok.calm ok.nd (ok.name h1) (ok.name h2) (dc h3) kx ky (g.tk ok br h12) (stores_par (blk_fun ok) kx ky (dc h6) h7 h8 h9 (not_t h10) (not_t h11)) rfl
  · obtain ⟨h, h17⟩ := an h
    obtain ⟨h, h16⟩ := an h
    obtain ⟨h, h15⟩ := an h
    obtain ⟨h, h14⟩ := an h
    obtain ⟨h, h13⟩ := an h
    obtain ⟨h, h12⟩ := an h
    obtain ⟨h, h11⟩ := an h
    obtain ⟨h, h10⟩ := an h
    obtain ⟨h, h9⟩ := an h
    obtain ⟨h, h8⟩ := an h
    obtain ⟨h, h7⟩ := an h
    obtain ⟨h, h6⟩ := an h
    obtain ⟨h, h5⟩ := an h
    obtain ⟨h, h4⟩ := an h
    obtain ⟨h, h3⟩ := an h
    obtain ⟨h1, h2⟩ := an h
    have kx := dc h4
    have ky := dc h5
    have kz := dc h6
    rw [← ok.sc] at kx ky kz
    exact ss_par3 ok.calm ok.nd (ok.name h1) (ok.name h2) (ok.name h3) kx ky kz (g.tk ok br h17) (stores_par3 (blk_fun ok) kx ky kz (dc h7) (dc h8) (dc h9) h10 h11 h12 h13 h14 (not_t h15) (not_t h16)) rfl
  · exact ff h
theorem sw_eq {X : Cx} {Γ : Gam} (ok : CxOk T I Φ Γ X) {x : Expr} {gs : List Comprehension} {scope : Scope} {cp py : Pos} {y : Str} {l : Nat} : swapsWith (.ListComp x gs scope cp) (some (.Name y py)) l X.env = pure (swB Γ scope cp y py) := by
  have hk : X.env.kindOf y = Γ.sc.names.lookup y := by rw [← ok.sc]; rfl
  unfold swapsWith swB
  dsimp only
  rw [blk_fun ok, hk]
  congr 1
  simp only [Expr.pos]
  cases h : Γ.sc.names.lookup y with
  | none => rfl
  | some k => cases k <;> rfl
theorem good_asg {t e : E} (gt : Good T I Φ t) (ge : Good T I Φ e) : Good T I Φ (.asg t e) := good_s1 rfl fun {Γ X} ok br {st} h => by
  split at h
  · rename_i y py x gs scope cp sp
    split at h
    · rename_i hsw
      split at h
      · obtain ⟨h1, h2⟩ := an h
        have hy : Γ.sc.names.lookup y = some .local := by
          unfold swB at hsw
          exact dc (an (an hsw).1).1
        rw [← ok.sc] at hy
        exact ge.lc ok br h2 (ok.name h1) hy ((sw_eq ok).trans (by rw [hsw]))
      · exact ff h
    · rename_i hsw
      split at h
      · obtain ⟨h, h3⟩ := an h
        obtain ⟨h1, h2⟩ := an h
        obtain ⟨l1, l2⟩ := ok.loc h2
        exact ss_set ok.nd (ok.name h1) l1 (ge.e ok br h3) ((sw_eq ok).trans (by rw [Bool.eq_false_iff.mpr hsw])) l2
      · exact ff h
  · split at h
    · obtain ⟨h, h4⟩ := an h
      obtain ⟨h, h3⟩ := an h
      obtain ⟨h1, h2⟩ := an h
      obtain ⟨l1, l2⟩ := ok.loc h2
      exact ss_set ok.nd (ok.name h1) l1 (ge.e ok br h4) (swaps_no h3) l2
    · exact ff h
  · obtain ⟨h, h4⟩ := an h
    obtain ⟨h, h3⟩ := an h
    obtain ⟨h1, h2⟩ := an h
    exact ss_asg (ge.e ok br h4) (gt.a ok br h1) (by rw [swapsWithSole]; exact swaps_no h2) (stores_no h3) rfl
  · obtain ⟨h, h3⟩ := an h
    obtain ⟨h1, h2⟩ := an h
    exact ss_asg (ge.e ok br h3) (gt.a ok br h1) (by rw [swapsWithSole]; exact swaps_no h2) rfl rfl
  · exact ff h
theorem good_init {c : Nat} {es : E} : Good T I Φ (.init c es) := good_s1 (f := fun _ _ => false) rfl fun {Γ X} ok br {st} h => ff h
/-- THE CHECKER IS RIGHT -/
theorem good : ∀ m : E, Good T I Φ m
  | .none_ => good_none
  | .bool b => good_bool b
  | .int i => good_int i
  | .str s => good_str s
  | .var i => good_var i
  | .nil => good_nil
  | .cons a r => good_cons (good a) (good r)
  | .list es => good_list (good es)
  | .tup es => good_tup (good es)
  | .bin _ a b => good_bin (good a) (good b)
  | .neg a => good_neg (good a)
  | .inv a => good_inv (good a)
  | .cmp _ a b => good_cmp (good a) (good b)
  | .chain _ _ a b c => good_chain (good a) (good b) (good c)
  | .and_ a b => good_and (good a) (good b)
  | .or_ a b => good_or (good a) (good b)
  | .not_ a => good_not (good a)
  | .ite c a b => good_ite (good c) (good a) (good b)
  | .sub a b => good_sub (good a) (good b)
  | .slice a l h => good_slice (good a) (good l) (good h)
  | .attr a _ _ => good_attr (good a)
  | .call _ es ks _ => good_call (good es) (good ks)
  | .keep a => good_keep (good a)
  | .bi _ es => good_bi (good es)
  | .fz a => good_fz (good a)
  | .rev a => good_rev (good a)
  | .lrng1 a => good_lrng1 (good a)
  | .comp e t i c _ => good_comp (good e) (good t) (good i) (good c)
  | .append a b => good_append (good a) (good b)
  | .extend a b => good_extend (good a) (good b)
  | .pop a => good_pop (good a)
  | .popAt a b => good_popAt (good a) (good b)
  | .index a b => good_index (good a) (good b)
  | .tname i => good_tname i
  | .ttup ts => good_ttup (good ts)
  | .tsub a b => good_tsub (good a) (good b)
  | .iof a => good_iof (good a)
  | .irng1 a => good_irng1 (good a)
  | .irng2 a b => good_irng2 (good a) (good b)
  | .ienum a => good_ienum (good a)
  | .izip a b => good_izip (good a) (good b)
  | .skip => good_skip
  | .seq a b => good_seq (good a) (good b)
  | .asg t e => good_asg (good t) (good e)
  | .par _ es => good_par (good es)
  | .ex e => good_ex (good e)
  | .ret e => good_ret (good e)
  | .retN => good_retN
  | .if_ c a b => good_if (good c) (good a) (good b)
  | .while_ c b => good_while (good c) (good b)
  | .for_ t i b => good_for (good t) (good i) (good b)
  | .brk => good_brk
  | .cont => good_cont
  | .never => good_never
  | .init _ _ => good_init
end
end Ev
end
section
set_option linter.all false
set_option autoImplicit false
set_option maxRecDepth 100000
/-! Ev27: a program: every def keeps its promise, level by level. -/
namespace Ev
open PySem PySem.Spec PyProof.Rows
open L2 (V HO Hp upd SqL Cx PE PSs VK EP Inv RelV Vals Room FunD FnScope cxOf CX0 E0)

/-- a def of the text: where it stands, its names, its mini-AST -/
structure DefI where
  x : Str
  params : Arguments
  body : List Stmt
  scope : Scope
  N : List Str
  ps : List Str
  m : E
  q : Str
  at_ : Str × Option Str
  cl : Option Nat := none
def DefI.fn (d : DefI) : Fn := { par := match d.cl with | none => d.ps.length | some _ => d.ps.length - 1, size := d.N.length, body := d.m, made := d.cl.isSome }
def DefI.gam (d : DefI) : Gam := ⟨d.N, d.scope, fun _ => true⟩
/-- what of a def the kernel decides -/
def scB (N P : List Str) (sc : Scope) : Bool :=
  (match sc.kind with | .function => true | _ => false) && !sc.isCoroutine && !sc.isGenerator && decide N.Nodup && decide (N.take P.length = P) && (P.all fun x => match sc.names.lookup x with | some .local => true | some .cell => true | _ => false) &&
    (sc.names.all fun y => match y.2 with | .free => false | _ => true)
theorem scB_ok {N P : List Str} {sc : Scope} (h : scB N P sc = true) : FnScope N P sc := by
  unfold scB at h
  obtain ⟨h, h7⟩ := an h
  obtain ⟨h, h6⟩ := an h
  obtain ⟨h, h5⟩ := an h
  obtain ⟨h, h4⟩ := an h
  obtain ⟨h, h3⟩ := an h
  obtain ⟨h1, h2⟩ := an h
  refine ⟨?_, not_t h2, not_t h3, dc h4, dc h5, fun x hx => ?_, fun y hy e => ?_⟩
  · split at h1
    · assumption
    · exact ff h1
  · have := List.all_eq_true.mp h6 x hx
    split at this
    · rename_i e; exact .inl e
    · rename_i e; exact .inr e
    · exact ff this
  · have := List.all_eq_true.mp h7 y hy
    rw [e] at this
    exact ff this
def DefI.ok (T : Tab) (d : DefI) : Bool := scB d.N d.ps d.scope
section
variable {P : Program} {w : World} {K : PySem.W.Frag} {mg : Str → Option Value} {base : Heap} {T : Tab} {I : Inf} {ds : List DefI} {adr : Nat → Addr} {fdv : Nat → FuncData}
/-- the scripts that the written part holds -/
def scK (K : PySem.W.Frag) : Addr → List Int → Prop := fun a ns => ∃ (o : Obj) (its : Array Value) (n : Nat), K.lookup a = some o ∧ o.cls = .type "list" ∧ o.dict = none ∧ o.data = .seq its n ∧ its.size ≤ sizeLine ∧ Vals (ns.map V.int) its.toList
def infOf (K : PySem.W.Frag) (cl : Nat → Addr) (fn : Nat → List Str) (or : D → L2.Key → D → Prop) : Inf := ⟨or, cl, fn, fun _ => none, scK K⟩
theorem infOf_sc {K : PySem.W.Frag} {cl : Nat → Addr} {fn : Nat → List Str} {or : D → L2.Key → D → Prop} : ScOk K (infOf K cl fn or) := fun a ns h => h
/-- the law's def, at a script: what the evaluator says, the def does -/
theorem law_sp {Φ : Fns} {cl : Nat → Addr} {fn : Nat → List Str} {or : D → L2.Key → D → Prop} {i : Nat} {H : Hp} {a : Addr} {ns : List Int} {ws : List W} (hO : L2.Only H) (hS : SqL K H a (ns.map V.int))
    (e : Φ i [(false, .d (.scr ns))] = some (.d (.bool true), ws)) : spF (infOf K cl fn or) Φ i [.ref a] H (fun v _ => v = .bl true) := by
  have rp : Rep ⟨H, fun _ => none, cl, fn, scK K⟩ (.ref a) (.scr ns) := by
    rcases hS with h | h
    · rcases h with h | ⟨ob, h⟩
      · rcases hO a with z | ⟨o, xs, z⟩
        · rw [h] at z; cases z
        · rw [h] at z; cases z
      · exact .scr h
    · exact .scrK h
  refine ⟨fun _ => none, ⟨H, fun _ => none, cl, fn, scK K⟩, [(false, .d (.scr ns))], .d (.bool true), ws, rfl, ⟨fun _ _ h => h, fun _ _ h => (nomatch h), rfl, rfl, rfl, fun _ _ h => (nomatch h), fun _ _ h => (nomatch h), fun _ _ _ h => (nomatch h), [], [], .nil, ?_, Own.nil⟩, e, fun v H' G' l O => ?_⟩
  · exact RepWP.cons (.d rp) .nil
  · have r := O.datum (k := 0) (v := v) (d := .bool true) rfl
    cases r
    rfl
end
end Ev
end
section
set_option linter.all false
set_option autoImplicit false
set_option maxRecDepth 100000
/-! Ev28: an object made. -/
namespace Ev
open PySem PySem.Spec PyProof.Rows
open L2 (V HO Hp upd upd_same upd_ne SqL Cx PE PT PS PSs PA VK TS TE EP Inv RelV Vals Room FunD FnScope cxOf CX0 E0 putF Cls NoAttr)

section
variable {I : Inf} {B B0 : Hp} {G : Gh} {σ : L2.St} {H : Hp} {env : Env} {t : List Rt}
/-- what is not ours is changed with what is known of it -/
theorem Ok.field (O : Ok I B G σ H env t) {x : Addr} {o : HO} (hx : B x = some o) (o' : HO) : Ok I (upd B x o') G σ (upd H x o') env t := by
  obtain ⟨z1, z2⟩ := O.bz x o hx
  obtain ⟨R, fp, s, r, ow⟩ := O.tr
  have np : ∀ p ∈ fp, p ≠ x := fun p hp e => by have := (ow.no p hp).2.2; rw [e, hx] at this; cases this
  refine ⟨fun a u e => ?_, fun q u e => ?_, O.cl, O.fn, O.sc, fun a u e => ?_, fun a u e => ?_, O.lent, R, fp, s, r.frame (.refl G) fun p hp => upd_ne (np p hp), ow.nd, fun p hp => ?_⟩
  · rw [upd_ne (fun h => by rw [h, z1] at e; cases e)]; exact O.fz a u e
  · obtain ⟨a1, a2, kvs, a3, a4⟩ := O.ca q u e
    have nq : q ≠ x := fun h => by rw [h, hx] at a2; cases a2
    exact ⟨a1, by rw [upd_ne nq]; exact a2, kvs, by rw [upd_ne nq]; exact a3, a4⟩
  · by_cases h : a = x
    · subst h
      rw [upd_same] at e ⊢; exact e
    · rw [upd_ne h] at e ⊢; exact O.bp a u e
  · by_cases h : a = x
    · subst h; exact ⟨z1, z2⟩
    · rw [upd_ne h] at e; exact O.bz a u e
  · obtain ⟨a1, a2, a3⟩ := ow.no p hp
    exact ⟨a1, a2, by rw [upd_ne (np p hp)]; exact a3⟩
theorem putF_new {f : Str} {v : V} : ∀ {fs : List (Str × V)}, f ∉ fs.map (·.1) → putF f v fs = fs ++ [(f, v)]
  | [], _ => rfl
  | (g, x) :: r, h => by
    have h' : f ≠ g ∧ f ∉ r.map (·.1) := by simpa using h
    show (if g = f then (g, v) :: r else (g, x) :: putF f v r) = _
    rw [if_neg (Ne.symm h'.1), putF_new h'.2]; rfl
/-- the object is whole -/
theorem Ok.whole {x dx p : Addr} {c : Nat} {dn : List Rt} (O : Ok I B G σ H env (dn ++ t)) (hx : B x = some (.ins (I.cl c) dx ((I.fn c).zip (dn.map (·.1))))) (hB : ∀ p, p ≠ x → B p = B0 p) (h0 : B0 x = none) (hp : H p = none)
    (hl : (dn.map (·.1)).length = (I.fn c).length) (hk : kept ∉ I.fn c) (hn : (I.fn c).Nodup) (hd : (dn.map (·.2)).all isD = true) :
    ∃ G', G.Le G' ∧ Ok I B0 G' σ (upd (upd H p (.dK [])) x (.ins (I.cl c) dx ((I.fn c).zip (dn.map (·.1)) ++ [(kept, .ref p)]))) env ((.ref x, .d (.obj c (frzL (dn.map (·.2))))) :: t) := by
  have rl := O.data hd
  have O1 := O.drop
  obtain ⟨z1, z2⟩ := O.bz x _ hx
  have hHx := O.bp x _ hx
  obtain ⟨y1, y2, y3⟩ := O.hpn hp
  have xp : p ≠ x := fun e => by rw [e, hHx] at hp; cases hp
  obtain ⟨R, fp, s, r, ow⟩ := O1.tr
  have nx : ∀ a ∈ fp, a ≠ x := fun a ha e => by have := (ow.no a ha).2.2; rw [e, hx] at this; cases this
  have npp : ∀ a ∈ fp, a ≠ p := fun a ha e => RepWP.there r a ha (by rw [e]; exact hp)
  generalize hob : HO.ins (I.cl c) dx ((I.fn c).zip (dn.map (·.1)) ++ [(kept, V.ref p)]) = ob
  have H3 : ∀ a, a ≠ x → a ≠ p → upd (upd H p (.dK [])) x ob a = H a := fun a h1 h2 => by rw [upd_ne h1, upd_ne h2]
  generalize hG : ({ G with fz := fun a => if a = x then some ob else G.fz a, ca := fun a => if a = p then some (.obj c (frzL (dn.map (·.2)))) else G.ca a } : Gh) = G'
  have gf : ∀ a, G'.fz a = if a = x then some ob else G.fz a := fun a => by rw [← hG]
  have gc : ∀ a, G'.ca a = if a = p then some (.obj c (frzL (dn.map (·.2)))) else G.ca a := fun a => by rw [← hG]
  have gcl : G'.cl = G.cl := by rw [← hG]
  have gfn : G'.fn = G.fn := by rw [← hG]
  have gsc : G'.sc = G.sc := by rw [← hG]
  have le : G.Le G' := ⟨fun a u e => by rw [gf, if_neg (fun h => by rw [h, z1] at e; cases e)]; exact e, fun a u e => by rw [gc, if_neg (fun h => by rw [h, y2] at e; cases e)]; exact e, gcl, gfn, gsc⟩
  refine ⟨G', le, fun a u e => ?_, fun q u e => ?_, gcl.trans O.cl, gfn.trans O.fn, gsc.trans O.sc, fun a u e => ?_, fun a u e => ?_, O.lent, R, [] ++ fp, s, RepWP.cons (.d ?_) (r.frame le fun a ha => H3 a (nx a ha) (npp a ha)), ow.nd, fun a ha => ?_⟩
  · rw [gf] at e
    by_cases h : a = x
    · rw [if_pos h] at e; cases e
      rw [h]; exact upd_same
    · rw [if_neg h] at e
      have e2 := O.fz a u e
      rw [H3 a h (fun z => by rw [z, hp] at e2; cases e2)]; exact e2
  · rw [gc] at e
    by_cases h : q = p
    · subst h
      rw [gf, if_neg xp]
      exact ⟨y1, (hB q xp).symm.trans y3, [], by rw [upd_ne xp]; exact upd_same, Nat.zero_le _, fun k v m => nomatch m⟩
    · rw [if_neg h] at e
      obtain ⟨a1, a2, kvs, a3, a4, a5⟩ := O.ca q u e
      have nq : q ≠ x := fun z => by rw [z, hx] at a2; cases a2
      refine ⟨by rw [gf, if_neg nq]; exact a1, (hB q nq).symm.trans a2, kvs, by rw [H3 q nq h]; exact a3, a4, fun k v m => ?_⟩
      obtain ⟨d, b1, b2⟩ := a5 k v m
      exact ⟨d, b1, b2.mono le⟩
  · have na : a ≠ x := fun z => by rw [z, h0] at e; cases e
    have e2 := O.bp a u ((hB a na).trans e)
    rw [H3 a na (fun z => by rw [z, hp] at e2; cases e2)]; exact e2
  · have na : a ≠ x := fun z => by rw [z, h0] at e; cases e
    have e1 := (hB a na).trans e
    have e2 := O.bp a u e1
    obtain ⟨b1, b2⟩ := O.bz a u e1
    rw [gf, gc, if_neg na, if_neg (fun z => by rw [z, hp] at e2; cases e2)]
    exact ⟨b1, b2⟩
  · refine .obj (dx := dx) (q := p) (vs := dn.map (·.1)) ?_ ?_ ?_ ?_ (rl.mono le) (by rw [gc, if_pos rfl])
    · rw [gf, if_pos rfl, ← hob, gcl, gfn, O.cl, O.fn]
    · rw [gfn, O.fn]; exact hl
    · rw [gfn, O.fn]; exact hk
    · rw [gfn, O.fn]; exact hn
  · obtain ⟨b1, b2, b3⟩ := ow.no a ha
    rw [gf, gc, if_neg (nx a ha), if_neg (npp a ha)]
    exact ⟨b1, b2, (hB a (nx a ha)).symm.trans b3⟩
end
/-- the fields, from dn on -/
def TFi (I : Inf) (Φ : Fns) (c : Nat) (names : List Str) (es : E) : TS := fun D σ H => ∃ x dx B B0 G env t dn don ws env', σ[0]? = some (some (.ref x)) ∧ B x = some (.ins (I.cl c) dx (don.zip ((dn : List Rt).map (·.1)))) ∧ don.length = dn.length ∧ don ++ names = I.fn c ∧
  (∀ p, p ≠ x → B p = B0 p) ∧ B0 x = none ∧ Ok I B G σ H env (dn ++ t) ∧ (ev Φ es).tk env = some (ws, env') ∧ (dn.map (·.2) ++ ws).all isD = true ∧
  ∀ σ' H' G', G.Le G' → Ok I B0 G' σ' H' env' ((.ref x, .d (.obj c (frzL (dn.map (·.2) ++ ws)))) :: t) → D.nx σ' H'
structure FlOk (K : PySem.W.Frag) (I : Inf) (c : Nat) : Prop where
  cls : Cls K (I.cl c)
  na : ∀ f ∈ I.fn c, NoAttr K (I.cl c) f
  nk : NoAttr K (I.cl c) kept
  hk : kept ∉ I.fn c
  hn : (I.fn c).Nodup
  hz : (I.fn c).length < 900
section
variable {X : Cx} {I : Inf} {Φ : Fns} {c : Nat} {self : Str} {ps p1 p2 p3 pos : Pos}
theorem sI_kept (F : FlOk X.K I c) (h0 : X.N[0]? = some self) (hv : L2.Vis X.env.scope self) (hd : (self == ("__debug__" : Str)) = false) (hcd : (self == ("__classdict__" : Str)) = false) :
    PSs X [.Assign [.Attribute (.Name self p1) kept p2] (.Dict [] [] p3) pos] (TFi I Φ c [] .nil) := pssImp (L2.pss_one (L2.ps_fld (L2.pe_var h0 hv hd hcd) L2.pe_dnewK rfl)) fun D σ H ⟨x, dx, B, B0, G, env, t, dn, don, ws, env', hσ, hx, hl, hf, hB, hb0, O, e, hdd, k⟩ => by
  cases (show some (([] : List W), env) = some (ws, env') from e)
  rw [List.append_nil] at hf hdd k
  subst hf
  intro p hp
  have hHx := O.bp x _ hx
  have xp : x ≠ p := fun z => by rw [← z, hHx] at hp; cases hp
  obtain ⟨G', l, O'⟩ := O.whole (c := c) (p := p) hx hB hb0 hp (by rw [List.length_map]; exact hl.symm) F.hk F.hn hdd
  refine ⟨.ref x, hσ, x, _, dx, _, rfl, by rw [upd_ne xp]; exact hHx, F.cls, F.nk, ?_, ?_⟩
  · rw [List.length_zip]; have := F.hz; omega
  · rw [putF_new (by rw [List.map_fst_zip (by rw [List.length_map, hl]; exact Nat.le_refl _)]; exact F.hk)]
    exact k σ _ G' l O'
theorem sI_field {f : Str} {ns : List Str} {a r : E} {e : Expr} {rest : List Stmt} (F : FlOk X.K I c) (h0 : X.N[0]? = some self) (hv : L2.Vis X.env.scope self) (hd : (self == ("__debug__" : Str)) = false) (hcd : (self == ("__classdict__" : Str)) = false)
    (he : PE X e (TEv I Φ a)) (hs : ncomp e = true) (hr : PSs X rest (TFi I Φ c ns r)) : PSs X (.Assign [.Attribute (.Name self p1) f p2] e pos :: rest) (TFi I Φ c (f :: ns) (.cons a r)) :=
  pssImp (L2.pss_cons (L2.ps_fld (L2.pe_var h0 hv hd hcd) he (swaps_no hs)) hr) fun D σ H ⟨x, dx, B, B0, G, env, t, dn, don, ws, env', hσ, hx, hl, hf, hB, hb0, O, e, hdd, k⟩ => by
    obtain ⟨p, h1, e⟩ := bindSome e
    obtain ⟨p', h2, e⟩ := bindSome e
    obtain ⟨q, h3, e⟩ := mapSome e
    cases e
    refine ⟨B, G, env, _, p.1, p.2, O, h1, fun y H1 G1 l P => ?_⟩
    obtain ⟨G2, l2, O2⟩ := P.take h2
    have hnf : f ∉ don := fun hm => by
      have := F.hn
      rw [← hf] at this
      exact (List.nodup_append.mp this).2.2 f hm f List.mem_cons_self rfl
    have hlen : don.length < 900 := by have := F.hz; rw [← hf, List.length_append] at this; omega
    have ez : (don.zip (dn.map (·.1))).map (·.1) = don := List.map_fst_zip (by rw [List.length_map, hl]; exact Nat.le_refl _)
    refine ⟨.ref x, hσ, x, _, dx, _, rfl, O2.bp x _ hx, F.cls, F.na f (by rw [← hf]; exact List.mem_append_right _ List.mem_cons_self), ?_, ?_⟩
    · rw [List.length_zip]; omega
    · rw [putF_new (by rw [ez]; exact hnf)]
      have ef : don.zip (dn.map (·.1)) ++ [(f, y)] = (don ++ [f]).zip ((dn ++ [(y, p'.1)]).map (·.1)) := by
        rw [List.map_append, List.zip_append (by rw [List.length_map]; exact hl)]; rfl
      have em : (dn ++ [(y, p'.1)]).map (·.2) ++ q.1 = dn.map (·.2) ++ p'.1 :: q.1 := by rw [List.map_append, List.append_assoc]; rfl
      have O3 := (O2.perm (t' := (dn ++ [(y, p'.1)]) ++ t) (by rw [List.append_assoc]; exact List.perm_middle.symm)).field hx (.ins (I.cl c) dx (don.zip (dn.map (·.1)) ++ [(f, y)]))
      refine ⟨x, dx, _, B0, G2, p'.2, t, dn ++ [(y, p'.1)], don ++ [f], q.1, q.2, hσ, ?_, by simp [hl], by rw [List.append_assoc]; exact hf, fun a ha => by rw [upd_ne ha]; exact hB a ha, hb0, O3, h3, by rw [em]; exact hdd, fun σ' H' G' l' O' => ?_⟩
      · rw [upd_same, ef]
      · rw [em] at O'
        exact k σ' H' G' ((l.trans l2).trans l') O'
end
end Ev
end
section
set_option linter.all false
set_option autoImplicit false
set_option maxRecDepth 100000
/-! Ev29: an object's __init__: checks, then fields; its promise. -/
namespace Ev
open PySem PySem.Spec PyProof.Rows
open L2 (V HO Hp upd upd_same upd_ne SqL Cx PE PT PS PSs PA VK TS TE EP Inv RelV Vals Room FunD FnScope cxOf CX0 E0 putF Cls NoAttr)

def TSi (I : Inf) (Φ : Fns) (c : Nat) (m : E) : TS := fun D σ H => ∃ x dx B B0 G env t w e, σ[0]? = some (some (.ref x)) ∧ B x = some (.ins (I.cl c) dx []) ∧ (∀ p, p ≠ x → B p = B0 p) ∧ B0 x = none ∧ Ok I B G σ H env t ∧
  evS Φ whO m env = some (.rt w e) ∧ ∀ σ' H' G', G.Le G' → Ok I B0 G' σ' H' e ((.ref x, w) :: t) → D.nx σ' H'
section
variable {X : Cx} {I : Inf} {Φ : Fns} {c : Nat} {pos : Pos} {me mc m es : E} {e : Expr} {rest sts xs : List Stmt}
theorem sI_init (h : PSs X sts (TFi I Φ c (I.fn c) es)) : PSs X sts (TSi I Φ c (.init c es)) := pssImp h fun D σ H ⟨x, dx, B, B0, G, env, t, w, e, hσ, hx, hB, hb0, O, he, k⟩ => by
  obtain ⟨p, h1, he⟩ := bindSome he
  split at he
  · rename_i hd
    cases he
    exact ⟨x, dx, B, B0, G, env, t, [], [], p.1, p.2, hσ, hx, rfl, rfl, hB, hb0, O, h1, hd, k⟩
  · cases he
theorem sI_ex (he : PE X e (TEv I Φ me)) (hs : ncomp e = true) (hr : PSs X rest (TSi I Φ c m)) : PSs X (.Expr e pos :: rest) (TSi I Φ c (.seq (.ex me) m)) := pssImp (L2.pss_cons (L2.ps_expr he (swaps_no hs)) hr) fun D σ H ⟨x, dx, B, B0, G, env, t, w, e, hσ, hx, hB, hb0, O, he, k⟩ => by
  obtain ⟨f1, h1, he⟩ := bindSome he
  obtain ⟨p, h2, h1⟩ := mapSome h1
  cases h1
  exact ⟨B, G, env, t, p.1, p.2, O, h2, fun v H1 G1 l P => ⟨x, dx, B, B0, G1, p.2, t, w, e, hσ, hx, hB, hb0, P.ok, he, fun σ' H' G' l' O' => k σ' H' G' (l.trans l') O'⟩⟩
theorem sI_if {z : Expr} (hc : PT X z (TTv I Φ mc)) (hr : PSs X rest (TSi I Φ c m)) : PSs X (.If z xs [] pos :: rest) (TSi I Φ c (.seq (.if_ mc (.seq .never .skip) .skip) m)) := pssImp (L2.pss_cons (L2.ps_if hc L2.pss_never L2.pss_nil) hr) fun D σ H ⟨x, dx, B, B0, G, env, t, w, e, hσ, hx, hB, hb0, O, he, k⟩ => by
  obtain ⟨f1, h1, he⟩ := bindSome he
  obtain ⟨p, h2, h1⟩ := bindSome h1
  refine ⟨B, G, env, t, p.1, p.2, O, h2, fun H1 G1 l O1 => ?_⟩
  split at h1
  · cases (show (none : Option Fl) = some f1 from h1)
  · rename_i hp
    rw [if_neg hp]
    cases (show some (Fl.nx p.2) = some f1 from h1)
    exact ⟨x, dx, B, B0, G1, p.2, t, w, e, hσ, hx, hB, hb0, O1, he, fun σ' H' G' l' O' => k σ' H' G' (l.trans l') O'⟩
end
/-! ### the checker -/
section
variable (T : Tab) (Γ : Gam) (s : Str)
def ckF : List Str → E → List Stmt → Bool
  | [], .nil, [.Assign [.Attribute (.Name z _) k _] (.Dict [] [] _) _] => decide (z = s) && decide (k = kept)
  | f :: ns, .cons a r, .Assign [.Attribute (.Name z _) g _] e _ :: sts => decide (z = s) && decide (g = f) && ncomp e && (ck T a).e Γ e && ckF ns r sts
  | _, _, _ => false
def ckI (c : Nat) : E → List Stmt → Bool
  | .seq (.ex me) m, .Expr e _ :: sts => (ck T me).e Γ e && ncomp e && ckI c m sts
  | .seq (.if_ mc (.seq .never .skip) .skip) m, .If z _ [] _ :: sts => (ck T mc).t Γ z && ckI c m sts
  | .init c' es, sts => decide (c = c') && ckF T Γ s (T.flds c) es sts
  | _, _ => false
end
section
variable {T : Tab} {I : Inf} {Φ : Fns} {Γ : Gam} {X : Cx} {s : Str} {c : Nat}
theorem ckF_ok (ok : CxOk T I Φ Γ X) (br : Brs) (F : FlOk X.K (I.wb br) c) (h0 : X.N[0]? = some s) (hv : visB Γ s = true) (hs : okN s = true) : ∀ {ns : List Str} {es : E} {sts : List Stmt}, ckF T Γ s ns es sts = true → PSs X sts (TFi (I.wb br) Φ c ns es) := by
  intro ns
  induction ns with
  | nil =>
    intro es sts h
    unfold ckF at h
    split at h
    · obtain ⟨h1, h2⟩ := an h
      have e1 := dc h1
      have e2 := dc h2
      subst e1; subst e2
      exact sI_kept F h0 (ok.vis hv) (okN_db hs).1 (okN_db hs).2
    · rename_i e1; cases e1
    · exact ff h
  | cons f ns ih =>
    intro es sts h
    unfold ckF at h
    split at h
    · rename_i e1; cases e1
    · rename_i e1
      cases e1
      obtain ⟨h, h5⟩ := an h
      obtain ⟨h, h4⟩ := an h
      obtain ⟨h, h3⟩ := an h
      obtain ⟨h1, h2⟩ := an h
      have e1 := dc h1
      have e2 := dc h2
      subst e1; subst e2
      exact sI_field F h0 (ok.vis hv) (okN_db hs).1 (okN_db hs).2 ((good _).e ok br h4) h3 (ih h5)
    · exact ff h
theorem ckI_ok (ok : CxOk T I Φ Γ X) (br : Brs) (F : FlOk X.K (I.wb br) c) (h0 : X.N[0]? = some s) (hv : visB Γ s = true) (hs : okN s = true) : ∀ {m : E} {sts : List Stmt}, ckI T Γ s c m sts = true → PSs X sts (TSi (I.wb br) Φ c m) := by
  intro m
  induction m with
  | seq a b _ ihb =>
    intro sts h
    unfold ckI at h
    split at h
    · rename_i e1
      cases e1
      obtain ⟨h, h3⟩ := an h
      obtain ⟨h1, h2⟩ := an h
      exact sI_ex ((good _).e ok br h1) h2 (ihb h3)
    · rename_i e1
      cases e1
      obtain ⟨h1, h2⟩ := an h
      exact sI_if ((good _).t ok br h1) (ihb h2)
    · rename_i e1; cases e1
    · exact ff h
  | init c' es _ =>
    intro sts h
    have h : (decide (c = c') && ckF T Γ s (T.flds c) es sts) = true := h
    obtain ⟨h1, h2⟩ := an h
    have e := dc h1
    subst e
    refine sI_init ?_
    have e2 : (I.wb br).fn c = T.flds c := ok.P.fn c
    rw [e2]
    exact ckF_ok ok br F h0 hv hs h2
  | _ => intro sts h; exact ff h
end
end Ev
end
section
set_option linter.all false
set_option autoImplicit false
set_option maxRecDepth 100000
/-! Ev30: a class called. -/
namespace Ev
open PySem PySem.Spec PyProof.Rows
open L2 (V HO Hp upd upd_same upd_ne SqL Cx PE PT PS PSs PA VK TS TE TA EP Inv RelV Vals Room FunD FnScope cxOf CX0 E0 putF Cls NoAttr Mk)

section
variable {P : Program} {w : World} {K : PySem.W.Frag} {mg : Str → Option Value} {base : Heap} {k : Nat} {fa : Addr} {fd : FuncData} {ps : List Str} {I : Inf} {Φ Φ' : Fns} {f c : Nat} {fn : Fn}
/-- the lent parameters, behind the object's own name -/
def lentI (vs : List V) (sl : List (Bool × W)) : Brs := fun i => match i with
  | 0 => none
  | i + 1 => lentB vs sl i
theorem fn_init {x qual : Str} {params : Arguments} {body : List Stmt} {scope : Scope} {dvs : List V} {kws : List (Str × V)} {N : List Str} (F : FunD K x qual params body scope dvs kws fa fd) (S : FnScope N ps scope)
    (hp : ps.length = fn.par + 1) (hN : N.length = fn.size) (hΦ : ∀ sl, Φ' f sl = runI Φ whO fn sl)
    (hb : ∀ (cdv : Value) (A : Around) (outer : List PySem.Env) (s : Shared) (H : Hp), Room k (A.deeper (envOfC qual scope s.heap.objs.size fa cdv)) → A.guards = some [] →
      ∀ br, PSs (cxOf CX0 P w K mg base N qual scope fa cdv A outer s H E0).nox body (TSi (I.wb br) Φ c fn.body)) :
    FnG P w K mg base (k + 1) fa fd ps (spI I Φ' f c) := by
  refine fnG_of F S (fun vs H Q ⟨x, dx, vs', B0, G, sl, r, ws, hv, hl, h0, O, e, q⟩ => ?_) fun cdv A outer s H vs Q hr hgd ⟨x, dx, vs', B0, G, sl, r, ws, hv, hl, h0, O, e, q⟩ => ?_
  · rw [hΦ] at e
    unfold runI at e
    split at e
    · rename_i h; rw [hv, List.length_cons, hl, hp, h]
    · cases e
  · rw [hΦ] at e
    unfold runI at e
    subst hv
    split at e
    · rename_i hpar
      obtain ⟨fl, h1, h2⟩ := bindSome e
      cases fl with
      | nx e1 => cases h2
      | bk e1 => cases h2
      | ct e1 => cases h2
      | rt w1 e1 =>
        cases h2
        refine ⟨TSi (I.wb (lentI vs' sl)) Φ c fn.body, hb cdv A outer s H hr hgd _, x, dx, _, B0, G, _, [], r, e1, ?_, upd_same, fun p hp => upd_ne hp, h0, ?_, h1, fun σ' H' G' l O' => ?_⟩
        · unfold L2.start; rfl
        · have hk : N.length - (V.ref x :: vs').length = fn.size - (fn.par + 1) := by rw [hN, List.length_cons, hl, hpar]
          obtain ⟨R, fp, s0, r0, o⟩ := O.tr
          cases s0
          rw [List.append_nil] at r0
          refine ⟨O.fz, O.ca, O.cl, O.fn, O.sc, O.bp, O.bz, fun i v b h => ?_, _, fp, by unfold L2.start; rw [hk]; exact .no (Slots.begin hl), r0, o⟩
          cases i with
          | zero => cases h
          | succ i =>
            obtain ⟨w0, h3, h4, rfl⟩ := lentB_some h
            refine ⟨⟨w0, slot_begin h3, .inl rfl⟩, ?_⟩
            have hi : i < vs'.length := (List.getElem?_eq_some_iff.mp h4).1
            unfold L2.start
            rw [List.map_cons, List.cons_append, List.getElem?_cons_succ, List.getElem?_append_left (by simpa using hi), List.getElem?_map, h4]
            rfl
        · obtain ⟨R, fp, s1, r1, o1⟩ := O'.tr
          have tail : ∃ bs Rest, R.Perm (bs ++ Rest) ∧ ∀ (G : Gh) (H : Hp) (fp : List Addr), RepWP G H bs fp → RepWP G H (bor vs' sl (((e1.drop 1).take vs'.length).map slotW)) fp := by
            have lt : ∀ {σ2 : L2.St} {e2 : Env} {x0 : Option V} {s0 : Slot}, σ' = x0 :: σ2 → e1 = s0 :: e2 → ∀ i v w0, sl[i]? = some (true, w0) → vs'[i]? = some v → (∃ w, slot e2 i = some (true, w)) ∧ σ2[i]? = some (some v) := by
              intro σ2 e2 x0 s0 hσ he i v w0 h3 h4
              obtain ⟨⟨w2, z1, _⟩, z2⟩ := O'.lent (i + 1) v true (by show lentB vs' sl i = _; unfold lentB; rw [h3, h4])
              rw [he] at z1; rw [hσ] at z2
              exact ⟨⟨w2, z1⟩, by simpa using z2⟩
            cases s1 with
            | nil => exact ⟨[], [], .refl _, fun G H fp r => by simp only [List.drop_nil, List.take_nil, List.map_nil]; cases vs' <;> cases sl <;> first | exact r | (rename_i a _; cases a; rename_i b _; cases b <;> exact r)⟩
            | no s1 =>
              obtain ⟨bs, Rest, p1, p2⟩ := bor_out (vs := vs') (sl := sl) s1 hl (lt rfl rfl)
              exact ⟨bs, Rest, p1, p2⟩
            | yes s1 =>
              obtain ⟨bs, Rest, p1, p2⟩ := bor_out (vs := vs') (sl := sl) s1 hl (lt rfl rfl)
              exact ⟨bs, _ :: Rest, (p1.cons _).trans List.perm_middle.symm, p2⟩
          obtain ⟨bs, Rest, p1, p2⟩ := tail
          obtain ⟨fp2, r2, pf⟩ := RepWP.perm (show ([(V.ref x, r)] ++ R).Perm (((V.ref x, r) :: bs) ++ Rest) from p1.cons _) r1
          obtain ⟨f1, g1, rfl, r3, _⟩ := RepWP.unapp (R := (V.ref x, r) :: bs) (R' := Rest) r2
          obtain ⟨fv, fb, rfl, r4, r5⟩ := RepWP.uncons r3
          have r6 := p2 G' H' fb r5
          rw [hl, hpar] at r6
          refine q H' G' l ⟨O'.fz, O'.ca, O'.cl, O'.fn, O'.sc, O'.bp, O'.bz, fun i v b h => (nomatch h), [], fv ++ fb, .nil, ?_, (o1.perm pf).left⟩
          rw [List.append_nil]
          exact RepWP.cons r4 r6
    · cases e
end
end Ev
end
section
set_option linter.all false
set_option autoImplicit false
set_option maxRecDepth 100000
/-! Ev31: a program: every def keeps its promise, level by level. -/
namespace Ev
open PySem PySem.Spec PyProof.Rows
open L2 (V HO Hp upd SqL Cx PE PSs VK EP Inv RelV Vals Room FunD FnScope cxOf CX0 E0 Mk)
/-- what of a def the kernel decides -/
def DefI.good (T : Tab) (d : DefI) : Bool := scB d.N d.ps d.scope && match d.cl with
  | none => (ck T d.m).ss d.gam d.body
  | some c => match d.N, d.ps with
    | s :: _, _ :: _ => visB d.gam s && okN s && ckI T d.gam s c d.m d.body
    | _, _ => false
section
variable {P : Program} {w : World} {K : PySem.W.Frag} {mg : Str → Option Value} {base : Heap} {T : Tab} {I : Inf} {ds : List DefI} {adr : Nat → Addr} {fdv : Nat → FuncData}
def spD (I : Inf) (Φ : Fns) (i : Nat) (d : DefI) : SpG := match d.cl with
  | none => spF I Φ i
  | some c => spI I Φ i c
/-- what the head says of the program -/
structure Facts (T : Tab) (I : Inf) (ds : List DefI) (K : PySem.W.Frag) (mg : Str → Option Value) (adr : Nat → Addr) (fdv : Nat → FuncData) : Prop where
  bl : ∀ x ∈ bltNames, mg x = none
  gi : ∀ x i, (x, i) ∈ T.gint → ∃ u, mg x = some (.int i u)
  gs : ∀ x s, (x, s) ∈ T.gstr → ∃ u, mg x = some (.str s u)
  cls : ∀ x c, (x, c) ∈ T.cls → mg x = some (.ref (I.cl c))
  hcl : ∀ c, ClsOk K (I.cl c)
  fn : ∀ c, I.fn c = T.flds c
  noat : ∀ (c k : Nat) (f : Str), (T.flds c)[k]? = some f → L2.NoAttr K (I.cl c) f
  hS : ScOk K I
  fl : ∀ c, FlOk K I c
  defs : ∀ i d, ds[i]? = some d → FunD K d.x d.q d.params d.body d.scope [] [] (adr i) (fdv i) ∧ d.good T = true
  calls : ∀ c ∈ T.calls, ∃ d, ds[c.f]? = some d ∧ d.cl = none ∧ mg c.x = some (.ref (adr c.f)) ∧ BindsG K (fdv c.f) d.ps c.n c.ks c.js
  makes : ∀ q ∈ T.makes, ∃ d, ds[q.1.f]? = some d ∧ d.cl = some q.2 ∧ mg q.1.x = some (.ref (I.cl q.2)) ∧ Mk K (I.cl q.2) (adr q.1.f) ∧ BindsG K (fdv q.1.f) d.ps (q.1.n + 1) [] (List.range (q.1.n + 1))
theorem levels (F : Facts T I ds K mg adr fdv) : ∀ n i d, ds[i]? = some d → FnG P w K mg base (2 * n) (adr i) (fdv i) d.ps (spD I (phi whO (ds.map DefI.fn) n) i d)
  | 0, i, d, hd => by
    unfold spD
    split
    · exact ⟨fun vs H Q ⟨_, _, _, _, _, _, _, e, _⟩ => (nomatch e), fun A outer s H args us vs Q _ _ _ _ _ ⟨_, _, _, _, _, _, _, e, _⟩ => (nomatch e)⟩
    · exact ⟨fun vs H Q ⟨_, _, _, _, _, _, _, _, _, _, _, _, e, _⟩ => (nomatch e), fun A outer s H args us vs Q _ _ _ _ _ ⟨_, _, _, _, _, _, _, _, _, _, _, _, e, _⟩ => (nomatch e)⟩
  | n + 1, i, d, hd => by
    obtain ⟨hF, hok⟩ := F.defs i d hd
    obtain ⟨h1, h2⟩ := an hok
    have S := scB_ok h1
    have hphi : ∀ sl, phi whO (ds.map DefI.fn) (n + 1) i sl = if d.fn.made then runI (phi whO (ds.map DefI.fn) n) whO d.fn sl else runF (phi whO (ds.map DefI.fn) n) whO d.fn sl := fun sl => by
      show (match (ds.map DefI.fn)[i]? with | some fn => if fn.made then runI (phi whO (ds.map DefI.fn) n) whO fn sl else runF (phi whO (ds.map DefI.fn) n) whO fn sl | none => none) = _
      rw [List.getElem?_map, hd]
      rfl
    -- the body's context
    have cx : ∀ (cdv : Value) (A : Around) (outer : List PySem.Env) (s : Shared) (H : Hp), Room (2 * n + 1) (A.deeper (envOfC d.q d.scope s.heap.objs.size (adr i) cdv)) → A.guards = some [] →
        CxOk T I (phi whO (ds.map DefI.fn) n) d.gam (cxOf CX0 P w K mg base d.N d.q d.scope (adr i) cdv A outer s H E0).nox := fun cdv A outer s H hr hgd => by
      refine ⟨rfl, S.nd, rfl, S.kind, rfl, hgd, ?_, rfl, rfl, F.bl, F.gi, F.gs, F.cls, F.hcl, F.fn, F.noat, F.hS, fun c hc => ?_, fun q hq => ?_⟩
      · have := hr.un
        show (A.deeper _).units + 66 < cLine
        omega
      · obtain ⟨d', h3, h4, h5, h6⟩ := F.calls c hc
        obtain ⟨hF', _⟩ := F.defs c.f d' h3
        have L := levels F n c.f d' h3
        unfold spD at L
        rw [h4] at L
        exact ⟨2 * n, adr c.f, fdv c.f, d'.ps, L, hr.mono (Nat.le_succ _), h5, hF'.kp, h6⟩
      · obtain ⟨d', h3, h4, h5, h6, h7⟩ := F.makes q hq
        have L := levels F n q.1.f d' h3
        unfold spD at L
        rw [h4] at L
        exact ⟨2 * n, adr q.1.f, fdv q.1.f, d'.ps, h6, L, hr, h5, h7⟩
    have e2 : 2 * (n + 1) = (2 * n + 1) + 1 := by omega
    rw [e2]
    unfold spD
    cases hc : d.cl with
    | none =>
      rw [hc] at h2
      have hmade : d.fn.made = false := by unfold DefI.fn; rw [hc]; rfl
      have hpar : d.ps.length = d.fn.par := by unfold DefI.fn; rw [hc]
      refine fn_sound (fn := d.fn) (Φ := phi whO (ds.map DefI.fn) n) hF S hpar rfl (fun sl => ?_) fun cdv A outer s H hr hgd br => ?_
      · rw [hphi, hmade]; rfl
      · exact (Ev.good d.m).ss (cx cdv A outer s H hr hgd) br h2
    | some c =>
      rw [hc] at h2
      have hmade : d.fn.made = true := by unfold DefI.fn; rw [hc]; rfl
      have h2 : (match d.N, d.ps with
        | s :: _, _ :: _ => visB d.gam s && okN s && ckI T d.gam s c d.m d.body
        | _, _ => false) = true := h2
      split at h2
      · rename_i s _ p _ hN hP
        obtain ⟨h2, h5⟩ := an h2
        obtain ⟨h3, h4⟩ := an h2
        have hpar : d.ps.length = d.fn.par + 1 := by unfold DefI.fn; rw [hc, hP]; rfl
        refine fn_init (fn := d.fn) (Φ := phi whO (ds.map DefI.fn) n) hF S hpar rfl (fun sl => ?_) fun cdv A outer s' H hr hgd br => ?_
        · rw [hphi, hmade]; rfl
        · exact ckI_ok (cx cdv A outer s' H hr hgd) br ⟨(F.fl c).cls, (F.fl c).na, (F.fl c).nk, (F.fl c).hk, (F.fl c).hn, (F.fl c).hz⟩ (by show d.N[0]? = _; rw [hN]; rfl) h3 h4 h5
      · exact ff h2
end
end Ev
end
section
set_option linter.all false
set_option autoImplicit false
set_option maxRecDepth 100000
/-! Ev32: the head's hook with an own class's facts. -/
namespace Ev
open PySem PySem.Spec PyProof.Rows
open L2 (Cls NoAttr Mk FunD)

/-- an own class, as isinstance asks -/
def clsB (K : PySem.W.Frag) (C : Addr) : Bool :=
  He.eqO (PySem.W.findIn K (.ref C) "__class__") (some (some (.builtin "object.__class__"))) && He.eqO (PySem.W.specialIn K (.builtin "object.__class__") "__get__") (some (some (.builtin "getset_descriptor.__get__"))) &&
  decide (PySem.W.takesIn K (.builtin "object.__class__") = some true) && decide (PySem.W.mroIn K C (.type "object") = some true) && decide (PySem.W.kitOne K (.ref C) (.ref C) = some true) &&
  (["int", "bool", "str", "list", "tuple", "dict"].all fun t => decide (PySem.W.kitOne K (.ref C) (.type t) = some false)) && ["NoneType", "bool", "int", "str", "list", "tuple"].all fun t => decide (PySem.W.kitOne K (.type t) (.ref C) = some false)
theorem clsB_ok {K : PySem.W.Frag} {C : Addr} (h : clsB K C = true) (c : Cls K C) : ClsOk K C := by
  unfold clsB at h
  obtain ⟨h, h7⟩ := an h
  obtain ⟨h, h6⟩ := an h
  obtain ⟨h, h5⟩ := an h
  obtain ⟨h, h4⟩ := an h
  obtain ⟨h, h3⟩ := an h
  obtain ⟨h1, h2⟩ := an h
  exact ⟨c, He.eqO_ok h1, He.eqO_ok h2, dc h3, dc h4, dc h5, fun t ht => dc (List.all_eq_true.mp h6 t ht), fun t ht => dc (List.all_eq_true.mp h7 t ht)⟩
def obsE (fa : List He.Fa) (fn : List He.DefD) (cs : List Str) (K : PySem.W.Frag) : Bool × He.AlD := (cs.all fun x => clsB K (He.ga K x), He.obsD fa fn K)
def obsEG (n : Nat) (fa : List He.Fa) (fn : List He.DefD) (cs : List Str) (g : Addr → Option Obj) : Bool × He.AlD := obsE fa fn cs (He.frG g (He.asD g n))
def hookE (n : Nat) (fa : List He.Fa) (fn : List He.DefD) (cs : List Str) : PySem.W.Hook where
  α := Bool × He.AlD
  obs := fun s => obsEG n fa fn cs s.heap.get?
  val := fun _ => (true, He.valD fn)
  says := fun _ h => ∃ K : PySem.W.Frag, K.In h ∧ He.SaysD fa fn K ∧ ∀ x ∈ cs, clsB K (He.ga K x) = true
  of := fun _ _ e => ⟨_, He.frG_in, congrArg (fun z : Bool × He.AlD => z.2) e, fun x hx => List.all_eq_true.mp (congrArg (fun z : Bool × He.AlD => z.1) e) x hx⟩
  keeps := fun _ _ _ ⟨K, hK, c⟩ k => ⟨K, PySem.W.Frag.In.keeps hK k, c⟩
theorem obsEG_eq {n : Nat} {fa : List He.Fa} {fn : List He.DefD} {cs : List Str} {g : Addr → Option Obj} {s : Shared} (h : ∀ a, g a = s.heap.get? a) : obsEG n fa fn cs g = (hookE n fa fn cs).obs s := by
  have e : g = s.heap.get? := funext h
  rw [e]; rfl
end Ev
end
section
set_option linter.all false
set_option autoImplicit false
set_option maxRecDepth 100000
/-! Ev33: from the head's facts to the program's. -/
namespace Ev
open PySem PySem.Spec PyProof.Rows
open L2 (Cls NoAttr Mk FunD Vals)

/-- the facts that a program with one class of its own asks of the head -/
def faOf (T : Tab) (cn : Str) : List He.Fa := bltNames.map .free ++ (T.gint.map (fun p => .int p.1 p.2) ++ (T.gstr.map (fun p => .str p.1 p.2) ++ ([.glo cn, .cls cn, .mkr cn, .noat cn kept] ++ ((T.flds 0).map (.noat cn) ++ T.calls.map fun c => .glo c.x))))
def fnOf (ds : List DefI) : List He.DefD := ds.map fun d => ⟨d.at_, d.x, d.q, d.params, d.body, d.scope, [], []⟩
/-- how a call binds, of every function object with that text -/
def BindP (d : DefI) (n : Nat) (ks : List Str) (js : List Nat) : Prop := ∀ (kV doc pm : Value) (an : Option Addr) (cdv ct : Value) (us ws ys : List Value), us.length = n → ws.length = ks.length → pick (us ++ ws) js = some ys →
  bindArgs (PySem.W.fnOf d.x d.q d.params d.body d.scope .none kV doc pm an cdv ct) ⟨us, ks.zip ws⟩ = pure (d.ps.zip ys)
theorem bindsG_of {K : PySem.W.Frag} {d : DefI} {fa : Addr} {fd : FuncData} {n : Nat} {ks : List Str} {js : List Nat} (F : FunD K d.x d.q d.params d.body d.scope [] [] fa fd) (h : BindP d n ks js) : BindsG K fd d.ps n ks js := fun s us ws ys X h1 h2 h3 => by
  obtain ⟨oc, od, dV, kV, doc, pm, an, cdv, ct, osl, rfl, lk, hcd, hD, hK⟩ := F.ex
  rcases hD with ⟨_, rfl⟩ | ⟨e, _⟩
  · exact .of_eq (h kV doc pm an cdv ct us ws ys h1 h2 h3)
  · exact absurd rfl e
/-- what is decided of the program's own lists -/
structure Side (T : Tab) (ds : List DefI) (cn : Str) : Prop where
  cls : T.cls = [(cn, 0)]
  flds : ∀ c, T.flds c = T.flds 0
  nd : (T.flds 0).Nodup
  nk : kept ∉ T.flds 0
  sz : (T.flds 0).length < 900
  good : ∀ (i : Nat) (d : DefI), ds[i]? = some d → d.good T = true
  calls : ∀ c ∈ T.calls, ∃ d : DefI, ds[c.f]? = some d ∧ d.cl = none ∧ d.at_ = (c.x, none) ∧ BindP d c.n c.ks c.js
  makes : ∀ q ∈ T.makes, q.2 = 0 ∧ q.1.x = cn ∧ ∃ d : DefI, ds[q.1.f]? = some d ∧ d.cl = some 0 ∧ d.at_ = (cn, some ("__init__" : Str)) ∧ BindP d (q.1.n + 1) [] (List.range (q.1.n + 1))
def adrOf (K : PySem.W.Frag) (ds : List DefI) (i : Nat) : Addr := match ds[i]? with
  | some d => He.fAd K d.at_
  | none => 0
open Classical in
noncomputable def fdOf (K : PySem.W.Frag) (ds : List DefI) (i : Nat) : FuncData := match ds[i]? with
  | some d => if h : ∃ fd, FunD K d.x d.q d.params d.body d.scope [] [] (He.fAd K d.at_) fd then choose h else PySem.W.fnOf d.x d.q d.params d.body d.scope .none .none .none .none none .none .none
  | none => PySem.W.fnOf "" "" ⟨[], [], none, [], [], none, []⟩ [] default .none .none .none .none none .none .none
abbrev infP (T : Tab) (K : PySem.W.Frag) (cn : Str) : Inf := infOf K (fun _ => He.ga K cn) T.flds fun _ _ _ => False
theorem facts_of {T : Tab} {ds : List DefI} {cn : Str} {K : PySem.W.Frag} {h : Heap} {mg : Str → Option Value} (S : Side T ds cn) (X : K.In h) (G : h.Ns mainGlobals mg) (c : He.SaysD (faOf T cn) (fnOf ds) K) (cb : clsB K (He.ga K cn) = true) :
    Facts T (infP T K cn) ds K mg (adrOf K ds) (fdOf K ds) := by
  have fact : ∀ {f : He.Fa}, f ∈ faOf T cn → f.ok K = true := fun {f} hf => by
    obtain ⟨i, hi⟩ := List.getElem?_of_mem hf
    exact c.fact i hi
  have inB : ∀ {f : He.Fa}, f ∈ [He.Fa.glo cn, .cls cn, .mkr cn, .noat cn kept] → f ∈ faOf T cn := fun hf => List.mem_append_right _ (List.mem_append_right _ (List.mem_append_right _ (List.mem_append_left _ hf)))
  have inF : ∀ {f : Str}, f ∈ T.flds 0 → He.Fa.noat cn f ∈ faOf T cn := fun hf => List.mem_append_right _ (List.mem_append_right _ (List.mem_append_right _ (List.mem_append_right _ (List.mem_append_left _ (List.mem_map_of_mem hf)))))
  have inC : ∀ {q : CallE}, q ∈ T.calls → He.Fa.glo q.x ∈ faOf T cn := fun hf => List.mem_append_right _ (List.mem_append_right _ (List.mem_append_right _ (List.mem_append_right _ (List.mem_append_right _ (List.mem_map_of_mem (f := fun c => He.Fa.glo c.x) hf)))))
  have hC : Cls K (He.ga K cn) := He.cls_ok (fact (inB (by simp)))
  have hG : mg cn = some (.ref (He.ga K cn)) := He.glo_ok X G (fact (inB (by simp)))
  have hM : Mk K (He.ga K cn) (He.ma K (He.ga K cn) "__init__") := He.mkr_ok (fact (inB (by simp)))
  have hK : NoAttr K (He.ga K cn) kept := He.noat_ok (fact (inB (by simp)))
  have hN : ∀ f ∈ T.flds 0, NoAttr K (He.ga K cn) f := fun f hf => He.noat_ok (fact (inF hf))
  have hD : ∀ i d, ds[i]? = some d → FunD K d.x d.q d.params d.body d.scope [] [] (adrOf K ds i) (fdOf K ds i) := fun i d hd => by
    obtain ⟨fd, q⟩ := c.def_ i (d := ⟨d.at_, d.x, d.q, d.params, d.body, d.scope, [], []⟩) (by unfold fnOf; rw [List.getElem?_map, hd]; rfl)
    have ex : ∃ fd, FunD K d.x d.q d.params d.body d.scope [] [] (He.fAd K d.at_) fd := ⟨fd, q⟩
    unfold adrOf fdOf
    rw [hd]
    dsimp only
    rw [dif_pos ex]
    exact Classical.choose_spec ex
  refine ⟨fun x hx => ?_, fun x i hx => ?_, fun x z hx => ?_, fun x k hx => ?_, fun k => clsB_ok cb hC, fun k => rfl, fun k j f hf => ?_, infOf_sc, fun k => ⟨hC, ?_, hK, ?_, ?_, ?_⟩, fun i d hd => ⟨hD i d hd, S.good i d hd⟩, fun q hq => ?_, fun q hq => ?_⟩
  · exact He.free_ok X G (fact (List.mem_append_left _ (List.mem_map_of_mem hx)))
  · exact He.int_ok X G (fact (List.mem_append_right _ (List.mem_append_left _ (List.mem_map_of_mem (f := fun p : Str × Int => He.Fa.int p.1 p.2) hx))))
  · exact He.str_ok X G (fact (List.mem_append_right _ (List.mem_append_right _ (List.mem_append_left _ (List.mem_map_of_mem (f := fun p : Str × Str => He.Fa.str p.1 p.2) hx)))))
  · rw [S.cls] at hx
    cases List.mem_singleton.mp hx
    exact hG
  · rw [S.flds k] at hf
    exact hN f (List.mem_of_getElem? hf)
  · show ∀ f ∈ T.flds k, _
    rw [S.flds k]
    exact hN
  · show kept ∉ T.flds k
    rw [S.flds k]; exact S.nk
  · show (T.flds k).Nodup
    rw [S.flds k]; exact S.nd
  · show (T.flds k).length < 900
    rw [S.flds k]; exact S.sz
  · obtain ⟨d, h1, h2, h3, h4⟩ := S.calls q hq
    refine ⟨d, h1, h2, ?_, bindsG_of (hD _ d h1) h4⟩
    have := He.glo_ok X G (fact (inC hq))
    unfold adrOf
    rw [h1]
    dsimp only
    rw [h3]
    exact this
  · obtain ⟨h0, h1, d, h2, h3, h4, h5⟩ := S.makes q hq
    refine ⟨d, h2, by rw [h0]; exact h3, by rw [h1]; exact hG, ?_, bindsG_of (hD _ d h2) h5⟩
    unfold adrOf
    rw [h2]
    dsimp only
    rw [h4]
    exact hM
end Ev
end
section
set_option linter.all false
set_option autoImplicit false
/-! Pv1: the evaluator on plain data: whose a tree is, told by flags alone. -/
namespace Ev
open PySem

/-- a name's flag: frozen, an own list, a list that a loop walks -/
inductive Fg where
  | fr | ls | lk
  deriving DecidableEq
/-- a value's flag: frozen, an own list, it is not said, an own tuple -/
inductive O where
  | fr | ls | un | tp (os : List O)
def Fg.nf : Fg → Bool
  | .fr => false
  | _ => true
def Fg.lock : Fg → Fg
  | .fr => .fr
  | _ => .lk
abbrev PSlot := Option (Bool × Fg × D)
abbrev PEnv := List PSlot
inductive PR where
  | val (o : O) (d : D) | var (i : Nat) (g : Fg) (d : D)
def pslot (env : PEnv) (i : Nat) : PSlot := env.getD i none
def prd (env : PEnv) : PR → Option D
  | .val _ d => some d
  | .var i g d => match g with
    | .fr => some d
    | _ => (pslot env i).map (·.2.2)
/-- to be kept elsewhere -/
def ptake (env : PEnv) : PR → Option ((O × D) × PEnv)
  | .val o d => some ((o, d), env)
  | .var i g d => match g with
    | .fr => some ((.fr, d), env)
    | _ => match pslot env i with
      | some (_, .lk, _) => none
      | some (b, _, d) => some ((.fr, d), env.set i (some (b, .fr, d)))
      | none => none
/-- the items of a list or tuple -/
def pshell (env : PEnv) (r : PR) : Option Sh := match prd env r with
  | some (.list l) => some (.list l)
  | some (.tup l) => some (.tup l)
  | _ => none
/-- exactly a datum? -/
def pex : PR → Bool
  | .val .fr _ => true
  | .val _ _ => false
  | .var _ _ _ => true
def pbinF (o : Bop) (ra rb : PR) (env : PEnv) : Option (PR × PEnv) := match prd env ra, prd env rb with
  | some (.list x), some (.list y) => if o = .add then (if lenOk (x.length + y.length) then some (.val .ls (.list (x ++ y)), env) else none) else none
  | some (.tup x), some (.tup y) => if o = .add then (if pex ra && pex rb && lenOk (x.length + y.length) && !x.isEmpty then some (.val .fr (.tup (x ++ y)), env) else none) else none
  | some (.list x), some (.int k) => if o = .mul then (if decide (-(2 ^ 63) ≤ k) && decide (k < 2 ^ 63) && lenOk (x.length * k.toNat) then some (.val .ls (.list (List.replicate k.toNat x).flatten), env) else none) else none
  | some a, some b => (binS o a b).map fun d => (.val .fr d, env)
  | _, _ => none
def pnun : PR → Bool
  | .val .un _ => false
  | _ => true
def psubF (ra : PR) (k : D) (env : PEnv) : Option (PR × PEnv) := match k with
  | .int i => if pnun ra then (match prd env ra with
    | some (.list l) => (atI l i).map fun x => (.val .un x, env)
    | some (.tup l) => (atI l i).map fun x => (.val .un x, env)
    | some (.scr l) => (atI l i).map fun x => (.val .fr (.int x), env)
    | _ => none) else none
  | _ => none
def psliceF (ra : PR) (lo hi : Option Int) (env : PEnv) : Option (PR × PEnv) := match prd env ra with
  | some (.scr l) => some (.val .ls (.list ((cut l lo hi).map D.int)), env)
  | some (.list l) => some (.val .ls (.list (cut l lo hi)), env)
  | some (.tup l) => if whole l.length lo hi then none else some (.val .fr (.tup (cut l lo hi)), env)
  | _ => none
def pattrF (ra : PR) (c k : Nat) (env : PEnv) : Option (PR × PEnv) := match prd env ra with
  | some (.obj c' fs) => if c' = c then (fs[k]?).map fun x => (.val .fr x, env) else none
  | _ => none
def prdL (env : PEnv) : List PR → Option (List D)
  | [] => some []
  | r :: rs => (prd env r).bind fun d => (prdL env rs).map (d :: ·)
def psortL (l : List D) : Option (List D) := (sortW (l.map W.d)).map frzL
def ppickL (rs : List PR) : List Nat → Option (List PR)
  | [] => some []
  | j :: js => (rs[j]?).bind fun r => (ppickL rs js).map (r :: ·)
def pbiF (b : Bi) (rs : List PR) (env : PEnv) : Option (PR × PEnv) := match b, rs with
  | .list, [r] => (pshell env r).map fun p => match p with
    | .list l => (.val .ls (.list l), env)
    | .tup l => (.val .ls (.list l), env)
  | .tuple, [r] => match prd env r with
    | some (.tup _) => (ptake env r).map fun p => (.val p.1.1 p.1.2, p.2)
    | some (.list l) => some (.val .fr (.tup l), env)
    | _ => none
  | .sorted, [r] => match prd env r with
    | some (.list l) => if pnun r then (psortL l).map fun l => (.val .ls (.list l), env) else none
    | _ => none
  | .sset, [r] => match prd env r with
    | some (.list l) => if l.length < 63 then (dInts l).map fun ns => (.val .ls (.list ((setSort ns).map D.int)), env) else none
    | _ => none
  | .len, [r] => match prd env r with
    | some (.scr l) => some (.val .fr (.int l.length), env)
    | some d => (biD .len [d]).map fun d => (.val .fr d, env)
    | none => none
  | b, rs => (prdL env rs).bind fun ds => (biD b ds).map fun d => (.val .fr d, env)
/-- what a loop walks: a list?, the items, which names are locked -/
def pwalk (env : PEnv) (r : PR) : Option ((Bool × List D × List (Nat × Fg)) × PEnv) := match r with
  | .val o d => match d with
    | .list l => some ((true, l, []), env)
    | .tup l => some ((false, l, []), env)
    | _ => none
  | .var i g d => match g with
    | .fr => (match d with
      | .list l => some ((true, l, [(i, .fr)]), env)
      | .tup l => some ((false, l, [(i, .fr)]), env)
      | _ => none)
    | _ => match pslot env i with
      | some (b, g', .list l) => some ((true, l, [(i, g')]), env.set i (some (b, g'.lock, .list l)))
      | _ => none
def punlock1 (env : PEnv) (p : Nat × Fg) : PEnv := match p.2 with
  | .ls => (match pslot env p.1 with
    | some (b, .lk, d) => env.set p.1 (some (b, .ls, d))
    | _ => env)
  | _ => env
def punlock (env : PEnv) : List (Nat × Fg) → PEnv
  | [] => env
  | p :: r => punlock (punlock1 env p) r

/-! ### flow -/
inductive PFl where
  | nx (env : PEnv) | rt (o : O) (d : D) (env : PEnv) | bk (env : PEnv) | ct (env : PEnv)
abbrev PFns := Nat → List (Bool × Fg × D) → Option ((O × D) × List (Fg × D))
abbrev PWh := (PEnv → Option (Bool × PEnv)) → (PEnv → Option PFl) → PEnv → Option PFl
def pforG (tgt : D → PEnv → Option PEnv) (body : PEnv → Option PFl) : List D → PEnv → Option PFl
  | [], env => some (.nx env)
  | x :: xs, env => (tgt x env).bind fun env2 => (body env2).bind fun f => match f with
    | .nx e => pforG tgt body xs e
    | .ct e => pforG tgt body xs e
    | .bk e => some (.nx e)
    | .rt o d e => some (.rt o d e)
def pwipe (env : PEnv) (own : List Nat) : PEnv := own.foldl (fun e i => e.set i none) env
def prest (env old : PEnv) (own : List Nat) : PEnv := own.foldl (fun e i => e.set i (pslot old i)) env
def pcompG (tgt : D → PEnv → Option PEnv) (test : PEnv → Option (Bool × PEnv)) (elt : PEnv → Option ((O × D) × PEnv)) (own : List Nat) : List D → List D → PEnv → Option (List D × PEnv)
  | [], acc, env => some (acc, env)
  | x :: xs, acc, env => (tgt x env).bind fun env2 => (test env2).bind fun p => if p.1 then (elt p.2).bind fun q => (if decide (acc.length < sizeLine) then pcompG tgt test elt own xs (acc ++ [q.1.2]) (pwipe q.2 own) else none)
      else pcompG tgt test elt own xs acc (pwipe p.2 own)
def fgOf : O → Option Fg
  | .fr => some .fr
  | .ls => some .ls
  | _ => none
/-- a name is stored -/
def psetN (i : Nat) (o : O) (d : D) (env : PEnv) : Option PEnv := match pslot env i with
  | some (true, _, _) => none
  | some (false, .lk, _) => none
  | _ => if i < env.length then (fgOf o).map fun g => env.set i (some (false, g, d)) else none
/-- an own list that a name holds, or a new one -/
def pown (env : PEnv) : PR → Option (List D)
  | .var i .ls _ => match pslot env i with
    | some (_, .ls, .list l) => some l
    | _ => none
  | .val .ls (.list l) => some l
  | _ => none
def pput (env : PEnv) (r : PR) (l : List D) : PEnv := match r with
  | .var i _ _ => (match pslot env i with
    | some (b, g, _) => env.set i (some (b, g, .list l))
    | none => env)
  | .val _ _ => env

section
variable (Φ : PFns) (wh : PWh)
def parg (env : PEnv) : PR → Option (Bool × Fg × D)
  | .val o d => (fgOf o).map fun g => (false, g, d)
  | .var i g d => match g with
    | .fr => some (false, .fr, d)
    | _ => (pslot env i).map fun s => (true, s.2)
def pargs (env : PEnv) : List PR → Option (List (Bool × Fg × D))
  | [] => some []
  | r :: rs => (parg env r).bind fun a => (pargs env rs).map (a :: ·)
def pgive1 (env : PEnv) : PR → Fg × D → Option PEnv
  | .val _ _, _ => some env
  | .var i g _, p => match g with
    | .fr => some env
    | _ => match pslot env i, p.1 with
      | some (b, .lk, _), .lk => some (env.set i (some (b, .lk, p.2)))
      | some (_, .lk, _), _ => none
      | some (_, _, _), .lk => none
      | some (b, _, _), g' => some (env.set i (some (b, g', p.2)))
      | none, _ => none
def pgive (env : PEnv) : List PR → List (Fg × D) → Option PEnv
  | r :: rs, p :: ps => (pgive1 env r p).bind fun e => pgive e rs ps
  | [], [] => some env
  | _, _ => none
def pvars : List PR → List Nat
  | [] => []
  | .var i _ _ :: r => i :: pvars r
  | _ :: r => pvars r
def pcallG (f : Nat) (rs : List PR) (perm : List Nat) (env : PEnv) : Option (PR × PEnv) :=
  (ppickL rs perm).bind fun as => if (pvars as).Nodup then
    (pargs env as).bind fun sl => (Φ f sl).bind fun p => (pgive env as p.2).map fun e => (.val p.1.1 p.1.2, e)
  else none
structure PSem where
  e : PEnv → Option (PR × PEnv)
  t : PEnv → Option (Bool × PEnv)
  es : PEnv → Option (List PR × PEnv)
  tk : PEnv → Option (List (O × D) × PEnv)
  o : PEnv → Option (Option Int × PEnv)
  i : PEnv → Option ((Bool × List D × List (Nat × Fg)) × PEnv)
  a : O → D → PEnv → Option PEnv
  as : List (O × D) → PEnv → Option PEnv
def pofE (f : PEnv → Option (PR × PEnv)) : PSem where
  e := f
  t := fun env => (f env).bind fun p => (prd p.2 p.1).bind fun x => (truth x).map fun k => (k, p.2)
  es := fun _ => none
  tk := fun _ => none
  o := fun env => (f env).bind fun p => match prd p.2 p.1 with
    | some (.int i) => some (some i, p.2)
    | _ => none
  i := fun _ => none
  a := fun _ _ _ => none
  as := fun _ _ => none
def ptupA (f : List (O × D) → PEnv → Option PEnv) : O → D → PEnv → Option PEnv
  | .fr, .tup l, env => f (l.map fun d => (.fr, d)) env
  | .tp os, .tup l, env => if os.length = l.length then f (os.zip l) env else none
  | _, _, _ => none
def isFr : O → Bool
  | .fr => true
  | _ => false
def pnoSem : PSem := pofE fun _ => none
def pv : E → PSem
  | .none_ => { pofE (fun env => some (.val .fr .none, env)) with t := fun env => some (false, env) }
  | .bool b => { pofE (fun env => some (.val .fr (.bool b), env)) with t := fun env => some (b, env) }
  | .int i => pofE fun env => some (.val .fr (.int i), env)
  | .str s => pofE fun env => some (.val .fr (.str s), env)
  | .var i => pofE fun env => (pslot env i).map fun s => (.var i s.2.1 s.2.2, env)
  | .nil => { pnoSem with es := fun env => some ([], env), tk := fun env => some ([], env), o := fun env => some (none, env), as := fun ws env => match ws with
    | [] => some env
    | _ => none }
  | .cons a r => { pnoSem with
    es := fun env => ((pv a).e env).bind fun p => ((pv r).es p.2).map fun q => (p.1 :: q.1, q.2),
    tk := fun env => ((pv a).e env).bind fun p => (ptake p.2 p.1).bind fun p' => ((pv r).tk p'.2).map fun q => (p'.1 :: q.1, q.2),
    as := fun ws env => match ws with
      | [] => none
      | w :: ws => ((pv a).a w.1 w.2 env).bind fun e => (pv r).as ws e }
  | .list es => pofE fun env => ((pv es).tk env).bind fun p => if lenOk p.1.length then some (.val .ls (.list (p.1.map (·.2))), p.2) else none
  | .tup es => pofE fun env => ((pv es).tk env).bind fun p => if lenOk p.1.length then some (.val (if p.1.all (fun q => isFr q.1) then .fr else .tp (p.1.map (·.1))) (.tup (p.1.map (·.2))), p.2) else none
  | .bin o a b => pofE fun env => ((pv a).e env).bind fun p => ((pv b).e p.2).bind fun q => pbinF o p.1 q.1 q.2
  | .neg a => pofE fun env => ((pv a).e env).bind fun p => match prd p.2 p.1 with
    | some (.int i) => some (.val .fr (.int (-i)), p.2)
    | _ => none
  | .inv a => pofE fun env => ((pv a).e env).bind fun p => match prd p.2 p.1 with
    | some (.int i) => some (.val .fr (.int (Builtin.bitNot i)), p.2)
    | _ => none
  | .cmp o a b => pofE fun env => ((pv a).e env).bind fun p => ((pv b).e p.2).bind fun q => (prd q.2 p.1).bind fun x => (prd q.2 q.1).bind fun y => (cmpD o x y).map fun k => (.val .fr (.bool k), q.2)
  | .chain o o' a b c => pofE fun env => ((pv a).e env).bind fun p => ((pv b).e p.2).bind fun q => (prd q.2 p.1).bind fun x => (prd q.2 q.1).bind fun y => (cmpD o x y).bind fun k => if k then ((pv c).e q.2).bind fun r => (prd r.2 q.1).bind fun y => (prd r.2 r.1).bind fun z => (cmpD o' y z).map fun k => (.val .fr (.bool k), r.2)
      else some (.val .fr (.bool false), q.2)
  | .and_ a b => { pofE (fun env => ((pv a).e env).bind fun p => match prd p.2 p.1 with
    | some (.bool true) => (pv b).e p.2
    | some (.bool false) => some (.val .fr (.bool false), p.2)
    | _ => none) with t := fun env => ((pv a).t env).bind fun p => if p.1 then (pv b).t p.2 else some (false, p.2) }
  | .or_ a b => { pofE (fun env => ((pv a).e env).bind fun p => match prd p.2 p.1 with
    | some (.bool true) => some (.val .fr (.bool true), p.2)
    | some (.bool false) => (pv b).e p.2
    | _ => none) with t := fun env => ((pv a).t env).bind fun p => if p.1 then some (true, p.2) else (pv b).t p.2 }
  | .not_ a => { pofE (fun env => ((pv a).e env).bind fun p => match prd p.2 p.1 with
    | some (.bool k) => some (.val .fr (.bool (!k)), p.2)
    | _ => none) with t := fun env => ((pv a).t env).map fun p => (!p.1, p.2) }
  | .ite c a b => pofE fun env => ((pv c).t env).bind fun p => if p.1 then (pv a).e p.2 else (pv b).e p.2
  | .sub a b => pofE fun env => ((pv a).e env).bind fun p => ((pv b).e p.2).bind fun q => (prd q.2 q.1).bind fun k => psubF p.1 k q.2
  | .slice a lo hi => pofE fun env => ((pv a).e env).bind fun p => ((pv lo).o p.2).bind fun q => ((pv hi).o q.2).bind fun r => psliceF p.1 q.1 r.1 r.2
  | .attr a c k => pofE fun env => ((pv a).e env).bind fun p => pattrF p.1 c k p.2
  | .call f es ks perm => pofE fun env => ((pv es).es env).bind fun p => ((pv ks).es p.2).bind fun q => pcallG Φ f (p.1 ++ q.1) perm q.2
  | .keep a => pofE fun env => ((pv a).e env).bind fun p => (ptake p.2 p.1).map fun q => (.val q.1.1 q.1.2, q.2)
  | .fz a => pofE fun env => ((pv a).e env).bind fun p => (ptake p.2 p.1).map fun q => (.val .fr q.1.2, q.2)
  | .rev a => pofE fun env => ((pv a).e env).bind fun p => match prd p.2 p.1 with
    | some (.list l) => some (.val .ls (.list l.reverse), p.2)
    | _ => none
  | .lrng1 a => pofE fun env => ((pv a).e env).bind fun p => match prd p.2 p.1 with
    | some (.int j) => if rngOk j && decide (j ≤ 16777216) then some (.val .ls (.list (rngL 0 j.toNat)), p.2) else none
    | _ => none
  | .bi b es => pofE fun env => ((pv es).es env).bind fun p => pbiF b p.1 p.2
  | .comp elt t it c own => pofE fun env => ((pv it).i env).bind fun p => if own.Nodup ∧ own.all (fun i => !(p.1.2.2.map (·.1)).contains i && decide (i < env.length)) then
      (pcompG (fun x e => (pv t).a .fr x e) (fun e => (pv c).t e) (fun e => ((pv elt).e e).bind fun q => ptake q.2 q.1) own p.1.2.1 [] (pwipe p.2 own)).map fun r => (.val .ls (.list r.1), punlock (prest r.2 p.2 own) p.1.2.2)
    else none
  | .append a b => pofE fun env => ((pv a).e env).bind fun p => (pown p.2 p.1).bind fun _ => ((pv b).e p.2).bind fun q => (ptake q.2 q.1).bind fun t => (pown t.2 p.1).bind fun l => if decide (l.length < sizeLine) then some (.val .fr .none, pput t.2 p.1 (l ++ [t.1.2])) else none
  | .extend a b => pofE fun env => ((pv a).e env).bind fun p => (pown p.2 p.1).bind fun _ => ((pv b).e p.2).bind fun q => (pown q.2 p.1).bind fun l => match prd q.2 q.1 with
    | some (.list l') => if lenOk (l.length + l'.length) then some (.val .fr .none, pput q.2 p.1 (l ++ l')) else none
    | _ => none
  | .pop a => pofE fun env => ((pv a).e env).bind fun p => (pown p.2 p.1).bind fun l => (l[l.length - 1]?).map fun x => (.val .un x, pput p.2 p.1 l.dropLast)
  | .popAt a b => pofE fun env => ((pv a).e env).bind fun p => (pown p.2 p.1).bind fun _ => ((pv b).e p.2).bind fun q => (pown q.2 p.1).bind fun l => match prd q.2 q.1 with
    | some (.int i) => if decide (-(2 ^ 63) ≤ i) && decide (i < 2 ^ 63) then (L2.ixN l.length i).bind fun k => (l[k]?).map fun x => (.val .un x, pput q.2 p.1 (l.eraseIdx k)) else none
    | _ => none
  | .index a b => pofE fun env => ((pv a).e env).bind fun p => ((pv b).e p.2).bind fun q => match prd p.2 p.1, prd q.2 p.1, prd q.2 q.1 with
    | some (.list _), some (.list l), some x => if flatD x && l.all flatD then (l.findIdx? fun y => eqFlat y x).map fun (k : Nat) => (.val .fr (.int (k : Int)), q.2) else none
    | _, _, _ => none
  | .tname i => { pnoSem with a := psetN i }
  | .ttup ts => { pnoSem with a := ptupA (pv ts).as }
  | .tsub a b => { pnoSem with a := fun o d env => ((pv a).e env).bind fun p => (pown p.2 p.1).bind fun _ => ((pv b).e p.2).bind fun q => (pown q.2 p.1).bind fun l => match prd q.2 q.1 with
    | some (.int i) => (L2.ixN l.length i).map fun k => pput q.2 p.1 (l.set k d)
    | _ => none }
  | .iof a => { pnoSem with i := fun env => ((pv a).e env).bind fun p => pwalk p.2 p.1 }
  | .irng1 a => { pnoSem with i := fun env => ((pv a).e env).bind fun p => match prd p.2 p.1 with
    | some (.int j) => if rngOk j then some ((false, rngL 0 j.toNat, []), p.2) else none
    | _ => none }
  | .irng2 a b => { pnoSem with i := fun env => ((pv a).e env).bind fun p => ((pv b).e p.2).bind fun q => match prd q.2 p.1, prd q.2 q.1 with
    | some (.int i), some (.int j) => if rngOk i && rngOk j then some ((false, rngL i (j - i).toNat, []), q.2) else none
    | _, _ => none }
  | .ienum a => { pnoSem with i := fun env => ((pv a).e env).bind fun p => (pwalk p.2 p.1).map fun q => ((false, q.1.2.1.mapIdx fun k x => .tup [.int k, x], q.1.2.2), q.2) }
  | .izip a b => { pnoSem with i := fun env => ((pv a).e env).bind fun p => (pwalk p.2 p.1).bind fun p' => ((pv b).e p'.2).bind fun q => (pwalk q.2 q.1).bind fun q' =>
      if p'.1.1 = q'.1.1 then some ((false, List.zipWith (fun x y => .tup [x, y]) p'.1.2.1 q'.1.2.1, q'.1.2.2 ++ p'.1.2.2), q'.2) else none }
  | _ => pnoSem
def psetNs : List Nat → List (O × D) → PEnv → Option PEnv
  | [], [], env => some env
  | i :: r, w :: ws, env => (psetNs r ws env).bind fun e => psetN i w.1 w.2 e
  | _, _, _ => none
def pvS : E → PEnv → Option PFl
  | .skip, env => some (.nx env)
  | .seq a b, env => (pvS a env).bind fun f => match f with
    | .nx e => pvS b e
    | f => some f
  | .asg t e, env => ((pv Φ e).e env).bind fun p => (ptake p.2 p.1).bind fun q => ((pv Φ t).a q.1.1 q.1.2 q.2).map .nx
  | .par is es, env => ((pv Φ es).tk env).bind fun p => if is.Nodup then (psetNs is p.1 p.2).map .nx else none
  | .ex e, env => ((pv Φ e).e env).map fun p => .nx p.2
  | .ret e, env => ((pv Φ e).e env).bind fun p => match p.1 with
    | .var i .ls _ => (match pslot p.2 i with
      | some (false, .ls, d) => some (.rt .ls d (p.2.set i none))
      | some (true, _, _) => (ptake p.2 p.1).map fun q => .rt q.1.1 q.1.2 q.2
      | _ => none)
    | .var _ .lk _ => none
    | _ => (ptake p.2 p.1).map fun q => .rt q.1.1 q.1.2 q.2
  | .retN, env => some (.rt .fr .none env)
  | .if_ c a b, env => ((pv Φ c).t env).bind fun p => if p.1 then pvS a p.2 else pvS b p.2
  | .while_ c b, env => wh (fun e => (pv Φ c).t e) (fun e => pvS b e) env
  | .for_ t it b, env => ((pv Φ it).i env).bind fun p => (pforG (fun x e => (pv Φ t).a .fr x e) (fun e => pvS b e) p.1.2.1 p.2).map fun f => match f with
    | .nx e => .nx (punlock e p.1.2.2)
    | f => f
  | .brk, env => some (.bk env)
  | .cont, env => some (.ct env)
  | .init c es, env => ((pv Φ es).tk env).bind fun p => if p.1.all (fun q => isFr q.1) then some (.rt .fr (.obj c (p.1.map (·.2))) p.2) else none
  | _, _ => none
end

/-! ### while -/
def pwhN (c : PEnv → Option (Bool × PEnv)) (b : PEnv → Option PFl) : Nat → PEnv → Option PFl
  | 0, _ => none
  | n + 1, env => (c env).bind fun p => if p.1 then (b p.2).bind fun f => match f with
      | .nx e => pwhN c b n e
      | .ct e => pwhN c b n e
      | .bk e => some (.nx e)
      | .rt o d e => some (.rt o d e)
    else some (.nx p.2)
open Classical in
noncomputable def pwhO (c : PEnv → Option (Bool × PEnv)) (b : PEnv → Option PFl) (env : PEnv) : Option PFl :=
  if h : ∃ n, (pwhN c b n env).isSome then pwhN c b (Classical.choose h) env else none

/-! ### a program -/
/-- what is told of a parameter behind the call: nothing, if it was not lent -/
def ret (b : Bool) (g : Fg) (d : D) : Fg × D := if b then (g, d) else (.fr, .none)
/-- a list that was not locked ahead of the call is not so behind it -/
def unl (g0 g : Fg) : Fg := if g = .lk then (if g0 = .lk then .lk else .ls) else g
def pretS : List (Bool × Fg × D) → PEnv → Option (List (Fg × D))
  | [], _ => some []
  | (b, g0, _) :: sl, s :: env => (pretS sl env).bind fun r => match s with
    | some (_, g, d) => some (ret b (unl g0 g) d :: r)
    | none => if b then none else some ((.fr, .none) :: r)
  | _ :: _, [] => none
def prunF (Φ : PFns) (wh : PWh) (f : Fn) (sl : List (Bool × Fg × D)) : Option ((O × D) × List (Fg × D)) :=
  if sl.length = f.par then
    (pvS Φ wh f.body (sl.map some ++ List.replicate (f.size - f.par) none)).bind fun r => match r with
      | .nx env => (pretS sl env).map fun ps => ((.fr, .none), ps)
      | .rt o d env => (pretS sl env).map fun ps => ((o, d), ps)
      | _ => none
  else none
def prunI (Φ : PFns) (wh : PWh) (f : Fn) (sl : List (Bool × Fg × D)) : Option ((O × D) × List (Fg × D)) :=
  if sl.length = f.par then
    (pvS Φ wh f.body (none :: (sl.map some ++ List.replicate (f.size - (f.par + 1)) none))).bind fun r => match r with
      | .rt o d env => (pretS sl (env.drop 1)).map fun ps => ((o, d), ps)
      | _ => none
  else none
def pphi (wh : PWh) (fs : List Fn) : Nat → PFns
  | 0 => fun _ _ => none
  | n + 1 => fun f sl => match fs[f]? with
    | some fn => if fn.made then prunI (pphi wh fs n) wh fn sl else prunF (pphi wh fs n) wh fn sl
    | none => none
end Ev
end
section
set_option linter.all false
set_option autoImplicit false
/-! Pv2: a list that is walked stays as it is. -/
namespace Ev
open PySem

theorem pbs {α β : Type} {o : Option α} {f : α → Option β} {b : β} (h : o.bind f = some b) : ∃ a, o = some a ∧ f a = some b := Option.bind_eq_some_iff.mp h
theorem pms {α β : Type} {o : Option α} {f : α → β} {b : β} (h : o.map f = some b) : ∃ a, o = some a ∧ f a = b := Option.map_eq_some_iff.mp h
theorem pslot_lt {env : PEnv} {i : Nat} {s : Bool × Fg × D} (h : pslot env i = some s) : i < env.length := by
  unfold pslot at h
  rcases Nat.lt_or_ge i env.length with q | q
  · exact q
  · rw [List.getD_eq_getElem?_getD, List.getElem?_eq_none q] at h; cases h
theorem pslot_set {env : PEnv} {i : Nat} {s : PSlot} (h : i < env.length) : pslot (env.set i s) i = s := by
  unfold pslot
  rw [List.getD_eq_getElem?_getD, List.getElem?_set_self h]; rfl
theorem pslot_set_ne {env : PEnv} {i j : Nat} {s : PSlot} (h : i ≠ j) : pslot (env.set i s) j = pslot env j := by
  unfold pslot
  rw [List.getD_eq_getElem?_getD, List.getD_eq_getElem?_getD, List.getElem?_set_ne h]

structure Kp (env env' : PEnv) : Prop where
  len : env'.length = env.length
  lk : ∀ i b d, pslot env i = some (b, .lk, d) → pslot env' i = some (b, .lk, d)
theorem Kp.refl (env : PEnv) : Kp env env := ⟨rfl, fun _ _ _ h => h⟩
theorem Kp.trans {a b c : PEnv} (h : Kp a b) (k : Kp b c) : Kp a c := ⟨k.len.trans h.len, fun i b d e => k.lk i b d (h.lk i b d e)⟩
/-- a name that is not locked changes -/
theorem Kp.set {env : PEnv} {i : Nat} {s : PSlot} (h : ∀ b d, pslot env i ≠ some (b, .lk, d)) : Kp env (env.set i s) := ⟨List.length_set, fun j b d e => by
  by_cases hj : i = j
  · subst hj; exact absurd e (h b d)
  · rw [pslot_set_ne hj]; exact e⟩
theorem Kp.set_lk {env : PEnv} {i : Nat} {b b' : Bool} {d : D} (h : pslot env i = some (b, .lk, d)) : Kp env (env.set i (some (b, .lk, d))) := ⟨List.length_set, fun j b d e => by
  by_cases hj : i = j
  · subst hj
    rw [h] at e; cases e
    exact pslot_set (pslot_lt h)
  · rw [pslot_set_ne hj]; exact e⟩
/-- a name that becomes locked, or stays so -/
theorem Kp.set_lock {env : PEnv} {i : Nat} {b : Bool} {g : Fg} {d : D} (h : pslot env i = some (b, g, d)) : Kp env (env.set i (some (b, g.lock, d))) := by
  cases g with
  | lk => exact Kp.set_lk (b' := b) h
  | _ => exact Kp.set fun b' d' e => by rw [h] at e; cases e
theorem ptake_kp {env env' : PEnv} {r : PR} {p : O × D} (h : ptake env r = some (p, env')) : Kp env env' := by
  unfold ptake at h
  split at h
  · cases h; exact .refl _
  · split at h
    · cases h; exact .refl _
    · split at h
      · cases h
      · rename_i b g d hg hne
        cases h
        exact Kp.set fun b' d' e => by
          rw [e] at hne; cases hne; exact hg rfl
      · cases h
theorem pwalk_kp {env env' : PEnv} {r : PR} {p : Bool × List D × List (Nat × Fg)} (h : pwalk env r = some (p, env')) : Kp env env' := by
  unfold pwalk at h
  split at h
  · split at h <;> first | (cases h; exact .refl _) | cases h
  · split at h
    · split at h <;> first | (cases h; exact .refl _) | cases h
    · split at h
      · rename_i hs
        cases h
        exact Kp.set_lock hs
      · cases h
theorem pput_kp {env : PEnv} {r : PR} {l l' : List D} (h : pown env r = some l') : Kp env (pput env r l) := by
  unfold pown at h
  unfold pput
  split at h
  · split at h
    · rename_i hs
      dsimp only
      rw [hs]
      exact Kp.set fun b' d' e => by rw [hs] at e; cases e
    · cases h
  · exact .refl _
  · cases h
theorem psetN_kp {env env' : PEnv} {i : Nat} {o : O} {d : D} (h : psetN i o d env = some env') : Kp env env' := by
  unfold psetN at h
  split at h
  · cases h
  · cases h
  · rename_i h1 h2
    split at h
    · obtain ⟨g, _, rfl⟩ := pms h
      refine Kp.set fun b d' e => ?_
      cases b with
      | true => exact h1 _ _ e
      | false => exact h2 _ e
    · cases h
theorem punlock1_len {env : PEnv} {p : Nat × Fg} : (punlock1 env p).length = env.length := by
  unfold punlock1
  split
  · split
    · exact List.length_set
    · rfl
  · rfl
theorem punlock_len : ∀ {l : List (Nat × Fg)} {env : PEnv}, (punlock env l).length = env.length
  | [], env => rfl
  | p :: r, env => by
    show (punlock (punlock1 env p) r).length = _
    rw [punlock_len, punlock1_len]
/-- what is unlocked was not locked ahead -/
def LkOk (env0 : PEnv) (l : List (Nat × Fg)) : Prop := ∀ p ∈ l, p.2 = .ls → ∀ b d, pslot env0 p.1 ≠ some (b, .lk, d)
theorem punlock_kp : ∀ {l : List (Nat × Fg)} {env0 env : PEnv}, LkOk env0 l → Kp env0 env → Kp env0 (punlock env l)
  | [], env0, env, _, k => k
  | p :: r, env0, env, h, k => by
    refine punlock_kp (l := r) (fun q hq => h q (List.mem_cons_of_mem _ hq)) ?_
    have hp := h p List.mem_cons_self
    unfold punlock1
    split
    · rename_i hg
      split
      · rename_i b d hs
        refine ⟨List.length_set.trans k.len, fun j b' d' e => ?_⟩
        by_cases hj : p.1 = j
        · subst hj; exact absurd e (hp hg b' d')
        · rw [pslot_set_ne hj]; exact k.lk j b' d' e
      · exact k
    · exact k
theorem pwalk_lk {env env' : PEnv} {r : PR} {p : Bool × List D × List (Nat × Fg)} (h : pwalk env r = some (p, env')) : LkOk env p.2.2 := by
  unfold pwalk at h
  split at h
  · split at h <;> first | (cases h; intro q hq; cases hq) | cases h
  · split at h
    · split at h <;> first | (cases h; intro q hq hg; rw [List.mem_singleton.mp hq] at hg; cases hg) | cases h
    · split at h
      · rename_i hs
        cases h
        intro q hq hg b d e
        have hq' := List.mem_singleton.mp hq
        subst hq'
        have e' := hs.symm.trans e
        cases e'; cases hg
      · cases h
theorem LkOk.mono {env0 env : PEnv} {l : List (Nat × Fg)} (h : LkOk env l) (k : Kp env0 env) : LkOk env0 l := fun p hp hg b d e => h p hp hg b d (k.lk _ _ _ e)
theorem LkOk.app {env : PEnv} {l l' : List (Nat × Fg)} (h : LkOk env l) (h' : LkOk env l') : LkOk env (l ++ l') := fun p hp => by
  rcases List.mem_append.mp hp with q | q
  · exact h p q
  · exact h' p q

/-- a def leaves what is locked -/
def KpF (Φ : PFns) : Prop := ∀ f sl r ps, Φ f sl = some (r, ps) → ∀ (k : Nat) (d : D), sl[k]? = some (true, Fg.lk, d) → ps[k]? = some (Fg.lk, d)
theorem pgive_kp : ∀ {as : List PR} {env env' env0 : PEnv} {sl : List (Bool × Fg × D)} {ps : List (Fg × D)}, pargs env0 as = some sl → (∀ (k : Nat) (d : D), sl[k]? = some (true, Fg.lk, d) → ps[k]? = some (Fg.lk, d)) → Kp env0 env → pgive env as ps = some env' → Kp env0 env'
  | [], env, env', env0, sl, ps, _, _, k, h => by
    cases ps with
    | nil => cases h; exact k
    | cons => cases h
  | r :: rs, env, env', env0, sl, ps, ha, hk, k, h => by
    cases ps with
    | nil => cases h
    | cons p ps =>
      obtain ⟨a, h1, h2⟩ := pbs ha
      obtain ⟨sl', h3, rfl⟩ := pms h2
      obtain ⟨e, h4, h5⟩ := pbs h
      refine pgive_kp (as := rs) (env := e) h3 (fun j d hj => by have := hk (j + 1) d (by simpa using hj); simpa using this) ?_ h5
      unfold pgive1 at h4
      split at h4
      · cases h4; exact k
      · rename_i i g dd
        split at h4
        · cases h4; exact k
        · rename_i hg
          have ha1 : parg env0 (.var i g dd) = (pslot env0 i).map fun s => (true, s.2) := by
            cases g <;> first | rfl | exact absurd rfl hg
          rw [ha1] at h1
          obtain ⟨s0, hs0, rfl⟩ := pms h1
          split at h4
          · rename_i b d1 hs hp
            cases h4
            refine ⟨List.length_set.trans k.len, fun j b' d' ej => ?_⟩
            by_cases hj : i = j
            · subst hj
              rw [hs0] at ej; cases ej
              have := hk 0 d' rfl
              simp at this
              subst this
              have := k.lk _ _ _ hs0
              rw [hs] at this; cases this
              exact pslot_set (pslot_lt hs)
            · rw [pslot_set_ne hj]; exact k.lk j b' d' ej
          · cases h4
          · cases h4
          · rename_i b g2 d1 hn2 hs hn1 hn3
            cases h4
            refine ⟨List.length_set.trans k.len, fun j b' d' ej => ?_⟩
            by_cases hj : i = j
            · subst hj
              have := k.lk _ _ _ ej
              rw [hs] at this; cases this
              exact (hn2 rfl).elim
            · rw [pslot_set_ne hj]; exact k.lk j b' d' ej
          · cases h4

/-- what every node keeps -/
structure KpS (S : PSem) : Prop where
  e : ∀ {env env' : PEnv} {r : PR}, S.e env = some (r, env') → Kp env env'
  t : ∀ {env env' : PEnv} {b : Bool}, S.t env = some (b, env') → Kp env env'
  es : ∀ {env env' : PEnv} {r : List PR}, S.es env = some (r, env') → Kp env env'
  tk : ∀ {env env' : PEnv} {r : List (O × D)}, S.tk env = some (r, env') → Kp env env'
  o : ∀ {env env' : PEnv} {r : Option Int}, S.o env = some (r, env') → Kp env env'
  i : ∀ {env env' : PEnv} {r : Bool × List D × List (Nat × Fg)}, S.i env = some (r, env') → Kp env env' ∧ LkOk env r.2.2
  a : ∀ {o : O} {d : D} {env env' : PEnv}, S.a o d env = some env' → Kp env env'
  as : ∀ {ws : List (O × D)} {env env' : PEnv}, S.as ws env = some env' → Kp env env'
theorem kpE {f : PEnv → Option (PR × PEnv)} (h : ∀ {env env' : PEnv} {r : PR}, f env = some (r, env') → Kp env env') : KpS (pofE f) where
  e := h
  t := fun {env env' b} e => by
    obtain ⟨p, h1, e⟩ := pbs e
    obtain ⟨x, h2, e⟩ := pbs e
    obtain ⟨k, h3, e⟩ := pms e
    cases e
    exact h h1
  es := fun e => nomatch e
  tk := fun e => nomatch e
  o := fun {env env' b} e => by
    obtain ⟨p, h1, e⟩ := pbs e
    split at e
    · cases e; exact h h1
    · cases e
  i := fun e => nomatch e
  a := fun e => nomatch e
  as := fun e => nomatch e
theorem kpT {f : PEnv → Option (PR × PEnv)} {g : PEnv → Option (Bool × PEnv)} (h : ∀ {env env' : PEnv} {r : PR}, f env = some (r, env') → Kp env env') (k : ∀ {env env' : PEnv} {r : Bool}, g env = some (r, env') → Kp env env') : KpS { pofE f with t := g } where
  e := h
  t := k
  es := fun e => nomatch e
  tk := fun e => nomatch e
  o := (kpE h).o
  i := fun e => nomatch e
  a := fun e => nomatch e
  as := fun e => nomatch e
theorem kpNo : KpS pnoSem := kpE fun e => nomatch e
theorem kpI {g : PEnv → Option ((Bool × List D × List (Nat × Fg)) × PEnv)} (k : ∀ {env env' : PEnv} {r : Bool × List D × List (Nat × Fg)}, g env = some (r, env') → Kp env env' ∧ LkOk env r.2.2) : KpS { pnoSem with i := g } := { kpNo with i := k }
theorem kpA {g : O → D → PEnv → Option PEnv} (k : ∀ {o : O} {d : D} {env env' : PEnv}, g o d env = some env' → Kp env env') : KpS { pnoSem with a := g } := { kpNo with a := k }
theorem pbinF_env {o : Bop} {ra rb r : PR} {env env' : PEnv} (e : pbinF o ra rb env = some (r, env')) : env' = env := by
  unfold pbinF at e
  split at e
  · split at e
    · split at e <;> cases e; rfl
    · cases e
  · split at e
    · split at e <;> cases e; rfl
    · cases e
  · split at e
    · split at e <;> cases e; rfl
    · cases e
  · obtain ⟨_, _, e⟩ := pms e
    cases e; rfl
  · cases e
theorem psubF_env {ra r : PR} {k : D} {env env' : PEnv} (e : psubF ra k env = some (r, env')) : env' = env := by
  unfold psubF at e
  split at e
  · split at e
    · split at e
      · obtain ⟨_, _, e⟩ := pms e
        cases e; rfl
      · obtain ⟨_, _, e⟩ := pms e
        cases e; rfl
      · obtain ⟨_, _, e⟩ := pms e
        cases e; rfl
      · cases e
    · cases e
  · cases e
theorem psliceF_env {ra r : PR} {lo hi : Option Int} {env env' : PEnv} (e : psliceF ra lo hi env = some (r, env')) : env' = env := by
  unfold psliceF at e
  split at e
  · cases e; rfl
  · cases e; rfl
  · split at e <;> cases e; rfl
  · cases e
theorem pattrF_env {ra r : PR} {c k : Nat} {env env' : PEnv} (e : pattrF ra c k env = some (r, env')) : env' = env := by
  unfold pattrF at e
  split at e
  · split at e
    · obtain ⟨_, _, e⟩ := pms e
      cases e; rfl
    · cases e
  · cases e
theorem pbiF_kp {b : Bi} {rs : List PR} {env env' : PEnv} {r : PR} (e : pbiF b rs env = some (r, env')) : Kp env env' := by
  unfold pbiF at e
  split at e
  · obtain ⟨p, _, e⟩ := pms e
    split at e <;> cases e <;> exact .refl _
  · split at e
    · obtain ⟨p, h, e⟩ := pms e
      cases e
      exact ptake_kp h
    · cases e; exact .refl _
    · cases e
  · split at e
    · split at e
      · obtain ⟨p, h, e⟩ := pms e
        cases e; exact .refl _
      · cases e
    · cases e
  · split at e
    · split at e
      · obtain ⟨p, h, e⟩ := pms e
        cases e; exact .refl _
      · cases e
    · cases e
  · split at e
    · cases e; exact .refl _
    · obtain ⟨p, h, e⟩ := pms e
      cases e; exact .refl _
    · cases e
  · obtain ⟨p, h, e⟩ := pbs e
    obtain ⟨p, h, e⟩ := pms e
    cases e; exact .refl _
theorem pforG_kp {tgt : D → PEnv → Option PEnv} {body : PEnv → Option PFl} (ht : ∀ {x : D} {env env' : PEnv}, tgt x env = some env' → Kp env env') (P : PEnv → PFl → Prop) (hb : ∀ {env0 env : PEnv} {f : PFl}, Kp env0 env → body env = some f → match f with
      | .nx e => Kp env0 e | .ct e => Kp env0 e | .bk e => Kp env0 e | .rt _ _ e => Kp env0 e) : ∀ {xs : List D} {env0 env : PEnv} {f : PFl}, Kp env0 env → pforG tgt body xs env = some f → match f with
      | .nx e => Kp env0 e | .ct e => Kp env0 e | .bk e => Kp env0 e | .rt _ _ e => Kp env0 e
  | [], env0, env, f, k, e => by cases e; exact k
  | x :: xs, env0, env, f, k, e => by
    obtain ⟨e2, h1, e⟩ := pbs e
    obtain ⟨f2, h2, e⟩ := pbs e
    have k2 := hb (k.trans (ht h1)) h2
    split at e
    · exact pforG_kp ht P hb k2 e
    · exact pforG_kp ht P hb k2 e
    · cases e; exact k2
    · cases e; exact k2
/-- in a comprehension: names of its own apart -/
structure KpO (own : List Nat) (env env' : PEnv) : Prop where
  len : env'.length = env.length
  lk : ∀ i b d, i ∉ own → pslot env i = some (b, .lk, d) → pslot env' i = some (b, .lk, d)
theorem KpO.refl (own : List Nat) (env : PEnv) : KpO own env env := ⟨rfl, fun _ _ _ _ h => h⟩
theorem KpO.of {own : List Nat} {a b c : PEnv} (h : KpO own a b) (k : Kp b c) : KpO own a c := ⟨k.len.trans h.len, fun i b d hi e => k.lk i b d (h.lk i b d hi e)⟩
theorem pwipe_slot : ∀ {own : List Nat} {env : PEnv} {i : Nat}, i ∉ own → pslot (pwipe env own) i = pslot env i
  | [], env, i, _ => rfl
  | j :: own, env, i, h => by
    have h' : i ≠ j ∧ i ∉ own := by simpa using h
    show pslot (pwipe (env.set j none) own) i = _
    rw [pwipe_slot h'.2, pslot_set_ne (Ne.symm h'.1)]
theorem pwipe_len : ∀ {own : List Nat} {env : PEnv}, (pwipe env own).length = env.length
  | [], env => rfl
  | j :: own, env => by
    show (pwipe (env.set j none) own).length = _
    rw [pwipe_len, List.length_set]
theorem prest_len : ∀ {own : List Nat} {env old : PEnv}, (prest env old own).length = env.length
  | [], env, old => rfl
  | j :: own, env, old => by
    show (prest (env.set j _) old own).length = _
    rw [prest_len, List.length_set]
theorem prest_slot : ∀ {own : List Nat} {env old : PEnv} {i : Nat}, i ∉ own → pslot (prest env old own) i = pslot env i
  | [], env, old, i, _ => rfl
  | j :: own, env, old, i, h => by
    have h' : i ≠ j ∧ i ∉ own := by simpa using h
    show pslot (prest (env.set j _) old own) i = _
    rw [prest_slot h'.2, pslot_set_ne (Ne.symm h'.1)]
theorem prest_own : ∀ {own : List Nat} {env old : PEnv} {i : Nat}, i ∈ own → i < env.length → own.Nodup → pslot (prest env old own) i = pslot old i
  | j :: own, env, old, i, h, hl, nd => by
    show pslot (prest (env.set j _) old own) i = _
    have nd' := List.nodup_cons.mp nd
    rcases List.mem_cons.mp h with e | e
    · subst e
      rw [prest_slot nd'.1, pslot_set hl]
    · exact prest_own e (by rw [List.length_set]; exact hl) nd'.2
theorem KpO.wipe {own : List Nat} {a b : PEnv} (h : KpO own a b) : KpO own a (pwipe b own) := ⟨pwipe_len.trans h.len, fun i b d hi e => by rw [pwipe_slot hi]; exact h.lk i b d hi e⟩
theorem pcompG_kp {tgt : D → PEnv → Option PEnv} {test : PEnv → Option (Bool × PEnv)} {elt : PEnv → Option ((O × D) × PEnv)} {own : List Nat} (ht : ∀ {x : D} {env env' : PEnv}, tgt x env = some env' → Kp env env') (hc : ∀ {env env' : PEnv} {b : Bool}, test env = some (b, env') → Kp env env')
    (he : ∀ {env env' : PEnv} {p : O × D}, elt env = some (p, env') → Kp env env') : ∀ {xs acc : List D} {env0 env : PEnv} {r : List D × PEnv}, KpO own env0 env → pcompG tgt test elt own xs acc env = some r → KpO own env0 r.2
  | [], acc, env0, env, r, k, e => by cases e; exact k
  | x :: xs, acc, env0, env, r, k, e => by
    obtain ⟨e2, h1, e⟩ := pbs e
    obtain ⟨p, h2, e⟩ := pbs e
    have k2 := (k.of (ht h1)).of (hc h2)
    split at e
    · obtain ⟨q, h3, e⟩ := pbs e
      split at e
      · exact pcompG_kp ht hc he (k2.of (he h3)).wipe e
      · cases e
    · exact pcompG_kp ht hc he k2.wipe e
section
variable {Φ : PFns} (hΦ : KpF Φ)
include hΦ
theorem pcallG_kp {f : Nat} {rs : List PR} {perm : List Nat} {env env' : PEnv} {r : PR} (e : pcallG Φ f rs perm env = some (r, env')) : Kp env env' := by
  obtain ⟨as, h1, e⟩ := pbs e
  split at e
  · obtain ⟨sl, h2, e⟩ := pbs e
    obtain ⟨p, h3, e⟩ := pbs e
    obtain ⟨e4, h4, e⟩ := pms e
    cases e
    exact pgive_kp h2 (hΦ f sl p.1 p.2 h3) (.refl _) h4
  · cases e
theorem kp : ∀ m : E, KpS (pv Φ m)
  | .none_ => kpT (fun e => by cases e; exact .refl _) (fun e => by cases e; exact .refl _)
  | .bool b => kpT (fun e => by cases e; exact .refl _) (fun e => by cases e; exact .refl _)
  | .int i => kpE fun e => by cases e; exact .refl _
  | .str s => kpE fun e => by cases e; exact .refl _
  | .var i => kpE fun e => by obtain ⟨s, _, e⟩ := pms e; cases e; exact .refl _
  | .nil => { kpNo with
      es := fun e => by cases e; exact .refl _
      tk := fun e => by cases e; exact .refl _
      o := fun e => by cases e; exact .refl _
      as := fun {ws env env'} e => by
        cases ws with
        | nil => cases e; exact .refl _
        | cons => cases e }
  | .cons a r => { kpNo with
      es := fun e => by
        obtain ⟨p, h1, e⟩ := pbs e
        obtain ⟨q, h2, e⟩ := pms e
        cases e
        exact ((kp a).e h1).trans ((kp r).es h2)
      tk := fun e => by
        obtain ⟨p, h1, e⟩ := pbs e
        obtain ⟨p', h2, e⟩ := pbs e
        obtain ⟨q, h3, e⟩ := pms e
        cases e
        exact (((kp a).e h1).trans (ptake_kp h2)).trans ((kp r).tk h3)
      as := fun {ws env env'} e => by
        cases ws with
        | nil => cases e
        | cons w ws =>
          obtain ⟨p, h1, e⟩ := pbs e
          exact ((kp a).a h1).trans ((kp r).as e) }
  | .list es => kpE fun e => by
    obtain ⟨p, h1, e⟩ := pbs e
    split at e <;> cases e
    exact (kp es).tk h1
  | .tup es => kpE fun e => by
    obtain ⟨p, h1, e⟩ := pbs e
    split at e <;> cases e
    exact (kp es).tk h1
  | .bin o a b => kpE fun e => by
    obtain ⟨p, h1, e⟩ := pbs e
    obtain ⟨q, h2, e⟩ := pbs e
    rw [pbinF_env e]
    exact ((kp a).e h1).trans ((kp b).e h2)
  | .neg a => kpE fun e => by
    obtain ⟨p, h1, e⟩ := pbs e
    split at e <;> cases e
    exact (kp a).e h1
  | .inv a => kpE fun e => by
    obtain ⟨p, h1, e⟩ := pbs e
    split at e <;> cases e
    exact (kp a).e h1
  | .cmp o a b => kpE fun e => by
    obtain ⟨p, h1, e⟩ := pbs e
    obtain ⟨q, h2, e⟩ := pbs e
    obtain ⟨x, h3, e⟩ := pbs e
    obtain ⟨y, h4, e⟩ := pbs e
    obtain ⟨k, h5, e⟩ := pms e
    cases e
    exact ((kp a).e h1).trans ((kp b).e h2)
  | .chain o o' a b c => kpE fun e => by
    obtain ⟨p, h1, e⟩ := pbs e
    obtain ⟨q, h2, e⟩ := pbs e
    obtain ⟨x, h3, e⟩ := pbs e
    obtain ⟨y, h4, e⟩ := pbs e
    obtain ⟨k, h5, e⟩ := pbs e
    split at e
    · obtain ⟨r, h6, e⟩ := pbs e
      obtain ⟨y', h7, e⟩ := pbs e
      obtain ⟨z, h8, e⟩ := pbs e
      obtain ⟨k', h9, e⟩ := pms e
      cases e
      exact (((kp a).e h1).trans ((kp b).e h2)).trans ((kp c).e h6)
    · cases e
      exact ((kp a).e h1).trans ((kp b).e h2)
  | .and_ a b => kpT (fun e => by
      obtain ⟨p, h1, e⟩ := pbs e
      split at e
      · exact ((kp a).e h1).trans ((kp b).e e)
      · cases e; exact (kp a).e h1
      · cases e) (fun e => by
      obtain ⟨p, h1, e⟩ := pbs e
      split at e
      · exact ((kp a).t h1).trans ((kp b).t e)
      · cases e; exact (kp a).t h1)
  | .or_ a b => kpT (fun e => by
      obtain ⟨p, h1, e⟩ := pbs e
      split at e
      · cases e; exact (kp a).e h1
      · exact ((kp a).e h1).trans ((kp b).e e)
      · cases e) (fun e => by
      obtain ⟨p, h1, e⟩ := pbs e
      split at e
      · cases e; exact (kp a).t h1
      · exact ((kp a).t h1).trans ((kp b).t e))
  | .not_ a => kpT (fun e => by
      obtain ⟨p, h1, e⟩ := pbs e
      split at e
      · cases e; exact (kp a).e h1
      · cases e) (fun e => by
      obtain ⟨p, h1, e⟩ := pms e
      cases e
      exact (kp a).t h1)
  | .ite c a b => kpE fun e => by
    obtain ⟨p, h1, e⟩ := pbs e
    split at e
    · exact ((kp c).t h1).trans ((kp a).e e)
    · exact ((kp c).t h1).trans ((kp b).e e)
  | .sub a b => kpE fun e => by
    obtain ⟨p, h1, e⟩ := pbs e
    obtain ⟨q, h2, e⟩ := pbs e
    obtain ⟨k, h3, e⟩ := pbs e
    rw [psubF_env e]
    exact ((kp a).e h1).trans ((kp b).e h2)
  | .slice a lo hi => kpE fun e => by
    obtain ⟨p, h1, e⟩ := pbs e
    obtain ⟨q, h2, e⟩ := pbs e
    obtain ⟨r, h3, e⟩ := pbs e
    rw [psliceF_env e]
    exact (((kp a).e h1).trans ((kp lo).o h2)).trans ((kp hi).o h3)
  | .attr a c k => kpE fun e => by
    obtain ⟨p, h1, e⟩ := pbs e
    rw [pattrF_env e]
    exact (kp a).e h1
  | .call f es ks perm => kpE fun e => by
    obtain ⟨p, h1, e⟩ := pbs e
    obtain ⟨q, h2, e⟩ := pbs e
    exact (((kp es).es h1).trans ((kp ks).es h2)).trans (pcallG_kp hΦ e)
  | .keep a => kpE fun e => by
    obtain ⟨p, h1, e⟩ := pbs e
    obtain ⟨q, h2, e⟩ := pms e
    cases e
    exact ((kp a).e h1).trans (ptake_kp h2)
  | .fz a => kpE fun e => by
    obtain ⟨p, h1, e⟩ := pbs e
    obtain ⟨q, h2, e⟩ := pms e
    cases e
    exact ((kp a).e h1).trans (ptake_kp h2)
  | .rev a => kpE fun e => by
    obtain ⟨p, h1, e⟩ := pbs e
    split at e <;> cases e
    exact (kp a).e h1
  | .lrng1 a => kpE fun e => by
    obtain ⟨p, h1, e⟩ := pbs e
    split at e
    · split at e <;> cases e
      exact (kp a).e h1
    · cases e
  | .bi b es => kpE fun e => by
    obtain ⟨p, h1, e⟩ := pbs e
    exact ((kp es).es h1).trans (pbiF_kp e)
  | .comp elt t it c own => kpE fun {env env' r} e => by
    obtain ⟨p, h1, e⟩ := pbs e
    split at e
    · rename_i hc
      obtain ⟨q, h2, e⟩ := pms e
      cases e
      obtain ⟨k1, l1⟩ := (kp it).i h1
      have k2 := pcompG_kp (own := own) (kp t).a (kp c).t (fun {env env' p} e => by
        obtain ⟨q, h1, e⟩ := pbs e
        exact ((kp elt).e h1).trans (ptake_kp e)) (KpO.refl own p.2).wipe h2
      refine punlock_kp l1 (k1.trans ⟨prest_len.trans k2.len, fun i b d hs => ?_⟩)
      by_cases hi : i ∈ own
      · rw [prest_own hi (by rw [k2.len]; exact pslot_lt hs) hc.1]; exact hs
      · rw [prest_slot hi]; exact k2.lk i b d hi hs
    · cases e
  | .append a b => kpE fun e => by
    obtain ⟨p, h1, e⟩ := pbs e
    obtain ⟨l0, h2, e⟩ := pbs e
    obtain ⟨q, h3, e⟩ := pbs e
    obtain ⟨t, h4, e⟩ := pbs e
    obtain ⟨l, h5, e⟩ := pbs e
    split at e <;> cases e
    exact ((((kp a).e h1).trans ((kp b).e h3)).trans (ptake_kp h4)).trans (pput_kp h5)
  | .extend a b => kpE fun e => by
    obtain ⟨p, h1, e⟩ := pbs e
    obtain ⟨l0, h2, e⟩ := pbs e
    obtain ⟨q, h3, e⟩ := pbs e
    obtain ⟨l, h5, e⟩ := pbs e
    split at e
    · split at e <;> cases e
      exact (((kp a).e h1).trans ((kp b).e h3)).trans (pput_kp h5)
    · cases e
  | .pop a => kpE fun e => by
    obtain ⟨p, h1, e⟩ := pbs e
    obtain ⟨l, h5, e⟩ := pbs e
    obtain ⟨x, h2, e⟩ := pms e
    cases e
    exact ((kp a).e h1).trans (pput_kp h5)
  | .popAt a b => kpE fun e => by
    obtain ⟨p, h1, e⟩ := pbs e
    obtain ⟨l0, h2, e⟩ := pbs e
    obtain ⟨q, h3, e⟩ := pbs e
    obtain ⟨l, h5, e⟩ := pbs e
    split at e
    · split at e
      · obtain ⟨k, h6, e⟩ := pbs e
        obtain ⟨x, h7, e⟩ := pms e
        cases e
        exact (((kp a).e h1).trans ((kp b).e h3)).trans (pput_kp h5)
      · cases e
    · cases e
  | .index a b => kpE fun e => by
    obtain ⟨p, h1, e⟩ := pbs e
    obtain ⟨q, h3, e⟩ := pbs e
    split at e
    · split at e
      · obtain ⟨k, h6, e⟩ := pms e
        cases e
        exact ((kp a).e h1).trans ((kp b).e h3)
      · cases e
    · cases e
  | .tname i => kpA psetN_kp
  | .ttup ts => kpA fun {o d env env'} e => by
    have e : ptupA (pv Φ ts).as o d env = some env' := e
    unfold ptupA at e
    split at e
    · exact (kp ts).as e
    · split at e
      · exact (kp ts).as e
      · cases e
    · cases e
  | .tsub a b => kpA fun {o d env env'} e => by
    obtain ⟨p, h1, e⟩ := pbs e
    obtain ⟨l0, h2, e⟩ := pbs e
    obtain ⟨q, h3, e⟩ := pbs e
    obtain ⟨l, h5, e⟩ := pbs e
    split at e
    · obtain ⟨k, h6, e⟩ := pms e
      cases e
      exact (((kp a).e h1).trans ((kp b).e h3)).trans (pput_kp h5)
    · cases e
  | .iof a => kpI fun e => by
    obtain ⟨p, h1, e⟩ := pbs e
    exact ⟨((kp a).e h1).trans (pwalk_kp e), (pwalk_lk e).mono ((kp a).e h1)⟩
  | .irng1 a => kpI fun e => by
    obtain ⟨p, h1, e⟩ := pbs e
    split at e
    · split at e <;> cases e
      exact ⟨(kp a).e h1, fun p hp => nomatch hp⟩
    · cases e
  | .irng2 a b => kpI fun e => by
    obtain ⟨p, h1, e⟩ := pbs e
    obtain ⟨q, h2, e⟩ := pbs e
    split at e
    · split at e <;> cases e
      exact ⟨((kp a).e h1).trans ((kp b).e h2), fun p hp => nomatch hp⟩
    · cases e
  | .ienum a => kpI fun e => by
    obtain ⟨p, h1, e⟩ := pbs e
    obtain ⟨q, h2, e⟩ := pms e
    cases e
    exact ⟨((kp a).e h1).trans (pwalk_kp h2), (pwalk_lk h2).mono ((kp a).e h1)⟩
  | .izip a b => kpI fun e => by
    obtain ⟨p, h1, e⟩ := pbs e
    obtain ⟨p', h2, e⟩ := pbs e
    obtain ⟨q, h3, e⟩ := pbs e
    obtain ⟨q', h4, e⟩ := pbs e
    split at e
    · cases e
      have k1 := (kp a).e h1
      have k2 := k1.trans (pwalk_kp h2)
      have k3 := k2.trans ((kp b).e h3)
      exact ⟨k3.trans (pwalk_kp h4), ((pwalk_lk h4).mono k3).app ((pwalk_lk h2).mono k1)⟩
    · cases e
  | .skip => kpNo | .seq _ _ => kpNo | .asg _ _ => kpNo | .par _ _ => kpNo | .ex _ => kpNo | .ret _ => kpNo | .retN => kpNo
  | .if_ _ _ _ => kpNo | .while_ _ _ => kpNo | .for_ _ _ _ => kpNo | .brk => kpNo | .cont => kpNo | .never => kpNo | .init _ _ => kpNo
def KpFl (env0 : PEnv) : PFl → Prop
  | .nx e => Kp env0 e
  | .ct e => Kp env0 e
  | .bk e => Kp env0 e
  | .rt _ _ e => Kp env0 e
theorem psetNs_kp : ∀ {is : List Nat} {ws : List (O × D)} {env env' : PEnv}, psetNs is ws env = some env' → Kp env env'
  | [], [], env, env', e => by cases e; exact .refl _
  | [], _ :: _, env, env', e => nomatch e
  | _ :: _, [], env, env', e => nomatch e
  | i :: is, w :: ws, env, env', e => by
    obtain ⟨e1, h1, e⟩ := pbs e
    exact (psetNs_kp h1).trans (psetN_kp e)
omit hΦ in
theorem pwhN_kp {c : PEnv → Option (Bool × PEnv)} {b : PEnv → Option PFl} (hc : ∀ {env env' : PEnv} {k : Bool}, c env = some (k, env') → Kp env env') (hb : ∀ {env : PEnv} {f : PFl}, b env = some f → KpFl env f) : ∀ {n : Nat} {env : PEnv} {f : PFl}, pwhN c b n env = some f → KpFl env f
  | 0, env, f, e => nomatch e
  | n + 1, env, f, e => by
    obtain ⟨p, h1, e⟩ := pbs e
    have k1 := hc h1
    split at e
    · obtain ⟨f1, h2, e⟩ := pbs e
      have k2 := hb h2
      have tr : ∀ {e1 : PEnv}, Kp p.2 e1 → KpFl e1 f → KpFl env f := fun {e1} k3 k4 => by
        cases f <;> exact (k1.trans k3).trans k4
      split at e
      · exact tr k2 (pwhN_kp hc hb e)
      · exact tr k2 (pwhN_kp hc hb e)
      · cases e; exact k1.trans k2
      · cases e; exact k1.trans k2
    · cases e; exact k1
omit hΦ in
theorem pwhO_of {c : PEnv → Option (Bool × PEnv)} {b : PEnv → Option PFl} {env : PEnv} {f : PFl} (h : pwhO c b env = some f) : ∃ n, pwhN c b n env = some f := by
  unfold pwhO at h
  split at h
  · exact ⟨_, h⟩
  · cases h
theorem KpFl.from {env0 env : PEnv} {f : PFl} (k : Kp env0 env) (h : KpFl env f) : KpFl env0 f := by
  cases f <;> exact k.trans h
theorem kpSt : ∀ (m : E) {env : PEnv} {f : PFl}, pvS Φ pwhO m env = some f → KpFl env f
  | .skip, env, f, e => by cases e; exact .refl _
  | .seq a b, env, f, e => by
    obtain ⟨f1, h1, e⟩ := pbs e
    have k1 := kpSt a h1
    split at e
    · exact KpFl.from hΦ k1 (kpSt b e)
    · cases e; exact k1
  | .asg t m, env, f, e => by
    obtain ⟨p, h1, e⟩ := pbs e
    obtain ⟨q, h2, e⟩ := pbs e
    obtain ⟨e3, h3, e⟩ := pms e
    cases e
    exact (((kp hΦ m).e h1).trans (ptake_kp h2)).trans ((kp hΦ t).a h3)
  | .par is m, env, f, e => by
    obtain ⟨p, h1, e⟩ := pbs e
    split at e
    · obtain ⟨e3, h3, e⟩ := pms e
      cases e
      exact ((kp hΦ m).tk h1).trans (psetNs_kp hΦ h3)
    · cases e
  | .ex m, env, f, e => by
    obtain ⟨p, h1, e⟩ := pms e
    cases e
    exact (kp hΦ m).e h1
  | .ret m, env, f, e => by
    obtain ⟨p, h1, e⟩ := pbs e
    have k1 := (kp hΦ m).e h1
    have tk : ∀ {f : PFl}, ((ptake p.2 p.1).map fun q => PFl.rt q.1.1 q.1.2 q.2) = some f → KpFl env f := fun {f} e => by
      obtain ⟨q, h2, e⟩ := pms e
      cases e
      exact k1.trans (ptake_kp h2)
    split at e
    · split at e
      · rename_i hs
        cases e
        exact k1.trans (Kp.set fun b d e => by rw [hs] at e; cases e)
      · exact tk e
      · cases e
    · cases e
    · exact tk e
  | .retN, env, f, e => by cases e; exact .refl _
  | .if_ c a b, env, f, e => by
    obtain ⟨p, h1, e⟩ := pbs e
    have k1 := (kp hΦ c).t h1
    split at e
    · exact KpFl.from hΦ k1 (kpSt a e)
    · exact KpFl.from hΦ k1 (kpSt b e)
  | .while_ c b, env, f, e => by
    obtain ⟨n, h⟩ := pwhO_of e
    exact pwhN_kp (kp hΦ c).t (fun {env f} e => kpSt b e) h
  | .for_ t it b, env, f, e => by
    obtain ⟨p, h1, e⟩ := pbs e
    obtain ⟨f1, h2, e⟩ := pms e
    obtain ⟨k1, l1⟩ := (kp hΦ it).i h1
    have k2 := pforG_kp (fun {x env env'} e => (kp hΦ t).a e) (fun _ _ => True) (fun {env0 env f} k e => KpFl.from hΦ k (kpSt b e)) (Kp.refl p.2) h2
    split at e
    · cases e; exact punlock_kp l1 (k1.trans k2)
    · cases e
      exact KpFl.from hΦ k1 k2
  | .brk, env, f, e => by cases e; exact .refl _
  | .cont, env, f, e => by cases e; exact .refl _
  | .init c m, env, f, e => by
    obtain ⟨p, h1, e⟩ := pbs e
    split at e
    · cases e; exact (kp hΦ m).tk h1
    · cases e
  | .never, env, f, e => nomatch e
  | .none_, env, f, e => nomatch e
  | .bool _, env, f, e => nomatch e
  | .int _, env, f, e => nomatch e
  | .str _, env, f, e => nomatch e
  | .var _, env, f, e => nomatch e
  | .nil, env, f, e => nomatch e
  | .cons _ _, env, f, e => nomatch e
  | .list _, env, f, e => nomatch e
  | .tup _, env, f, e => nomatch e
  | .bin _ _ _, env, f, e => nomatch e
  | .neg _, env, f, e => nomatch e
  | .inv _, env, f, e => nomatch e
  | .cmp _ _ _, env, f, e => nomatch e
  | .chain _ _ _ _ _, env, f, e => nomatch e
  | .and_ _ _, env, f, e => nomatch e
  | .or_ _ _, env, f, e => nomatch e
  | .not_ _, env, f, e => nomatch e
  | .ite _ _ _, env, f, e => nomatch e
  | .sub _ _, env, f, e => nomatch e
  | .slice _ _ _, env, f, e => nomatch e
  | .attr _ _ _, env, f, e => nomatch e
  | .call _ _ _ _, env, f, e => nomatch e
  | .keep _, env, f, e => nomatch e
  | .bi _ _, env, f, e => nomatch e
  | .comp _ _ _ _ _, env, f, e => nomatch e
  | .append _ _, env, f, e => nomatch e
  | .extend _ _, env, f, e => nomatch e
  | .pop _, env, f, e => nomatch e
  | .popAt _ _, env, f, e => nomatch e
  | .index _ _, env, f, e => nomatch e
  | .tname _, env, f, e => nomatch e
  | .ttup _, env, f, e => nomatch e
  | .tsub _ _, env, f, e => nomatch e
  | .iof _, env, f, e => nomatch e
  | .irng1 _, env, f, e => nomatch e
  | .irng2 _ _, env, f, e => nomatch e
  | .ienum _, env, f, e => nomatch e
  | .izip _ _, env, f, e => nomatch e
  | .fz _, env, f, e => nomatch e
  | .rev _, env, f, e => nomatch e
  | .lrng1 _, env, f, e => nomatch e
end
theorem pslot_zero (s : PSlot) (env : PEnv) : pslot (s :: env) 0 = s := rfl
theorem pslot_succ (s : PSlot) (env : PEnv) (i : Nat) : pslot (s :: env) (i + 1) = pslot env i := rfl
theorem pretS_kp : ∀ {sl : List (Bool × Fg × D)} {env : PEnv} {ps : List (Fg × D)}, pretS sl env = some ps → ∀ (k : Nat) (d : D), sl[k]? = some (true, .lk, d) → pslot env k = some (true, .lk, d) → ps[k]? = some (.lk, d)
  | [], env, ps, e, k, d, h, _ => by simp at h
  | _ :: _, [], ps, e, k, d, h, _ => by simp [pretS] at e
  | (b, g0, d0) :: sl, s :: env, ps, e, k, d, h, h2 => by
    unfold pretS at e
    obtain ⟨r, h1, e⟩ := pbs e
    cases k with
    | zero =>
      simp at h
      obtain ⟨rfl, rfl, rfl⟩ := h
      rw [pslot_zero] at h2
      subst h2
      cases e
      simp [ret, unl]
    | succ k =>
      have h3 := pretS_kp h1 k d (by simpa using h) h2
      split at e
      · cases e; simpa using h3
      · split at e <;> cases e
        simpa using h3
theorem start_slot {sl : List (Bool × Fg × D)} {n k : Nat} {x : Bool × Fg × D} (h : sl[k]? = some x) : pslot (sl.map some ++ List.replicate n none) k = some x := by
  have hk : k < sl.length := by
    rcases Nat.lt_or_ge k sl.length with q | q
    · exact q
    · rw [List.getElem?_eq_none q] at h; cases h
  unfold pslot
  rw [List.getD_eq_getElem?_getD, List.getElem?_append_left (by simpa using hk), List.getElem?_map, h]
  rfl
theorem pphi_kp (fs : List Fn) : ∀ n, KpF (pphi pwhO fs n)
  | 0, f, sl, r, ps, e, _, _, _ => nomatch e
  | n + 1, f, sl, r, ps, e, k, d, hk => by
    have e : (match fs[f]? with
      | some fn => if fn.made then prunI (pphi pwhO fs n) pwhO fn sl else prunF (pphi pwhO fs n) pwhO fn sl
      | none => none) = some (r, ps) := e
    split at e
    · rename_i fn hfn
      split at e
      · unfold prunI at e
        split at e
        · obtain ⟨f1, h1, e⟩ := pbs e
          have k1 := kpSt (pphi_kp fs n) _ h1
          split at e
          · obtain ⟨q, h2, e⟩ := pms e
            cases e
            have hs := start_slot (n := fn.size - (fn.par + 1)) hk
            have h3 := (show Kp _ _ from k1).lk (k + 1) true d (by rw [pslot_succ]; exact hs)
            refine pretS_kp h2 k d hk ?_
            rename_i o d0 env
            unfold pslot at h3 ⊢
            rw [List.getD_eq_getElem?_getD] at h3 ⊢
            rw [List.getElem?_drop, Nat.add_comm]
            exact h3
          · cases e
        · cases e
      · unfold prunF at e
        split at e
        · obtain ⟨f1, h1, e⟩ := pbs e
          have k1 := kpSt (pphi_kp fs n) _ h1
          have hs := start_slot (n := fn.size - fn.par) hk
          split at e
          · obtain ⟨q, h2, e⟩ := pms e
            cases e
            exact pretS_kp h2 k d hk ((show Kp _ _ from k1).lk k true d hs)
          · obtain ⟨q, h2, e⟩ := pms e
            cases e
            exact pretS_kp h2 k d hk ((show Kp _ _ from k1).lk k true d hs)
          · cases e
        · cases e
    · cases e
end Ev
end
section
set_option linter.all false
set_option autoImplicit false
/-! Pv3: trees and flags side by side. -/
namespace Ev
open PySem

mutual
inductive SmV : W → O → D → Prop
  | fr (d : D) : SmV (.d d) .fr d
  | ls {ws : List W} : (∀ w ∈ ws, isLk w = false) → SmV (.lst ws) .ls (.list (frzL ws))
  | un {w : W} : isLk w = false → SmV w .un (frz w)
  | tp {ws : List W} {os : List O} {ds : List D} : SmL ws os ds → SmV (.tup ws) (.tp os) (.tup ds)
  | tpd {os : List O} {ds : List D} : SmL (ds.map W.d) os ds → SmV (.d (.tup ds)) (.tp os) (.tup ds)
inductive SmL : List W → List O → List D → Prop
  | nil : SmL [] [] []
  | cons {w : W} {o : O} {d : D} {ws : List W} {os : List O} {ds : List D} : SmV w o d → SmL ws os ds → SmL (w :: ws) (o :: os) (d :: ds)
end
mutual
theorem SmV.frz_eq : ∀ {w : W} {o : O} {d : D}, SmV w o d → frz w = d
  | _, _, _, .fr d => by simp only [frz]
  | _, _, _, .ls _ => by simp only [frz]
  | _, _, _, .un _ => rfl
  | _, _, _, .tp h => by rw [frz_tup, SmL.frz_eq h]
  | _, _, _, .tpd _ => by simp only [frz]
theorem SmL.frz_eq : ∀ {w : List W} {o : List O} {d : List D}, SmL w o d → frzL w = d
  | _, _, _, .nil => rfl
  | _, _, _, .cons a b => by simp only [frzL, SmV.frz_eq a, SmL.frz_eq b]
end
theorem SmV.nlk {w : W} {o : O} {d : D} (h : SmV w o d) : isLk w = false := by
  cases h <;> first | rfl | assumption
theorem SmL.nlk {ws : List W} {os : List O} {ds : List D} (h : SmL ws os ds) : ∀ w ∈ ws, isLk w = false := by
  induction ws generalizing os ds with
  | nil => exact fun _ h => nomatch h
  | cons w ws ih =>
    cases h with
    | cons a b =>
      intro x hx
      rcases List.mem_cons.mp hx with e | e
      · rw [e]; exact a.nlk
      · exact ih b x e
theorem SmL.length {ws : List W} {os : List O} {ds : List D} (h : SmL ws os ds) : ws.length = ds.length ∧ os.length = ds.length := by
  induction ws generalizing os ds with
  | nil => cases h; exact ⟨rfl, rfl⟩
  | cons w ws ih =>
    cases h with
    | cons a b =>
      obtain ⟨h1, h2⟩ := ih b
      exact ⟨by simp [h1], by simp [h2]⟩
theorem SmL.ds : ∀ (ds : List D), SmL (ds.map W.d) (ds.map fun _ => O.fr) ds
  | [] => .nil
  | d :: ds => .cons (.fr d) (SmL.ds ds)
/-- a name's tree -/
inductive SmS : W → Fg → D → Prop
  | fr (d : D) : SmS (.d d) .fr d
  | ls {ws : List W} : (∀ w ∈ ws, isLk w = false) → SmS (.lst ws) .ls (.list (frzL ws))
  | lk (l : List D) : SmS (.lk (.lst (l.map W.d))) .lk (.list l)
theorem SmS.frz_eq {w : W} {g : Fg} {d : D} (h : SmS w g d) : frz w = d := by
  cases h
  · simp only [frz]
  · simp only [frz]
  · rw [frz_lk, frz_lst, frzL_ds]
theorem ds_nlk (l : List D) : ∀ w ∈ l.map W.d, isLk w = false := fun w hw => by
  obtain ⟨d, _, rfl⟩ := List.mem_map.mp hw
  rfl
theorem SmS.ofV {w : W} {o : O} {d : D} {g : Fg} (h : SmV w o d) (e : fgOf o = some g) : SmS w g d := by
  cases h <;> cases e
  · exact .fr _
  · exact .ls ‹_›
inductive SmSl : Slot → PSlot → Prop
  | no : SmSl none none
  | yes {b : Bool} {w : W} {g : Fg} {d : D} : SmS w g d → SmSl (some (b, w)) (some (b, g, d))
structure SmE (env : Env) (pe : PEnv) : Prop where
  len : env.length = pe.length
  at_ : ∀ i, SmSl (slot env i) (pslot pe i)
theorem qslot_lt {env : Env} {i : Nat} {s : Bool × W} (h : slot env i = some s) : i < env.length := by
  unfold slot at h
  rcases Nat.lt_or_ge i env.length with q | q
  · exact q
  · rw [List.getD_eq_getElem?_getD, List.getElem?_eq_none q] at h; cases h
theorem qslot_set {env : Env} {i : Nat} {s : Slot} (h : i < env.length) : slot (env.set i s) i = s := by
  unfold slot
  rw [List.getD_eq_getElem?_getD, List.getElem?_set_self h]; rfl
theorem qslot_set_ne {env : Env} {i j : Nat} {s : Slot} (h : i ≠ j) : slot (env.set i s) j = slot env j := by
  unfold slot
  rw [List.getD_eq_getElem?_getD, List.getD_eq_getElem?_getD, List.getElem?_set_ne h]
theorem set_ge {α : Type} {l : List α} {i : Nat} {a : α} (h : l.length ≤ i) : l.set i a = l := List.set_eq_of_length_le h
theorem SmE.set {env : Env} {pe : PEnv} (h : SmE env pe) (i : Nat) {s : Slot} {p : PSlot} (k : SmSl s p) : SmE (env.set i s) (pe.set i p) := ⟨by rw [List.length_set, List.length_set]; exact h.len, fun j => by
  by_cases hj : i = j
  · subst hj
    rcases Nat.lt_or_ge i env.length with q | q
    · rw [qslot_set q, pslot_set (by rw [← h.len]; exact q)]; exact k
    · rw [set_ge q, set_ge (by rw [← h.len]; exact q)]; exact h.at_ i
  · rw [qslot_set_ne hj, pslot_set_ne hj]; exact h.at_ j⟩
/-- the tree alone changes, its datum stays -/
theorem SmE.setL {env : Env} {pe : PEnv} (h : SmE env pe) {i : Nat} {b : Bool} {w : W} {g : Fg} {d : D} (hp : pslot pe i = some (b, g, d)) (k : SmS w g d) : SmE (env.set i (some (b, w))) pe := ⟨by rw [List.length_set]; exact h.len, fun j => by
  by_cases hj : i = j
  · subst hj
    rw [qslot_set (by rw [h.len]; exact pslot_lt hp), hp]; exact .yes k
  · rw [qslot_set_ne hj]; exact h.at_ j⟩
theorem SmE.get {env : Env} {pe : PEnv} (h : SmE env pe) {i : Nat} {b : Bool} {g : Fg} {d : D} (e : pslot pe i = some (b, g, d)) : ∃ w, slot env i = some (b, w) ∧ SmS w g d := by
  have := h.at_ i
  rw [e] at this
  cases hs : slot env i with
  | none => rw [hs] at this; cases this
  | some s =>
    rw [hs] at this
    cases this with
    | yes k => exact ⟨_, rfl, k⟩
theorem SmE.no {env : Env} {pe : PEnv} (h : SmE env pe) {i : Nat} (e : pslot pe i = none) : slot env i = none := by
  have := h.at_ i
  rw [e] at this
  cases hs : slot env i with
  | none => rfl
  | some s => rw [hs] at this; cases this
theorem qput {env : Env} {i : Nat} {b : Bool} {w w' : W} (h : slot env i = some (b, w)) : put env i w' = env.set i (some (b, w')) := by
  unfold put; rw [h]
/-- a result -/
inductive SmR (env : Env) : R → PR → Prop
  | val {w : W} {o : O} {d : D} : SmV w o d → SmR env (.val w) (.val o d)
  | elt {i k : Nat} {w : W} : getW env (.elt i k) = some w → isLk w = false → SmR env (.elt i k) (.val .un (frz w))
  | fr {i : Nat} (d : D) : SmR env (.val (.d d)) (.var i .fr d)
  | var {i : Nat} {g : Fg} {d : D} : g ≠ .fr → SmR env (.var i) (.var i g d)
/-- .. that does not lean on the names -/
inductive SmT : R → PR → Prop
  | val {w : W} {o : O} {d : D} : SmV w o d → SmT (.val w) (.val o d)
  | fr {i : Nat} (d : D) : SmT (.val (.d d)) (.var i .fr d)
  | var {i : Nat} {g : Fg} {d : D} : g ≠ .fr → SmT (.var i) (.var i g d)
theorem SmT.r {env : Env} {r : R} {p : PR} (h : SmT r p) : SmR env r p := by
  cases h
  · exact .val ‹_›
  · exact .fr _
  · exact .var ‹_›
/-- items of names' lists are still there -/
def EltOk (env env' : Env) : Prop := ∀ i k w, getW env (.elt i k) = some w → isLk w = false → ∃ w', getW env' (.elt i k) = some w' ∧ frz w' = frz w ∧ isLk w' = false
theorem EltOk.refl (env : Env) : EltOk env env := fun _ _ w h k => ⟨w, h, rfl, k⟩
theorem SmR.elts {env env' : Env} {r : R} {p : PR} (h : SmR env r p) (k : EltOk env env') : SmR env' r p := by
  cases h with
  | val h => exact .val h
  | elt h1 h2 =>
    obtain ⟨w', h3, h4, h5⟩ := k _ _ _ h1 h2
    rw [← h4]
    exact .elt h3 h5
  | fr d => exact .fr d
  | var h => exact .var h
theorem getW_elt {env : Env} {i k : Nat} {w : W} (h : getW env (.elt i k) = some w) : ∃ b ws, slot env i = some (b, .lst ws) ∧ ws[k]? = some w := by
  have h : (match slot env i with | some (_, .lst ws) => ws[k]? | _ => none) = some w := h
  split at h
  · rename_i b ws hs
    exact ⟨b, ws, hs, h⟩
  · cases h
theorem frzL_get : ∀ {ws : List W} {k : Nat} {w : W}, ws[k]? = some w → (frzL ws)[k]? = some (frz w)
  | [], k, w, h => by simp at h
  | x :: ws, 0, w, h => by simp at h; subst h; simp [frzL]
  | x :: ws, k + 1, w, h => by simp only [frzL]; simpa using frzL_get (ws := ws) (k := k) (by simpa using h)
theorem frzL_set : ∀ {ws : List W} {k : Nat} {w w' : W}, frzL (ws.set k w') = (frzL ws).set k (frz w')
  | [], k, w, w' => rfl
  | x :: ws, 0, w, w' => rfl
  | x :: ws, k + 1, w, w' => by simp only [List.set_cons_succ, frzL]; rw [frzL_set (ws := ws) (k := k) (w := w)]
theorem set_eq_self {α : Type} : ∀ {l : List α} {k : Nat} {x : α}, l[k]? = some x → l.set k x = l
  | [], _, _, h => by simp at h
  | a :: l, 0, x, h => by simp at h; subst h; rfl
  | a :: l, k + 1, x, h => by rw [List.set_cons_succ, set_eq_self (l := l) (k := k) (by simpa using h)]
theorem frzL_set_same {ws : List W} {k : Nat} {w w' : W} (h : ws[k]? = some w) (e : frz w' = frz w) : frzL (ws.set k w') = frzL ws := by
  rw [frzL_set (w := w), e, set_eq_self (frzL_get h)]
theorem nlk_set {ws : List W} {k : Nat} {w' : W} (h : ∀ w ∈ ws, isLk w = false) (e : isLk w' = false) : ∀ w ∈ ws.set k w', isLk w = false := fun w hw => by
  rcases List.mem_or_eq_of_mem_set hw with q | q
  · exact h w q
  · rw [q]; exact e

/-! ### reading -/
section
variable {env : Env} {pe : PEnv}
theorem rd_of (S : SmE env pe) {r : R} {p : PR} {d : D} (h : SmR env r p) (e : prd pe p = some d) : rd env r = some d := by
  cases h with
  | val h => cases e; show some (frz _) = _; rw [h.frz_eq]
  | elt h1 h2 => cases e; show (getW env _).map frz = _; rw [h1]; rfl
  | fr d => cases e; rfl
  | @var i g d' h =>
    have e' : (pslot pe i).map (·.2.2) = some d := by cases g <;> first | exact e | exact absurd rfl h
    obtain ⟨⟨b, g', d''⟩, h1, h2⟩ := pms e'
    cases h2
    obtain ⟨w, h3, h4⟩ := S.get h1
    show ((slot env i).map (·.2)).map frz = _
    rw [h3]
    exact congrArg some h4.frz_eq
theorem SmR.ref {env : Env} {r : R} {p : PR} (h : SmR env r p) : True := trivial
/-- an item frozen where it stands -/
theorem take_elt (S : SmE env pe) {i k : Nat} {w : W} (h : getW env (.elt i k) = some w) (hl : isLk w = false) : ∃ env', take env (.elt i k) = some (.d (frz w), env') ∧ SmE env' pe ∧ EltOk env env' := by
  obtain ⟨b, ws, hs, hk⟩ := getW_elt h
  have hsv := S.at_ i
  rw [hs] at hsv
  have ht : take env (.elt i k) = match some w with
    | some (.d x) => some (.d x, env)
    | some (.lk _) => none
    | some w => some (.d (frz w), setW env (.elt i k) (.d (frz w)))
    | none => none := by rw [← h]; rfl
  have hset : setW env (.elt i k) (.d (frz w)) = env.set i (some (b, .lst (ws.set k (.d (frz w))))) := by
    show (match slot env i with | some (_, .lst ws) => put env i (.lst (ws.set k (.d (frz w)))) | _ => env) = _
    rw [hs]
    exact qput hs
  have other : ∃ env', some (W.d (frz w), setW env (.elt i k) (.d (frz w))) = some (W.d (frz w), env') ∧ SmE env' pe ∧ EltOk env env' := by
    refine ⟨_, rfl, ?_, ?_⟩
    · rw [hset]
      cases hp : pslot pe i with
      | none => rw [hp] at hsv; cases hsv
      | some s =>
        rw [hp] at hsv
        cases hsv with
        | yes q =>
          cases q with
          | ls hn =>
            refine S.setL hp ?_
            have e : frzL (ws.set k (.d (frz w))) = frzL ws := frzL_set_same hk (frz_d _)
            rw [← e]
            exact .ls (nlk_set hn rfl)
    · rw [hset]
      intro i' k' w' h' l'
      obtain ⟨b', ws', hs', hk'⟩ := getW_elt h'
      by_cases hi : i = i'
      · subst hi
        rw [hs] at hs'; cases hs'
        have g1 : ∀ x, (ws.set k (.d (frz w)))[k']? = some x → getW (env.set i (some (b, .lst (ws.set k (.d (frz w)))))) (.elt i k') = some x := fun x hx => by
          show (match slot (env.set i _) i with | some (_, .lst ws) => ws[k']? | _ => none) = _
          rw [qslot_set (qslot_lt hs)]
          exact hx
        by_cases hkk : k = k'
        · subst hkk
          rw [hk] at hk'; cases hk'
          refine ⟨_, g1 _ (List.getElem?_set_self ?_), by simp, rfl⟩
          rcases Nat.lt_or_ge k ws.length with q | q
          · exact q
          · rw [List.getElem?_eq_none q] at hk; cases hk
        · exact ⟨w', g1 _ (by rw [List.getElem?_set_ne hkk]; exact hk'), rfl, l'⟩
      · refine ⟨w', ?_, rfl, l'⟩
        show (match slot (env.set i _) i' with | some (_, .lst ws) => ws[k']? | _ => none) = _
        rw [qslot_set_ne hi]
        exact h'
  rw [ht]
  cases w with
  | d x => exact ⟨env, by simp only [frz_d], S, .refl _⟩
  | lk w => cases hl
  | lst l => exact other
  | tup l => exact other
  | dct ks vs => exact other
theorem un_d (d : D) : SmV (.d d) .un d := by
  have := SmV.un (w := .d d) rfl
  rwa [frz_d] at this
theorem set_slot {env : Env} {i : Nat} {s : Bool × W} (h : slot env i = some s) : env.set i (some s) = env := by
  refine set_eq_self ?_
  have hl := qslot_lt h
  unfold slot at h
  rw [List.getD_eq_getElem?_getD] at h
  cases hq : env[i]? with
  | none => rw [List.getElem?_eq_getElem hl] at hq; cases hq
  | some x => rw [hq] at h; exact congrArg some h
/-- take, of both -/
theorem take_of (S : SmE env pe) {r : R} {p : PR} {q : (O × D) × PEnv} (h : SmR env r p) (e : ptake pe p = some q) : ∃ w env', take env r = some (w, env') ∧ SmE env' q.2 ∧ SmV w q.1.1 q.1.2 := by
  cases h with
  | val h => cases e; exact ⟨_, env, rfl, S, h⟩
  | elt h1 h2 =>
    cases e
    obtain ⟨env', h3, h4, _⟩ := take_elt S h1 h2
    exact ⟨_, env', h3, h4, un_d _⟩
  | fr d => cases e; exact ⟨_, env, rfl, S, .fr d⟩
  | @var i g d' h =>
    have e' : (match pslot pe i with
      | some (_, .lk, _) => none
      | some (b, _, d) => some ((O.fr, d), pe.set i (some (b, .fr, d)))
      | none => none) = some q := by cases g <;> first | exact e | exact absurd rfl h
    split at e'
    · cases e'
    · rename_i b g' d hn hs
      cases e'
      obtain ⟨w, h1, h2⟩ := S.get hs
      have hg : getW env (.var i) = some w := by show (slot env i).map (·.2) = _; rw [h1]; rfl
      have ht : take env (.var i) = match getW env (.var i) with
        | some (.d x) => some (.d x, env)
        | some (.lk _) => none
        | some w => some (.d (frz w), setW env (.var i) (.d (frz w)))
        | none => none := rfl
      rw [hg] at ht
      cases h2 with
      | fr d =>
        refine ⟨_, env, ht, ?_, .fr d⟩
        have := S.set i (s := some (b, .d d)) (.yes (.fr d))
        have e1 := set_slot h1
        rw [e1] at this
        exact this
      | ls hl =>
        refine ⟨_, _, ht, ?_, ?_⟩
        · show SmE (put env i _) _
          rw [qput h1]
          refine S.set i (.yes ?_)
          rw [frz_lst]
          exact .fr _
        · rw [frz_lst]; exact .fr _
      | lk l => exact (hn rfl).elim
    · cases e'
theorem stab_of (S : SmE env pe) {r : R} {p : PR} (h : SmR env r p) : ∃ r' env', stab env r = some (r', env') ∧ SmE env' pe ∧ SmT r' p := by
  cases h with
  | val h => exact ⟨_, env, rfl, S, .val h⟩
  | elt h1 h2 =>
    obtain ⟨env', h3, h4, _⟩ := take_elt S h1 h2
    refine ⟨_, env', ?_, h4, .val (un_d _)⟩
    show (take env _).map _ = _
    rw [h3]; rfl
  | fr d => exact ⟨_, env, rfl, S, .fr d⟩
  | var h => exact ⟨_, env, rfl, S, .var h⟩
theorem frzL_ds' (ws : List W) : frzL ((frzL ws).map W.d) = frzL ws := frzL_ds _
/-- a name's own list, its items frozen -/
theorem freeze_ls (S : SmE env pe) {i : Nat} {b : Bool} {ws : List W} (hs : slot env i = some (b, .lst ws)) : SmE (env.set i (some (b, .lst ((frzL ws).map W.d)))) pe ∧ EltOk env (env.set i (some (b, .lst ((frzL ws).map W.d)))) := by
  have hsv := S.at_ i
  rw [hs] at hsv
  constructor
  · cases hp : pslot pe i with
    | none => rw [hp] at hsv; cases hsv
    | some s =>
      rw [hp] at hsv
      cases hsv with
      | yes q =>
        cases q with
        | ls hn =>
          refine S.setL hp ?_
          have := SmS.ls (ws := (frzL ws).map W.d) (ds_nlk _)
          rw [frzL_ds'] at this
          exact this
  · intro i' k' w' h' l'
    obtain ⟨b', ws', hs', hk'⟩ := getW_elt h'
    by_cases hi : i = i'
    · subst hi
      rw [hs] at hs'; cases hs'
      refine ⟨.d (frz w'), ?_, by simp, rfl⟩
      show (match slot (env.set i _) i with | some (_, .lst ws) => ws[k']? | _ => none) = _
      rw [qslot_set (qslot_lt hs)]
      show ((frzL ws).map W.d)[k']? = _
      rw [List.getElem?_map, frzL_get hk']; rfl
    · refine ⟨w', ?_, rfl, l'⟩
      show (match slot (env.set i _) i' with | some (_, .lst ws) => ws[k']? | _ => none) = _
      rw [qslot_set_ne hi]
      exact h'
theorem frz_list {w : W} {l : List D} (h : frz w = .list l) (n : isLk w = false) : w = .d (.list l) ∨ ∃ ws, w = .lst ws ∧ frzL ws = l := by
  cases w with
  | d x => rw [frz_d] at h; exact .inl (by rw [h])
  | lst ws => rw [frz_lst] at h; cases h; exact .inr ⟨ws, rfl, rfl⟩
  | tup ws => rw [frz_tup] at h; cases h
  | dct ks vs => simp only [frz] at h; cases h
  | lk w => cases n
theorem frz_tup' {w : W} {l : List D} (h : frz w = .tup l) (n : isLk w = false) : w = .d (.tup l) ∨ ∃ ws, w = .tup ws ∧ frzL ws = l := by
  cases w with
  | d x => rw [frz_d] at h; exact .inl (by rw [h])
  | lst ws => rw [frz_lst] at h; cases h
  | tup ws => rw [frz_tup] at h; cases h; exact .inr ⟨ws, rfl, rfl⟩
  | dct ks vs => simp only [frz] at h; cases h
  | lk w => cases n
theorem frz_obj {w : W} {c : Nat} {fs : List D} (h : frz w = .obj c fs) (n : isLk w = false) : w = .d (.obj c fs) := by
  cases w with
  | d x => rw [frz_d] at h; rw [h]
  | lst ws => rw [frz_lst] at h; cases h
  | tup ws => rw [frz_tup] at h; cases h
  | dct ks vs => simp only [frz] at h; cases h
  | lk w => cases n
theorem frz_scr {w : W} {l : List Int} (h : frz w = .scr l) (n : isLk w = false) : w = .d (.scr l) := by
  cases w with
  | d x => rw [frz_d] at h; rw [h]
  | lst ws => rw [frz_lst] at h; cases h
  | tup ws => rw [frz_tup] at h; cases h
  | dct ks vs => simp only [frz] at h; cases h
  | lk w => cases n
def shOf : D → Option Sh
  | .list l => some (.list l)
  | .tup l => some (.tup l)
  | _ => none
theorem shell_val {w : W} {sh : Sh} (n : isLk w = false) (e : shOf (frz w) = some sh) : shell env (.val w) = some (sh, env) := by
  show shellW env (.val w) (some w) = _
  cases hf : frz w <;> rw [hf] at e <;> cases e
  · rcases frz_list hf n with rfl | ⟨ws, rfl, rfl⟩ <;> rfl
  · rcases frz_tup' hf n with rfl | ⟨ws, rfl, rfl⟩ <;> rfl
theorem pshell_eq {p : PR} {sh : Sh} (e : pshell pe p = some sh) : ∃ d, prd pe p = some d ∧ shOf d = some sh := by
  unfold pshell at e
  split at e
  · rename_i l h; exact ⟨_, h, e⟩
  · rename_i l h; exact ⟨_, h, e⟩
  · cases e
theorem shell_of (S : SmE env pe) {r : R} {p : PR} {sh : Sh} (h : SmR env r p) (e : pshell pe p = some sh) : ∃ env', shell env r = some (sh, env') ∧ SmE env' pe ∧ EltOk env env' := by
  obtain ⟨d, h1, h2⟩ := pshell_eq e
  cases h with
  | val h => cases h1; exact ⟨env, shell_val h.nlk (by rw [h.frz_eq]; exact h2), S, .refl _⟩
  | elt h3 h4 =>
    cases h1
    obtain ⟨env', h5, h6, h7⟩ := take_elt S h3 h4
    refine ⟨env', ?_, h6, h7⟩
    show ((take env _).bind _) = _
    rw [h5]
    cases hf : frz _ <;> rw [hf] at h2 <;> cases h2 <;> simp [hf]
  | fr d => cases h1; exact ⟨env, shell_val rfl (by rw [frz_d]; exact h2), S, .refl _⟩
  | @var i g d' h =>
    have e' : (pslot pe i).map (·.2.2) = some d := by cases g <;> first | exact h1 | exact absurd rfl h
    obtain ⟨⟨b, g', d''⟩, h3, h4⟩ := pms e'
    cases h4
    obtain ⟨w, h5, h6⟩ := S.get h3
    have hg : shell env (.var i) = shellW env (.var i) (some w) := by show shellW env (.var i) ((slot env i).map (·.2)) = _; rw [h5]; rfl
    rw [hg]
    cases h6 with
    | fr => cases d'' <;> cases h2 <;> exact ⟨env, rfl, S, .refl _⟩
    | ls hn =>
      cases h2
      obtain ⟨q1, q2⟩ := freeze_ls S h5
      refine ⟨_, ?_, q1, q2⟩
      show some (_, setW env (.var i) _) = _
      rw [← qput h5]; rfl
    | lk l =>
      cases h2
      refine ⟨env.set i (some (b, .lk (.lst (l.map W.d)))), ?_, S.setL h3 (.lk l), fun i' k' w' h' l' => ?_⟩
      · show some (_, put env i _) = _
        rw [qput h5]
        simp only [frzL_ds]
      · obtain ⟨b', ws', hs', hk'⟩ := getW_elt h'
        by_cases hi : i = i'
        · subst hi
          rw [h5] at hs'; cases hs'
        · refine ⟨w', ?_, rfl, l'⟩
          show (match slot (env.set i _) i' with | some (_, .lst ws) => ws[k']? | _ => none) = _
          rw [qslot_set_ne hi]
          exact h'
end
end Ev
end
section
set_option linter.all false
set_option autoImplicit false
/-! Pv4: operations side by side. -/
namespace Ev
open PySem
section
variable {env : Env} {pe : PEnv}
theorem pex_val {r : R} {p : PR} (h : SmR env r p) (e : pex p = true) {l : List D} (hd : prd pe p = some (.tup l)) (S : SmE env pe) : take env r = some (.d (.tup l), env) := by
  cases h with
  | val h =>
    cases h with
    | fr d => cases hd; rfl
    | _ => cases e
  | elt => cases e
  | fr d => cases hd; rfl
  | @var i g d' h =>
    have e' : (pslot pe i).map (·.2.2) = some (.tup l) := by cases g <;> first | exact hd | exact absurd rfl h
    obtain ⟨⟨b, g', d''⟩, h3, h4⟩ := pms e'
    have h4 : d'' = .tup l := h4
    subst h4
    obtain ⟨w, h5, h6⟩ := S.get h3
    cases h6
    have hg : take env (.var i) = match getW env (.var i) with
        | some (.d x) => some (.d x, env)
        | some (.lk _) => none
        | some w => some (.d (frz w), setW env (.var i) (.d (frz w)))
        | none => none := rfl
    rw [show getW env (.var i) = some (.d (.tup l)) by show (slot env i).map (·.2) = _; rw [h5]; rfl] at hg
    exact hg
theorem pshell_list {p : PR} {l : List D} (h : prd pe p = some (.list l)) : pshell pe p = some (.list l) := by unfold pshell; rw [h]
theorem pshell_tup {p : PR} {l : List D} (h : prd pe p = some (.tup l)) : pshell pe p = some (.tup l) := by unfold pshell; rw [h]
theorem ls_ds (l : List D) : SmV (.lst (l.map W.d)) .ls (.list l) := by
  have := SmV.ls (ws := l.map W.d) (ds_nlk l)
  rwa [frzL_ds] at this
theorem binF_of (S : SmE env pe) {o : Bop} {ra rb : R} {pa pb : PR} {q : PR × PEnv} (ha : SmT ra pa) (hb : SmR env rb pb) (e : pbinF o pa pb pe = some q) : ∃ r env', binF o ra rb env = some (r, env') ∧ SmE env' q.2 ∧ SmR env' r q.1 := by
  have ra' := ha.r (env := env)
  unfold pbinF at e
  split at e
  · rename_i x y hx hy
    split at e
    · rename_i ho
      split at e
      · rename_i hl
        cases e
        obtain ⟨e1, h1, S1, k1⟩ := shell_of S ra' (pshell_list hx)
        obtain ⟨e2, h2, S2, k2⟩ := shell_of S1 (hb.elts k1) (pshell_list hy)
        refine ⟨_, e2, ?_, S2, .val (ls_ds _)⟩
        unfold binF
        rw [rd_of S ra' hx, rd_of S hb hy]
        dsimp only
        rw [if_pos ho, h1]
        show (shell e1 rb).bind _ = _
        rw [h2]
        show (if lenOk (x.length + y.length) = true then some (R.val (W.lst ((x ++ y).map W.d)), e2) else none) = _
        rw [if_pos hl]
      · cases e
    · cases e
  · rename_i x y hx hy
    split at e
    · rename_i ho
      split at e
      · rename_i hl
        cases e
        simp only [Bool.and_eq_true] at hl
        obtain ⟨⟨⟨l1, l2⟩, l3⟩, l4⟩ := hl
        refine ⟨_, env, ?_, S, .val (.fr _)⟩
        unfold binF
        rw [rd_of S ra' hx, rd_of S hb hy]
        dsimp only
        rw [if_pos ho, pex_val ra' l1 hx S]
        show (take env rb).bind _ = _
        rw [pex_val hb l2 hy S]
        show (if (lenOk (x.length + y.length) && !x.isEmpty) = true then some (R.val (W.d (.tup (x ++ y))), env) else none) = _
        rw [if_pos (by rw [l3, l4]; rfl)]
      · cases e
    · cases e
  · rename_i x k hx hy
    split at e
    · rename_i ho
      split at e
      · rename_i hl
        cases e
        obtain ⟨e1, h1, S1, k1⟩ := shell_of S ra' (pshell_list hx)
        refine ⟨_, e1, ?_, S1, .val (ls_ds _)⟩
        unfold binF
        rw [rd_of S ra' hx, rd_of S hb hy]
        dsimp only
        rw [if_pos ho, h1]
        show (if (decide (-(2 ^ 63) ≤ k) && decide (k < 2 ^ 63) && lenOk (x.length * k.toNat)) = true then some (R.val (W.lst ((List.replicate k.toNat x).flatten.map W.d)), e1) else none) = _
        rw [if_pos hl]
      · cases e
    · cases e
  · rename_i a b n1 n2 n3 hx hy
    obtain ⟨d, h1, h2⟩ := pms e
    cases h2
    refine ⟨_, env, ?_, S, .val (.fr d)⟩
    unfold binF
    rw [rd_of S ra' hx, rd_of S hb hy]
    split
    · rename_i q1 q2; cases q1; cases q2; exact (n1 _ _ rfl rfl).elim
    · rename_i q1 q2; cases q1; cases q2; exact (n2 _ _ rfl rfl).elim
    · rename_i q1 q2; cases q1; cases q2; exact (n3 _ _ rfl rfl).elim
    · rename_i q1 q2; cases q1; cases q2; rw [h1]; rfl
    · rename_i q; exact (q _ _ rfl rfl).elim
  · cases e
theorem atI_frz {ws : List W} {i : Int} {x : D} (h : atI (frzL ws) i = some x) : ∃ w, atI ws i = some w ∧ frz w = x ∧ ∃ n, L2.ixN ws.length i = some n ∧ ws[n]? = some w := by
  unfold atI L2.atI at h ⊢
  rw [frzL_length] at h
  cases hn : L2.ixN ws.length i with
  | none => rw [hn] at h; cases h
  | some n =>
    rw [hn] at h
    have h : (frzL ws)[n]? = some x := h
    show ∃ w, ws[n]? = some w ∧ _
    cases hw : ws[n]? with
    | none =>
      have : (frzL ws)[n]? = none := by
        rw [List.getElem?_eq_none_iff, frzL_length]
        exact List.getElem?_eq_none_iff.mp hw
      rw [this] at h; cases h
    | some w =>
      rw [frzL_get hw] at h
      cases h
      exact ⟨w, rfl, rfl, n, rfl, hw⟩
theorem atI_get {α : Type} {l : List α} {i : Int} {x : α} (h : atI l i = some x) : ∃ n, L2.ixN l.length i = some n ∧ l[n]? = some x := pbs h
theorem SmL.get : ∀ {ws : List W} {os : List O} {ds : List D} {n : Nat} {w : W}, SmL ws os ds → ws[n]? = some w → ∃ o d, os[n]? = some o ∧ ds[n]? = some d ∧ SmV w o d
  | _, _, _, 0, _, .cons a b, e => by simp at e; subst e; exact ⟨_, _, rfl, rfl, a⟩
  | _, _, _, n + 1, _, .cons a b, e => by
    obtain ⟨o, d, h1, h2, h3⟩ := SmL.get (n := n) b (by simpa using e)
    exact ⟨o, d, by simpa using h1, by simpa using h2, h3⟩
theorem un_of {w : W} (h : isLk w = false) {d : D} (e : frz w = d) : SmV w .un d := by rw [← e]; exact .un h
def eltR (env : Env) (j n : Nat) : W → R × Env
  | .d x => (.val (.d x), env)
  | _ => (.elt j n, env)
theorem subF_of (S : SmE env pe) {ra : R} {pa : PR} {k : D} {q : PR × PEnv} (ha : SmR env ra pa) (e : psubF pa k pe = some q) : ∃ r, subF ra k env = some (r, env) ∧ q.2 = pe ∧ SmR env r q.1 := by
  unfold psubF at e
  split at e
  case h_2 => cases e
  rename_i i
  split at e
  case isFalse => cases e
  rename_i hn
  cases hd : prd pe pa with
  | none => rw [hd] at e; cases e
  | some d =>
    rw [hd] at e
    cases ha with
    | elt h1 h2 => cases hn
    | fr d' =>
      cases hd
      cases d with
      | list l => obtain ⟨x, h1, h2⟩ := pms e; cases h2; exact ⟨.val (.d x), by show (atI l i).map _ = _; rw [h1]; rfl, rfl, .val (un_d x)⟩
      | tup l => obtain ⟨x, h1, h2⟩ := pms e; cases h2; exact ⟨.val (.d x), by show (atI l i).map _ = _; rw [h1]; rfl, rfl, .val (un_d x)⟩
      | scr l => obtain ⟨x, h1, h2⟩ := pms e; cases h2; exact ⟨.val (.d (.int x)), by show (atI l i).map _ = _; rw [h1]; rfl, rfl, .val (.fr _)⟩
      | _ => cases e
    | @val w o d' h =>
      cases hd
      have nl := h.nlk
      have fe := h.frz_eq
      cases d with
      | list l =>
        obtain ⟨x, h1, h2⟩ := pms e
        cases h2
        rcases frz_list fe nl with rfl | ⟨ws, rfl, rfl⟩
        · exact ⟨.val (.d x), by show (atI l i).map _ = _; rw [h1]; rfl, rfl, .val (un_d x)⟩
        · obtain ⟨w, h3, h4, n, h5, h6⟩ := atI_frz h1
          refine ⟨.val w, by show (atI ws i).map _ = _; rw [h3]; rfl, rfl, .val (un_of ?_ h4)⟩
          cases h with
          | ls hw => exact hw w (List.mem_of_getElem? h6)
          | un _ => cases hn
      | tup l =>
        obtain ⟨x, h1, h2⟩ := pms e
        cases h2
        rcases frz_tup' fe nl with rfl | ⟨ws, rfl, rfl⟩
        · exact ⟨.val (.d x), by show (atI l i).map _ = _; rw [h1]; rfl, rfl, .val (un_d x)⟩
        · obtain ⟨w, h3, h4, n, h5, h6⟩ := atI_frz h1
          refine ⟨.val w, by show (atI ws i).map _ = _; rw [h3]; rfl, rfl, .val (un_of ?_ h4)⟩
          cases h with
          | tp hw => exact hw.nlk w (List.mem_of_getElem? h6)
          | un _ => cases hn
      | scr l =>
        obtain ⟨x, h1, h2⟩ := pms e
        cases h2
        obtain rfl := frz_scr fe nl
        exact ⟨.val (.d (.int x)), by show (atI l i).map _ = _; rw [h1]; rfl, rfl, .val (.fr _)⟩
      | _ => cases e
    | @var j g d' h =>
      have e' : (pslot pe j).map (·.2.2) = some d := by cases g <;> first | exact hd | exact absurd rfl h
      obtain ⟨⟨b, g', d''⟩, h3, h4⟩ := pms e'
      have h4 : d'' = d := h4
      subst h4
      obtain ⟨w, h5, h6⟩ := S.get h3
      have hg : getW env (.var j) = some w := by show (slot env j).map (·.2) = _; rw [h5]; rfl
      cases h6 with
      | fr =>
        cases d'' with
        | list l => obtain ⟨x, h1, h2⟩ := pms e; cases h2; exact ⟨.val (.d x), by unfold subF; rw [hg]; show (atI l i).map _ = _; rw [h1]; rfl, rfl, .val (un_d x)⟩
        | tup l => obtain ⟨x, h1, h2⟩ := pms e; cases h2; exact ⟨.val (.d x), by unfold subF; rw [hg]; show (atI l i).map _ = _; rw [h1]; rfl, rfl, .val (un_d x)⟩
        | scr l => obtain ⟨x, h1, h2⟩ := pms e; cases h2; exact ⟨.val (.d (.int x)), by unfold subF; rw [hg]; show (atI l i).map _ = _; rw [h1]; rfl, rfl, .val (.fr _)⟩
        | _ => cases e
      | @ls ws hw =>
        obtain ⟨x, h1, h2⟩ := pms e
        cases h2
        obtain ⟨w, h7, h8, n, h9, h10⟩ := atI_frz h1
        have hsub : subF (.var j) (.int i) env = some (eltR env j n w) := by
          unfold subF; rw [hg]
          show ((L2.ixN ws.length i).bind fun n => (ws[n]?).map (eltR env j n)) = _
          rw [h9]
          show (ws[n]?).map (eltR env j n) = _
          rw [h10]; rfl
        rw [hsub]
        have hl := hw w (List.mem_of_getElem? h10)
        have he : getW env (.elt j n) = some w := by
          show (match slot env j with | some (_, .lst ws) => ws[n]? | _ => none) = _
          rw [h5]; exact h10
        cases w with
        | d y => rw [frz_d] at h8; subst h8; exact ⟨_, rfl, rfl, .val (un_d _)⟩
        | lk => cases hl
        | lst l => rw [← h8]; exact ⟨_, rfl, rfl, .elt he hl⟩
        | tup l => rw [← h8]; exact ⟨_, rfl, rfl, .elt he hl⟩
        | dct ks vs => rw [← h8]; exact ⟨_, rfl, rfl, .elt he hl⟩
      | lk l =>
        obtain ⟨x, h1, h2⟩ := pms e
        cases h2
        obtain ⟨n, h7, h8⟩ := atI_get h1
        refine ⟨.val (.d x), ?_, rfl, .val (un_d x)⟩
        unfold subF; rw [hg]
        show ((atI (l.map W.d) i).bind _) = _
        have : atI (l.map W.d) i = some (.d x) := by
          unfold atI L2.atI
          rw [List.length_map, h7]
          show (l.map W.d)[n]? = _
          rw [List.getElem?_map, h8]; rfl
        rw [this]; rfl
theorem sliceF_of (S : SmE env pe) {ra : R} {pa : PR} {lo hi : Option Int} {q : PR × PEnv} (ha : SmT ra pa) (e : psliceF pa lo hi pe = some q) : ∃ r env', sliceF ra lo hi env = some (r, env') ∧ SmE env' q.2 ∧ SmR env' r q.1 := by
  have ra' := ha.r (env := env)
  unfold psliceF at e
  have nscr : ∀ {l : List D} {sh : Sh} (d : D), prd pe pa = some d → shOf d = some sh → sliceF ra lo hi env = (shell env ra).bind fun p => match p.1 with
    | .list l => some (.val (.lst ((cut l lo hi).map W.d)), p.2)
    | .tup l => if whole l.length lo hi then none else some (.val (.d (.tup (cut l lo hi))), p.2) := fun {l sh} d hd hs => by
    unfold sliceF
    split
    · rename_i l' hg
      have := rd_of S ra' hd
      unfold rd at this
      rw [hg] at this
      have : frz (.d (.scr l')) = d := Option.some.inj this
      rw [frz_d] at this
      rw [← this] at hs; cases hs
    · rfl
  split at e
  · rename_i l hx
    cases e
    have hg : getW env ra = some (.d (.scr l)) := by
      have := rd_of S ra' hx
      obtain ⟨w, h1, h2⟩ := pms this
      rw [h1]
      cases ha with
      | @val w' o d h => cases h1; rw [frz_scr h2 h.nlk]
      | fr d => cases h1; rw [frz_scr h2 rfl]
      | @var j g d' h =>
        have e' : (pslot pe j).map (·.2.2) = some (D.scr l) := by cases g <;> first | exact hx | exact absurd rfl h
        obtain ⟨⟨b, g', d''⟩, h3, h4⟩ := pms e'
        have h4 : d'' = D.scr l := h4
        subst h4
        obtain ⟨w', h5, h6⟩ := S.get h3
        have h1 : (slot env j).map (·.2) = some w := h1
        rw [h5] at h1
        cases h1
        cases h6
        rfl
    refine ⟨_, env, by unfold sliceF; rw [hg], S, ?_⟩
    have := ls_ds ((cut l lo hi).map D.int)
    rw [List.map_map] at this
    exact .val this
  · rename_i l hx
    cases e
    obtain ⟨e1, h1, S1, k1⟩ := shell_of S ra' (pshell_list hx)
    refine ⟨_, e1, ?_, S1, .val (ls_ds _)⟩
    rw [nscr (l := l) (sh := .list l) _ hx rfl, h1]; rfl
  · rename_i l hx
    split at e
    · cases e
    · rename_i hw
      cases e
      obtain ⟨e1, h1, S1, k1⟩ := shell_of S ra' (pshell_tup hx)
      refine ⟨.val (.d (.tup (cut l lo hi))), e1, ?_, S1, .val (.fr _)⟩
      rw [nscr (l := l) (sh := .tup l) _ hx rfl, h1]
      show (if whole l.length lo hi = true then none else _) = _
      rw [if_neg hw]
  · cases e
theorem attrF_of (S : SmE env pe) {ra : R} {pa : PR} {c k : Nat} {q : PR × PEnv} (ha : SmR env ra pa) (e : pattrF pa c k pe = some q) : ∃ r, attrF ra c k env = some (r, env) ∧ q.2 = pe ∧ SmR env r q.1 := by
  unfold pattrF at e
  split at e
  · rename_i c' fs hx
    split at e
    · rename_i hc
      obtain ⟨x, h1, h2⟩ := pms e
      cases h2
      have hg : getW env ra = some (.d (.obj c' fs)) := by
        have := rd_of S ha hx
        obtain ⟨w, h1, h2⟩ := pms this
        rw [h1]
        cases ha with
        | @val w' o d h => cases h1; rw [frz_obj h2 h.nlk]
        | fr d => cases h1; rw [frz_obj h2 rfl]
        | elt h3 h4 => rw [h1] at h3; cases h3; rw [frz_obj h2 h4]
        | @var j g d' h =>
          have e' : (pslot pe j).map (·.2.2) = some (D.obj c' fs) := by cases g <;> first | exact hx | exact absurd rfl h
          obtain ⟨⟨b, g', d''⟩, h3, h4⟩ := pms e'
          have h4 : d'' = D.obj c' fs := h4
          subst h4
          obtain ⟨w', h5, h6⟩ := S.get h3
          have h1 : (slot env j).map (·.2) = some w := h1
          rw [h5] at h1
          cases h1
          cases h6
          rfl
      refine ⟨.val (.d x), ?_, rfl, .val (.fr x)⟩
      unfold attrF
      rw [hg]
      dsimp only
      rw [if_pos hc, h1]; rfl
    · cases e
  · cases e

/-! ### built-ins -/
/-- results in a row, none of them an item of a name's list -/
inductive SmTs : List R → List PR → Prop
  | nil : SmTs [] []
  | cons {r : R} {p : PR} {rs : List R} {ps : List PR} : SmT r p → SmTs rs ps → SmTs (r :: rs) (p :: ps)
theorem rdL_of (S : SmE env pe) : ∀ {rs : List R} {ps : List PR} {ds : List D}, SmTs rs ps → prdL pe ps = some ds → rdL env rs = some ds
  | _, _, _, .nil, e => e
  | _, _, _, .cons a b, e => by
    obtain ⟨d, h1, e⟩ := pbs e
    obtain ⟨ds, h2, e⟩ := pms e
    cases e
    show ((rd env _).bind fun d => _) = _
    rw [rd_of S (a.r (env := env)) h1]
    show (rdL env _).map _ = _
    rw [rdL_of S b h2]; rfl
theorem sort_of {ws : List W} {l : List D} (h : psortL (frzL ws) = some l) : ∃ ws', sortW ws = some ws' ∧ frzL ws' = l ∧ ∀ w ∈ ws', w ∈ ws := by
  unfold psortL at h
  obtain ⟨us, h1, h2⟩ := pms h
  unfold sortW at h1
  split at h1
  · rename_i hk
    cases h1
    have py : ∀ w : W, pyOf (W.d (frz w)) = pyOf w := fun w => by unfold pyOf; rw [frz_d]
    have hok : sortOk ws = true := by
      unfold sortOk at hk ⊢
      rw [frzL_map, List.map_map] at hk
      simp only [List.all_map, Function.comp_def, frz_d, py] at hk
      exact hk
    refine ⟨ws.mergeSort leW, by unfold sortW; rw [if_pos hok], ?_, fun w hw => (List.mem_mergeSort).mp hw⟩
    have e1 : (frzL ws).map W.d = ws.map fun w => W.d (frz w) := by rw [frzL_map, List.map_map]; rfl
    rw [← h2, e1, ← List.map_mergeSort (r := leW) (s := leW) (f := fun w => W.d (frz w)) (l := ws) (fun a _ b _ => by simp only [leW, PySem.W.dataLe, PySem.W.sortLe, py]), frzL_map, frzL_map, List.map_map]
    refine List.map_congr_left fun w _ => ?_
    show frz w = frz (W.d (frz w))
    rw [frz_d]
  · cases h1
theorem one_of (S : SmE env pe) {r : R} {p : PR} {d : D} (h : SmT r p) (e : prd pe p = some d) : rd env r = some d := rd_of S h.r e
theorem biF_list (r : R) : biF .list [r] env = (shell env r).bind fun p => match p.1 with
    | .list l => some (.val (.lst (l.map W.d)), p.2)
    | .tup l => some (.val (.lst (l.map W.d)), p.2) := rfl
theorem sortW_ok {ws : List W} {l : List D} (h : psortL (frzL ws) = some l) (hn : ∀ w ∈ ws, isLk w = false) : ∃ us, sortW ws = some us ∧ SmV (.lst us) .ls (.list l) := by
  obtain ⟨us, h1, h2, h3⟩ := sort_of h
  refine ⟨us, h1, ?_⟩
  rw [← h2]
  exact .ls fun w hw => hn w (h3 w hw)
theorem len_no {d : D} {x : D} (h : biD .len [d] = some x) : ∀ l, d ≠ .scr l := fun l e => by subst e; cases h
theorem rd_get {r : R} {d : D} (h : rd env r = some d) : ∃ w, getW env r = some w ∧ frz w = d := pms h
theorem biF_of (S : SmE env pe) {b : Bi} {rs : List R} {ps : List PR} {q : PR × PEnv} (h : SmTs rs ps) (e : pbiF b ps pe = some q) : ∃ r env', biF b rs env = some (r, env') ∧ SmE env' q.2 ∧ SmR env' r q.1 := by
  unfold pbiF at e
  split at e
  · rename_i p
    cases h with
    | cons a b => cases b; rename_i r
                  obtain ⟨sh, h1, e⟩ := pms e
                  obtain ⟨e1, h2, S1, _⟩ := shell_of S (a.r) h1
                  cases sh with
                  | list l => cases e; exact ⟨_, e1, by rw [biF_list, h2]; rfl, S1, .val (ls_ds l)⟩
                  | tup l => cases e; exact ⟨_, e1, by rw [biF_list, h2]; rfl, S1, .val (ls_ds l)⟩
  · rename_i p
    cases h with
    | cons a b =>
      cases b
      rename_i r
      split at e
      · rename_i l hl
        obtain ⟨t, h1, e⟩ := pms e
        cases e
        obtain ⟨w, e1, h2, S1, v1⟩ := take_of S (a.r) h1
        refine ⟨.val w, e1, ?_, S1, .val v1⟩
        show (match rd env r with | some (.tup _) => _ | _ => _) = _
        rw [one_of S a hl]
        show (take env r).map _ = _
        rw [h2]; rfl
      · rename_i l hl
        cases e
        obtain ⟨e1, h2, S1, _⟩ := shell_of S (a.r) (pshell_list hl)
        refine ⟨.val (.d (.tup l)), e1, ?_, S1, .val (.fr _)⟩
        show (match rd env r with | some (.tup _) => _ | _ => _) = _
        rw [one_of S a hl]
        show (shell env r).bind _ = _
        rw [h2]; rfl
      · cases e
  · rename_i p
    cases h with
    | cons a b =>
      cases b
      rename_i r
      split at e
      · rename_i l hl
        split at e
        case isFalse => cases e
        rename_i hun
        obtain ⟨t, h1, e⟩ := pms e
        cases e
        -- by what it is
        have viaSh : (∀ ws, r ≠ .val (.lst ws)) → ∃ r0 env', biF .sorted [r] env = some (r0, env') ∧ SmE env' pe ∧ SmR env' r0 (.val .ls (.list t)) := fun hne => by
          obtain ⟨e1, h2, S1, _⟩ := shell_of S (a.r) (pshell_list hl)
          have h1' : psortL (frzL (l.map W.d)) = some t := by rw [frzL_ds]; exact h1
          obtain ⟨us, h3, h4⟩ := sortW_ok h1' (ds_nlk l)
          refine ⟨.val (.lst us), e1, ?_, S1, .val h4⟩
          have : biF .sorted [r] env = (shell env r).bind fun p => match p.1 with
            | .list l => (sortW (l.map W.d)).map fun l => (.val (.lst l), p.2)
            | .tup l => none := by
            cases r with
            | val w => cases w <;> first | rfl | exact absurd rfl (hne _)
            | var i => rfl
            | elt i k => rfl
          rw [this, h2]
          show (sortW (l.map W.d)).map _ = _
          rw [h3]; rfl
        cases a with
        | @val w o d h =>
          cases w with
          | lst ws =>
            have hd : frz (.lst ws) = .list l := by rw [h.frz_eq]; exact Option.some.inj hl
            rw [frz_lst] at hd
            cases hd
            have hn : ∀ w ∈ ws, isLk w = false := by
              cases h with
              | ls hw => exact hw
              | un _ => cases hun
            obtain ⟨us, h3, h4⟩ := sortW_ok h1 hn
            exact ⟨.val (.lst us), env, by show (sortW ws).map _ = _; rw [h3]; rfl, S, .val h4⟩
          | d x => exact viaSh fun _ => nofun
          | tup x => exact viaSh fun _ => nofun
          | lk x => exact viaSh fun _ => nofun
          | dct x y => exact viaSh fun _ => nofun
        | fr d => exact viaSh fun _ => nofun
        | var h => exact viaSh fun _ => nofun
      · cases e
  · rename_i p
    cases h with
    | cons a b =>
      cases b
      rename_i r
      split at e
      · rename_i l hl
        split at e
        · rename_i h63
          obtain ⟨ns, h1, e⟩ := pms e
          cases e
          refine ⟨.val (.lst ((setSort ns).map fun i => .d (.int i))), env, ?_, S, .val ?_⟩
          · show (match rd env r with | some (.list l) => _ | _ => _) = _
            rw [one_of S a hl]
            show (if l.length < 63 then (dInts l).map _ else none) = _
            rw [if_pos h63, h1]; rfl
          · have := ls_ds ((setSort ns).map D.int)
            rw [List.map_map] at this
            exact this
        · cases e
      · cases e
  · rename_i p
    cases h with
    | cons a b =>
      cases b
      rename_i r
      split at e
      · rename_i l hl
        cases e
        refine ⟨.val (.d (.int l.length)), env, ?_, S, .val (.fr _)⟩
        obtain ⟨w, h1, h2⟩ := rd_get (one_of S a hl)
        have hw : w = .d (.scr l) := by
          cases a with
          | @val w' o d h => cases h1; exact frz_scr h2 h.nlk
          | fr d => cases h1; exact frz_scr h2 rfl
          | @var j g d' h =>
            have e' : (pslot pe j).map (·.2.2) = some (D.scr l) := by cases g <;> first | exact hl | exact absurd rfl h
            obtain ⟨⟨b, g', d''⟩, h3, h4⟩ := pms e'
            have h4 : d'' = D.scr l := h4
            subst h4
            obtain ⟨w', h5, h6⟩ := S.get h3
            have h1 : (slot env j).map (·.2) = some w := h1
            rw [h5] at h1
            cases h1
            cases h6
            rfl
        subst hw
        show (match getW env r with | some (.d (.scr l)) => _ | _ => _) = _
        rw [h1]
      · rename_i d hns hl
        obtain ⟨x, h1, e⟩ := pms e
        cases e
        refine ⟨.val (.d x), env, ?_, S, .val (.fr _)⟩
        have hr := one_of S a hl
        show (match getW env r with | some (.d (.scr l)) => _ | _ => (rdL env [r]).bind fun ds => (biD .len ds).map fun d => (R.val (.d d), env)) = _
        split
        · rename_i l' hg
          obtain ⟨w, h3, h4⟩ := rd_get hr
          rw [hg] at h3; cases h3
          rw [frz_d] at h4
          exact absurd h4.symm (len_no h1 l')
        · have : rdL env [r] = some [d] := by
            show ((rd env r).bind fun d => ((rdL env []).map (d :: ·))) = _
            rw [hr]; rfl
          rw [this]
          show (biD .len [d]).map _ = _
          rw [h1]; rfl
      · cases e
  · rename_i b' rs' n1 n2 n3 n4 n5
    obtain ⟨ds, h1, e⟩ := pbs e
    obtain ⟨d, h2, e⟩ := pms e
    cases e
    refine ⟨.val (.d d), env, ?_, S, .val (.fr _)⟩
    have hr := rdL_of S h h1
    have : biF b rs env = (rdL env rs).bind fun ds => (biD b ds).map fun d => (.val (.d d), env) := by
      have one : ∀ {r : R}, rs = [r] → ∃ p, ps = [p] := fun {r} hh => by
        subst hh
        cases h with
        | cons a b => cases b; exact ⟨_, rfl⟩
      unfold biF
      split
      · obtain ⟨p, rfl⟩ := one rfl; exact (n1 _ rfl rfl).elim
      · obtain ⟨p, rfl⟩ := one rfl; exact (n2 _ rfl rfl).elim
      · obtain ⟨p, rfl⟩ := one rfl; exact (n3 _ rfl rfl).elim
      · obtain ⟨p, rfl⟩ := one rfl; exact (n3 _ rfl rfl).elim
      · obtain ⟨p, rfl⟩ := one rfl; exact (n4 _ rfl rfl).elim
      · obtain ⟨p, rfl⟩ := one rfl; exact (n5 _ rfl rfl).elim
      · rfl
    rw [this, hr]
    show (biD b ds).map _ = _
    rw [h2]; rfl
end
end Ev
end
section
set_option linter.all false
set_option autoImplicit false
/-! Pv5: walks and loops side by side. -/
namespace Ev
open PySem
def KpOn (l : List Nat) (pe pe2 : PEnv) : Prop := ∀ i ∈ l, ∀ b d, pslot pe i = some (b, .lk, d) → pslot pe2 i = some (b, .lk, d)
theorem Kp.on {pe pe2 : PEnv} (h : Kp pe pe2) (l : List Nat) : KpOn l pe pe2 := fun i _ b d e => h.lk i b d e
structure WalkOk (pe' : PEnv) (src : Src) (lk : List Nat) (items : List D) (lks : List (Nat × Fg)) : Prop where
  nx : ∀ env2 pe2, SmE env2 pe2 → KpOn (lks.map (·.1)) pe' pe2 → (∀ k, nxt env2 src k = some items[k]?) ∧ srcLen env2 src = items.length
  un : ∀ env2 pe2, SmE env2 pe2 → KpOn (lks.map (·.1)) pe' pe2 → SmE (unlock env2 lk) (punlock pe2 lks)
  vars : ∀ i ∈ srcVars src, i ∈ lks.map (·.1)
theorem WalkOk.fx {pe' : PEnv} (l : List D) {lks : List (Nat × Fg)} (h : ∀ p ∈ lks, p.2 ≠ .ls) : WalkOk pe' (.fx l) [] l lks where
  nx := fun env2 pe2 S _ => ⟨fun k => rfl, rfl⟩
  un := fun env2 pe2 S _ => by
    have : ∀ {lks : List (Nat × Fg)}, (∀ p ∈ lks, p.2 ≠ .ls) → punlock pe2 lks = pe2 := fun {lks} h => by
      induction lks with
      | nil => rfl
      | cons p r ih =>
        have h1 : punlock1 pe2 p = pe2 := by
          unfold punlock1
          split
          · rename_i hp; exact absurd hp (h p List.mem_cons_self)
          · rfl
        show punlock (punlock1 pe2 p) r = pe2
        rw [h1]
        exact ih fun q hq => h q (List.mem_cons_of_mem _ hq)
    rw [this h]
    exact S
  vars := fun i hi => nomatch hi
section
variable {env : Env} {pe : PEnv}
theorem SmE.same {i : Nat} {b : Bool} {g : Fg} {d : D} (S : SmE env pe) (h : pslot pe i = some (b, g, d)) : SmE env (pe.set i (some (b, g, d))) := by
  obtain ⟨w, h1, h2⟩ := S.get h
  have := S.set i (SmSl.yes (b := b) h2)
  rw [set_slot h1] at this
  exact this
theorem walkR_take {r : R} {b : Bool} {l : List D} {w : W} {env' : Env} (hr : ∀ i, r ≠ .var i) (ht : take env r = some (w, env')) (hw : frz w = .list l ∧ b = true ∨ frz w = .tup l ∧ b = false) : walkR env r = some ((b, .fx l, []), env') := by
  have h1 : walkR env r = (take env r).bind fun p => match frz p.1 with
    | .list l => some ((true, .fx l, []), p.2)
    | .tup l => some ((false, .fx l, []), p.2)
    | _ => none := by
    cases r with
    | var i => exact absurd rfl (hr i)
    | _ => rfl
  rw [h1, ht]
  rcases hw with ⟨h, rfl⟩ | ⟨h, rfl⟩ <;> simp [h]
theorem walk_of (S : SmE env pe) {r : R} {p : PR} {q : (Bool × List D × List (Nat × Fg)) × PEnv} (h : SmR env r p) (e : pwalk pe p = some q) : ∃ src lk env', walkR env r = some ((q.1.1, src, lk), env') ∧ SmE env' q.2 ∧ WalkOk q.2 src lk q.1.2.1 q.1.2.2 := by
  cases h with
  | @val w o d h =>
    cases d with
    | list l => cases e; exact ⟨.fx l, [], env, walkR_take (fun _ => nofun) rfl (.inl ⟨h.frz_eq, rfl⟩), S, .fx l (fun _ hp => nomatch hp)⟩
    | tup l => cases e; exact ⟨.fx l, [], env, walkR_take (fun _ => nofun) rfl (.inr ⟨h.frz_eq, rfl⟩), S, .fx l (fun _ hp => nomatch hp)⟩
    | _ => cases e
  | @elt i k w h1 h2 =>
    obtain ⟨env', h3, h4, _⟩ := take_elt S h1 h2
    cases hf : frz w with
    | list l => rw [hf] at e; cases e; exact ⟨.fx l, [], env', walkR_take (fun _ => nofun) h3 (.inl ⟨by rw [frz_d]; exact hf, rfl⟩), h4, .fx l (fun _ hp => nomatch hp)⟩
    | tup l => rw [hf] at e; cases e; exact ⟨.fx l, [], env', walkR_take (fun _ => nofun) h3 (.inr ⟨by rw [frz_d]; exact hf, rfl⟩), h4, .fx l (fun _ hp => nomatch hp)⟩
    | _ => rw [hf] at e; cases e
  | @fr i d =>
    cases d with
    | list l => cases e; exact ⟨.fx l, [], env, walkR_take (fun _ => nofun) rfl (.inl ⟨by rw [frz_d], rfl⟩), S, .fx l (fun p hp => by rw [List.mem_singleton.mp hp]; exact nofun)⟩
    | tup l => cases e; exact ⟨.fx l, [], env, walkR_take (fun _ => nofun) rfl (.inr ⟨by rw [frz_d], rfl⟩), S, .fx l (fun p hp => by rw [List.mem_singleton.mp hp]; exact nofun)⟩
    | _ => cases e
  | @var i g d hg =>
    have e' : (match pslot pe i with
      | some (b, g', .list l) => some ((true, l, [(i, g')]), pe.set i (some (b, g'.lock, .list l)))
      | _ => none) = some q := by cases g <;> first | exact e | exact absurd rfl hg
    split at e'
    · rename_i b g' l hs
      cases e'
      obtain ⟨w, h1, h2⟩ := S.get hs
      cases h2 with
      | fr =>
        refine ⟨.fx l, [], env, ?_, S.same hs, .fx l (fun p hp => by rw [List.mem_singleton.mp hp]; exact nofun)⟩
        show (match slot env i with | some (_, .lk (.lst _)) => _ | some (_, .lst ws) => _ | _ => _) = _
        rw [h1]
        show (take env (.var i)).bind _ = _
        have : take env (.var i) = match getW env (.var i) with
          | some (.d x) => some (.d x, env)
          | some (.lk _) => none
          | some w => some (.d (frz w), setW env (.var i) (.d (frz w)))
          | none => none := rfl
        rw [show getW env (.var i) = some (.d (.list l)) by show (slot env i).map (·.2) = _; rw [h1]; rfl] at this
        rw [this]
        simp
      | @ls ws hw =>
        have hl : ∀ env2 pe2, SmE env2 pe2 → KpOn [i] (pe.set i (some (b, .lk, .list (frzL ws)))) pe2 → pslot pe2 i = some (b, .lk, .list (frzL ws)) ∧ slot env2 i = some (b, .lk (.lst ((frzL ws).map W.d))) := fun env2 pe2 S2 k => by
          have h3 := k i (by simp) b (.list (frzL ws)) (pslot_set (pslot_lt hs))
          obtain ⟨w, h4, h5⟩ := S2.get h3
          cases h5
          exact ⟨h3, h4⟩
        refine ⟨.lv i, [i], env.set i (some (b, .lk (.lst ((frzL ws).map W.d)))), ?_, S.set i (.yes (.lk _)), ?_, ?_, ?_⟩
        · show (match slot env i with | some (_, .lk (.lst _)) => _ | some (_, .lst ws) => _ | _ => _) = _
          rw [h1]
          show some ((true, Src.lv i, [i]), put env i (.lk (.lst ((frzL ws).map W.d)))) = _
          rw [qput h1]
        · intro env2 pe2 S2 k
          obtain ⟨h3, h4⟩ := hl env2 pe2 S2 k
          refine ⟨fun k => ?_, ?_⟩
          · unfold nxt
            rw [h4]
            show (match ((frzL ws).map W.d)[k]? with | none => some none | some (.d x) => some (some x) | _ => none) = _
            rw [List.getElem?_map]
            cases (frzL ws)[k]? <;> rfl
          · unfold srcLen
            rw [h4]
            exact List.length_map _
        · intro env2 pe2 S2 k
          obtain ⟨h3, h4⟩ := hl env2 pe2 S2 k
          show SmE (unlock1 env2 i) (punlock1 pe2 (i, .ls))
          unfold unlock1 punlock1
          dsimp only
          rw [h3, h4]
          refine S2.set i (.yes ?_)
          have := SmS.ls (ws := (frzL ws).map W.d) (ds_nlk _)
          rw [frzL_ds] at this
          exact this
        · intro j hj
          rw [List.mem_singleton.mp hj]; simp
      | lk =>
        have hl : ∀ env2 pe2, SmE env2 pe2 → KpOn [i] (pe.set i (some (b, .lk, .list l))) pe2 → pslot pe2 i = some (b, .lk, .list l) ∧ slot env2 i = some (b, .lk (.lst (l.map W.d))) := fun env2 pe2 S2 k => by
          have h3 := k i (by simp) b (.list l) (pslot_set (pslot_lt hs))
          obtain ⟨w, h4, h5⟩ := S2.get h3
          cases h5
          exact ⟨h3, h4⟩
        refine ⟨.lv i, [], env, ?_, S.same hs, ?_, ?_, ?_⟩
        · show (match slot env i with | some (_, .lk (.lst _)) => _ | some (_, .lst ws) => _ | _ => _) = _
          rw [h1]
        · intro env2 pe2 S2 k
          obtain ⟨h3, h4⟩ := hl env2 pe2 S2 k
          refine ⟨fun k => ?_, ?_⟩
          · unfold nxt
            rw [h4]
            show (match (l.map W.d)[k]? with | none => some none | some (.d x) => some (some x) | _ => none) = _
            rw [List.getElem?_map]
            cases l[k]? <;> rfl
          · unfold srcLen
            rw [h4]
            exact List.length_map _
        · intro env2 pe2 S2 k
          exact S2
        · intro j hj
          rw [List.mem_singleton.mp hj]; simp
    · cases e'
end
inductive SmFl : Fl → PFl → Prop
  | nx {e : Env} {p : PEnv} : SmE e p → SmFl (.nx e) (.nx p)
  | bk {e : Env} {p : PEnv} : SmE e p → SmFl (.bk e) (.bk p)
  | ct {e : Env} {p : PEnv} : SmE e p → SmFl (.ct e) (.ct p)
  | rt {e : Env} {p : PEnv} {w : W} {o : O} {d : D} : SmV w o d → SmE e p → SmFl (.rt w e) (.rt o d p)
section
variable {tgt : D → Env → Option Env} {ptgt : D → PEnv → Option PEnv} (tgtS : ∀ {x : D} {env : Env} {pe pe' : PEnv}, SmE env pe → ptgt x pe = some pe' → ∃ env', tgt x env = some env' ∧ SmE env' pe') (tgtK : ∀ {x : D} {pe pe' : PEnv}, ptgt x pe = some pe' → Kp pe pe')
include tgtS tgtK
theorem forG_of {body : Env → Option Fl} {pbody : PEnv → Option PFl} (bodyS : ∀ {env : Env} {pe : PEnv} {pf : PFl}, SmE env pe → pbody pe = some pf → ∃ f, body env = some f ∧ SmFl f pf) (bodyK : ∀ {pe : PEnv} {pf : PFl}, pbody pe = some pf → KpFl pe pf)
    {pe1 : PEnv} {src : Src} {lk : List Nat} {items : List D} {lks : List (Nat × Fg)} (Wk : WalkOk pe1 src lk items lks) : ∀ (n k : Nat) {env : Env} {pe : PEnv} {pf : PFl}, SmE env pe → Kp pe1 pe → n + k = items.length → pforG ptgt pbody (items.drop k) pe = some pf → ∃ f, forG tgt body src n k env = some f ∧ SmFl f pf := by
  intro n
  induction n with
  | zero =>
    intro k env pe pf S K hn e
    have hd : items.drop k = [] := List.drop_eq_nil_of_le (by omega)
    rw [hd] at e
    cases e
    refine ⟨.nx env, ?_, .nx S⟩
    unfold forG
    rw [(Wk.nx env pe S (K.on _)).1 k, List.getElem?_eq_none (by omega)]
  | succ n ih =>
    intro k env pe pf S K hn e
    have hk : k < items.length := by omega
    rw [List.drop_eq_getElem_cons hk] at e
    obtain ⟨e2, h1, e⟩ := pbs e
    obtain ⟨f2, h2, e⟩ := pbs e
    obtain ⟨env2, h3, S2⟩ := tgtS S h1
    obtain ⟨f, h4, F⟩ := bodyS S2 h2
    have K2 := K.trans (tgtK h1)
    have K3 := bodyK h2
    unfold forG
    rw [(Wk.nx env pe S (K.on _)).1 k, List.getElem?_eq_getElem hk]
    dsimp only
    rw [h3]
    show ∃ f', ((body env2).bind _) = some f' ∧ _
    rw [h4]
    cases F with
    | nx S3 => exact ih (k + 1) S3 (K2.trans K3) (by omega) e
    | ct S3 => exact ih (k + 1) S3 (K2.trans K3) (by omega) e
    | bk S3 => cases e; exact ⟨_, rfl, .nx S3⟩
    | rt v S3 => cases e; exact ⟨_, rfl, .rt v S3⟩
omit tgtS tgtK in
theorem wipe_of : ∀ {own : List Nat} {env : Env} {pe : PEnv}, SmE env pe → SmE (own.foldl (fun e i => e.set i none) env) (pwipe pe own) := by
  intro own
  induction own with
  | nil => intro env pe S; exact S
  | cons j own ih => intro env pe S; exact ih (S.set j .no)
theorem compG_of {test : Env → Option (Bool × Env)} {ptest : PEnv → Option (Bool × PEnv)} {elt : Env → Option (W × Env)} {pelt : PEnv → Option ((O × D) × PEnv)}
    (testS : ∀ {env : Env} {pe pe' : PEnv} {b : Bool}, SmE env pe → ptest pe = some (b, pe') → ∃ env', test env = some (b, env') ∧ SmE env' pe') (testK : ∀ {pe pe' : PEnv} {b : Bool}, ptest pe = some (b, pe') → Kp pe pe')
    (eltS : ∀ {env : Env} {pe : PEnv} {q : (O × D) × PEnv}, SmE env pe → pelt pe = some q → ∃ w env', elt env = some (w, env') ∧ SmE env' q.2 ∧ SmV w q.1.1 q.1.2) (eltK : ∀ {pe pe' : PEnv} {p : O × D}, pelt pe = some (p, pe') → Kp pe pe')
    {own : List Nat} {pe1 : PEnv} {src : Src} {lk : List Nat} {items : List D} {lks : List (Nat × Fg)} (Wk : WalkOk pe1 src lk items lks) (hown : ∀ i ∈ lks.map (·.1), i ∉ own) : ∀ (n k : Nat) {env : Env} {pe : PEnv} {acc : List W} {q : List D × PEnv}, SmE env pe → KpO own pe1 pe → (∀ w ∈ acc, isLk w = false) → n + k = items.length → pcompG ptgt ptest pelt own (items.drop k) (frzL acc) pe = some q →
      ∃ ws env', compG tgt test elt own src n k acc env = some (ws, env') ∧ SmE env' q.2 ∧ frzL ws = q.1 ∧ (∀ w ∈ ws, isLk w = false) := by
  have on : ∀ {pe : PEnv}, KpO own pe1 pe → KpOn (lks.map (·.1)) pe1 pe := fun {pe} K i hi b d e => K.lk i b d (hown i hi) e
  intro n
  induction n with
  | zero =>
    intro k env pe acc q S K ha hn e
    have hd : items.drop k = [] := List.drop_eq_nil_of_le (by omega)
    rw [hd] at e
    cases e
    refine ⟨acc, env, ?_, S, rfl, ha⟩
    unfold compG
    rw [(Wk.nx env pe S (on K)).1 k, List.getElem?_eq_none (by omega)]
  | succ n ih =>
    intro k env pe acc q S K ha hn e
    have hk : k < items.length := by omega
    rw [List.drop_eq_getElem_cons hk] at e
    obtain ⟨e2, h1, e⟩ := pbs e
    obtain ⟨p, h2, e⟩ := pbs e
    obtain ⟨env2, h3, S2⟩ := tgtS S h1
    obtain ⟨env3, h4, S3⟩ := testS S2 h2
    have K3 := (K.of (tgtK h1)).of (testK h2)
    unfold compG
    rw [(Wk.nx env pe S (on K)).1 k, List.getElem?_eq_getElem hk]
    dsimp only
    rw [h3]
    show ∃ ws env', ((test env2).bind _) = some (ws, env') ∧ _
    rw [h4]
    show ∃ ws env', (if p.1 = true then (elt env3).bind _ else _) = some (ws, env') ∧ _
    split at e
    · rename_i hp
      obtain ⟨x, h5, e⟩ := pbs e
      obtain ⟨w, env4, h6, S4, v4⟩ := eltS S3 h5
      rw [if_pos hp, h6]
      show ∃ ws env', (if decide (acc.length < sizeLine) = true then _ else none) = some (ws, env') ∧ _
      split at e
      · rename_i hl
        rw [frzL_length] at hl
        rw [if_pos hl]
        refine ih (k + 1) (acc := acc ++ [w]) (wipe_of S4) ((K3.of (eltK h5)).wipe) (fun y hy => ?_) (by omega) ?_
        · rcases List.mem_append.mp hy with z | z
          · exact ha y z
          · rw [List.mem_singleton.mp z]; exact v4.nlk
        · have : frzL (acc ++ [w]) = frzL acc ++ [x.1.2] := by
            rw [frzL_map, frzL_map, List.map_append, ← v4.frz_eq]; rfl
          rw [this]; exact e
      · cases e
    · rename_i hp
      rw [if_neg hp]
      exact ih (k + 1) (wipe_of S3) K3.wipe ha (by omega) e
end
end Ev
end
section
set_option linter.all false
set_option autoImplicit false
/-! Pv6: the two evaluators side by side: expressions. -/
namespace Ev
open PySem
structure SmSem (S : Sem) (P : PSem) : Prop where
  e : ∀ {env : Env} {pe : PEnv} {q : PR × PEnv}, SmE env pe → P.e pe = some q → ∃ r env', S.e env = some (r, env') ∧ SmE env' q.2 ∧ SmR env' r q.1
  t : ∀ {env : Env} {pe : PEnv} {q : Bool × PEnv}, SmE env pe → P.t pe = some q → ∃ env', S.t env = some (q.1, env') ∧ SmE env' q.2
  es : ∀ {env : Env} {pe : PEnv} {q : List PR × PEnv}, SmE env pe → P.es pe = some q → ∃ rs env', S.es env = some (rs, env') ∧ SmE env' q.2 ∧ SmTs rs q.1
  tk : ∀ {env : Env} {pe : PEnv} {q : List (O × D) × PEnv}, SmE env pe → P.tk pe = some q → ∃ ws env', S.tk env = some (ws, env') ∧ SmE env' q.2 ∧ SmL ws (q.1.map (·.1)) (q.1.map (·.2))
  o : ∀ {env : Env} {pe : PEnv} {q : Option Int × PEnv}, SmE env pe → P.o pe = some q → ∃ env', S.o env = some (q.1, env') ∧ SmE env' q.2
  i : ∀ {env : Env} {pe : PEnv} {q : (Bool × List D × List (Nat × Fg)) × PEnv}, SmE env pe → P.i pe = some q → ∃ src lk env', S.i env = some ((q.1.1, src, lk), env') ∧ SmE env' q.2 ∧ WalkOk q.2 src lk q.1.2.1 q.1.2.2
  a : ∀ {env : Env} {pe : PEnv} {w : W} {o : O} {d : D} {pe' : PEnv}, SmE env pe → SmV w o d → P.a o d pe = some pe' → ∃ env', S.a w env = some env' ∧ SmE env' pe'
  as : ∀ {env : Env} {pe : PEnv} {ws : List W} {l : List (O × D)} {pe' : PEnv}, SmE env pe → SmL ws (l.map (·.1)) (l.map (·.2)) → P.as l pe = some pe' → ∃ env', S.as ws env = some env' ∧ SmE env' pe'
theorem smE {f : Env → Option (R × Env)} {p : PEnv → Option (PR × PEnv)} (h : ∀ {env : Env} {pe : PEnv} {q : PR × PEnv}, SmE env pe → p pe = some q → ∃ r env', f env = some (r, env') ∧ SmE env' q.2 ∧ SmR env' r q.1) : SmSem (ofE f) (pofE p) where
  e := h
  t := fun {env pe q} S e => by
    obtain ⟨p1, h1, e⟩ := pbs e
    obtain ⟨x, h2, e⟩ := pbs e
    obtain ⟨k, h3, e⟩ := pms e
    cases e
    obtain ⟨r, env', h4, S1, R1⟩ := h S h1
    refine ⟨env', ?_, S1⟩
    show ((f env).bind fun p => _) = _
    rw [h4]
    show ((rd env' r).bind fun x => _) = _
    rw [rd_of S1 R1 h2]
    show ((truth x).map _) = _
    rw [h3]; rfl
  es := fun _ e => nomatch e
  tk := fun _ e => nomatch e
  o := fun {env pe q} S e => by
    obtain ⟨p1, h1, e⟩ := pbs e
    split at e
    · rename_i i hi
      cases e
      obtain ⟨r, env', h4, S1, R1⟩ := h S h1
      refine ⟨env', ?_, S1⟩
      show ((f env).bind fun p => _) = _
      rw [h4]
      show (match rd env' r with | some (.int i) => some (some i, env') | _ => none) = _
      rw [rd_of S1 R1 hi]
    · cases e
  i := fun _ e => nomatch e
  a := fun _ _ e => nomatch e
  as := fun _ _ e => nomatch e
theorem smT {f : Env → Option (R × Env)} {p : PEnv → Option (PR × PEnv)} {g : Env → Option (Bool × Env)} {pg : PEnv → Option (Bool × PEnv)} (h : ∀ {env : Env} {pe : PEnv} {q : PR × PEnv}, SmE env pe → p pe = some q → ∃ r env', f env = some (r, env') ∧ SmE env' q.2 ∧ SmR env' r q.1)
    (k : ∀ {env : Env} {pe : PEnv} {q : Bool × PEnv}, SmE env pe → pg pe = some q → ∃ env', g env = some (q.1, env') ∧ SmE env' q.2) : SmSem { ofE f with t := g } { pofE p with t := pg } :=
  { smE h with t := k }
theorem smNo : SmSem noSem pnoSem := smE fun _ e => nomatch e
theorem smI {g : Env → Option ((Bool × Src × List Nat) × Env)} {pg : PEnv → Option ((Bool × List D × List (Nat × Fg)) × PEnv)} (k : ∀ {env : Env} {pe : PEnv} {q : (Bool × List D × List (Nat × Fg)) × PEnv}, SmE env pe → pg pe = some q → ∃ src lk env', g env = some ((q.1.1, src, lk), env') ∧ SmE env' q.2 ∧ WalkOk q.2 src lk q.1.2.1 q.1.2.2) :
    SmSem { noSem with i := g } { pnoSem with i := pg } := { smNo with i := k }
theorem smA {g : W → Env → Option Env} {pg : O → D → PEnv → Option PEnv} (k : ∀ {env : Env} {pe : PEnv} {w : W} {o : O} {d : D} {pe' : PEnv}, SmE env pe → SmV w o d → pg o d pe = some pe' → ∃ env', g w env = some env' ∧ SmE env' pe') :
    SmSem { noSem with a := g } { pnoSem with a := pg } := { smNo with a := k }
section
variable {env : Env} {pe : PEnv}
theorem own_of (S : SmE env pe) {r : R} {p : PR} {l : List D} (h : SmR env r p) (e : pown pe p = some l) : ∃ ws, getW env r = some (.lst ws) ∧ frzL ws = l ∧ (∀ w ∈ ws, isLk w = false) ∧ SmT r p := by
  unfold pown at e
  split at e
  · rename_i i d
    split at e
    · rename_i b l' hs
      cases e
      cases h with
      | var hg =>
        obtain ⟨w, h1, h2⟩ := S.get hs
        cases h2 with
        | @ls ws hw => exact ⟨ws, by show (slot env i).map (·.2) = _; rw [h1]; rfl, rfl, hw, .var hg⟩
    · cases e
  · rename_i l'
    cases e
    cases h with
    | val hv =>
      cases hv with
      | @ls ws hw => exact ⟨ws, rfl, rfl, hw, .val (.ls hw)⟩
  · cases e
theorem put_of (S : SmE env pe) {r : R} {p : PR} {l : List D} (h : SmT r p) (e : pown pe p = some l) {ws : List W} (hw : ∀ w ∈ ws, isLk w = false) : SmE (setW env r (.lst ws)) (pput pe p (frzL ws)) := by
  unfold pown at e
  split at e
  · rename_i i d
    split at e
    · rename_i b l' hs
      cases h with
      | var hg =>
        obtain ⟨w, h1, h2⟩ := S.get hs
        show SmE (put env i _) (match pslot pe i with | some (b, g, _) => _ | none => _)
        rw [qput h1, hs]
        exact S.set i (.yes (.ls hw))
    · cases e
  · cases h with
    | val hv => exact S
  · cases e
theorem okR_of {r : R} {p : PR} {b : E} {ws : List W} (h : SmT r p) (e : getW env r = some (.lst ws)) : okR (r, env) b = some (r, env) := by
  unfold okR
  dsimp only
  rw [e]
  cases h <;> rfl
theorem setN_of (S : SmE env pe) {i : Nat} {w : W} {o : O} {d : D} {pe' : PEnv} (v : SmV w o d) (e : psetN i o d pe = some pe') : ∃ env', setN i w env = some env' ∧ SmE env' pe' := by
  unfold psetN at e
  split at e
  · cases e
  · cases e
  · rename_i h1 h2
    split at e
    · rename_i hl
      obtain ⟨g, h3, rfl⟩ := pms e
      refine ⟨env.set i (some (false, w)), ?_, S.set i (.yes (SmS.ofV v h3))⟩
      unfold setN
      have := S.at_ i
      have hl' : i < env.length := by rw [S.len]; exact hl
      split
      · rename_i w' hs
        rw [hs] at this
        cases hp : pslot pe i with
        | none => rw [hp] at this; cases this
        | some s => rw [hp] at this; cases this; exact (h1 _ _ hp).elim
      · rename_i w' hs
        rw [hs] at this
        cases hp : pslot pe i with
        | none => rw [hp] at this; cases this
        | some s =>
          rw [hp] at this
          cases this with
          | yes k => cases k; exact (h2 _ hp).elim
      · rw [if_pos hl']
    · cases e
theorem setNs_of : ∀ {is : List Nat} {ws : List W} {l : List (O × D)} {env : Env} {pe pe' : PEnv}, SmE env pe → SmL ws (l.map (·.1)) (l.map (·.2)) → psetNs is l pe = some pe' → ∃ env', setNs is ws env = some env' ∧ SmE env' pe'
  | [], ws, [], env, pe, pe', S, h, e => by
    cases h
    cases e
    exact ⟨env, rfl, S⟩
  | [], ws, _ :: _, env, pe, pe', S, h, e => nomatch e
  | _ :: _, ws, [], env, pe, pe', S, h, e => nomatch e
  | i :: is, ws, x :: l, env, pe, pe', S, h, e => by
    cases h with
    | @cons w _ _ ws' _ _ a b =>
      obtain ⟨e1, h1, e⟩ := pbs e
      obtain ⟨env1, h2, S1⟩ := setNs_of S b h1
      obtain ⟨env2, h3, S2⟩ := setN_of S1 a e
      refine ⟨env2, ?_, S2⟩
      show ((setNs is ws' env).bind fun e => setN i w e) = _
      rw [h2]; exact h3
/-- what a def hands back of a parameter -/
inductive SmU : W → Fg → D → Prop
  | fr (d : D) : SmU (.d d) .fr d
  | ls {ws : List W} : (∀ w ∈ ws, isLk w = false) → SmU (.lst ws) .ls (.list (frzL ws))
  | lk (l : List D) : SmU (.lst (l.map W.d)) .lk (.list l)
inductive SmA : List (Bool × W) → List (Bool × Fg × D) → Prop
  | nil : SmA [] []
  | cons {b : Bool} {w : W} {g : Fg} {d : D} {sl : List (Bool × W)} {pl : List (Bool × Fg × D)} : SmS w g d → SmA sl pl → SmA ((b, w) :: sl) ((b, g, d) :: pl)
inductive SmB : List (Bool × Fg × D) → List W → List (Fg × D) → Prop
  | nil : SmB [] [] []
  | cons {b : Bool} {g0 : Fg} {d0 : D} {w : W} {p : Fg × D} {pl : List (Bool × Fg × D)} {ws : List W} {ps : List (Fg × D)} : (b = true → SmU w p.1 p.2) → SmB pl ws ps → SmB ((b, g0, d0) :: pl) (w :: ws) (p :: ps)
theorem SmB.length {pl : List (Bool × Fg × D)} {ws : List W} {ps : List (Fg × D)} (h : SmB pl ws ps) : ws.length = pl.length ∧ ps.length = pl.length := by
  induction h with
  | nil => exact ⟨rfl, rfl⟩
  | cons _ _ ih => exact ⟨by simp [ih.1], by simp [ih.2]⟩
/-- a def, both ways -/
def SmFn (Φ : Fns) (Ψ : PFns) : Prop := ∀ (f : Nat) (sl : List (Bool × W)) (pl : List (Bool × Fg × D)) (r : O × D) (ps : List (Fg × D)), SmA sl pl → Ψ f pl = some (r, ps) → ∃ w ws, Φ f sl = some (w, ws) ∧ SmV w r.1 r.2 ∧ SmB pl ws ps
theorem SmTs.get {rs : List R} {ps : List PR} (h : SmTs rs ps) : ∀ {j : Nat} {p : PR}, ps[j]? = some p → ∃ r, rs[j]? = some r ∧ SmT r p := by
  induction h with
  | nil => intro j p e; simp at e
  | cons a b ih =>
    intro j p e
    cases j with
    | zero => simp at e; subst e; exact ⟨_, rfl, a⟩
    | succ j =>
      obtain ⟨r, h1, h2⟩ := ih (j := j) (by simpa using e)
      exact ⟨r, by simpa using h1, h2⟩
theorem SmTs.app {rs rs' : List R} {ps ps' : List PR} (h : SmTs rs ps) (h' : SmTs rs' ps') : SmTs (rs ++ rs') (ps ++ ps') := by
  induction h with
  | nil => exact h'
  | cons a b ih => exact .cons a ih
theorem pick_of {rs : List R} {ps : List PR} (h : SmTs rs ps) : ∀ {js : List Nat} {as : List PR}, ppickL ps js = some as → ∃ as', pickL rs js = some as' ∧ SmTs as' as
  | [], as, e => by cases e; exact ⟨[], rfl, .nil⟩
  | j :: js, as, e => by
    obtain ⟨p, h1, e⟩ := pbs e
    obtain ⟨l, h2, e⟩ := pms e
    cases e
    obtain ⟨r, h3, h4⟩ := h.get h1
    obtain ⟨l', h5, h6⟩ := pick_of h h2
    refine ⟨r :: l', ?_, .cons h4 h6⟩
    show (rs[j]?).bind _ = _
    rw [h3]
    show (pickL rs js).map _ = _
    rw [h5]; rfl
theorem rvars_sub : ∀ {rs : List R} {ps : List PR}, SmTs rs ps → (rvars rs).Sublist (pvars ps)
  | _, _, .nil => .slnil
  | _, _, .cons a b => by
    cases a with
    | val h => have k := rvars_sub b; exact k
    | fr d => have k := rvars_sub b; exact k.cons _
    | var h => have k := rvars_sub b; exact k.cons_cons _
theorem args_of (S : SmE env pe) : ∀ {rs : List R} {ps : List PR} {pl : List (Bool × Fg × D)}, SmTs rs ps → pargs pe ps = some pl → ∃ sl, slotsOf env rs = some sl ∧ SmA sl pl
  | _, _, pl, .nil, e => by cases e; exact ⟨[], rfl, .nil⟩
  | _, _, pl, .cons (r := r) (p := p) (rs := rs) (ps := ps) a b, e => by
    obtain ⟨x, h1, e⟩ := pbs e
    obtain ⟨l, h2, e⟩ := pms e
    cases e
    obtain ⟨sl, h3, h4⟩ := args_of S b h2
    cases a with
    | @val w o d v =>
      obtain ⟨g, h5, h6⟩ := pms h1
      cases h6
      refine ⟨(false, w) :: sl, ?_, .cons (SmS.ofV v h5) h4⟩
      show (slotsOf env rs).map _ = _
      rw [h3]; rfl
    | fr d =>
      cases h1
      refine ⟨(false, .d d) :: sl, ?_, .cons (.fr d) h4⟩
      show (slotsOf env rs).map _ = _
      rw [h3]; rfl
    | @var i g d hg =>
      have h1 : (pslot pe i).map (fun s => (true, s.2)) = some x := by cases g <;> first | exact h1 | exact absurd rfl hg
      obtain ⟨⟨b', g', d'⟩, h5, h6⟩ := pms h1
      cases h6
      obtain ⟨w, h7, h8⟩ := S.get h5
      refine ⟨(true, w) :: sl, ?_, .cons h8 h4⟩
      show (match slot env i with | some (_, w) => _ | none => _) = _
      rw [h7]
      show (slotsOf env rs).map _ = _
      rw [h3]; rfl
theorem arg_var {i : Nat} {g : Fg} {d : D} {x : Bool × Fg × D} (hg : g ≠ .fr) (h1 : parg pe (.var i g d) = some x) : ∃ s, pslot pe i = some s ∧ x = (true, s.2) := by
  have h1 : (pslot pe i).map (fun s => (true, s.2)) = some x := by cases g <;> first | exact h1 | exact absurd rfl hg
  obtain ⟨s, h2, h3⟩ := pms h1
  exact ⟨s, h2, h3.symm⟩
theorem give_of : ∀ {rs : List R} {ps : List PR} {pl : List (Bool × Fg × D)} {pe0 : PEnv} {ws : List W} {qs : List (Fg × D)} {env : Env} {pe pe' : PEnv}, SmE env pe → SmTs rs ps → pargs pe0 ps = some pl → SmB pl ws qs → pgive pe ps qs = some pe' → SmE (giveBack env rs ws) pe'
  | _, _, pl, pe0, ws, qs, env, pe, pe', S, .nil, ha, hb, e => by
    cases ha
    cases hb
    cases e
    exact S
  | _, _, pl, pe0, ws, qs, env, pe, pe', S, .cons (r := r) (p := p) (rs := rs) (ps := ps) a b, ha, hb, e => by
    obtain ⟨x, h1, ha⟩ := pbs ha
    obtain ⟨l, h2, ha⟩ := pms ha
    cases ha
    cases hb with
    | @cons b0 g0 d0 w q _ ws _ hu hb =>
      obtain ⟨e1, h3, e2⟩ := pbs e
      cases a with
      | val v =>
        cases h3
        have k := give_of S b h2 hb e2
        exact k
      | fr d =>
        cases h3
        have k := give_of S b h2 hb e2
        exact k
      | @var i g d hg =>
        obtain ⟨s0, q1, q2⟩ := arg_var hg h1
        have hbt : b0 = true := by injection q2
        have u := hu hbt
        have h3 : (match pslot pe i, q.1 with
          | some (b, .lk, _), .lk => some (pe.set i (some (b, .lk, q.2)))
          | some (_, .lk, _), _ => none
          | some (_, _, _), .lk => none
          | some (b, _, _), g' => some (pe.set i (some (b, g', q.2)))
          | none, _ => none) = some e1 := by cases g <;> first | exact h3 | exact absurd rfl hg
        show SmE (giveBack (put env i (relkS (slot env i) w)) rs ws) pe'
        refine give_of ?_ b h2 hb e2
        obtain ⟨qg, qd⟩ := q
        split at h3
        · rename_i b1 d1 hs hq
          cases h3
          obtain ⟨w0, k1, k2⟩ := S.get hs
          have hq : qg = .lk := hq
          subst hq
          rw [k1, qput k1]
          cases k2
          cases u
          exact S.set i (.yes (.lk _))
        · cases h3
        · cases h3
        · rename_i b1 g1 d1 hn1 hs hn2 hn3
          cases h3
          obtain ⟨w0, k1, k2⟩ := S.get hs
          rw [k1, qput k1]
          have hr : relkS (some (b1, w0)) w = w := by
            cases k2 with
            | fr => rfl
            | ls => rfl
            | lk l => exact (hn1 rfl).elim
          rw [hr]
          cases u with
          | fr => exact S.set i (.yes (.fr _))
          | ls h => exact S.set i (.yes (.ls h))
          | lk l => exact (hn3 rfl).elim
        · cases h3
theorem call_of {Φ : Fns} {Ψ : PFns} (F : SmFn Φ Ψ) (S : SmE env pe) {f : Nat} {rs : List R} {ps : List PR} {js : List Nat} {q : PR × PEnv} (h : SmTs rs ps) (e : pcallG Ψ f ps js pe = some q) : ∃ r env', callG Φ f rs js env = some (r, env') ∧ SmE env' q.2 ∧ SmR env' r q.1 := by
  obtain ⟨as, h1, e⟩ := pbs e
  obtain ⟨as', h2, h3⟩ := pick_of h h1
  split at e
  · rename_i nd
    obtain ⟨pl, h4, e⟩ := pbs e
    obtain ⟨⟨rd, qs⟩, h5, e⟩ := pbs e
    obtain ⟨e1, h6, e⟩ := pms e
    cases e
    obtain ⟨sl, h7, h8⟩ := args_of S h3 h4
    obtain ⟨w, ws, h9, v, hb⟩ := F f sl pl rd qs h8 h5
    refine ⟨.val w, giveBack env as' ws, ?_, give_of S h3 h4 hb h6, .val v⟩
    have hl : ws.length = as'.length := by
      have l1 := hb.length.1
      have l2 : ∀ {a : List PR} {l : List (Bool × Fg × D)}, pargs pe a = some l → l.length = a.length := fun {a} => by
        induction a with
        | nil => intro l e; cases e; rfl
        | cons x a ih =>
          intro l e
          obtain ⟨_, _, e⟩ := pbs e
          obtain ⟨_, h, e⟩ := pms e
          cases e
          simp [ih h]
      have l3 : ∀ {a : List R} {b : List PR}, SmTs a b → a.length = b.length := fun {a b} h => by
        induction h with
        | nil => rfl
        | cons _ _ ih => simp [ih]
      rw [l1, l2 h4, l3 h3]
    show ((pickL rs js).bind fun as => _) = _
    rw [h2]
    show (if (rvars as').Nodup then _ else none) = _
    rw [if_pos ((rvars_sub h3).nodup nd), h7]
    show (Φ f sl).bind _ = _
    rw [h9]
    show (if ws.length = as'.length then _ else none) = _
    rw [if_pos hl]
  · cases e
end
end Ev
end
section
set_option linter.all false
set_option autoImplicit false
/-! Pv7: the two evaluators side by side: one induction. -/
namespace Ev
open PySem
theorem bindE {α β : Type} {o : Option α} {a : α} {f : α → Option β} (h : o = some a) : o.bind f = f a := by rw [h]; rfl
theorem mapE {α β : Type} {o : Option α} {a : α} {f : α → β} (h : o = some a) : o.map f = some (f a) := by rw [h]; rfl
theorem mapL {α β : Type} (l : List α) (f : α → β) : (l.map f).length = l.length := List.length_map _
theorem tup_flags : ∀ {ws : List W} {l : List (O × D)}, SmL ws (l.map (·.1)) (l.map (·.2)) → (l.all (fun q => isFr q.1)) = true → ws.all isD = true ∧ frzL ws = l.map (·.2)
  | _, [], .nil, _ => ⟨rfl, rfl⟩
  | _, (o, d) :: l, .cons a b, h => by
    rw [List.all_cons, Bool.and_eq_true] at h
    obtain ⟨h1, h2⟩ := tup_flags b h.2
    have ho : o = .fr := by
      have h0 := h.1
      cases o <;> first | rfl | cases h0
    subst ho
    cases a
    exact ⟨by rw [List.all_cons, h1]; rfl, by simp only [frzL, frz_d, List.map_cons]; rw [h2]⟩
theorem allD : ∀ {ws : List W}, ws.all isD = true → ws = (frzL ws).map W.d
  | [], _ => rfl
  | w :: ws, h => by
    rw [List.all_cons, Bool.and_eq_true] at h
    cases w with
    | d x => simp only [frzL, frz_d, List.map_cons]; rw [← allD h.2]
    | _ => cases h.1
theorem erase_map {α β : Type} (f : α → β) : ∀ (l : List α) (k : Nat), (l.eraseIdx k).map f = (l.map f).eraseIdx k
  | [], k => rfl
  | a :: l, 0 => rfl
  | a :: l, k + 1 => by simp only [List.eraseIdx_cons_succ, List.map_cons, erase_map f l k]
theorem map_fr : ∀ l : List D, (l.map fun d => (O.fr, d)).map (·.1) = l.map (fun _ => O.fr) ∧ (l.map fun d => (O.fr, d)).map (·.2) = l
  | [] => ⟨rfl, rfl⟩
  | d :: l => by
    obtain ⟨h1, h2⟩ := map_fr l
    exact ⟨by rw [List.map_cons, List.map_cons, h1]; rfl, by rw [List.map_cons, List.map_cons, h2]⟩
section
variable {Φ : Fns} {Ψ : PFns} (F : SmFn Φ Ψ) (hΨ : KpF Ψ)
include F hΨ
theorem sm : ∀ m : E, SmSem (ev Φ m) (pv Ψ m)
  | .none_ => smT (fun S e => by cases e; exact ⟨_, _, rfl, S, .val (.fr _)⟩) (fun S e => by cases e; exact ⟨_, rfl, S⟩)
  | .bool b => smT (fun S e => by cases e; exact ⟨_, _, rfl, S, .val (.fr _)⟩) (fun S e => by cases e; exact ⟨_, rfl, S⟩)
  | .int i => smE fun S e => by cases e; exact ⟨_, _, rfl, S, .val (.fr _)⟩
  | .str s => smE fun S e => by cases e; exact ⟨_, _, rfl, S, .val (.fr _)⟩
  | .var i => smE fun {env pe q} S e => by
    obtain ⟨⟨b, g, d⟩, h1, e⟩ := pms e
    cases e
    obtain ⟨w, h2, h3⟩ := S.get h1
    show ∃ r env', (match slot env i with
      | some (_, .d x) => some (R.val (.d x), env)
      | some (_, _) => some (.var i, env)
      | none => none) = some (r, env') ∧ _
    rw [h2]
    cases h3 with
    | fr => exact ⟨_, _, rfl, S, .fr _⟩
    | ls h => exact ⟨_, _, rfl, S, .var nofun⟩
    | lk => exact ⟨_, _, rfl, S, .var nofun⟩
  | .nil => { smNo with
      es := fun S e => by cases e; exact ⟨_, _, rfl, S, .nil⟩
      tk := fun S e => by cases e; exact ⟨_, _, rfl, S, .nil⟩
      o := fun S e => by cases e; exact ⟨_, rfl, S⟩
      as := fun {env pe ws l pe'} S h e => by
        cases l with
        | nil => cases h; cases e; exact ⟨_, rfl, S⟩
        | cons => cases e }
  | .cons a r => { smNo with
      es := fun {env pe q} S e => by
        obtain ⟨p, h1, e⟩ := pbs e
        obtain ⟨t, h2, e⟩ := pms e
        cases e
        obtain ⟨r1, e1, k1, S1, R1⟩ := (sm a).e S h1
        obtain ⟨r2, e2, k2, S2, R2⟩ := stab_of S1 R1
        obtain ⟨rs, e3, k3, S3, R3⟩ := (sm r).es S2 h2
        exact ⟨r2 :: rs, e3, (bindE k1).trans ((bindE k2).trans (mapE k3)), S3, .cons R2 R3⟩
      tk := fun {env pe q} S e => by
        obtain ⟨p, h1, e⟩ := pbs e
        obtain ⟨p', h2, e⟩ := pbs e
        obtain ⟨t, h3, e⟩ := pms e
        cases e
        obtain ⟨r1, e1, k1, S1, R1⟩ := (sm a).e S h1
        obtain ⟨w, e2, k2, S2, V2⟩ := take_of S1 R1 h2
        obtain ⟨ws, e3, k3, S3, L3⟩ := (sm r).tk S2 h3
        exact ⟨w :: ws, e3, (bindE k1).trans ((bindE k2).trans (mapE k3)), S3, .cons V2 L3⟩
      as := fun {env pe ws l pe'} S h e => by
        cases l with
        | nil => cases e
        | cons x l =>
          cases h with
          | cons v L =>
            obtain ⟨p, h1, e⟩ := pbs e
            obtain ⟨e1, k1, S1⟩ := (sm a).a S v h1
            obtain ⟨e2, k2, S2⟩ := (sm r).as S1 L e
            exact ⟨e2, (bindE k1).trans k2, S2⟩ }
  | .list es => smE fun {env pe q} S e => by
    obtain ⟨p, h1, e⟩ := pbs e
    obtain ⟨ws, e1, k1, S1, L1⟩ := (sm es).tk S h1
    split at e
    · rename_i hl
      cases e
      have l1 := L1.length.1
      rw [List.length_map] at l1
      refine ⟨.val (.lst ws), e1, (bindE k1).trans ?_, S1, .val ?_⟩
      · show (if lenOk ws.length = true then _ else none) = _
        rw [if_pos (by rw [l1]; exact hl)]
      · rw [← L1.frz_eq]; exact .ls L1.nlk
    · cases e
  | .tup es => smE fun {env pe q} S e => by
    obtain ⟨p, h1, e⟩ := pbs e
    obtain ⟨ws, e1, k1, S1, L1⟩ := (sm es).tk S h1
    split at e
    · rename_i hl
      cases e
      have l1 := L1.length.1
      rw [List.length_map] at l1
      have hlen : lenOk ws.length = true := by rw [l1]; exact hl
      cases hd : ws.all isD with
      | true =>
        refine ⟨.val (.d (.tup (frzL ws))), e1, (bindE k1).trans ?_, S1, .val ?_⟩
        · show (if lenOk ws.length = true then (if ws.all isD = true then _ else _) else none) = _
          rw [if_pos hlen, if_pos hd]
        · rw [L1.frz_eq]
          split
          · exact .fr _
          · refine .tpd ?_
            have := allD hd
            rw [L1.frz_eq] at this
            rw [← this]; exact L1
      | false =>
        refine ⟨.val (.tup ws), e1, (bindE k1).trans ?_, S1, .val ?_⟩
        · show (if lenOk ws.length = true then (if ws.all isD = true then _ else _) else none) = _
          rw [if_pos hlen, if_neg (by rw [hd]; exact Bool.false_ne_true)]
        · split
          · rename_i hf
            have := (tup_flags L1 hf).1
            rw [hd] at this; cases this
          · exact .tp L1
    · cases e
  | .bin o a b => smE fun {env pe q} S e => by
    obtain ⟨p, h1, e⟩ := pbs e
    obtain ⟨p', h2, e⟩ := pbs e
    obtain ⟨r1, e1, k1, S1, R1⟩ := (sm a).e S h1
    obtain ⟨r2, e2, k2, S2, R2⟩ := stab_of S1 R1
    obtain ⟨r3, e3, k3, S3, R3⟩ := (sm b).e S2 h2
    obtain ⟨r4, e4, k4, S4, R4⟩ := binF_of S3 R2 R3 e
    exact ⟨r4, e4, (bindE k1).trans ((bindE k2).trans ((bindE k3).trans k4)), S4, R4⟩
  | .neg a => smE fun {env pe q} S e => by
    obtain ⟨p, h1, e⟩ := pbs e
    obtain ⟨r1, e1, k1, S1, R1⟩ := (sm a).e S h1
    split at e
    · rename_i i hi
      cases e
      refine ⟨_, e1, (bindE k1).trans ?_, S1, .val (.fr _)⟩
      show (match rd e1 r1 with | some (.int i) => _ | _ => none) = _
      rw [rd_of S1 R1 hi]
    · cases e
  | .inv a => smE fun {env pe q} S e => by
    obtain ⟨p, h1, e⟩ := pbs e
    obtain ⟨r1, e1, k1, S1, R1⟩ := (sm a).e S h1
    split at e
    · rename_i i hi
      cases e
      refine ⟨_, e1, (bindE k1).trans ?_, S1, .val (.fr _)⟩
      show (match rd e1 r1 with | some (.int i) => _ | _ => none) = _
      rw [rd_of S1 R1 hi]
    · cases e
  | .cmp o a b => smE fun {env pe q} S e => by
    obtain ⟨p, h1, e⟩ := pbs e
    obtain ⟨p', h2, e⟩ := pbs e
    obtain ⟨x, h3, e⟩ := pbs e
    obtain ⟨y, h4, e⟩ := pbs e
    obtain ⟨k, h5, e⟩ := pms e
    cases e
    obtain ⟨r1, e1, k1, S1, R1⟩ := (sm a).e S h1
    obtain ⟨r2, e2, k2, S2, R2⟩ := stab_of S1 R1
    obtain ⟨r3, e3, k3, S3, R3⟩ := (sm b).e S2 h2
    refine ⟨.val (.d (.bool k)), e3, (bindE k1).trans ((bindE k2).trans ((bindE k3).trans ?_)), S3, .val (.fr _)⟩
    show (match rd e3 r2, rd e3 r3 with | some x, some y => _ | _, _ => none) = _
    rw [rd_of S3 R2.r h3, rd_of S3 R3 h4]
    exact mapE h5
  | .chain o o' a b c => smE fun {env pe q} S e => by
    obtain ⟨p, h1, e⟩ := pbs e
    obtain ⟨p', h2, e⟩ := pbs e
    obtain ⟨x, h3, e⟩ := pbs e
    obtain ⟨y, h4, e⟩ := pbs e
    obtain ⟨k, h5, e⟩ := pbs e
    obtain ⟨r1, e1, k1, S1, R1⟩ := (sm a).e S h1
    obtain ⟨r2, e2, k2, S2, R2⟩ := stab_of S1 R1
    obtain ⟨r3, e3, k3, S3, R3⟩ := (sm b).e S2 h2
    obtain ⟨r4, e4, k4, S4, R4⟩ := stab_of S3 R3
    split at e
    · rename_i hk
      obtain ⟨r, h6, e⟩ := pbs e
      obtain ⟨y', h7, e⟩ := pbs e
      obtain ⟨z, h8, e⟩ := pbs e
      obtain ⟨k', h9, e⟩ := pms e
      cases e
      obtain ⟨r5, e5, k5, S5, R5⟩ := (sm c).e S4 h6
      refine ⟨.val (.d (.bool k')), e5, (bindE k1).trans ((bindE k2).trans ((bindE k3).trans ((bindE k4).trans ?_))), S5, .val (.fr _)⟩
      show (match rd e4 r2, rd e4 r4 with | some x, some y => _ | _, _ => none) = _
      rw [rd_of S4 R2.r h3, rd_of S4 R4.r h4]
      refine (bindE h5).trans ?_
      rw [if_pos hk]
      refine (bindE k5).trans ?_
      show (match rd e5 r4, rd e5 r5 with | some y, some z => _ | _, _ => none) = _
      rw [rd_of S5 R4.r h7, rd_of S5 R5 h8]
      exact mapE h9
    · rename_i hk
      cases e
      refine ⟨.val (.d (.bool false)), e4, (bindE k1).trans ((bindE k2).trans ((bindE k3).trans ((bindE k4).trans ?_))), S4, .val (.fr _)⟩
      show (match rd e4 r2, rd e4 r4 with | some x, some y => _ | _, _ => none) = _
      rw [rd_of S4 R2.r h3, rd_of S4 R4.r h4]
      refine (bindE h5).trans ?_
      rw [if_neg hk]
  | .and_ a b => smT (fun {env pe q} S e => by
      obtain ⟨p, h1, e⟩ := pbs e
      obtain ⟨r1, e1, k1, S1, R1⟩ := (sm a).e S h1
      split at e
      · rename_i hd
        obtain ⟨r2, e2, k2, S2, R2⟩ := (sm b).e S1 e
        refine ⟨r2, e2, (bindE k1).trans ?_, S2, R2⟩
        show (match rd e1 r1 with | some (.bool true) => _ | some (.bool false) => _ | _ => none) = _
        rw [rd_of S1 R1 hd]; exact k2
      · rename_i hd
        cases e
        refine ⟨_, e1, (bindE k1).trans ?_, S1, .val (.fr _)⟩
        show (match rd e1 r1 with | some (.bool true) => _ | some (.bool false) => _ | _ => none) = _
        rw [rd_of S1 R1 hd]
      · cases e) (fun {env pe q} S e => by
      obtain ⟨p, h1, e⟩ := pbs e
      obtain ⟨e1, k1, S1⟩ := (sm a).t S h1
      split at e
      · rename_i hk
        obtain ⟨e2, k2, S2⟩ := (sm b).t S1 e
        refine ⟨e2, (bindE k1).trans ?_, S2⟩
        show (if p.1 = true then _ else _) = _
        rw [if_pos hk]; exact k2
      · rename_i hk
        cases e
        refine ⟨e1, (bindE k1).trans ?_, S1⟩
        show (if p.1 = true then _ else _) = _
        rw [if_neg hk])
  | .or_ a b => smT (fun {env pe q} S e => by
      obtain ⟨p, h1, e⟩ := pbs e
      obtain ⟨r1, e1, k1, S1, R1⟩ := (sm a).e S h1
      split at e
      · rename_i hd
        cases e
        refine ⟨_, e1, (bindE k1).trans ?_, S1, .val (.fr _)⟩
        show (match rd e1 r1 with | some (.bool true) => _ | some (.bool false) => _ | _ => none) = _
        rw [rd_of S1 R1 hd]
      · rename_i hd
        obtain ⟨r2, e2, k2, S2, R2⟩ := (sm b).e S1 e
        refine ⟨r2, e2, (bindE k1).trans ?_, S2, R2⟩
        show (match rd e1 r1 with | some (.bool true) => _ | some (.bool false) => _ | _ => none) = _
        rw [rd_of S1 R1 hd]; exact k2
      · cases e) (fun {env pe q} S e => by
      obtain ⟨p, h1, e⟩ := pbs e
      obtain ⟨e1, k1, S1⟩ := (sm a).t S h1
      split at e
      · rename_i hk
        cases e
        refine ⟨e1, (bindE k1).trans ?_, S1⟩
        show (if p.1 = true then _ else _) = _
        rw [if_pos hk]
      · rename_i hk
        obtain ⟨e2, k2, S2⟩ := (sm b).t S1 e
        refine ⟨e2, (bindE k1).trans ?_, S2⟩
        show (if p.1 = true then _ else _) = _
        rw [if_neg hk]; exact k2)
  | .not_ a => smT (fun {env pe q} S e => by
      obtain ⟨p, h1, e⟩ := pbs e
      obtain ⟨r1, e1, k1, S1, R1⟩ := (sm a).e S h1
      split at e
      · rename_i k hd
        cases e
        refine ⟨_, e1, (bindE k1).trans ?_, S1, .val (.fr _)⟩
        show (match rd e1 r1 with | some (.bool k) => _ | _ => none) = _
        rw [rd_of S1 R1 hd]
      · cases e) (fun {env pe q} S e => by
      obtain ⟨p, h1, e⟩ := pms e
      cases e
      obtain ⟨e1, k1, S1⟩ := (sm a).t S h1
      exact ⟨e1, mapE k1, S1⟩)
  | .ite c a b => smE fun {env pe q} S e => by
    obtain ⟨p, h1, e⟩ := pbs e
    obtain ⟨e1, k1, S1⟩ := (sm c).t S h1
    split at e
    · rename_i hk
      obtain ⟨r2, e2, k2, S2, R2⟩ := (sm a).e S1 e
      refine ⟨r2, e2, (bindE k1).trans ?_, S2, R2⟩
      show (if p.1 = true then _ else _) = _
      rw [if_pos hk]; exact k2
    · rename_i hk
      obtain ⟨r2, e2, k2, S2, R2⟩ := (sm b).e S1 e
      refine ⟨r2, e2, (bindE k1).trans ?_, S2, R2⟩
      show (if p.1 = true then _ else _) = _
      rw [if_neg hk]; exact k2
  | .sub a b => smE fun {env pe q} S e => by
    obtain ⟨⟨p, pe1⟩, h1, e⟩ := pbs e
    obtain ⟨p', h2, e⟩ := pbs e
    obtain ⟨k, h3, e⟩ := pbs e
    obtain ⟨r1, e1, k1, S1, R1⟩ := (sm a).e S h1
    have nun : pnun p = true := by
      unfold psubF at e
      split at e
      · split at e
        · assumption
        · cases e
      · cases e
    have R1' : SmT r1 p := by
      cases R1 with
      | val v => exact .val v
      | elt h h' => cases nun
      | fr d => exact .fr d
      | var h => exact .var h
    have st : (if pureE b = true then some (r1, e1) else stab e1 r1) = some (r1, e1) := by
      split
      · rfl
      · cases R1' <;> rfl
    obtain ⟨r3, e3, k3, S3, R3⟩ := (sm b).e S1 h2
    obtain ⟨r4, k4, hq, R4⟩ := subF_of S3 R1'.r e
    refine ⟨r4, e3, (bindE k1).trans ((bindE st).trans ((bindE k3).trans ((bindE (rd_of S3 R3 h3)).trans k4))), ?_, R4⟩
    rw [hq]; exact S3
  | .slice a lo hi => smE fun {env pe q} S e => by
    obtain ⟨p, h1, e⟩ := pbs e
    obtain ⟨p', h2, e⟩ := pbs e
    obtain ⟨k, h3, e⟩ := pbs e
    obtain ⟨r1, e1, k1, S1, R1⟩ := (sm a).e S h1
    obtain ⟨r2, e2, k2, S2, R2⟩ := stab_of S1 R1
    obtain ⟨e3, k3, S3⟩ := (sm lo).o S2 h2
    obtain ⟨e4, k4, S4⟩ := (sm hi).o S3 h3
    obtain ⟨r5, e5, k5, S5, R5⟩ := sliceF_of S4 R2 e
    exact ⟨r5, e5, (bindE k1).trans ((bindE k2).trans ((bindE k3).trans ((bindE k4).trans k5))), S5, R5⟩
  | .attr a c k => smE fun {env pe q} S e => by
    obtain ⟨p, h1, e⟩ := pbs e
    obtain ⟨r1, e1, k1, S1, R1⟩ := (sm a).e S h1
    obtain ⟨r4, k4, hq, R4⟩ := attrF_of S1 R1 e
    refine ⟨r4, e1, (bindE k1).trans k4, ?_, R4⟩
    rw [hq]; exact S1
  | .call f es ks perm => smE fun {env pe q} S e => by
    obtain ⟨p, h1, e⟩ := pbs e
    obtain ⟨p', h2, e⟩ := pbs e
    obtain ⟨r1, e1, k1, S1, R1⟩ := (sm es).es S h1
    obtain ⟨r2, e2, k2, S2, R2⟩ := (sm ks).es S1 h2
    obtain ⟨r3, e3, k3, S3, R3⟩ := call_of F S2 (R1.app R2) e
    exact ⟨r3, e3, (bindE k1).trans ((bindE k2).trans k3), S3, R3⟩
  | .keep a => smE fun {env pe q} S e => by
    obtain ⟨p, h1, e⟩ := pbs e
    obtain ⟨t, h2, e⟩ := pms e
    cases e
    obtain ⟨r1, e1, k1, S1, R1⟩ := (sm a).e S h1
    obtain ⟨w, e2, k2, S2, V2⟩ := take_of S1 R1 h2
    exact ⟨.val w, e2, (bindE k1).trans (mapE k2), S2, .val V2⟩
  | .fz a => smE fun {env pe q} S e => by
    obtain ⟨p, h1, e⟩ := pbs e
    obtain ⟨t, h2, e⟩ := pms e
    cases e
    obtain ⟨r1, e1, k1, S1, R1⟩ := (sm a).e S h1
    obtain ⟨w, e2, k2, S2, V2⟩ := take_of S1 R1 h2
    refine ⟨.val (.d (frz w)), e2, (bindE k1).trans (mapE k2), S2, .val ?_⟩
    rw [V2.frz_eq]; exact .fr _
  | .rev a => smE fun {env pe q} S e => by
    obtain ⟨p, h1, e⟩ := pbs e
    obtain ⟨r1, e1, k1, S1, R1⟩ := (sm a).e S h1
    split at e
    · rename_i l hl
      cases e
      obtain ⟨e2, k2, S2, _⟩ := shell_of S1 R1 (pshell_list hl)
      exact ⟨.val (.lst (l.reverse.map W.d)), e2, (bindE k1).trans (bindE k2), S2, .val (ls_ds _)⟩
    · cases e
  | .lrng1 a => smE fun {env pe q} S e => by
    obtain ⟨p, h1, e⟩ := pbs e
    obtain ⟨r1, e1, k1, S1, R1⟩ := (sm a).e S h1
    split at e
    · rename_i j hj
      split at e
      · rename_i hc
        cases e
        refine ⟨.val (.lst ((rngL 0 j.toNat).map W.d)), e1, (bindE k1).trans ?_, S1, .val (ls_ds _)⟩
        show (match rd e1 r1 with | some (.int j) => (if (rngOk j && decide (j ≤ 16777216)) = true then _ else none) | _ => none) = _
        rw [rd_of S1 R1 hj]
        dsimp only
        rw [if_pos hc]
      · cases e
    · cases e
  | .bi b es => smE fun {env pe q} S e => by
    obtain ⟨p, h1, e⟩ := pbs e
    obtain ⟨rs, e1, k1, S1, R1⟩ := (sm es).es S h1
    obtain ⟨r2, e2, k2, S2, R2⟩ := biF_of S1 R1 e
    exact ⟨r2, e2, (bindE k1).trans k2, S2, R2⟩
  | .comp elt t it c own => smE fun {env pe q} S e => by
    obtain ⟨p, h1, e⟩ := pbs e
    obtain ⟨src, lk, e1, k1, S1, W1⟩ := (sm it).i S h1
    split at e
    · rename_i hc
      obtain ⟨q1, h2, e⟩ := pms e
      cases e
      have hown : ∀ i ∈ p.1.2.2.map (·.1), i ∉ own := fun i hi ho => by
        have := List.all_eq_true.mp hc.2 i ho
        rw [Bool.and_eq_true, Bool.not_eq_true'] at this
        have h0 := this.1
        rw [List.contains_iff_mem.mpr hi] at h0
        cases h0
      have hlen := (W1.nx e1 p.2 S1 (fun _ _ _ _ h => h)).2
      have kelt : ∀ {pe pe' : PEnv} {x : O × D}, ((pv Ψ elt).e pe).bind (fun q => ptake q.2 q.1) = some (x, pe') → Kp pe pe' := fun {pe pe' x} e => by
        obtain ⟨q, h1, e⟩ := pbs e
        exact ((kp hΨ elt).e h1).trans (ptake_kp e)
      have h2' : pcompG (fun x e => (pv Ψ t).a .fr x e) (fun e => (pv Ψ c).t e) (fun e => ((pv Ψ elt).e e).bind fun q => ptake q.2 q.1) own (p.1.2.1.drop 0) (frzL []) (pwipe p.2 own) = some q1 := h2
      obtain ⟨ws, e2, k2, S2, hw, hn⟩ := compG_of (tgt := fun x e => (ev Φ t).a (.d x) e) (test := fun e => (ev Φ c).t e) (elt := fun e => ((ev Φ elt).e e).bind fun q => take q.2 q.1)
        (fun {x env pe pe'} S e => (sm t).a S (.fr x) e) (fun {x pe pe'} e => (kp hΨ t).a e)
        (fun {env pe pe' b} S e => (sm c).t S e) (fun {pe pe' b} e => (kp hΨ c).t e)
        (fun {env pe q} S e => by
          obtain ⟨q', h1, e⟩ := pbs e
          obtain ⟨r1, e1, k1, S1, R1⟩ := (sm elt).e S h1
          obtain ⟨w, e2, k2, S2, V2⟩ := take_of S1 R1 e
          exact ⟨w, e2, (bindE k1).trans k2, S2, V2⟩) kelt
        W1 hown (srcLen e1 src) 0 (acc := []) (wipe_of S1) (KpO.refl own p.2).wipe (fun _ h => nomatch h) (by rw [hlen]; rfl) h2'
      have kO := pcompG_kp (own := own) (fun {x env env'} e => (kp hΨ t).a e) (fun {env env' b} e => (kp hΨ c).t e) kelt (KpO.refl own p.2).wipe h2
      have rest : ∀ {own : List Nat} {a old : Env} {pa pold : PEnv}, SmE a pa → SmE old pold → SmE (restE a old own) (prest pa pold own) := fun {own} => by
        induction own with
        | nil => intro a old pa pold S _; exact S
        | cons j own ih => intro a old pa pold S So; exact ih (S.set j (So.at_ j)) So
      have S3 := rest (own := own) S2 S1
      have on : KpOn (p.1.2.2.map (·.1)) p.2 (prest q1.2 p.2 own) := fun i hi b d hs => by
        rw [prest_slot (hown i hi)]
        exact kO.lk i b d (hown i hi) hs
      have S4 := W1.un _ _ S3 on
      refine ⟨.val (.lst ws), _, (bindE k1).trans ?_, S4, .val ?_⟩
      · have hc' : own.Nodup ∧ own.all (fun i => !(srcVars src).contains i && decide (i < env.length)) = true := by
          refine ⟨hc.1, List.all_eq_true.mpr fun i ho => ?_⟩
          have := List.all_eq_true.mp hc.2 i ho
          rw [Bool.and_eq_true] at this ⊢
          refine ⟨?_, by rw [S.len]; exact this.2⟩
          rw [Bool.not_eq_true']
          cases hx : (srcVars src).contains i with
          | false => rfl
          | true => exact absurd ho (hown i (W1.vars i (List.contains_iff_mem.mp hx)))
        show (if own.Nodup ∧ own.all (fun i => !(srcVars src).contains i && decide (i < env.length)) = true then _ else none) = _
        rw [if_pos hc']
        exact mapE k2
      · rw [← hw]; exact .ls hn
    · cases e
  | .append a b => smE fun {env pe q} S e => by
    obtain ⟨p, h1, e⟩ := pbs e
    obtain ⟨l0, h2, e⟩ := pbs e
    obtain ⟨p', h3, e⟩ := pbs e
    obtain ⟨t, h4, e⟩ := pbs e
    obtain ⟨l, h5, e⟩ := pbs e
    split at e
    · rename_i hl
      cases e
      obtain ⟨r1, e1, k1, S1, R1⟩ := (sm a).e S h1
      obtain ⟨ws0, g0, _, _, T1⟩ := own_of S1 R1 h2
      obtain ⟨r3, e3, k3, S3, R3⟩ := (sm b).e S1 h3
      obtain ⟨w, e4, k4, S4, V4⟩ := take_of S3 R3 h4
      obtain ⟨ws, g, hw, hn, _⟩ := own_of S4 T1.r h5
      have hn' : ∀ x ∈ ws ++ [w], isLk x = false := fun x hx => by
        rcases List.mem_append.mp hx with z | z
        · exact hn x z
        · rw [List.mem_singleton.mp z]; exact V4.nlk
      have S5 := put_of S4 T1 h5 hn'
      have hfz : frzL (ws ++ [w]) = l ++ [t.1.2] := by
        rw [frzL_map, List.map_append, ← frzL_map, hw, ← V4.frz_eq]; rfl
      rw [hfz] at S5
      refine ⟨.val (.d .none), _, (bindE k1).trans ((bindE (okR_of T1 g0)).trans ((bindE k3).trans ((bindE k4).trans ?_))), S5, .val (.fr _)⟩
      show (match getW e4 r1 with | some (.lst ws) => (if decide (ws.length < sizeLine) = true then some (R.val (.d .none), setW e4 r1 (.lst (ws ++ [w]))) else none) | _ => none) = _
      rw [g]
      dsimp only
      rw [if_pos (by rw [← hw, frzL_length] at hl; exact hl)]
    · cases e
  | .extend a b => smE fun {env pe q} S e => by
    obtain ⟨p, h1, e⟩ := pbs e
    obtain ⟨l0, h2, e⟩ := pbs e
    obtain ⟨p', h3, e⟩ := pbs e
    obtain ⟨l, h5, e⟩ := pbs e
    split at e
    · rename_i l' hl'
      split at e
      · rename_i hl
        cases e
        obtain ⟨r1, e1, k1, S1, R1⟩ := (sm a).e S h1
        obtain ⟨ws0, g0, _, _, T1⟩ := own_of S1 R1 h2
        obtain ⟨r3, e3, k3, S3, R3⟩ := (sm b).e S1 h3
        obtain ⟨e4, k4, S4, _⟩ := shell_of S3 R3 (pshell_list hl')
        obtain ⟨ws, g, hw, hn, _⟩ := own_of S4 T1.r h5
        have hn' : ∀ x ∈ ws ++ l'.map W.d, isLk x = false := fun x hx => by
          rcases List.mem_append.mp hx with z | z
          · exact hn x z
          · exact ds_nlk _ x z
        have S5 := put_of S4 T1 h5 hn'
        have hfz : frzL (ws ++ l'.map W.d) = l ++ l' := by
          rw [frzL_map, List.map_append, ← frzL_map, ← frzL_map, hw, frzL_ds]
        rw [hfz] at S5
        refine ⟨.val (.d .none), _, (bindE k1).trans ((bindE (okR_of T1 g0)).trans ((bindE k3).trans ((bindE k4).trans ?_))), S5, .val (.fr _)⟩
        show (match Sh.list l', getW e4 r1 with | .list l', some (.lst ws) => (if lenOk (ws.length + l'.length) = true then some (R.val (.d .none), setW e4 r1 (.lst (ws ++ l'.map W.d))) else none) | _, _ => none) = _
        rw [g]
        dsimp only
        rw [if_pos (by rw [← hw, frzL_length] at hl; exact hl)]
      · cases e
    · cases e
  | .pop a => smE fun {env pe q} S e => by
    obtain ⟨p, h1, e⟩ := pbs e
    obtain ⟨l, h5, e⟩ := pbs e
    obtain ⟨x, h2, e⟩ := pms e
    cases e
    obtain ⟨r1, e1, k1, S1, R1⟩ := (sm a).e S h1
    obtain ⟨ws, g, hw, hn, T1⟩ := own_of S1 R1 h5
    have hx : ∃ w, ws[ws.length - 1]? = some w ∧ frz w = x := by
      rw [← hw, frzL_length, frzL_map, List.getElem?_map] at h2
      exact pms h2
    obtain ⟨w, h6, h7⟩ := hx
    have hn' : ∀ x ∈ ws.dropLast, isLk x = false := fun x hx => hn x (List.dropLast_subset _ hx)
    have S5 := put_of S1 T1 h5 hn'
    have hfz : frzL ws.dropLast = l.dropLast := by rw [← hw, frzL_map, frzL_map, List.map_dropLast]
    rw [hfz] at S5
    refine ⟨.val w, _, (bindE k1).trans ?_, S5, .val (un_of (hn w (List.mem_of_getElem? h6)) h7)⟩
    show (match getW e1 r1 with | some (.lst ws) => (ws[ws.length - 1]?).map fun w => (R.val w, setW e1 r1 (.lst ws.dropLast)) | _ => none) = _
    rw [g]
    exact mapE h6
  | .popAt a b => smE fun {env pe q} S e => by
    obtain ⟨p, h1, e⟩ := pbs e
    obtain ⟨l0, h2, e⟩ := pbs e
    obtain ⟨p', h3, e⟩ := pbs e
    obtain ⟨l, h5, e⟩ := pbs e
    split at e
    · rename_i i hi
      split at e
      · rename_i hc
        obtain ⟨k, h6, e⟩ := pbs e
        obtain ⟨x, h7, e⟩ := pms e
        cases e
        obtain ⟨r1, e1, k1, S1, R1⟩ := (sm a).e S h1
        obtain ⟨ws0, g0, _, _, T1⟩ := own_of S1 R1 h2
        obtain ⟨r3, e3, k3, S3, R3⟩ := (sm b).e S1 h3
        obtain ⟨ws, g, hw, hn, _⟩ := own_of S3 T1.r h5
        have hx : ∃ w, ws[k]? = some w ∧ frz w = x := by
          rw [← hw, frzL_map, List.getElem?_map] at h7
          exact pms h7
        obtain ⟨w, h8, h9⟩ := hx
        have hn' : ∀ x ∈ ws.eraseIdx k, isLk x = false := fun x hx => hn x (List.mem_of_mem_eraseIdx hx)
        have S5 := put_of S3 T1 h5 hn'
        have hfz : frzL (ws.eraseIdx k) = l.eraseIdx k := by rw [← hw, frzL_map, frzL_map, erase_map]
        rw [hfz] at S5
        refine ⟨.val w, _, (bindE k1).trans ((bindE (okR_of T1 g0)).trans ((bindE k3).trans ?_)), S5, .val (un_of (hn w (List.mem_of_getElem? h8)) h9)⟩
        show (match rd e3 r3, getW e3 r1 with | some (.int i), some (.lst ws) => (if (decide (-(2 ^ 63) ≤ i) && decide (i < 2 ^ 63)) = true then (L2.ixN ws.length i).bind fun k => (ws[k]?).map fun w => (R.val w, setW e3 r1 (.lst (ws.eraseIdx k))) else none) | _, _ => none) = _
        rw [rd_of S3 R3 hi, g]
        dsimp only
        rw [if_pos hc]
        rw [← hw, frzL_length] at h6
        exact (bindE h6).trans (mapE h8)
      · cases e
    · cases e
  | .index a b => smE fun {env pe q} S e => by
    obtain ⟨p, h1, e⟩ := pbs e
    obtain ⟨p', h3, e⟩ := pbs e
    split at e
    · rename_i l0 l x hl0 hl hx
      split at e
      · rename_i hc
        obtain ⟨k, h6, e⟩ := pms e
        cases e
        obtain ⟨r1, e1, k1, S1, R1⟩ := (sm a).e S h1
        obtain ⟨r2, e2, k2, S2, R2⟩ := stab_of S1 R1
        obtain ⟨r3, e3, k3, S3, R3⟩ := (sm b).e S2 h3
        have il : isListR e2 r2 = some () := by
          unfold isListR
          rw [rd_of S2 R2.r hl0]
        refine ⟨.val (.d (.int (k : Int))), e3, (bindE k1).trans ((bindE k2).trans ((bindE il).trans ((bindE k3).trans ?_))), S3, .val (.fr _)⟩
        show (match rd e3 r2, rd e3 r3 with | some (.list l), some x => (if (flatD x && l.all flatD) = true then (l.findIdx? fun y => eqFlat y x).map fun (k : Nat) => (R.val (.d (.int (k : Int))), e3) else none) | _, _ => none) = _
        rw [rd_of S3 R2.r hl, rd_of S3 R3 hx]
        dsimp only
        rw [if_pos hc]
        exact mapE h6
      · cases e
    · cases e
  | .tname i => smA fun S v e => setN_of S v e
  | .ttup ts => smA fun {env pe w o d pe'} S v e => by
    have e : ptupA (pv Ψ ts).as o d pe = some pe' := e
    cases o with
    | fr =>
      cases d with
      | tup l =>
        cases v
        have e : (pv Ψ ts).as (l.map fun d => (O.fr, d)) pe = some pe' := e
        obtain ⟨z1, z2⟩ := map_fr l
        exact (sm ts).as S (by rw [z1, z2]; exact SmL.ds l) e
      | _ => cases e
    | tp os =>
      cases d with
      | tup l =>
        have e : (if os.length = l.length then (pv Ψ ts).as (os.zip l) pe else none) = some pe' := e
        split at e
        · rename_i hl
          have z1 : (os.zip l).map (·.1) = os := List.map_fst_zip (by omega)
          have z2 : (os.zip l).map (·.2) = l := List.map_snd_zip (by omega)
          cases v with
          | tp L => exact (sm ts).as S (by rw [z1, z2]; exact L) e
          | tpd L => exact (sm ts).as S (by rw [z1, z2]; exact L) e
        · cases e
      | _ => cases e
    | _ => cases e
  | .tsub a b => smA fun {env pe w o d pe'} S v e => by
    obtain ⟨p, h1, e⟩ := pbs e
    obtain ⟨l0, h2, e⟩ := pbs e
    obtain ⟨p', h3, e⟩ := pbs e
    obtain ⟨l, h5, e⟩ := pbs e
    split at e
    · rename_i i hi
      obtain ⟨k, h6, e⟩ := pms e
      cases e
      obtain ⟨r1, e1, k1, S1, R1⟩ := (sm a).e S h1
      obtain ⟨ws0, g0, _, _, T1⟩ := own_of S1 R1 h2
      obtain ⟨r3, e3, k3, S3, R3⟩ := (sm b).e S1 h3
      obtain ⟨ws, g, hw, hn, _⟩ := own_of S3 T1.r h5
      have S5 := put_of S3 T1 h5 (nlk_set (k := k) hn v.nlk)
      have hfz : frzL (ws.set k w) = l.set k d := by rw [frzL_set (w := w), hw, v.frz_eq]
      rw [hfz] at S5
      refine ⟨_, (bindE k1).trans ((bindE (okR_of T1 g0)).trans ((bindE k3).trans ?_)), S5⟩
      show (match rd e3 r3, getW e3 r1 with | some (.int i), some (.lst ws) => (L2.ixN ws.length i).map fun k => setW e3 r1 (.lst (ws.set k w)) | _, _ => none) = _
      rw [rd_of S3 R3 hi, g]
      rw [← hw, frzL_length] at h6
      exact mapE h6
    · cases e
  | .iof a => smI fun {env pe q} S e => by
    obtain ⟨p, h1, e⟩ := pbs e
    obtain ⟨r1, e1, k1, S1, R1⟩ := (sm a).e S h1
    obtain ⟨src, lk, e2, k2, S2, W2⟩ := walk_of S1 R1 e
    exact ⟨src, lk, e2, (bindE k1).trans k2, S2, W2⟩
  | .irng1 a => smI fun {env pe q} S e => by
    obtain ⟨p, h1, e⟩ := pbs e
    obtain ⟨r1, e1, k1, S1, R1⟩ := (sm a).e S h1
    split at e
    · rename_i j hj
      split at e
      · rename_i hc
        cases e
        refine ⟨.fx (rngL 0 j.toNat), [], e1, (bindE k1).trans ?_, S1, .fx _ (fun _ h => nomatch h)⟩
        show (match rd e1 r1 with | some (.int j) => (if rngOk j = true then _ else none) | _ => none) = _
        rw [rd_of S1 R1 hj]
        dsimp only
        rw [if_pos hc]
      · cases e
    · cases e
  | .irng2 a b => smI fun {env pe q} S e => by
    obtain ⟨p, h1, e⟩ := pbs e
    obtain ⟨p', h2, e⟩ := pbs e
    obtain ⟨r1, e1, k1, S1, R1⟩ := (sm a).e S h1
    obtain ⟨r2, e2, k2, S2, R2⟩ := stab_of S1 R1
    obtain ⟨r3, e3, k3, S3, R3⟩ := (sm b).e S2 h2
    split at e
    · rename_i i j hi hj
      split at e
      · rename_i hc
        cases e
        refine ⟨.fx (rngL i (j - i).toNat), [], e3, (bindE k1).trans ((bindE k2).trans ((bindE k3).trans ?_)), S3, .fx _ (fun _ h => nomatch h)⟩
        show (match rd e3 r2, rd e3 r3 with | some (.int i), some (.int j) => (if (rngOk i && rngOk j) = true then _ else none) | _, _ => none) = _
        rw [rd_of S3 R2.r hi, rd_of S3 R3 hj]
        dsimp only
        rw [if_pos hc]
      · cases e
    · cases e
  | .ienum a => smI fun {env pe q} S e => by
    obtain ⟨p, h1, e⟩ := pbs e
    obtain ⟨t, h2, e⟩ := pms e
    cases e
    obtain ⟨r1, e1, k1, S1, R1⟩ := (sm a).e S h1
    obtain ⟨src, lk, e2, k2, S2, W2⟩ := walk_of S1 R1 h2
    refine ⟨.en src, lk, e2, (bindE k1).trans (mapE k2), S2, ⟨fun env2 pe2 S3 k3 => ?_, W2.un, W2.vars⟩⟩
    obtain ⟨n1, n2⟩ := W2.nx env2 pe2 S3 k3
    refine ⟨fun k => ?_, ?_⟩
    · unfold nxt
      rw [n1 k, List.getElem?_mapIdx]
      cases t.1.2.1[k]? <;> rfl
    · show srcLen env2 src = _
      rw [n2]
      simp
  | .izip a b => smI fun {env pe q} S e => by
    obtain ⟨p, h1, e⟩ := pbs e
    obtain ⟨t, h2, e⟩ := pbs e
    obtain ⟨p', h3, e⟩ := pbs e
    obtain ⟨t', h4, e⟩ := pbs e
    split at e
    · rename_i hc
      cases e
      obtain ⟨r1, e1, k1, S1, R1⟩ := (sm a).e S h1
      obtain ⟨src, lk, e2, k2, S2, W2⟩ := walk_of S1 R1 h2
      obtain ⟨r3, e3, k3, S3, R3⟩ := (sm b).e S2 h3
      obtain ⟨src', lk', e4, k4, S4, W4⟩ := walk_of S3 R3 h4
      have K : Kp t.2 t'.2 := ((kp hΨ b).e h3).trans (pwalk_kp h4)
      have nx1 : ∀ env2 pe2, SmE env2 pe2 → KpOn ((t'.1.2.2 ++ t.1.2.2).map (·.1)) t'.2 pe2 → (∀ k, nxt env2 src k = some t.1.2.1[k]?) ∧ srcLen env2 src = t.1.2.1.length := fun env2 pe2 S k => W2.nx env2 pe2 S fun i hi b' d h => k i (by rw [List.map_append]; exact List.mem_append_right _ hi) b' d (K.lk i b' d h)
      have nx2 : ∀ env2 pe2, SmE env2 pe2 → KpOn ((t'.1.2.2 ++ t.1.2.2).map (·.1)) t'.2 pe2 → (∀ k, nxt env2 src' k = some t'.1.2.1[k]?) ∧ srcLen env2 src' = t'.1.2.1.length := fun env2 pe2 S k => W4.nx env2 pe2 S fun i hi b d h => k i (by rw [List.map_append]; exact List.mem_append_left _ hi) b d h
      refine ⟨.zp src src', lk' ++ lk, e4, (bindE k1).trans ((bindE k2).trans ((bindE k3).trans ((bindE k4).trans ?_))), S4, ⟨fun env2 pe2 S5 k5 => ?_, fun env2 pe2 S5 k5 => ?_, fun i hi => ?_⟩⟩
      · show (if t.1.1 = t'.1.1 ∧ (nxt e4 src 0).isSome = true then _ else none) = _
        rw [if_pos ⟨hc, by rw [(nx1 e4 t'.2 S4 (fun _ _ _ _ h => h)).1 0]; rfl⟩]
      · obtain ⟨a1, a2⟩ := nx1 env2 pe2 S5 k5
        obtain ⟨b1, b2⟩ := nx2 env2 pe2 S5 k5
        refine ⟨fun k => ?_, ?_⟩
        · unfold nxt
          rw [a1 k, b1 k, List.getElem?_zipWith]
          cases t.1.2.1[k]? <;> cases t'.1.2.1[k]? <;> rfl
        · show min (srcLen env2 src) (srcLen env2 src') = _
          rw [a2, b2, List.length_zipWith]
      · have ap : ∀ {l1 l2 : List Nat} {e : Env}, unlock e (l1 ++ l2) = unlock (unlock e l1) l2 := fun {l1} => by
          induction l1 with
          | nil => intro l2 e; rfl
          | cons i l1 ih => intro l2 e; exact ih
        have pap : ∀ {l1 l2 : List (Nat × Fg)} {e : PEnv}, punlock e (l1 ++ l2) = punlock (punlock e l1) l2 := fun {l1} => by
          induction l1 with
          | nil => intro l2 e; rfl
          | cons i l1 ih => intro l2 e; exact ih
        show SmE (unlock env2 (lk' ++ lk)) (punlock pe2 (t'.1.2.2 ++ t.1.2.2))
        rw [ap, pap]
        have s1 := W4.un env2 pe2 S5 fun i hi b d h => k5 i (by show i ∈ (t'.1.2.2 ++ t.1.2.2).map (·.1); rw [List.map_append]; exact List.mem_append_left _ hi) b d h
        refine W2.un _ _ s1 fun i hi b' d h => ?_
        have h' := k5 i (by show i ∈ (t'.1.2.2 ++ t.1.2.2).map (·.1); rw [List.map_append]; exact List.mem_append_right _ hi) b' d (K.lk i b' d h)
        -- what the second walk locked anew was not locked
        have lo := pwalk_lk h4
        have kk : ∀ {l : List (Nat × Fg)} {e : PEnv}, (∀ p ∈ l, p.2 = .ls → p.1 ≠ i) → pslot (punlock e l) i = pslot e i := fun {l} => by
          induction l with
          | nil => intro e _; rfl
          | cons p l ih =>
            intro e hp
            show pslot (punlock (punlock1 e p) l) i = _
            rw [ih fun q hq => hp q (List.mem_cons_of_mem _ hq)]
            unfold punlock1
            split
            · rename_i hg
              split
              · exact pslot_set_ne (hp p List.mem_cons_self hg)
              · rfl
            · rfl
        rw [kk fun p hp hg he => ?_]
        · exact h'
        · have := ((kp hΨ b).e h3).lk i _ _ h
          exact lo p hp hg _ _ (by rw [he]; exact this)
      · have hi : i ∈ srcVars src ++ srcVars src' := hi
        show i ∈ (t'.1.2.2 ++ t.1.2.2).map (·.1)
        rw [List.map_append]
        rcases List.mem_append.mp hi with z | z
        · exact List.mem_append_right _ (W2.vars i z)
        · exact List.mem_append_left _ (W4.vars i z)
    · cases e
  | .skip => smNo | .seq _ _ => smNo | .asg _ _ => smNo | .par _ _ => smNo | .ex _ => smNo | .ret _ => smNo | .retN => smNo
  | .if_ _ _ _ => smNo | .while_ _ _ => smNo | .for_ _ _ _ => smNo | .brk => smNo | .cont => smNo | .never => smNo | .init _ _ => smNo
end
end Ev
end
section
set_option linter.all false
set_option autoImplicit false
/-! Pv8: the two evaluators side by side: statements, defs, programs. -/
namespace Ev
open PySem
/-! ### while: more turns change nothing -/
theorem whN_up {c : Env → Option (Bool × Env)} {b : Env → Option Fl} : ∀ {n : Nat} {env : Env} {f : Fl}, whN c b n env = some f → whN c b (n + 1) env = some f
  | 0, env, f, e => nomatch e
  | n + 1, env, f, e => by
    obtain ⟨p, h1, e⟩ := pbs e
    refine (bindE h1).trans ?_
    split at e
    · rename_i hp
      obtain ⟨f1, h2, e⟩ := pbs e
      rw [if_pos hp]
      refine (bindE h2).trans ?_
      cases f1 with
      | nx e1 => exact whN_up (n := n) e
      | ct e1 => exact whN_up (n := n) e
      | bk e1 => exact e
      | rt w e1 => exact e
    · rename_i hp
      rw [if_neg hp]; exact e
theorem whN_le {c : Env → Option (Bool × Env)} {b : Env → Option Fl} {n m : Nat} (h : n ≤ m) {env : Env} {f : Fl} (e : whN c b n env = some f) : whN c b m env = some f := by
  induction h with
  | refl => exact e
  | step _ ih => exact whN_up ih
theorem whO_of {c : Env → Option (Bool × Env)} {b : Env → Option Fl} {n : Nat} {env : Env} {f : Fl} (e : whN c b n env = some f) : whO c b env = some f := by
  unfold whO
  have ex : ∃ n, (whN c b n env).isSome := ⟨n, by rw [e]; rfl⟩
  rw [dif_pos ex]
  obtain ⟨g, hg⟩ := Option.isSome_iff_exists.mp (Classical.choose_spec ex)
  rw [hg]
  have h1 := whN_le (Nat.le_max_left n (Classical.choose ex)) e
  have h2 := whN_le (Nat.le_max_right n (Classical.choose ex)) hg
  rw [h1] at h2
  exact h2.symm
theorem pwhN_up {c : PEnv → Option (Bool × PEnv)} {b : PEnv → Option PFl} : ∀ {n : Nat} {env : PEnv} {f : PFl}, pwhN c b n env = some f → pwhN c b (n + 1) env = some f
  | 0, env, f, e => nomatch e
  | n + 1, env, f, e => by
    obtain ⟨p, h1, e⟩ := pbs e
    refine (bindE h1).trans ?_
    split at e
    · rename_i hp
      obtain ⟨f1, h2, e⟩ := pbs e
      rw [if_pos hp]
      refine (bindE h2).trans ?_
      cases f1 with
      | nx e1 => exact pwhN_up (n := n) e
      | ct e1 => exact pwhN_up (n := n) e
      | bk e1 => exact e
      | rt o d e1 => exact e
    · rename_i hp
      rw [if_neg hp]; exact e
theorem pwhN_le {c : PEnv → Option (Bool × PEnv)} {b : PEnv → Option PFl} {n m : Nat} (h : n ≤ m) {env : PEnv} {f : PFl} (e : pwhN c b n env = some f) : pwhN c b m env = some f := by
  induction h with
  | refl => exact e
  | step _ ih => exact pwhN_up ih
theorem pwhO_eq {c : PEnv → Option (Bool × PEnv)} {b : PEnv → Option PFl} {n : Nat} {env : PEnv} {f : PFl} (e : pwhN c b n env = some f) : pwhO c b env = some f := by
  unfold pwhO
  have ex : ∃ n, (pwhN c b n env).isSome := ⟨n, by rw [e]; rfl⟩
  rw [dif_pos ex]
  obtain ⟨g, hg⟩ := Option.isSome_iff_exists.mp (Classical.choose_spec ex)
  rw [hg]
  have h1 := pwhN_le (Nat.le_max_left n (Classical.choose ex)) e
  have h2 := pwhN_le (Nat.le_max_right n (Classical.choose ex)) hg
  rw [h1] at h2
  exact h2.symm
theorem whN_of {c : Env → Option (Bool × Env)} {b : Env → Option Fl} {pc : PEnv → Option (Bool × PEnv)} {pb : PEnv → Option PFl} (hc : ∀ {env : Env} {pe : PEnv} {q : Bool × PEnv}, SmE env pe → pc pe = some q → ∃ env', c env = some (q.1, env') ∧ SmE env' q.2)
    (hb : ∀ {env : Env} {pe : PEnv} {pf : PFl}, SmE env pe → pb pe = some pf → ∃ f, b env = some f ∧ SmFl f pf) : ∀ {n : Nat} {env : Env} {pe : PEnv} {pf : PFl}, SmE env pe → pwhN pc pb n pe = some pf → ∃ f, whN c b n env = some f ∧ SmFl f pf
  | 0, env, pe, pf, S, e => nomatch e
  | n + 1, env, pe, pf, S, e => by
    obtain ⟨p, h1, e⟩ := pbs e
    obtain ⟨e1, k1, S1⟩ := hc S h1
    show ∃ f, (c env).bind _ = some f ∧ _
    rw [bindE k1]
    split at e
    · rename_i hp
      obtain ⟨f1, h2, e⟩ := pbs e
      obtain ⟨f, k2, F⟩ := hb S1 h2
      rw [if_pos hp, bindE k2]
      cases F with
      | nx S2 => exact whN_of hc hb S2 e
      | ct S2 => exact whN_of hc hb S2 e
      | bk S2 => cases e; exact ⟨_, rfl, .nx S2⟩
      | rt v S2 => cases e; exact ⟨_, rfl, .rt v S2⟩
    · rename_i hp
      cases e
      rw [if_neg hp]
      exact ⟨_, rfl, .nx S1⟩
section
variable {Φ : Fns} {Ψ : PFns} (F : SmFn Φ Ψ) (hΨ : KpF Ψ)
include F hΨ
theorem smS : ∀ (m : E) {env : Env} {pe : PEnv} {pf : PFl}, SmE env pe → pvS Ψ pwhO m pe = some pf → ∃ f, evS Φ whO m env = some f ∧ SmFl f pf
  | .skip, env, pe, pf, S, e => by cases e; exact ⟨_, rfl, .nx S⟩
  | .seq a b, env, pe, pf, S, e => by
    obtain ⟨f1, h1, e⟩ := pbs e
    obtain ⟨f, k1, F1⟩ := smS a S h1
    show ∃ f, (evS Φ whO a env).bind _ = some f ∧ _
    rw [bindE k1]
    cases F1 with
    | nx S1 => exact smS b S1 e
    | bk S1 => cases e; exact ⟨_, rfl, .bk S1⟩
    | ct S1 => cases e; exact ⟨_, rfl, .ct S1⟩
    | rt v S1 => cases e; exact ⟨_, rfl, .rt v S1⟩
  | .asg t m, env, pe, pf, S, e => by
    obtain ⟨p, h1, e⟩ := pbs e
    obtain ⟨q, h2, e⟩ := pbs e
    obtain ⟨e3, h3, e⟩ := pms e
    cases e
    obtain ⟨r1, e1, k1, S1, R1⟩ := (sm F hΨ m).e S h1
    obtain ⟨w, e2, k2, S2, V2⟩ := take_of S1 R1 h2
    obtain ⟨e3, k3, S3⟩ := (sm F hΨ t).a S2 V2 h3
    exact ⟨_, (bindE k1).trans ((bindE k2).trans (mapE k3)), .nx S3⟩
  | .par is m, env, pe, pf, S, e => by
    obtain ⟨p, h1, e⟩ := pbs e
    split at e
    · rename_i nd
      obtain ⟨e3, h3, e⟩ := pms e
      cases e
      obtain ⟨ws, e1, k1, S1, L1⟩ := (sm F hΨ m).tk S h1
      obtain ⟨e2, k2, S2⟩ := setNs_of S1 L1 h3
      refine ⟨.nx e2, (bindE k1).trans ?_, .nx S2⟩
      show (if is.Nodup then (setNs is ws e1).map _ else none) = _
      rw [if_pos nd]
      exact mapE k2
    · cases e
  | .ex m, env, pe, pf, S, e => by
    obtain ⟨p, h1, e⟩ := pms e
    cases e
    obtain ⟨r1, e1, k1, S1, R1⟩ := (sm F hΨ m).e S h1
    exact ⟨_, mapE k1, .nx S1⟩
  | .ret m, env, pe, pf, S, e => by
    obtain ⟨⟨p, pe1⟩, h1, e⟩ := pbs e
    obtain ⟨r1, e1, k1, S1, R1⟩ := (sm F hΨ m).e S h1
    show ∃ f, ((ev Φ m).e env).bind _ = some f ∧ _
    rw [bindE k1]
    have tk : ∀ {pf : PFl}, ((ptake pe1 p).map fun q => PFl.rt q.1.1 q.1.2 q.2) = some pf → ∃ f, ((take e1 r1).map fun q => Fl.rt q.1 q.2) = some f ∧ SmFl f pf := fun {pf} e => by
      obtain ⟨q, h2, e⟩ := pms e
      cases e
      obtain ⟨w, e2, k2, S2, V2⟩ := take_of S1 R1 h2
      exact ⟨_, mapE k2, .rt V2 S2⟩
    cases R1 with
    | val v => exact tk e
    | elt g h => exact tk e
    | fr d => exact tk e
    | @var i g d hg =>
      cases g with
      | fr => exact absurd rfl hg
      | lk => cases e
      | ls =>
        have e : (match pslot pe1 i with
          | some (false, .ls, d) => some (PFl.rt .ls d (pe1.set i none))
          | some (true, _, _) => (ptake pe1 (.var i .ls d)).map fun q => PFl.rt q.1.1 q.1.2 q.2
          | _ => none) = some pf := e
        show ∃ f, (match slot e1 i with
          | some (false, w) => if isLk w = true then none else some (Fl.rt w (e1.set i none))
          | _ => (take e1 (.var i)).map fun q => Fl.rt q.1 q.2) = some f ∧ _
        split at e
        · rename_i d' hs
          cases e
          obtain ⟨w, k2, s2⟩ := S1.get hs
          rw [k2]
          cases s2 with
          | ls hw => exact ⟨_, rfl, .rt (.ls hw) (S1.set i .no)⟩
        · rename_i g' d' hs
          obtain ⟨w, k2, s2⟩ := S1.get hs
          rw [k2]
          exact tk e
        · cases e
  | .retN, env, pe, pf, S, e => by cases e; exact ⟨_, rfl, .rt (.fr _) S⟩
  | .if_ c a b, env, pe, pf, S, e => by
    obtain ⟨p, h1, e⟩ := pbs e
    obtain ⟨e1, k1, S1⟩ := (sm F hΨ c).t S h1
    show ∃ f, ((ev Φ c).t env).bind _ = some f ∧ _
    rw [bindE k1]
    split at e
    · rename_i hp
      rw [if_pos hp]; exact smS a S1 e
    · rename_i hp
      rw [if_neg hp]; exact smS b S1 e
  | .while_ c b, env, pe, pf, S, e => by
    obtain ⟨n, h⟩ := pwhO_of e
    obtain ⟨f, k, F1⟩ := whN_of (c := fun e => (ev Φ c).t e) (b := fun e => evS Φ whO b e) (fun S e => (sm F hΨ c).t S e) (fun S e => smS b S e) S h
    exact ⟨f, whO_of k, F1⟩
  | .for_ t it b, env, pe, pf, S, e => by
    obtain ⟨p, h1, e⟩ := pbs e
    obtain ⟨f1, h2, e⟩ := pms e
    obtain ⟨src, lk, e1, k1, S1, W1⟩ := (sm F hΨ it).i S h1
    have hlen := (W1.nx e1 p.2 S1 (fun _ _ _ _ h => h)).2
    have kb : ∀ {pe : PEnv} {pf : PFl}, pvS Ψ pwhO b pe = some pf → KpFl pe pf := fun {pe pf} e => kpSt hΨ b e
    have h2' : pforG (fun x e => (pv Ψ t).a .fr x e) (fun e => pvS Ψ pwhO b e) (p.1.2.1.drop 0) p.2 = some f1 := h2
    obtain ⟨f, k2, F2⟩ := forG_of (tgt := fun x e => (ev Φ t).a (.d x) e) (fun {x env pe pe'} S e => (sm F hΨ t).a S (.fr x) e) (fun {x pe pe'} e => (kp hΨ t).a e) (body := fun e => evS Φ whO b e) (fun S e => smS b S e) kb W1
      (srcLen e1 src) 0 S1 (.refl _) (by rw [hlen]; rfl) h2'
    have K2 := pforG_kp (fun {x env env'} e => (kp hΨ t).a e) (fun _ _ => True) (fun {env0 env f} k e => KpFl.from hΨ k (kb e)) (Kp.refl p.2) h2
    show ∃ f, ((ev Φ it).i env).bind _ = some f ∧ _
    rw [bindE k1]
    show ∃ f, (forG _ _ src (srcLen e1 src) 0 e1).map _ = some f ∧ _
    rw [mapE k2]
    cases F2 with
    | nx S2 => cases e; exact ⟨_, rfl, .nx (W1.un _ _ S2 ((show Kp p.2 _ from K2).on _))⟩
    | bk S2 => cases e; exact ⟨_, rfl, .bk S2⟩
    | ct S2 => cases e; exact ⟨_, rfl, .ct S2⟩
    | rt v S2 => cases e; exact ⟨_, rfl, .rt v S2⟩
  | .brk, env, pe, pf, S, e => by cases e; exact ⟨_, rfl, .bk S⟩
  | .cont, env, pe, pf, S, e => by cases e; exact ⟨_, rfl, .ct S⟩
  | .init c m, env, pe, pf, S, e => by
    obtain ⟨p, h1, e⟩ := pbs e
    split at e
    · rename_i hf
      cases e
      obtain ⟨ws, e1, k1, S1, L1⟩ := (sm F hΨ m).tk S h1
      obtain ⟨z1, z2⟩ := tup_flags L1 hf
      refine ⟨.rt (.d (.obj c (frzL ws))) e1, (bindE k1).trans ?_, .rt ?_ S1⟩
      · show (if ws.all isD = true then _ else none) = _
        rw [if_pos z1]
      · rw [z2]; exact .fr _
    · cases e
  | .never, env, pe, pf, S, e => nomatch e
  | .none_, env, pe, pf, S, e => nomatch e
  | .bool _, env, pe, pf, S, e => nomatch e
  | .int _, env, pe, pf, S, e => nomatch e
  | .str _, env, pe, pf, S, e => nomatch e
  | .var _, env, pe, pf, S, e => nomatch e
  | .nil, env, pe, pf, S, e => nomatch e
  | .cons _ _, env, pe, pf, S, e => nomatch e
  | .list _, env, pe, pf, S, e => nomatch e
  | .tup _, env, pe, pf, S, e => nomatch e
  | .bin _ _ _, env, pe, pf, S, e => nomatch e
  | .neg _, env, pe, pf, S, e => nomatch e
  | .inv _, env, pe, pf, S, e => nomatch e
  | .cmp _ _ _, env, pe, pf, S, e => nomatch e
  | .chain _ _ _ _ _, env, pe, pf, S, e => nomatch e
  | .and_ _ _, env, pe, pf, S, e => nomatch e
  | .or_ _ _, env, pe, pf, S, e => nomatch e
  | .not_ _, env, pe, pf, S, e => nomatch e
  | .ite _ _ _, env, pe, pf, S, e => nomatch e
  | .sub _ _, env, pe, pf, S, e => nomatch e
  | .slice _ _ _, env, pe, pf, S, e => nomatch e
  | .attr _ _ _, env, pe, pf, S, e => nomatch e
  | .call _ _ _ _, env, pe, pf, S, e => nomatch e
  | .keep _, env, pe, pf, S, e => nomatch e
  | .bi _ _, env, pe, pf, S, e => nomatch e
  | .comp _ _ _ _ _, env, pe, pf, S, e => nomatch e
  | .append _ _, env, pe, pf, S, e => nomatch e
  | .extend _ _, env, pe, pf, S, e => nomatch e
  | .pop _, env, pe, pf, S, e => nomatch e
  | .popAt _ _, env, pe, pf, S, e => nomatch e
  | .index _ _, env, pe, pf, S, e => nomatch e
  | .tname _, env, pe, pf, S, e => nomatch e
  | .ttup _, env, pe, pf, S, e => nomatch e
  | .tsub _ _, env, pe, pf, S, e => nomatch e
  | .iof _, env, pe, pf, S, e => nomatch e
  | .irng1 _, env, pe, pf, S, e => nomatch e
  | .irng2 _ _, env, pe, pf, S, e => nomatch e
  | .ienum _, env, pe, pf, S, e => nomatch e
  | .izip _ _, env, pe, pf, S, e => nomatch e
  | .fz _, env, pe, pf, S, e => nomatch e
  | .rev _, env, pe, pf, S, e => nomatch e
  | .lrng1 _, env, pe, pf, S, e => nomatch e
end
theorem SmA.length {sl : List (Bool × W)} {pl : List (Bool × Fg × D)} (h : SmA sl pl) : sl.length = pl.length := by
  induction h with
  | nil => rfl
  | cons _ _ ih => simp [ih]
theorem SmA.env : ∀ {sl : List (Bool × W)} {pl : List (Bool × Fg × D)} {n : Nat}, SmA sl pl → SmE (sl.map some ++ List.replicate n none) (pl.map some ++ List.replicate n none)
  | _, _, n, .nil => ⟨by simp, fun i => by
    have h1 : slot (([] : List (Bool × W)).map some ++ List.replicate n none) i = none := by
      unfold slot
      rw [List.map_nil, List.nil_append, List.getD_eq_getElem?_getD, List.getElem?_replicate]
      split <;> rfl
    have h2 : pslot (([] : List (Bool × Fg × D)).map some ++ List.replicate n none) i = none := by
      unfold pslot
      rw [List.map_nil, List.nil_append, List.getD_eq_getElem?_getD, List.getElem?_replicate]
      split <;> rfl
    rw [h1, h2]; exact .no⟩
  | _, _, n, .cons a b => by
    have ih := SmA.env (n := n) b
    refine ⟨by simpa using ih.len, fun i => ?_⟩
    cases i with
    | zero => exact .yes a
    | succ i => exact ih.at_ i
theorem SmE.cons {env : Env} {pe : PEnv} {s : Slot} {p : PSlot} (h : SmSl s p) (S : SmE env pe) : SmE (s :: env) (p :: pe) := ⟨by simp [S.len], fun i => by
  cases i with
  | zero => exact h
  | succ i => exact S.at_ i⟩
theorem SmE.tail {env : Env} {pe : PEnv} {s : Slot} {p : PSlot} (S : SmE (s :: env) (p :: pe)) : SmE env pe := ⟨by simpa using S.len, fun i => S.at_ (i + 1)⟩
/-- what is handed back of the parameters -/
theorem ret_of : ∀ {pl : List (Bool × Fg × D)} {env : Env} {pe : PEnv} {ps : List (Fg × D)}, SmE env pe → pretS pl pe = some ps → SmB pl ((env.take pl.length).map slotW) ps
  | [], env, pe, ps, S, e => by cases e; exact .nil
  | _ :: _, env, [], ps, S, e => by simp [pretS] at e
  | (b, g0, d0) :: pl, [], p :: pe, ps, S, e => by have := S.len; simp at this
  | (b, g0, d0) :: pl, s :: env, p :: pe, ps, S, e => by
    unfold pretS at e
    obtain ⟨r, h1, e⟩ := pbs e
    have ih := ret_of S.tail h1
    have h0 := S.at_ 0
    split at e
    · cases e
      have h0 : SmSl s (some (_, _, _)) := h0
      cases h0 with
      | yes k =>
        refine .cons (fun hb => ?_) ih
        subst hb
        cases k with
        | fr => exact .fr _
        | ls hw => exact .ls hw
        | lk l =>
          show SmU (.lst (l.map W.d)) (unl g0 .lk) (.list l)
          have hl := SmU.ls (ws := l.map W.d) (ds_nlk l)
          rw [frzL_ds] at hl
          cases g0 with
          | fr => exact hl
          | ls => exact hl
          | lk => exact .lk l
    · split at e
      · cases e
      · rename_i hb
        cases e
        exact .cons (fun z => absurd z hb) ih
theorem pphi_sm (fs : List Fn) : ∀ n, SmFn (phi whO fs n) (pphi pwhO fs n)
  | 0, f, sl, pl, r, ps, A, e => nomatch e
  | n + 1, f, sl, pl, r, ps, A, e => by
    have F := pphi_sm fs n
    have hK := pphi_kp fs n
    have e : (match fs[f]? with
      | some fn => if fn.made then prunI (pphi pwhO fs n) pwhO fn pl else prunF (pphi pwhO fs n) pwhO fn pl
      | none => none) = some (r, ps) := e
    show ∃ w ws, (match fs[f]? with
      | some fn => if fn.made then runI (phi whO fs n) whO fn sl else runF (phi whO fs n) whO fn sl
      | none => none) = some (w, ws) ∧ _
    split at e
    · rename_i fn hfn
      split at e
      · rename_i hm
        rw [if_pos hm]
        unfold prunI at e
        split at e
        · rename_i hl
          obtain ⟨f1, h1, e⟩ := pbs e
          obtain ⟨f2, k1, F1⟩ := smS F hK fn.body (SmE.cons .no (A.env (n := fn.size - (fn.par + 1)))) h1
          unfold runI
          rw [if_pos (A.length.trans hl), bindE k1]
          cases F1 with
          | @rt e1 p w o d v S1 =>
            obtain ⟨q, h2, e⟩ := pms e
            cases e
            refine ⟨w, _, rfl, v, ?_⟩
            have S2 : SmE (e1.drop 1) (p.drop 1) := by
              cases e1 with
              | nil =>
                cases p with
                | nil => exact S1
                | cons => have := S1.len; simp at this
              | cons a e1 =>
                cases p with
                | nil => have := S1.len; simp at this
                | cons b p => exact S1.tail
            have := ret_of S2 h2
            rw [hl] at this
            exact this
          | _ => cases e
        · cases e
      · rename_i hm
        rw [if_neg hm]
        unfold prunF at e
        split at e
        · rename_i hl
          obtain ⟨f1, h1, e⟩ := pbs e
          obtain ⟨f2, k1, F1⟩ := smS F hK fn.body (A.env (n := fn.size - fn.par)) h1
          unfold runF
          rw [if_pos (A.length.trans hl), bindE k1]
          cases F1 with
          | nx S1 =>
            obtain ⟨q, h2, e⟩ := pms e
            cases e
            refine ⟨_, _, rfl, .fr _, ?_⟩
            have := ret_of S1 h2
            rw [hl] at this
            exact this
          | rt v S1 =>
            obtain ⟨q, h2, e⟩ := pms e
            cases e
            refine ⟨_, _, rfl, v, ?_⟩
            have := ret_of S1 h2
            rw [hl] at this
            exact this
          | _ => cases e
        · cases e
    · cases e
/-- the law's def, on plain data -/
theorem law_of {fs : List Fn} {n i : Nat} {ns : List Int} {o : O} {ps : List (Fg × D)} (h : pphi pwhO fs n i [(false, .fr, .scr ns)] = some ((o, .bool true), ps)) : ∃ ws, phi whO fs n i [(false, .d (.scr ns))] = some (.d (.bool true), ws) := by
  obtain ⟨w, ws, h1, h2, _⟩ := pphi_sm fs n i _ _ _ _ (.cons (.fr _) .nil) h
  have hf := h2.frz_eq
  have hl := h2.nlk
  have : w = .d (.bool true) := by
    cases w with
    | d x => rw [frz_d] at hf; rw [hf]
    | lst ws => rw [frz_lst] at hf; cases hf
    | tup ws => rw [frz_tup] at hf; cases hf
    | dct ks vs => simp only [frz] at hf; cases hf
    | lk w => cases hl
  subst this
  exact ⟨ws, h1⟩
end Ev
end
section
set_option linter.all false
set_option autoImplicit false
set_option maxRecDepth 20000
/-! Pw1: how the data evaluator computes: rewriting rules. -/
namespace Ev
open PySem
def pand : Option D → Option (PR × PEnv) → Option (PR × PEnv) → Option (PR × PEnv)
  | some (.bool true), f, _ => f
  | some (.bool false), _, g => g
  | _, _, _ => none
@[simp] theorem pand_some (x : Bool) (f g : Option (PR × PEnv)) : pand (some (.bool x)) f g = if x = true then f else g := by cases x <;> rfl
def pint {β : Type} : Option D → (Int → Option β) → Option β
  | some (.int i), f => f i
  | _, _ => none
@[simp] theorem pint_some {β : Type} (i : Int) (f : Int → Option β) : pint (some (.int i)) f = f i := rfl
def pbool {β : Type} : Option D → (Bool → Option β) → Option β
  | some (.bool i), f => f i
  | _, _ => none
@[simp] theorem pbool_some {β : Type} (i : Bool) (f : Bool → Option β) : pbool (some (.bool i)) f = f i := rfl
def plst {β : Type} : Option D → (List D → Option β) → Option β
  | some (.list i), f => f i
  | _, _ => none
@[simp] theorem plst_some {β : Type} (i : List D) (f : List D → Option β) : plst (some (.list i)) f = f i := rfl
section
variable {Φ : PFns}
@[simp] theorem pv_e_none  (env : PEnv) : (pv Φ (.none_)).e env = (some (.val .fr .none, env)) := rfl
@[simp] theorem pv_t_none  (env : PEnv) : (pv Φ (.none_)).t env = (some (false, env)) := rfl
@[simp] theorem pv_o_none  (env : PEnv) : (pv Φ (.none_)).o env = ((pv Φ (.none_)).e env).bind fun p => pint (prd p.2 p.1) fun i => some (some i, p.2) := by
  first | rfl | skip
  all_goals show Option.bind _ _ = Option.bind _ _
  all_goals congr 1
  all_goals funext p
  all_goals (cases prd p.2 p.1 with
  | none => rfl
  | some x => cases x <;> rfl)
@[simp] theorem pv_e_bool (b : Bool) (env : PEnv) : (pv Φ (.bool b)).e env = (some (.val .fr (.bool b), env)) := rfl
@[simp] theorem pv_t_bool (b : Bool) (env : PEnv) : (pv Φ (.bool b)).t env = (some (b, env)) := rfl
@[simp] theorem pv_o_bool (b : Bool) (env : PEnv) : (pv Φ (.bool b)).o env = ((pv Φ (.bool b)).e env).bind fun p => pint (prd p.2 p.1) fun i => some (some i, p.2) := by
  first | rfl | skip
  all_goals show Option.bind _ _ = Option.bind _ _
  all_goals congr 1
  all_goals funext p
  all_goals (cases prd p.2 p.1 with
  | none => rfl
  | some x => cases x <;> rfl)
@[simp] theorem pv_e_int (i : Int) (env : PEnv) : (pv Φ (.int i)).e env = (some (.val .fr (.int i), env)) := rfl
@[simp] theorem pv_t_int (i : Int) (env : PEnv) : (pv Φ (.int i)).t env = ((pv Φ (.int i)).e env).bind fun p => (prd p.2 p.1).bind fun x => (truth x).map fun k => (k, p.2) := rfl
@[simp] theorem pv_o_int (i : Int) (env : PEnv) : (pv Φ (.int i)).o env = ((pv Φ (.int i)).e env).bind fun p => pint (prd p.2 p.1) fun i => some (some i, p.2) := by
  first | rfl | skip
  all_goals show Option.bind _ _ = Option.bind _ _
  all_goals congr 1
  all_goals funext p
  all_goals (cases prd p.2 p.1 with
  | none => rfl
  | some x => cases x <;> rfl)
@[simp] theorem pv_e_str (s : Str) (env : PEnv) : (pv Φ (.str s)).e env = (some (.val .fr (.str s), env)) := rfl
@[simp] theorem pv_t_str (s : Str) (env : PEnv) : (pv Φ (.str s)).t env = ((pv Φ (.str s)).e env).bind fun p => (prd p.2 p.1).bind fun x => (truth x).map fun k => (k, p.2) := rfl
@[simp] theorem pv_o_str (s : Str) (env : PEnv) : (pv Φ (.str s)).o env = ((pv Φ (.str s)).e env).bind fun p => pint (prd p.2 p.1) fun i => some (some i, p.2) := by
  first | rfl | skip
  all_goals show Option.bind _ _ = Option.bind _ _
  all_goals congr 1
  all_goals funext p
  all_goals (cases prd p.2 p.1 with
  | none => rfl
  | some x => cases x <;> rfl)
@[simp] theorem pv_e_var (i : Nat) (env : PEnv) : (pv Φ (.var i)).e env = ((pslot env i).map fun s => (.var i s.2.1 s.2.2, env)) := rfl
@[simp] theorem pv_t_var (i : Nat) (env : PEnv) : (pv Φ (.var i)).t env = ((pv Φ (.var i)).e env).bind fun p => (prd p.2 p.1).bind fun x => (truth x).map fun k => (k, p.2) := rfl
@[simp] theorem pv_o_var (i : Nat) (env : PEnv) : (pv Φ (.var i)).o env = ((pv Φ (.var i)).e env).bind fun p => pint (prd p.2 p.1) fun i => some (some i, p.2) := by
  first | rfl | skip
  all_goals show Option.bind _ _ = Option.bind _ _
  all_goals congr 1
  all_goals funext p
  all_goals (cases prd p.2 p.1 with
  | none => rfl
  | some x => cases x <;> rfl)
@[simp] theorem pv_e_list (es : E) (env : PEnv) : (pv Φ (.list es)).e env = (((pv Φ es).tk env).bind fun p => if lenOk p.1.length then some (.val .ls (.list (p.1.map (·.2))), p.2) else none) := rfl
@[simp] theorem pv_t_list (es : E) (env : PEnv) : (pv Φ (.list es)).t env = ((pv Φ (.list es)).e env).bind fun p => (prd p.2 p.1).bind fun x => (truth x).map fun k => (k, p.2) := rfl
@[simp] theorem pv_o_list (es : E) (env : PEnv) : (pv Φ (.list es)).o env = ((pv Φ (.list es)).e env).bind fun p => pint (prd p.2 p.1) fun i => some (some i, p.2) := by
  first | rfl | skip
  all_goals show Option.bind _ _ = Option.bind _ _
  all_goals congr 1
  all_goals funext p
  all_goals (cases prd p.2 p.1 with
  | none => rfl
  | some x => cases x <;> rfl)
@[simp] theorem pv_e_tup (es : E) (env : PEnv) : (pv Φ (.tup es)).e env = (((pv Φ es).tk env).bind fun p => if lenOk p.1.length then some (.val (if p.1.all (fun q => isFr q.1) then .fr else .tp (p.1.map (·.1))) (.tup (p.1.map (·.2))), p.2) else none) := rfl
@[simp] theorem pv_t_tup (es : E) (env : PEnv) : (pv Φ (.tup es)).t env = ((pv Φ (.tup es)).e env).bind fun p => (prd p.2 p.1).bind fun x => (truth x).map fun k => (k, p.2) := rfl
@[simp] theorem pv_o_tup (es : E) (env : PEnv) : (pv Φ (.tup es)).o env = ((pv Φ (.tup es)).e env).bind fun p => pint (prd p.2 p.1) fun i => some (some i, p.2) := by
  first | rfl | skip
  all_goals show Option.bind _ _ = Option.bind _ _
  all_goals congr 1
  all_goals funext p
  all_goals (cases prd p.2 p.1 with
  | none => rfl
  | some x => cases x <;> rfl)
@[simp] theorem pv_e_bin (o : Bop) (a b : E) (env : PEnv) : (pv Φ (.bin o a b)).e env = (((pv Φ a).e env).bind fun p => ((pv Φ b).e p.2).bind fun q => pbinF o p.1 q.1 q.2) := rfl
@[simp] theorem pv_t_bin (o : Bop) (a b : E) (env : PEnv) : (pv Φ (.bin o a b)).t env = ((pv Φ (.bin o a b)).e env).bind fun p => (prd p.2 p.1).bind fun x => (truth x).map fun k => (k, p.2) := rfl
@[simp] theorem pv_o_bin (o : Bop) (a b : E) (env : PEnv) : (pv Φ (.bin o a b)).o env = ((pv Φ (.bin o a b)).e env).bind fun p => pint (prd p.2 p.1) fun i => some (some i, p.2) := by
  first | rfl | skip
  all_goals show Option.bind _ _ = Option.bind _ _
  all_goals congr 1
  all_goals funext p
  all_goals (cases prd p.2 p.1 with
  | none => rfl
  | some x => cases x <;> rfl)
@[simp] theorem pv_e_neg (a : E) (env : PEnv) : (pv Φ (.neg a)).e env = (((pv Φ a).e env).bind fun p => pint (prd p.2 p.1) fun i => some (.val .fr (.int (-i)), p.2)) := by
  show Option.bind _ _ = Option.bind _ _
  congr 1
  funext p
  cases prd p.2 p.1 with
  | none => rfl
  | some x => cases x <;> first | rfl | (rename_i k; cases k <;> rfl)
@[simp] theorem pv_t_neg (a : E) (env : PEnv) : (pv Φ (.neg a)).t env = ((pv Φ (.neg a)).e env).bind fun p => (prd p.2 p.1).bind fun x => (truth x).map fun k => (k, p.2) := rfl
@[simp] theorem pv_o_neg (a : E) (env : PEnv) : (pv Φ (.neg a)).o env = ((pv Φ (.neg a)).e env).bind fun p => pint (prd p.2 p.1) fun i => some (some i, p.2) := by
  first | rfl | skip
  all_goals show Option.bind _ _ = Option.bind _ _
  all_goals congr 1
  all_goals funext p
  all_goals (cases prd p.2 p.1 with
  | none => rfl
  | some x => cases x <;> rfl)
@[simp] theorem pv_e_inv (a : E) (env : PEnv) : (pv Φ (.inv a)).e env = (((pv Φ a).e env).bind fun p => pint (prd p.2 p.1) fun i => some (.val .fr (.int (Builtin.bitNot i)), p.2)) := by
  show Option.bind _ _ = Option.bind _ _
  congr 1
  funext p
  cases prd p.2 p.1 with
  | none => rfl
  | some x => cases x <;> first | rfl | (rename_i k; cases k <;> rfl)
@[simp] theorem pv_t_inv (a : E) (env : PEnv) : (pv Φ (.inv a)).t env = ((pv Φ (.inv a)).e env).bind fun p => (prd p.2 p.1).bind fun x => (truth x).map fun k => (k, p.2) := rfl
@[simp] theorem pv_o_inv (a : E) (env : PEnv) : (pv Φ (.inv a)).o env = ((pv Φ (.inv a)).e env).bind fun p => pint (prd p.2 p.1) fun i => some (some i, p.2) := by
  first | rfl | skip
  all_goals show Option.bind _ _ = Option.bind _ _
  all_goals congr 1
  all_goals funext p
  all_goals (cases prd p.2 p.1 with
  | none => rfl
  | some x => cases x <;> rfl)
@[simp] theorem pv_e_cmp (o : Cop) (a b : E) (env : PEnv) : (pv Φ (.cmp o a b)).e env = (((pv Φ a).e env).bind fun p => ((pv Φ b).e p.2).bind fun q => (prd q.2 p.1).bind fun x => (prd q.2 q.1).bind fun y => (cmpD o x y).map fun k => (.val .fr (.bool k), q.2)) := rfl
@[simp] theorem pv_t_cmp (o : Cop) (a b : E) (env : PEnv) : (pv Φ (.cmp o a b)).t env = ((pv Φ (.cmp o a b)).e env).bind fun p => (prd p.2 p.1).bind fun x => (truth x).map fun k => (k, p.2) := rfl
@[simp] theorem pv_o_cmp (o : Cop) (a b : E) (env : PEnv) : (pv Φ (.cmp o a b)).o env = ((pv Φ (.cmp o a b)).e env).bind fun p => pint (prd p.2 p.1) fun i => some (some i, p.2) := by
  first | rfl | skip
  all_goals show Option.bind _ _ = Option.bind _ _
  all_goals congr 1
  all_goals funext p
  all_goals (cases prd p.2 p.1 with
  | none => rfl
  | some x => cases x <;> rfl)
@[simp] theorem pv_e_chain (o o' : Cop) (a b c : E) (env : PEnv) : (pv Φ (.chain o o' a b c)).e env = (((pv Φ a).e env).bind fun p => ((pv Φ b).e p.2).bind fun q => (prd q.2 p.1).bind fun x => (prd q.2 q.1).bind fun y => (cmpD o x y).bind fun k => if k then ((pv Φ c).e q.2).bind fun r => (prd r.2 q.1).bind fun y => (prd r.2 r.1).bind fun z => (cmpD o' y z).map fun k => (.val .fr (.bool k), r.2)
      else some (.val .fr (.bool false), q.2)) := rfl
@[simp] theorem pv_t_chain (o o' : Cop) (a b c : E) (env : PEnv) : (pv Φ (.chain o o' a b c)).t env = ((pv Φ (.chain o o' a b c)).e env).bind fun p => (prd p.2 p.1).bind fun x => (truth x).map fun k => (k, p.2) := rfl
@[simp] theorem pv_o_chain (o o' : Cop) (a b c : E) (env : PEnv) : (pv Φ (.chain o o' a b c)).o env = ((pv Φ (.chain o o' a b c)).e env).bind fun p => pint (prd p.2 p.1) fun i => some (some i, p.2) := by
  first | rfl | skip
  all_goals show Option.bind _ _ = Option.bind _ _
  all_goals congr 1
  all_goals funext p
  all_goals (cases prd p.2 p.1 with
  | none => rfl
  | some x => cases x <;> rfl)
@[simp] theorem pv_e_and (a b : E) (env : PEnv) : (pv Φ (.and_ a b)).e env = (((pv Φ a).e env).bind fun p => pand (prd p.2 p.1) ((pv Φ b).e p.2) (some (.val .fr (.bool false), p.2))) := by
  show Option.bind _ _ = Option.bind _ _
  congr 1
  funext p
  cases prd p.2 p.1 with
  | none => rfl
  | some x => cases x <;> first | rfl | (rename_i k; cases k <;> rfl)
@[simp] theorem pv_t_and (a b : E) (env : PEnv) : (pv Φ (.and_ a b)).t env = (((pv Φ a).t env).bind fun p => if p.1 then (pv Φ b).t p.2 else some (false, p.2)) := rfl
@[simp] theorem pv_o_and (a b : E) (env : PEnv) : (pv Φ (.and_ a b)).o env = ((pv Φ (.and_ a b)).e env).bind fun p => pint (prd p.2 p.1) fun i => some (some i, p.2) := by
  first | rfl | skip
  all_goals show Option.bind _ _ = Option.bind _ _
  all_goals congr 1
  all_goals funext p
  all_goals (cases prd p.2 p.1 with
  | none => rfl
  | some x => cases x <;> rfl)
@[simp] theorem pv_e_or (a b : E) (env : PEnv) : (pv Φ (.or_ a b)).e env = (((pv Φ a).e env).bind fun p => pand (prd p.2 p.1) (some (.val .fr (.bool true), p.2)) ((pv Φ b).e p.2)) := by
  show Option.bind _ _ = Option.bind _ _
  congr 1
  funext p
  cases prd p.2 p.1 with
  | none => rfl
  | some x => cases x <;> first | rfl | (rename_i k; cases k <;> rfl)
@[simp] theorem pv_t_or (a b : E) (env : PEnv) : (pv Φ (.or_ a b)).t env = (((pv Φ a).t env).bind fun p => if p.1 then some (true, p.2) else (pv Φ b).t p.2) := rfl
@[simp] theorem pv_o_or (a b : E) (env : PEnv) : (pv Φ (.or_ a b)).o env = ((pv Φ (.or_ a b)).e env).bind fun p => pint (prd p.2 p.1) fun i => some (some i, p.2) := by
  first | rfl | skip
  all_goals show Option.bind _ _ = Option.bind _ _
  all_goals congr 1
  all_goals funext p
  all_goals (cases prd p.2 p.1 with
  | none => rfl
  | some x => cases x <;> rfl)
@[simp] theorem pv_e_not (a : E) (env : PEnv) : (pv Φ (.not_ a)).e env = (((pv Φ a).e env).bind fun p => pbool (prd p.2 p.1) fun k => some (.val .fr (.bool (!k)), p.2)) := by
  show Option.bind _ _ = Option.bind _ _
  congr 1
  funext p
  cases prd p.2 p.1 with
  | none => rfl
  | some x => cases x <;> first | rfl | (rename_i k; cases k <;> rfl)
@[simp] theorem pv_t_not (a : E) (env : PEnv) : (pv Φ (.not_ a)).t env = (((pv Φ a).t env).map fun p => (!p.1, p.2)) := rfl
@[simp] theorem pv_o_not (a : E) (env : PEnv) : (pv Φ (.not_ a)).o env = ((pv Φ (.not_ a)).e env).bind fun p => pint (prd p.2 p.1) fun i => some (some i, p.2) := by
  first | rfl | skip
  all_goals show Option.bind _ _ = Option.bind _ _
  all_goals congr 1
  all_goals funext p
  all_goals (cases prd p.2 p.1 with
  | none => rfl
  | some x => cases x <;> rfl)
@[simp] theorem pv_e_ite (c a b : E) (env : PEnv) : (pv Φ (.ite c a b)).e env = (((pv Φ c).t env).bind fun p => if p.1 then (pv Φ a).e p.2 else (pv Φ b).e p.2) := rfl
@[simp] theorem pv_t_ite (c a b : E) (env : PEnv) : (pv Φ (.ite c a b)).t env = ((pv Φ (.ite c a b)).e env).bind fun p => (prd p.2 p.1).bind fun x => (truth x).map fun k => (k, p.2) := rfl
@[simp] theorem pv_o_ite (c a b : E) (env : PEnv) : (pv Φ (.ite c a b)).o env = ((pv Φ (.ite c a b)).e env).bind fun p => pint (prd p.2 p.1) fun i => some (some i, p.2) := by
  first | rfl | skip
  all_goals show Option.bind _ _ = Option.bind _ _
  all_goals congr 1
  all_goals funext p
  all_goals (cases prd p.2 p.1 with
  | none => rfl
  | some x => cases x <;> rfl)
@[simp] theorem pv_e_sub (a b : E) (env : PEnv) : (pv Φ (.sub a b)).e env = (((pv Φ a).e env).bind fun p => ((pv Φ b).e p.2).bind fun q => (prd q.2 q.1).bind fun k => psubF p.1 k q.2) := rfl
@[simp] theorem pv_t_sub (a b : E) (env : PEnv) : (pv Φ (.sub a b)).t env = ((pv Φ (.sub a b)).e env).bind fun p => (prd p.2 p.1).bind fun x => (truth x).map fun k => (k, p.2) := rfl
@[simp] theorem pv_o_sub (a b : E) (env : PEnv) : (pv Φ (.sub a b)).o env = ((pv Φ (.sub a b)).e env).bind fun p => pint (prd p.2 p.1) fun i => some (some i, p.2) := by
  first | rfl | skip
  all_goals show Option.bind _ _ = Option.bind _ _
  all_goals congr 1
  all_goals funext p
  all_goals (cases prd p.2 p.1 with
  | none => rfl
  | some x => cases x <;> rfl)
@[simp] theorem pv_e_slice (a lo hi : E) (env : PEnv) : (pv Φ (.slice a lo hi)).e env = (((pv Φ a).e env).bind fun p => ((pv Φ lo).o p.2).bind fun q => ((pv Φ hi).o q.2).bind fun r => psliceF p.1 q.1 r.1 r.2) := rfl
@[simp] theorem pv_t_slice (a lo hi : E) (env : PEnv) : (pv Φ (.slice a lo hi)).t env = ((pv Φ (.slice a lo hi)).e env).bind fun p => (prd p.2 p.1).bind fun x => (truth x).map fun k => (k, p.2) := rfl
@[simp] theorem pv_o_slice (a lo hi : E) (env : PEnv) : (pv Φ (.slice a lo hi)).o env = ((pv Φ (.slice a lo hi)).e env).bind fun p => pint (prd p.2 p.1) fun i => some (some i, p.2) := by
  first | rfl | skip
  all_goals show Option.bind _ _ = Option.bind _ _
  all_goals congr 1
  all_goals funext p
  all_goals (cases prd p.2 p.1 with
  | none => rfl
  | some x => cases x <;> rfl)
@[simp] theorem pv_e_attr (a : E) (c k : Nat) (env : PEnv) : (pv Φ (.attr a c k)).e env = (((pv Φ a).e env).bind fun p => pattrF p.1 c k p.2) := rfl
@[simp] theorem pv_t_attr (a : E) (c k : Nat) (env : PEnv) : (pv Φ (.attr a c k)).t env = ((pv Φ (.attr a c k)).e env).bind fun p => (prd p.2 p.1).bind fun x => (truth x).map fun k => (k, p.2) := rfl
@[simp] theorem pv_o_attr (a : E) (c k : Nat) (env : PEnv) : (pv Φ (.attr a c k)).o env = ((pv Φ (.attr a c k)).e env).bind fun p => pint (prd p.2 p.1) fun i => some (some i, p.2) := by
  first | rfl | skip
  all_goals show Option.bind _ _ = Option.bind _ _
  all_goals congr 1
  all_goals funext p
  all_goals (cases prd p.2 p.1 with
  | none => rfl
  | some x => cases x <;> rfl)
@[simp] theorem pv_e_call (f : Nat) (es ks : E) (perm : List Nat) (env : PEnv) : (pv Φ (.call f es ks perm)).e env = (((pv Φ es).es env).bind fun p => ((pv Φ ks).es p.2).bind fun q => pcallG Φ f (p.1 ++ q.1) perm q.2) := rfl
@[simp] theorem pv_t_call (f : Nat) (es ks : E) (perm : List Nat) (env : PEnv) : (pv Φ (.call f es ks perm)).t env = ((pv Φ (.call f es ks perm)).e env).bind fun p => (prd p.2 p.1).bind fun x => (truth x).map fun k => (k, p.2) := rfl
@[simp] theorem pv_o_call (f : Nat) (es ks : E) (perm : List Nat) (env : PEnv) : (pv Φ (.call f es ks perm)).o env = ((pv Φ (.call f es ks perm)).e env).bind fun p => pint (prd p.2 p.1) fun i => some (some i, p.2) := by
  first | rfl | skip
  all_goals show Option.bind _ _ = Option.bind _ _
  all_goals congr 1
  all_goals funext p
  all_goals (cases prd p.2 p.1 with
  | none => rfl
  | some x => cases x <;> rfl)
@[simp] theorem pv_e_keep (a : E) (env : PEnv) : (pv Φ (.keep a)).e env = (((pv Φ a).e env).bind fun p => (ptake p.2 p.1).map fun q => (.val q.1.1 q.1.2, q.2)) := rfl
@[simp] theorem pv_t_keep (a : E) (env : PEnv) : (pv Φ (.keep a)).t env = ((pv Φ (.keep a)).e env).bind fun p => (prd p.2 p.1).bind fun x => (truth x).map fun k => (k, p.2) := rfl
@[simp] theorem pv_o_keep (a : E) (env : PEnv) : (pv Φ (.keep a)).o env = ((pv Φ (.keep a)).e env).bind fun p => pint (prd p.2 p.1) fun i => some (some i, p.2) := by
  first | rfl | skip
  all_goals show Option.bind _ _ = Option.bind _ _
  all_goals congr 1
  all_goals funext p
  all_goals (cases prd p.2 p.1 with
  | none => rfl
  | some x => cases x <;> rfl)
@[simp] theorem pv_e_fz (a : E) (env : PEnv) : (pv Φ (.fz a)).e env = (((pv Φ a).e env).bind fun p => (ptake p.2 p.1).map fun q => (.val .fr q.1.2, q.2)) := rfl
@[simp] theorem pv_t_fz (a : E) (env : PEnv) : (pv Φ (.fz a)).t env = ((pv Φ (.fz a)).e env).bind fun p => (prd p.2 p.1).bind fun x => (truth x).map fun k => (k, p.2) := rfl
@[simp] theorem pv_o_fz (a : E) (env : PEnv) : (pv Φ (.fz a)).o env = ((pv Φ (.fz a)).e env).bind fun p => pint (prd p.2 p.1) fun i => some (some i, p.2) := by
  first | rfl | skip
  all_goals show Option.bind _ _ = Option.bind _ _
  all_goals congr 1
  all_goals funext p
  all_goals (cases prd p.2 p.1 with
  | none => rfl
  | some x => cases x <;> rfl)
@[simp] theorem pv_e_rev (a : E) (env : PEnv) : (pv Φ (.rev a)).e env = (((pv Φ a).e env).bind fun p => plst (prd p.2 p.1) fun l => some (.val .ls (.list l.reverse), p.2)) := by
  show Option.bind _ _ = Option.bind _ _
  congr 1
  funext p
  cases prd p.2 p.1 with
  | none => rfl
  | some x => cases x <;> first | rfl | (rename_i k; cases k <;> rfl)
@[simp] theorem pv_t_rev (a : E) (env : PEnv) : (pv Φ (.rev a)).t env = ((pv Φ (.rev a)).e env).bind fun p => (prd p.2 p.1).bind fun x => (truth x).map fun k => (k, p.2) := rfl
@[simp] theorem pv_o_rev (a : E) (env : PEnv) : (pv Φ (.rev a)).o env = ((pv Φ (.rev a)).e env).bind fun p => pint (prd p.2 p.1) fun i => some (some i, p.2) := by
  first | rfl | skip
  all_goals show Option.bind _ _ = Option.bind _ _
  all_goals congr 1
  all_goals funext p
  all_goals (cases prd p.2 p.1 with
  | none => rfl
  | some x => cases x <;> rfl)
@[simp] theorem pv_e_lrng1 (a : E) (env : PEnv) : (pv Φ (.lrng1 a)).e env = (((pv Φ a).e env).bind fun p => pint (prd p.2 p.1) fun j => if rngOk j && decide (j ≤ 16777216) then some (.val .ls (.list (rngL 0 j.toNat)), p.2) else none) := by
  show Option.bind _ _ = Option.bind _ _
  congr 1
  funext p
  cases prd p.2 p.1 with
  | none => rfl
  | some x => cases x <;> first | rfl | (rename_i k; cases k <;> rfl)
@[simp] theorem pv_t_lrng1 (a : E) (env : PEnv) : (pv Φ (.lrng1 a)).t env = ((pv Φ (.lrng1 a)).e env).bind fun p => (prd p.2 p.1).bind fun x => (truth x).map fun k => (k, p.2) := rfl
@[simp] theorem pv_o_lrng1 (a : E) (env : PEnv) : (pv Φ (.lrng1 a)).o env = ((pv Φ (.lrng1 a)).e env).bind fun p => pint (prd p.2 p.1) fun i => some (some i, p.2) := by
  first | rfl | skip
  all_goals show Option.bind _ _ = Option.bind _ _
  all_goals congr 1
  all_goals funext p
  all_goals (cases prd p.2 p.1 with
  | none => rfl
  | some x => cases x <;> rfl)
@[simp] theorem pv_e_bi (b : Bi) (es : E) (env : PEnv) : (pv Φ (.bi b es)).e env = (((pv Φ es).es env).bind fun p => pbiF b p.1 p.2) := rfl
@[simp] theorem pv_t_bi (b : Bi) (es : E) (env : PEnv) : (pv Φ (.bi b es)).t env = ((pv Φ (.bi b es)).e env).bind fun p => (prd p.2 p.1).bind fun x => (truth x).map fun k => (k, p.2) := rfl
@[simp] theorem pv_o_bi (b : Bi) (es : E) (env : PEnv) : (pv Φ (.bi b es)).o env = ((pv Φ (.bi b es)).e env).bind fun p => pint (prd p.2 p.1) fun i => some (some i, p.2) := by
  first | rfl | skip
  all_goals show Option.bind _ _ = Option.bind _ _
  all_goals congr 1
  all_goals funext p
  all_goals (cases prd p.2 p.1 with
  | none => rfl
  | some x => cases x <;> rfl)
@[simp] theorem pv_e_comp (elt t it c : E) (own : List Nat) (env : PEnv) : (pv Φ (.comp elt t it c own)).e env = (((pv Φ it).i env).bind fun p => if own.Nodup ∧ own.all (fun i => !(p.1.2.2.map (·.1)).contains i && decide (i < env.length)) then
      (pcompG (fun x e => (pv Φ t).a .fr x e) (fun e => (pv Φ c).t e) (fun e => ((pv Φ elt).e e).bind fun q => ptake q.2 q.1) own p.1.2.1 [] (pwipe p.2 own)).map fun r => (.val .ls (.list r.1), punlock (prest r.2 p.2 own) p.1.2.2)
    else none) := rfl
@[simp] theorem pv_t_comp (elt t it c : E) (own : List Nat) (env : PEnv) : (pv Φ (.comp elt t it c own)).t env = ((pv Φ (.comp elt t it c own)).e env).bind fun p => (prd p.2 p.1).bind fun x => (truth x).map fun k => (k, p.2) := rfl
@[simp] theorem pv_o_comp (elt t it c : E) (own : List Nat) (env : PEnv) : (pv Φ (.comp elt t it c own)).o env = ((pv Φ (.comp elt t it c own)).e env).bind fun p => pint (prd p.2 p.1) fun i => some (some i, p.2) := by
  first | rfl | skip
  all_goals show Option.bind _ _ = Option.bind _ _
  all_goals congr 1
  all_goals funext p
  all_goals (cases prd p.2 p.1 with
  | none => rfl
  | some x => cases x <;> rfl)
@[simp] theorem pv_e_append (a b : E) (env : PEnv) : (pv Φ (.append a b)).e env = (((pv Φ a).e env).bind fun p => (pown p.2 p.1).bind fun _ => ((pv Φ b).e p.2).bind fun q => (ptake q.2 q.1).bind fun t => (pown t.2 p.1).bind fun l => if decide (l.length < sizeLine) then some (.val .fr .none, pput t.2 p.1 (l ++ [t.1.2])) else none) := rfl
@[simp] theorem pv_t_append (a b : E) (env : PEnv) : (pv Φ (.append a b)).t env = ((pv Φ (.append a b)).e env).bind fun p => (prd p.2 p.1).bind fun x => (truth x).map fun k => (k, p.2) := rfl
@[simp] theorem pv_o_append (a b : E) (env : PEnv) : (pv Φ (.append a b)).o env = ((pv Φ (.append a b)).e env).bind fun p => pint (prd p.2 p.1) fun i => some (some i, p.2) := by
  first | rfl | skip
  all_goals show Option.bind _ _ = Option.bind _ _
  all_goals congr 1
  all_goals funext p
  all_goals (cases prd p.2 p.1 with
  | none => rfl
  | some x => cases x <;> rfl)
@[simp] theorem pv_e_extend (a b : E) (env : PEnv) : (pv Φ (.extend a b)).e env = (((pv Φ a).e env).bind fun p => (pown p.2 p.1).bind fun _ => ((pv Φ b).e p.2).bind fun q => (pown q.2 p.1).bind fun l => plst (prd q.2 q.1) fun l' => if lenOk (l.length + l'.length) then some (.val .fr .none, pput q.2 p.1 (l ++ l')) else none) := by
  show Option.bind _ _ = Option.bind _ _
  congr 1
  funext p
  show Option.bind _ _ = Option.bind _ _
  congr 1
  funext _
  show Option.bind _ _ = Option.bind _ _
  congr 1
  funext q
  show Option.bind _ _ = Option.bind _ _
  congr 1
  funext l
  cases prd q.2 q.1 with
  | none => rfl
  | some x => cases x <;> rfl
@[simp] theorem pv_t_extend (a b : E) (env : PEnv) : (pv Φ (.extend a b)).t env = ((pv Φ (.extend a b)).e env).bind fun p => (prd p.2 p.1).bind fun x => (truth x).map fun k => (k, p.2) := rfl
@[simp] theorem pv_o_extend (a b : E) (env : PEnv) : (pv Φ (.extend a b)).o env = ((pv Φ (.extend a b)).e env).bind fun p => pint (prd p.2 p.1) fun i => some (some i, p.2) := by
  first | rfl | skip
  all_goals show Option.bind _ _ = Option.bind _ _
  all_goals congr 1
  all_goals funext p
  all_goals (cases prd p.2 p.1 with
  | none => rfl
  | some x => cases x <;> rfl)
@[simp] theorem pv_e_pop (a : E) (env : PEnv) : (pv Φ (.pop a)).e env = (((pv Φ a).e env).bind fun p => (pown p.2 p.1).bind fun l => (l[l.length - 1]?).map fun x => (.val .un x, pput p.2 p.1 l.dropLast)) := rfl
@[simp] theorem pv_t_pop (a : E) (env : PEnv) : (pv Φ (.pop a)).t env = ((pv Φ (.pop a)).e env).bind fun p => (prd p.2 p.1).bind fun x => (truth x).map fun k => (k, p.2) := rfl
@[simp] theorem pv_o_pop (a : E) (env : PEnv) : (pv Φ (.pop a)).o env = ((pv Φ (.pop a)).e env).bind fun p => pint (prd p.2 p.1) fun i => some (some i, p.2) := by
  first | rfl | skip
  all_goals show Option.bind _ _ = Option.bind _ _
  all_goals congr 1
  all_goals funext p
  all_goals (cases prd p.2 p.1 with
  | none => rfl
  | some x => cases x <;> rfl)
@[simp] theorem pv_e_popAt (a b : E) (env : PEnv) : (pv Φ (.popAt a b)).e env = (((pv Φ a).e env).bind fun p => (pown p.2 p.1).bind fun _ => ((pv Φ b).e p.2).bind fun q => (pown q.2 p.1).bind fun l => pint (prd q.2 q.1) fun i => if decide (-(2 ^ 63) ≤ i) && decide (i < 2 ^ 63) then (L2.ixN l.length i).bind fun k => (l[k]?).map fun x => (.val .un x, pput q.2 p.1 (l.eraseIdx k)) else none) := by
  show Option.bind _ _ = Option.bind _ _
  congr 1
  funext p
  show Option.bind _ _ = Option.bind _ _
  congr 1
  funext _
  show Option.bind _ _ = Option.bind _ _
  congr 1
  funext q
  show Option.bind _ _ = Option.bind _ _
  congr 1
  funext l
  cases prd q.2 q.1 with
  | none => rfl
  | some x => cases x <;> rfl
@[simp] theorem pv_t_popAt (a b : E) (env : PEnv) : (pv Φ (.popAt a b)).t env = ((pv Φ (.popAt a b)).e env).bind fun p => (prd p.2 p.1).bind fun x => (truth x).map fun k => (k, p.2) := rfl
@[simp] theorem pv_o_popAt (a b : E) (env : PEnv) : (pv Φ (.popAt a b)).o env = ((pv Φ (.popAt a b)).e env).bind fun p => pint (prd p.2 p.1) fun i => some (some i, p.2) := by
  first | rfl | skip
  all_goals show Option.bind _ _ = Option.bind _ _
  all_goals congr 1
  all_goals funext p
  all_goals (cases prd p.2 p.1 with
  | none => rfl
  | some x => cases x <;> rfl)
@[simp] theorem pv_e_index (a b : E) (env : PEnv) : (pv Φ (.index a b)).e env = (((pv Φ a).e env).bind fun p => ((pv Φ b).e p.2).bind fun q => match prd p.2 p.1, prd q.2 p.1, prd q.2 q.1 with
    | some (.list _), some (.list l), some x => if flatD x && l.all flatD then (l.findIdx? fun y => eqFlat y x).map fun (k : Nat) => (.val .fr (.int (k : Int)), q.2) else none
    | _, _, _ => none) := rfl
@[simp] theorem pv_t_index (a b : E) (env : PEnv) : (pv Φ (.index a b)).t env = ((pv Φ (.index a b)).e env).bind fun p => (prd p.2 p.1).bind fun x => (truth x).map fun k => (k, p.2) := rfl
@[simp] theorem pv_o_index (a b : E) (env : PEnv) : (pv Φ (.index a b)).o env = ((pv Φ (.index a b)).e env).bind fun p => pint (prd p.2 p.1) fun i => some (some i, p.2) := by
  first | rfl | skip
  all_goals show Option.bind _ _ = Option.bind _ _
  all_goals congr 1
  all_goals funext p
  all_goals (cases prd p.2 p.1 with
  | none => rfl
  | some x => cases x <;> rfl)
@[simp] theorem pv_es_nil (env : PEnv) : (pv Φ .nil).es env = some ([], env) := rfl
@[simp] theorem pv_tk_nil (env : PEnv) : (pv Φ .nil).tk env = some ([], env) := rfl
@[simp] theorem pv_o_nil (env : PEnv) : (pv Φ .nil).o env = some (none, env) := rfl
@[simp] theorem pv_as_nil (env : PEnv) : (pv Φ .nil).as [] env = some env := rfl
@[simp] theorem pv_es_cons (a r : E) (env : PEnv) : (pv Φ (.cons a r)).es env = ((pv Φ a).e env).bind fun p => ((pv Φ r).es p.2).map fun q => (p.1 :: q.1, q.2) := rfl
@[simp] theorem pv_tk_cons (a r : E) (env : PEnv) : (pv Φ (.cons a r)).tk env = ((pv Φ a).e env).bind fun p => (ptake p.2 p.1).bind fun p' => ((pv Φ r).tk p'.2).map fun q => (p'.1 :: q.1, q.2) := rfl
@[simp] theorem pv_as_cons (a r : E) (w : O × D) (ws : List (O × D)) (env : PEnv) : (pv Φ (.cons a r)).as (w :: ws) env = ((pv Φ a).a w.1 w.2 env).bind fun e => (pv Φ r).as ws e := rfl
@[simp] theorem pv_a_tname (i : Nat) (o : O) (d : D) (env : PEnv) : (pv Φ (.tname i)).a o d env = psetN i o d env := rfl
@[simp] theorem pv_a_ttup (ts : E) (o : O) (d : D) (env : PEnv) : (pv Φ (.ttup ts)).a o d env = ptupA (pv Φ ts).as o d env := rfl
@[simp] theorem pv_a_tsub (a b : E) (o : O) (d : D) (env : PEnv) : (pv Φ (.tsub a b)).a o d env = ((pv Φ a).e env).bind fun p => (pown p.2 p.1).bind fun _ => ((pv Φ b).e p.2).bind fun q => (pown q.2 p.1).bind fun l => pint (prd q.2 q.1) fun i => (L2.ixN l.length i).map fun k => pput q.2 p.1 (l.set k d) := by
  show Option.bind _ _ = Option.bind _ _
  congr 1
  funext p
  show Option.bind _ _ = Option.bind _ _
  congr 1
  funext _
  show Option.bind _ _ = Option.bind _ _
  congr 1
  funext q
  show Option.bind _ _ = Option.bind _ _
  congr 1
  funext l
  cases prd q.2 q.1 with
  | none => rfl
  | some x => cases x <;> rfl
@[simp] theorem pv_i_iof (a : E) (env : PEnv) : (pv Φ (.iof a)).i env = ((pv Φ a).e env).bind fun p => pwalk p.2 p.1 := rfl
@[simp] theorem pv_i_irng1 (a : E) (env : PEnv) : (pv Φ (.irng1 a)).i env = ((pv Φ a).e env).bind fun p => pint (prd p.2 p.1) fun j => if rngOk j then some ((false, rngL 0 j.toNat, []), p.2) else none := by
  show Option.bind _ _ = Option.bind _ _
  congr 1
  funext p
  cases prd p.2 p.1 with
  | none => rfl
  | some x => cases x <;> rfl
@[simp] theorem pv_i_irng2 (a b : E) (env : PEnv) : (pv Φ (.irng2 a b)).i env = ((pv Φ a).e env).bind fun p => ((pv Φ b).e p.2).bind fun q => pint (prd q.2 p.1) fun i => pint (prd q.2 q.1) fun j => if rngOk i && rngOk j then some ((false, rngL i (j - i).toNat, []), q.2) else none := by
  show ((pv Φ a).e env).bind _ = _
  congr 1
  funext p
  show ((pv Φ b).e p.2).bind _ = _
  congr 1
  funext q
  cases h1 : prd q.2 p.1 with
  | none => rfl
  | some x => cases h2 : prd q.2 q.1 with
    | none => cases x <;> rfl
    | some y => cases x <;> cases y <;> rfl
@[simp] theorem pv_i_ienum (a : E) (env : PEnv) : (pv Φ (.ienum a)).i env = ((pv Φ a).e env).bind fun p => (pwalk p.2 p.1).map fun q => ((false, q.1.2.1.mapIdx fun k x => .tup [.int k, x], q.1.2.2), q.2) := rfl
@[simp] theorem pv_i_izip (a b : E) (env : PEnv) : (pv Φ (.izip a b)).i env = ((pv Φ a).e env).bind fun p => (pwalk p.2 p.1).bind fun p' => ((pv Φ b).e p'.2).bind fun q => (pwalk q.2 q.1).bind fun q' =>
      if p'.1.1 = q'.1.1 then some ((false, List.zipWith (fun x y => .tup [x, y]) p'.1.2.1 q'.1.2.1, q'.1.2.2 ++ p'.1.2.2), q'.2) else none := rfl
end
@[simp] theorem pslot_z (s : PSlot) (env : PEnv) : pslot (s :: env) 0 = s := rfl
@[simp] theorem pslot_s (s : PSlot) (env : PEnv) (i : Nat) : pslot (s :: env) (i + 1) = pslot env i := rfl
@[simp] theorem prd_val (env : PEnv) (o : O) (d : D) : prd env (.val o d) = some d := rfl
theorem pset_same {env : PEnv} {i : Nat} {s : Bool × Fg × D} (h : pslot env i = some s) : env.set i (some s) = env := by
  refine set_eq_self ?_
  have hl := pslot_lt h
  unfold pslot at h
  rw [List.getD_eq_getElem?_getD] at h
  cases hq : env[i]? with
  | none => rw [List.getElem?_eq_getElem hl] at hq; cases hq
  | some x => rw [hq] at h; exact congrArg some h
/-- a name as it was, and as it stands -/
def psel (g : Fg) (d : D) (s : PSlot) : Option D := match g with
  | .fr => some d
  | _ => s.map (·.2.2)
@[simp] theorem prd_var (env : PEnv) (i : Nat) (g : Fg) (d : D) : prd env (.var i g d) = psel g d (pslot env i) := by cases g <;> rfl
@[simp] theorem psel_eq (g g' : Fg) (b : Bool) (d : D) : psel g d (some (b, g', d)) = some d := by cases g <;> rfl
@[simp] theorem psel_ls (g' : Fg) (b : Bool) (d d' : D) : psel .ls d (some (b, g', d')) = some d' := rfl
@[simp] theorem psel_fr (s : PSlot) (d : D) : psel .fr d s = some d := rfl
@[simp] theorem ptake_val (env : PEnv) (o : O) (d : D) : ptake env (.val o d) = some ((o, d), env) := rfl
def ptk (env : PEnv) (i : Nat) (g : Fg) (d : D) (s : PSlot) : Option ((O × D) × PEnv) := match g with
  | .fr => some ((.fr, d), env)
  | _ => match s with
    | some (_, .lk, _) => none
    | some (b, _, d) => some ((.fr, d), env.set i (some (b, .fr, d)))
    | none => none
theorem ptake_var (env : PEnv) (i : Nat) (g : Fg) (d : D) : ptake env (.var i g d) = ptk env i g d (pslot env i) := by cases g <;> rfl
@[simp] theorem ptake_fr (env : PEnv) (i : Nat) (d : D) : ptake env (.var i .fr d) = some ((.fr, d), env) := rfl
@[simp] theorem ptake_ls (env : PEnv) (i : Nat) (d : D) : ptake env (.var i .ls d) = ptk env i .ls d (pslot env i) := rfl
@[simp] theorem ptk_ls (env : PEnv) (i : Nat) (d d' : D) (b : Bool) : ptk env i .ls d (some (b, .ls, d')) = some ((.fr, d'), env.set i (some (b, .fr, d'))) := rfl
theorem ptake_any {env : PEnv} {i : Nat} {g : Fg} {b : Bool} {d : D} (h : pslot env i = some (b, g, d)) (hg : g ≠ .lk) : ptake env (.var i g d) = some ((.fr, d), env.set i (some (b, .fr, d))) := by
  cases g with
  | fr => rw [pset_same h]; rfl
  | ls => rw [ptake_var, h]; rfl
  | lk => exact absurd rfl hg
@[simp] theorem pwalk_list (env : PEnv) (o : O) (l : List D) : pwalk env (.val o (.list l)) = some ((true, l, []), env) := rfl
@[simp] theorem pwalk_tup (env : PEnv) (o : O) (l : List D) : pwalk env (.val o (.tup l)) = some ((false, l, []), env) := rfl
@[simp] theorem pwalk_vart (env : PEnv) (i : Nat) (l : List D) : pwalk env (.var i .fr (.tup l)) = some ((false, l, [(i, .fr)]), env) := rfl
def pwk (env : PEnv) (i : Nat) (g : Fg) (l : List D) (s : PSlot) : Option ((Bool × List D × List (Nat × Fg)) × PEnv) := match g with
  | .fr => some ((true, l, [(i, .fr)]), env)
  | _ => match s with
    | some (b, g', .list l) => some ((true, l, [(i, g')]), env.set i (some (b, g'.lock, .list l)))
    | _ => none
@[simp] theorem pwalk_var (env : PEnv) (i : Nat) (g : Fg) (l : List D) : pwalk env (.var i g (.list l)) = pwk env i g l (pslot env i) := by cases g <;> rfl
@[simp] theorem pwk_fr (env : PEnv) (i : Nat) (l : List D) (s : PSlot) : pwk env i .fr l s = some ((true, l, [(i, .fr)]), env) := rfl
@[simp] theorem pwk_ls (env : PEnv) (i : Nat) (l l' : List D) (b : Bool) : pwk env i .ls l (some (b, .ls, .list l')) = some ((true, l', [(i, .ls)]), env.set i (some (b, .lk, .list l'))) := rfl
@[simp] theorem pwk_lk (env : PEnv) (i : Nat) (l l' : List D) (b : Bool) : pwk env i .lk l (some (b, .lk, .list l')) = some ((true, l', [(i, .lk)]), env.set i (some (b, .lk, .list l'))) := rfl
theorem pwalk_any {env : PEnv} {i : Nat} {g : Fg} {b : Bool} {l : List D} (h : pslot env i = some (b, g, .list l)) : pwalk env (.var i g (.list l)) = some ((true, l, [(i, g)]), env.set i (some (b, g.lock, .list l))) := by
  rw [pwalk_var, h]
  cases g with
  | fr => show some ((true, l, [(i, Fg.fr)]), env) = _; rw [show Fg.fr.lock = Fg.fr from rfl, pset_same h]
  | ls => rfl
  | lk => rfl
@[simp] theorem punlock_nil (env : PEnv) : punlock env [] = env := rfl
@[simp] theorem punlock_cons (env : PEnv) (p : Nat × Fg) (l : List (Nat × Fg)) : punlock env (p :: l) = punlock (punlock1 env p) l := rfl
@[simp] theorem punlock1_fr (env : PEnv) (i : Nat) : punlock1 env (i, .fr) = env := rfl
@[simp] theorem punlock1_lk (env : PEnv) (i : Nat) : punlock1 env (i, .lk) = env := rfl
def pul (env : PEnv) (i : Nat) : PSlot → PEnv
  | some (b, .lk, d) => env.set i (some (b, .ls, d))
  | _ => env
@[simp] theorem punlock1_ls (env : PEnv) (i : Nat) : punlock1 env (i, .ls) = pul env i (pslot env i) := by
  unfold punlock1 pul
  first
    | (dsimp only; done)
    | (dsimp only
       rcases pslot env i with _ | ⟨b, g, d⟩
       · rfl
       · cases g <;> rfl)
@[simp] theorem pul_lk (env : PEnv) (i : Nat) (b : Bool) (d : D) : pul env i (some (b, .lk, d)) = env.set i (some (b, .ls, d)) := rfl
theorem punlock1_any {env : PEnv} {i : Nat} {g : Fg} {b : Bool} {d : D} (h : pslot env i = some (b, g.lock, d)) : punlock1 env (i, g) = env.set i (some (b, g, d)) := by
  cases g with
  | fr => rw [show Fg.fr.lock = Fg.fr from rfl] at h; rw [pset_same h]; rfl
  | ls => rw [punlock1_ls, h]; rfl
  | lk => rw [show Fg.lk.lock = Fg.lk from rfl] at h; rw [pset_same h]; rfl
@[simp] theorem parg_val (env : PEnv) (o : O) (d : D) : parg env (.val o d) = (fgOf o).map fun g => (false, g, d) := rfl
def prg (g : Fg) (d : D) (s : PSlot) : Option (Bool × Fg × D) := match g with
  | .fr => some (false, .fr, d)
  | _ => s.map fun s => (true, s.2)
@[simp] theorem parg_var (env : PEnv) (i : Nat) (g : Fg) (d : D) : parg env (.var i g d) = prg g d (pslot env i) := by cases g <;> rfl
@[simp] theorem prg_eq (g : Fg) (d : D) (b : Bool) : prg g d (some (b, g, d)) = some (g.nf, g, d) := by cases g <;> rfl
@[simp] theorem prg_fr (d : D) (s : PSlot) : prg .fr d s = some (false, .fr, d) := rfl
@[simp] theorem prg_ls (d d' : D) (b : Bool) (g : Fg) : prg .ls d (some (b, g, d')) = some (true, g, d') := rfl
@[simp] theorem fgOf_fr : fgOf .fr = some .fr := rfl
@[simp] theorem fgOf_ls : fgOf .ls = some .ls := rfl
@[simp] theorem pargs_nil (env : PEnv) : pargs env [] = some [] := rfl
@[simp] theorem pargs_cons (env : PEnv) (r : PR) (rs : List PR) : pargs env (r :: rs) = (parg env r).bind fun a => (pargs env rs).map (a :: ·) := rfl
@[simp] theorem pgive_nil (env : PEnv) : pgive env [] [] = some env := rfl
@[simp] theorem pgive_cons (env : PEnv) (r : PR) (rs : List PR) (p : Fg × D) (ps : List (Fg × D)) : pgive env (r :: rs) (p :: ps) = (pgive1 env r p).bind fun e => pgive e rs ps := rfl
@[simp] theorem pgive1_val (env : PEnv) (o : O) (d : D) (p : Fg × D) : pgive1 env (.val o d) p = some env := rfl
def pgv (env : PEnv) (i : Nat) (g : Fg) (p : Fg × D) (s : PSlot) : Option PEnv := match g with
  | .fr => some env
  | _ => match s, p.1 with
      | some (b, .lk, _), .lk => some (env.set i (some (b, .lk, p.2)))
      | some (_, .lk, _), _ => none
      | some (_, _, _), .lk => none
      | some (b, _, _), g' => some (env.set i (some (b, g', p.2)))
      | none, _ => none
@[simp] theorem pgive1_var (env : PEnv) (i : Nat) (g : Fg) (d : D) (p : Fg × D) : pgive1 env (.var i g d) p = pgv env i g p (pslot env i) := by cases g <;> rfl
@[simp] theorem pgv_fr (env : PEnv) (i : Nat) (p : Fg × D) (s : PSlot) : pgv env i .fr p s = some env := rfl
@[simp] theorem pgv_ls (env : PEnv) (i : Nat) (b : Bool) (d d' : D) : pgv env i .ls (.ls, d') (some (b, .ls, d)) = some (env.set i (some (b, .ls, d'))) := rfl
@[simp] theorem pgv_lf (env : PEnv) (i : Nat) (b : Bool) (d d' : D) : pgv env i .ls (.fr, d') (some (b, .ls, d)) = some (env.set i (some (b, .fr, d'))) := rfl
@[simp] theorem pgv_lk (env : PEnv) (i : Nat) (b : Bool) (d d' : D) : pgv env i .lk (.lk, d') (some (b, .lk, d)) = some (env.set i (some (b, .lk, d'))) := rfl
/-- a def that only reads -/
@[simp] theorem pgv_ret (env : PEnv) (i : Nat) (g : Fg) (b : Bool) (d : D) : pgv env i g (ret g.nf g d) (some (b, g, d)) = if g = .fr then some env else some (env.set i (some (b, g, d))) := by
  cases g <;> rfl
theorem pgive1_ret {env : PEnv} {i : Nat} {g : Fg} {b : Bool} {d : D} (h : pslot env i = some (b, g, d)) : pgive1 env (.var i g d) (ret g.nf g d) = some env := by
  rw [pgive1_var, h, pgv_ret, pset_same h]; simp
@[simp] theorem ret_t (g : Fg) (d : D) : ret true g d = (g, d) := rfl
@[simp] theorem ret_f (g : Fg) (d : D) : ret false g d = (.fr, .none) := rfl
@[simp] theorem nf_fr : Fg.fr.nf = false := rfl
@[simp] theorem nf_ls : Fg.ls.nf = true := rfl
@[simp] theorem nf_lk : Fg.lk.nf = true := rfl
@[simp] theorem lock_fr : Fg.fr.lock = .fr := rfl
@[simp] theorem lock_ls : Fg.ls.lock = .lk := rfl
@[simp] theorem lock_lk : Fg.lk.lock = .lk := rfl
@[simp] theorem unl_self (g : Fg) : unl g g = g := by cases g <;> rfl
@[simp] theorem unl_lock (g : Fg) : unl g g.lock = g := by cases g <;> rfl
@[simp] theorem unl_fr (g : Fg) : unl g .fr = .fr := rfl
@[simp] theorem unl_ls (g : Fg) : unl g .ls = .ls := rfl
@[simp] theorem unl_lslk : unl .ls .lk = .ls := rfl
@[simp] theorem pretS_nil (env : PEnv) : pretS [] env = some [] := rfl
@[simp] theorem pretS_some (b : Bool) (g0 : Fg) (d0 : D) (sl : List (Bool × Fg × D)) (x : Bool) (g : Fg) (d : D) (env : PEnv) : pretS ((b, g0, d0) :: sl) (some (x, g, d) :: env) = (pretS sl env).map fun r => ret b (unl g0 g) d :: r := by
  show (pretS sl env).bind _ = _
  cases pretS sl env <;> rfl
@[simp] theorem pretS_none (g0 : Fg) (d0 : D) (sl : List (Bool × Fg × D)) (env : PEnv) : pretS ((false, g0, d0) :: sl) (none :: env) = (pretS sl env).map fun r => (.fr, .none) :: r := by
  show (pretS sl env).bind _ = _
  cases pretS sl env <;> rfl
@[simp] theorem ppickL_nil (rs : List PR) : ppickL rs [] = some [] := rfl
@[simp] theorem ppickL_cons (rs : List PR) (j : Nat) (js : List Nat) : ppickL rs (j :: js) = (rs[j]?).bind fun r => (ppickL rs js).map (r :: ·) := rfl
@[simp] theorem pvars_nil : pvars [] = [] := rfl
@[simp] theorem pvars_val (o : O) (d : D) (r : List PR) : pvars (.val o d :: r) = pvars r := rfl
@[simp] theorem pvars_var (i : Nat) (g : Fg) (d : D) (r : List PR) : pvars (.var i g d :: r) = i :: pvars r := rfl
def pst (env : PEnv) (i : Nat) (o : O) (d : D) : PSlot → Option PEnv
  | some (true, _, _) => none
  | some (false, .lk, _) => none
  | _ => if i < env.length then (fgOf o).map fun g => env.set i (some (false, g, d)) else none
@[simp] theorem psetN_eq (i : Nat) (o : O) (d : D) (env : PEnv) : psetN i o d env = pst env i o d (pslot env i) := by
  unfold psetN pst
  rcases pslot env i with _ | ⟨b, g, d'⟩
  · rfl
  · cases b <;> cases g <;> rfl
@[simp] theorem pst_none (env : PEnv) (i : Nat) (o : O) (d : D) : pst env i o d none = if i < env.length then (fgOf o).map fun g => env.set i (some (false, g, d)) else none := rfl
@[simp] theorem pst_fr (env : PEnv) (i : Nat) (o : O) (d d' : D) : pst env i o d (some (false, .fr, d')) = if i < env.length then (fgOf o).map fun g => env.set i (some (false, g, d)) else none := rfl
@[simp] theorem pst_ls (env : PEnv) (i : Nat) (o : O) (d d' : D) : pst env i o d (some (false, .ls, d')) = if i < env.length then (fgOf o).map fun g => env.set i (some (false, g, d)) else none := rfl
@[simp] theorem ptupA_fr (f : List (O × D) → PEnv → Option PEnv) (l : List D) (env : PEnv) : ptupA f .fr (.tup l) env = f (l.map fun d => (.fr, d)) env := rfl
@[simp] theorem ptupA_tp (f : List (O × D) → PEnv → Option PEnv) (os : List O) (l : List D) (env : PEnv) : ptupA f (.tp os) (.tup l) env = if os.length = l.length then f (os.zip l) env else none := rfl
def pow' : PSlot → Option (List D)
  | some (_, .ls, .list l) => some l
  | _ => none
@[simp] theorem pown_ls (env : PEnv) (i : Nat) (d : D) : pown env (.var i .ls d) = pow' (pslot env i) := by
  show (match pslot env i with | some (_, .ls, .list l) => some l | _ => none) = _
  unfold pow'
  rfl
@[simp] theorem pow_ls (b : Bool) (l : List D) : pow' (some (b, .ls, .list l)) = some l := rfl
@[simp] theorem pown_val (env : PEnv) (l : List D) : pown env (.val .ls (.list l)) = some l := rfl
def ppt (env : PEnv) (i : Nat) (l : List D) : PSlot → PEnv
  | some (b, g, _) => env.set i (some (b, g, .list l))
  | none => env
@[simp] theorem pput_var (env : PEnv) (i : Nat) (g : Fg) (d : D) (l : List D) : pput env (.var i g d) l = ppt env i l (pslot env i) := by
  show (match pslot env i with | some (b, g, _) => env.set i (some (b, g, .list l)) | none => env) = _
  cases pslot env i <;> rfl
@[simp] theorem ppt_some (env : PEnv) (i : Nat) (l : List D) (b : Bool) (g : Fg) (d : D) : ppt env i l (some (b, g, d)) = env.set i (some (b, g, .list l)) := rfl
@[simp] theorem pput_val (env : PEnv) (o : O) (d : D) (l : List D) : pput env (.val o d) l = env := rfl
@[simp] theorem pwipe_nil (env : PEnv) : pwipe env [] = env := rfl
@[simp] theorem pwipe_cons (env : PEnv) (i : Nat) (l : List Nat) : pwipe env (i :: l) = pwipe (env.set i none) l := rfl
@[simp] theorem prest_nil (env old : PEnv) : prest env old [] = env := rfl
@[simp] theorem prest_cons (env old : PEnv) (i : Nat) (l : List Nat) : prest env old (i :: l) = prest (env.set i (pslot old i)) old l := rfl
@[simp] theorem pnun_var (i : Nat) (g : Fg) (d : D) : pnun (.var i g d) = true := rfl
@[simp] theorem pnun_fr (d : D) : pnun (.val .fr d) = true := rfl
@[simp] theorem pnun_ls (d : D) : pnun (.val .ls d) = true := rfl
@[simp] theorem pnun_tp (os : List O) (d : D) : pnun (.val (.tp os) d) = true := rfl
@[simp] theorem truth_bool (b : Bool) : truth (.bool b) = some b := rfl
@[simp] theorem truth_int (i : Int) : truth (.int i) = some (i != 0) := rfl
/-- (test, test) as values -/
@[simp] theorem and_val {x y : Bool} {env : PEnv} : (if x = true then some (PR.val .fr (D.bool y), env) else some (PR.val .fr (D.bool false), env)) = some (PR.val .fr (D.bool (x && y)), env) := by cases x <;> rfl
@[simp] theorem or_val {x y : Bool} {env : PEnv} : (if x = true then some (PR.val .fr (D.bool true), env) else some (PR.val .fr (D.bool y), env)) = some (PR.val .fr (D.bool (x || y)), env) := by cases x <;> rfl
theorem mbool {α : Type} (x : Bool) (f g k : α) : (match (some (D.bool x) : Option D) with | some (.bool true) => f | some (.bool false) => g | _ => k) = if x = true then f else g := by cases x <;> rfl
@[simp] theorem and_t {x y : Bool} {env : PEnv} : (if x = true then some (y, env) else some (false, env)) = some (x && y, env) := by cases x <;> rfl
@[simp] theorem or_t {x y : Bool} {env : PEnv} : (if x = true then some (true, env) else some (y, env)) = some (x || y, env) := by cases x <;> rfl
/-! ### operations -/
def pbn (o : Bop) (ra rb : PR) (env : PEnv) : Option D → Option D → Option (PR × PEnv)
  | some (.list x), some (.list y) => if o = .add then (if lenOk (x.length + y.length) then some (.val .ls (.list (x ++ y)), env) else none) else none
  | some (.tup x), some (.tup y) => if o = .add then (if pex ra && pex rb && lenOk (x.length + y.length) && !x.isEmpty then some (.val .fr (.tup (x ++ y)), env) else none) else none
  | some (.list x), some (.int k) => if o = .mul then (if decide (-(2 ^ 63) ≤ k) && decide (k < 2 ^ 63) && lenOk (x.length * k.toNat) then some (.val .ls (.list (List.replicate k.toNat x).flatten), env) else none) else none
  | some a, some b => (binS o a b).map fun d => (.val .fr d, env)
  | _, _ => none
@[simp] theorem pbinF_eq (o : Bop) (ra rb : PR) (env : PEnv) : pbinF o ra rb env = pbn o ra rb env (prd env ra) (prd env rb) := rfl
@[simp] theorem pbn_ll (ra rb : PR) (env : PEnv) (x y : List D) : pbn .add ra rb env (some (.list x)) (some (.list y)) = if lenOk (x.length + y.length) then some (.val .ls (.list (x ++ y)), env) else none := rfl
@[simp] theorem pbn_tt (ra rb : PR) (env : PEnv) (x y : List D) : pbn .add ra rb env (some (.tup x)) (some (.tup y)) = if pex ra && pex rb && lenOk (x.length + y.length) && !x.isEmpty then some (.val .fr (.tup (x ++ y)), env) else none := rfl
@[simp] theorem pbn_lk (ra rb : PR) (env : PEnv) (x : List D) (k : Int) : pbn .mul ra rb env (some (.list x)) (some (.int k)) = if decide (-(2 ^ 63) ≤ k) && decide (k < 2 ^ 63) && lenOk (x.length * k.toNat) then some (.val .ls (.list (List.replicate k.toNat x).flatten), env) else none := rfl
@[simp] theorem pbn_ii (o : Bop) (ra rb : PR) (env : PEnv) (i j : Int) : pbn o ra rb env (some (.int i)) (some (.int j)) = ((binI o i j).map D.int).map fun d => (.val .fr d, env) := by cases o <;> rfl
@[simp] theorem pbn_ss (o : Bop) (ra rb : PR) (env : PEnv) (i j : Str) : pbn o ra rb env (some (.str i)) (some (.str j)) = (if o = .add ∧ i.length + j.length ≤ sizeLine then some (D.str (i ++ j)) else none).map fun d => (.val .fr d, env) := rfl
@[simp] theorem binI_add (i j : Int) : binI .add i j = some (i + j) := rfl
@[simp] theorem binI_sub (i j : Int) : binI .sub i j = some (i - j) := rfl
@[simp] theorem binI_band (i j : Int) : binI .band i j = some (Builtin.bitAnd i j) := rfl
@[simp] theorem binI_bor (i j : Int) : binI .bor i j = some (Builtin.bitOr i j) := rfl
@[simp] theorem binI_bxor (i j : Int) : binI .bxor i j = some (Builtin.bitXor i j) := rfl
def psb (ra : PR) (i : Int) (env : PEnv) : Option D → Option (PR × PEnv)
  | some (.list l) => (atI l i).map fun x => (.val .un x, env)
  | some (.tup l) => (atI l i).map fun x => (.val .un x, env)
  | some (.scr l) => (atI l i).map fun x => (.val .fr (.int x), env)
  | _ => none
@[simp] theorem psubF_eq (ra : PR) (i : Int) (env : PEnv) : psubF ra (.int i) env = if pnun ra then psb ra i env (prd env ra) else none := by
  unfold psubF psb
  first
    | (dsimp only; done)
    | (dsimp only
       split
       · cases prd env ra with
         | none => rfl
         | some d => cases d <;> rfl
       · rfl)
@[simp] theorem psb_list (ra : PR) (i : Int) (env : PEnv) (l : List D) : psb ra i env (some (.list l)) = (atI l i).map fun x => (.val .un x, env) := rfl
@[simp] theorem psb_tup (ra : PR) (i : Int) (env : PEnv) (l : List D) : psb ra i env (some (.tup l)) = (atI l i).map fun x => (.val .un x, env) := rfl
@[simp] theorem psb_scr (ra : PR) (i : Int) (env : PEnv) (l : List Int) : psb ra i env (some (.scr l)) = (atI l i).map fun x => (.val .fr (.int x), env) := rfl
def psl (lo hi : Option Int) (env : PEnv) : Option D → Option (PR × PEnv)
  | some (.scr l) => some (.val .ls (.list ((cut l lo hi).map D.int)), env)
  | some (.list l) => some (.val .ls (.list (cut l lo hi)), env)
  | some (.tup l) => if whole l.length lo hi then none else some (.val .fr (.tup (cut l lo hi)), env)
  | _ => none
@[simp] theorem psliceF_eq (ra : PR) (lo hi : Option Int) (env : PEnv) : psliceF ra lo hi env = psl lo hi env (prd env ra) := rfl
@[simp] theorem psl_scr (lo hi : Option Int) (env : PEnv) (l : List Int) : psl lo hi env (some (.scr l)) = some (.val .ls (.list ((cut l lo hi).map D.int)), env) := rfl
@[simp] theorem psl_list (lo hi : Option Int) (env : PEnv) (l : List D) : psl lo hi env (some (.list l)) = some (.val .ls (.list (cut l lo hi)), env) := rfl
@[simp] theorem psl_tup (lo hi : Option Int) (env : PEnv) (l : List D) : psl lo hi env (some (.tup l)) = if whole l.length lo hi then none else some (.val .fr (.tup (cut l lo hi)), env) := rfl
def pat (c k : Nat) (env : PEnv) : Option D → Option (PR × PEnv)
  | some (.obj c' fs) => if c' = c then (fs[k]?).map fun x => (.val .fr x, env) else none
  | _ => none
@[simp] theorem pattrF_eq (ra : PR) (c k : Nat) (env : PEnv) : pattrF ra c k env = pat c k env (prd env ra) := rfl
@[simp] theorem pat_obj (c c' k : Nat) (env : PEnv) (fs : List D) : pat c k env (some (.obj c' fs)) = if c' = c then (fs[k]?).map fun x => (.val .fr x, env) else none := rfl
@[simp] theorem pbi_isin (ts : List Ty) (r : PR) (env : PEnv) : pbiF (.isin ts) [r] env = (prd env r).bind fun d => (isTys d ts).map fun k => (.val .fr (.bool k), env) := by
  show ((prd env r).bind fun d => some [d]).bind _ = _
  cases prd env r with
  | none => rfl
  | some d => show ((isTys d ts).map D.bool).map _ = _; rw [Option.map_map]; rfl
def plen (env : PEnv) : D → Option (PR × PEnv)
  | .scr l => some (.val .fr (.int l.length), env)
  | d => (biD .len [d]).map fun d => (.val .fr d, env)
@[simp] theorem pbi_len (r : PR) (env : PEnv) : pbiF .len [r] env = (prd env r).bind (plen env) := by
  show (match prd env r with | some (.scr l) => _ | some d => _ | none => none) = _
  cases prd env r with
  | none => rfl
  | some d => cases d <;> rfl
@[simp] theorem plen_list (env : PEnv) (l : List D) : plen env (.list l) = some (.val .fr (.int l.length), env) := rfl
@[simp] theorem plen_tup (env : PEnv) (l : List D) : plen env (.tup l) = some (.val .fr (.int l.length), env) := rfl
@[simp] theorem plen_scr (env : PEnv) (l : List Int) : plen env (.scr l) = some (.val .fr (.int l.length), env) := rfl
theorem pbi_one (b : Bi) (r : PR) (env : PEnv) (h : pbiF b [r] env = (prdL env [r]).bind fun ds => (biD b ds).map fun d => (.val .fr d, env)) : pbiF b [r] env = (prd env r).bind fun d => (biD b [d]).map fun d => (.val .fr d, env) := by
  rw [h]
  show ((prd env r).bind fun d => some [d]).bind _ = _
  cases prd env r <;> rfl
@[simp] theorem pbi_abs (r : PR) (env : PEnv) : pbiF .abs [r] env = (prd env r).bind fun d => (biD .abs [d]).map fun d => (.val .fr d, env) := pbi_one _ _ _ rfl
@[simp] theorem pbi_int (r : PR) (env : PEnv) : pbiF .int [r] env = (prd env r).bind fun d => (biD .int [d]).map fun d => (.val .fr d, env) := pbi_one _ _ _ rfl
@[simp] theorem pbi_sum (r : PR) (env : PEnv) : pbiF .sum [r] env = (prd env r).bind fun d => (biD .sum [d]).map fun d => (.val .fr d, env) := pbi_one _ _ _ rfl
@[simp] theorem pbi_max1 (r : PR) (env : PEnv) : pbiF .max1 [r] env = (prd env r).bind fun d => (biD .max1 [d]).map fun d => (.val .fr d, env) := pbi_one _ _ _ rfl
@[simp] theorem pbi_min1 (r : PR) (env : PEnv) : pbiF .min1 [r] env = (prd env r).bind fun d => (biD .min1 [d]).map fun d => (.val .fr d, env) := pbi_one _ _ _ rfl
@[simp] theorem pbi_all (r : PR) (env : PEnv) : pbiF .all [r] env = (prd env r).bind fun d => (biD .all [d]).map fun d => (.val .fr d, env) := pbi_one _ _ _ rfl
@[simp] theorem pbi_any (r : PR) (env : PEnv) : pbiF .any [r] env = (prd env r).bind fun d => (biD .any [d]).map fun d => (.val .fr d, env) := pbi_one _ _ _ rfl
@[simp] theorem pbi_repr (r : PR) (env : PEnv) : pbiF .repr [r] env = (prd env r).bind fun d => (biD .repr [d]).map fun d => (.val .fr d, env) := pbi_one _ _ _ rfl
theorem pbi_two (b : Bi) (r s : PR) (env : PEnv) (h : pbiF b [r, s] env = (prdL env [r, s]).bind fun ds => (biD b ds).map fun d => (.val .fr d, env)) : pbiF b [r, s] env = (prd env r).bind fun d => (prd env s).bind fun e => (biD b [d, e]).map fun d => (.val .fr d, env) := by
  rw [h]
  show ((prd env r).bind fun d => ((prd env s).bind fun e => some [e]).map (d :: ·)).bind _ = _
  cases prd env r with
  | none => rfl
  | some d => cases prd env s <;> rfl
@[simp] theorem pbi_max2 (r s : PR) (env : PEnv) : pbiF .max2 [r, s] env = (prd env r).bind fun d => (prd env s).bind fun e => (biD .max2 [d, e]).map fun d => (.val .fr d, env) := pbi_two _ _ _ _ rfl
@[simp] theorem pbi_min2 (r s : PR) (env : PEnv) : pbiF .min2 [r, s] env = (prd env r).bind fun d => (prd env s).bind fun e => (biD .min2 [d, e]).map fun d => (.val .fr d, env) := pbi_two _ _ _ _ rfl
@[simp] theorem pbi_divmod (r s : PR) (env : PEnv) : pbiF .divmod [r, s] env = (prd env r).bind fun d => (prd env s).bind fun e => (biD .divmod [d, e]).map fun d => (.val .fr d, env) := pbi_two _ _ _ _ rfl
@[simp] theorem biD_abs (i : Int) : biD .abs [.int i] = some (.int (if i < 0 then -i else i)) := rfl
@[simp] theorem biD_int (i : Int) : biD .int [.int i] = some (.int i) := rfl
@[simp] theorem biD_sum (l : List D) : biD .sum [.list l] = (dInts l).map fun ns => .int ns.sum := rfl
@[simp] theorem biD_sumt (l : List D) : biD .sum [.tup l] = (dInts l).map fun ns => .int ns.sum := rfl
@[simp] theorem biD_max1 (l : List D) : biD .max1 [.list l] = (dInts l).bind fun ns => if ns = [] then none else some (.int (maxL ns)) := rfl
@[simp] theorem biD_min1 (l : List D) : biD .min1 [.list l] = (dInts l).bind fun ns => if ns = [] then none else some (.int (minL ns)) := rfl
@[simp] theorem biD_max1t (l : List D) : biD .max1 [.tup l] = (dInts l).bind fun ns => if ns = [] then none else some (.int (maxL ns)) := rfl
@[simp] theorem biD_min1t (l : List D) : biD .min1 [.tup l] = (dInts l).bind fun ns => if ns = [] then none else some (.int (minL ns)) := rfl
@[simp] theorem biD_all (l : List D) : biD .all [.list l] = (dBools l).map fun ns => .bool (ns.all id) := rfl
@[simp] theorem biD_any (l : List D) : biD .any [.list l] = (dBools l).map fun ns => .bool (ns.any id) := rfl
@[simp] theorem biD_repr (d : D) : biD .repr [d] = (toPy d).bind fun x => if x.showable && SeqAt.shaped x && lenOk x.shown.length then some (.str x.shown) else none := rfl
@[simp] theorem biD_max2 (i j : Int) : biD .max2 [.int i, .int j] = some (.int (if j > i then j else i)) := rfl
@[simp] theorem biD_min2 (i j : Int) : biD .min2 [.int i, .int j] = some (.int (if j < i then j else i)) := rfl
@[simp] theorem biD_divmod (i j : Int) : biD .divmod [.int i, .int j] = if decide (0 < j) && decide (j < 1073741824) then some (.tup [.int (i / j), .int (i % j)]) else none := rfl
def shl (env : PEnv) : D → Option (PR × PEnv)
  | .list l => some (.val .ls (.list l), env)
  | .tup l => some (.val .ls (.list l), env)
  | _ => none
@[simp] theorem pbi_list (r : PR) (env : PEnv) : pbiF .list [r] env = (prd env r).bind (shl env) := by
  show (pshell env r).map _ = _
  unfold pshell
  cases prd env r with
  | none => rfl
  | some d => cases d <;> rfl
@[simp] theorem shl_list (env : PEnv) (l : List D) : shl env (.list l) = some (.val .ls (.list l), env) := rfl
@[simp] theorem shl_tup (env : PEnv) (l : List D) : shl env (.tup l) = some (.val .ls (.list l), env) := rfl
def ptu (r : PR) (env : PEnv) : D → Option (PR × PEnv)
  | .list l => some (.val .fr (.tup l), env)
  | .tup _ => (ptake env r).map fun p => (.val p.1.1 p.1.2, p.2)
  | _ => none
@[simp] theorem pbi_tuple (r : PR) (env : PEnv) : pbiF .tuple [r] env = (prd env r).bind (ptu r env) := by
  show (match prd env r with | some (.tup _) => _ | some (.list l) => _ | _ => none) = _
  cases prd env r with
  | none => rfl
  | some d => cases d <;> rfl
@[simp] theorem ptu_list (r : PR) (env : PEnv) (l : List D) : ptu r env (.list l) = some (.val .fr (.tup l), env) := rfl
@[simp] theorem ptu_tup (r : PR) (env : PEnv) (l : List D) : ptu r env (.tup l) = (ptake env r).map fun p => (.val p.1.1 p.1.2, p.2) := rfl
def pso (r : PR) (env : PEnv) : D → Option (PR × PEnv)
  | .list l => if pnun r then (psortL l).map fun l => (.val .ls (.list l), env) else none
  | _ => none
@[simp] theorem pbi_sorted (r : PR) (env : PEnv) : pbiF .sorted [r] env = (prd env r).bind (pso r env) := by
  show (match prd env r with | some (.list l) => _ | _ => none) = _
  cases prd env r with
  | none => rfl
  | some d => cases d <;> rfl
@[simp] theorem pso_list (r : PR) (env : PEnv) (l : List D) : pso r env (.list l) = if pnun r then (psortL l).map fun l => (.val .ls (.list l), env) else none := rfl
def pss (env : PEnv) : D → Option (PR × PEnv)
  | .list l => if l.length < 63 then (dInts l).map fun ns => (.val .ls (.list ((setSort ns).map D.int)), env) else none
  | _ => none
@[simp] theorem pbi_sset (r : PR) (env : PEnv) : pbiF .sset [r] env = (prd env r).bind (pss env) := by
  show (match prd env r with | some (.list l) => _ | _ => none) = _
  cases prd env r with
  | none => rfl
  | some d => cases d <;> rfl
@[simp] theorem pss_list (env : PEnv) (l : List D) : pss env (.list l) = if l.length < 63 then (dInts l).map fun ns => (.val .ls (.list ((setSort ns).map D.int)), env) else none := rfl
@[simp] theorem cmp_lt (i j : Int) : cmpD .lt (.int i) (.int j) = some (decide (i < j)) := rfl
@[simp] theorem cmp_le (i j : Int) : cmpD .le (.int i) (.int j) = some (decide (i ≤ j)) := rfl
@[simp] theorem cmp_gt (i j : Int) : cmpD .gt (.int i) (.int j) = some (decide (j < i)) := rfl
@[simp] theorem cmp_ge (i j : Int) : cmpD .ge (.int i) (.int j) = some (decide (j ≤ i)) := rfl
theorem shaped_int (i : Int) : SeqAt.shaped (.int i) = true := by
  unfold SeqAt.shaped
  simp [PyData.canLay0, PyData.depth]
@[simp] theorem eqD_int (i j : Int) : eqD (.int i) (.int j) = some (i == j) := by
  unfold eqD
  simp only [toPy, shaped_int, Bool.and_self, if_true, PyData.eqv]
@[simp] theorem cmp_eq (a b : D) : cmpD .eq a b = eqD a b := by cases a <;> cases b <;> rfl
@[simp] theorem cmp_ne (a b : D) : cmpD .ne a b = (eqD a b).map (!·) := by cases a <;> cases b <;> rfl
@[simp] theorem cmp_is (a : D) : cmpD .is_ a .none = some (isNone a) := by cases a <;> rfl
@[simp] theorem cmp_isnot (a : D) : cmpD .isnot a .none = some (!isNone a) := by cases a <;> rfl
@[simp] theorem cmp_in (a : D) (l : List D) : cmpD .in_ a (.list l) = if flatD a && l.all flatD then inFlat a l else inL a l := by cases a <;> rfl
@[simp] theorem cmp_notin (a : D) (l : List D) : cmpD .notin a (.list l) = (if flatD a && l.all flatD then inFlat a l else inL a l).map (!·) := by cases a <;> rfl

/-! ### statements: what holds behind them -/
def wps (Φ : PFns) (m : E) (env : PEnv) (Q : PFl → Prop) : Prop := ∃ f, pvS Φ pwhO m env = some f ∧ Q f
section
variable {Φ : PFns} {env : PEnv} {Q : PFl → Prop}
theorem wps_mono {m : E} {Q' : PFl → Prop} (h : wps Φ m env Q) (k : ∀ f, Q f → Q' f) : wps Φ m env Q' := by
  obtain ⟨f, h1, h2⟩ := h
  exact ⟨f, h1, k f h2⟩
theorem wps_skip (h : Q (.nx env)) : wps Φ .skip env Q := ⟨_, rfl, h⟩
def seqQ (Φ : PFns) (b : E) (Q : PFl → Prop) : PFl → Prop
  | .nx e => wps Φ b e Q
  | f => Q f
theorem wps_seq {a b : E} (h : wps Φ a env (seqQ Φ b Q)) : wps Φ (.seq a b) env Q := by
  obtain ⟨f, h1, h2⟩ := h
  cases f with
  | nx e =>
    obtain ⟨f2, h3, h4⟩ := h2
    exact ⟨f2, (bindE h1).trans h3, h4⟩
  | rt o d e => exact ⟨_, bindE h1, h2⟩
  | bk e => exact ⟨_, bindE h1, h2⟩
  | ct e => exact ⟨_, bindE h1, h2⟩
theorem wps_asg {t m : E} {p : PR × PEnv} {q : (O × D) × PEnv} {e : PEnv} (h1 : (pv Φ m).e env = some p) (h2 : ptake p.2 p.1 = some q) (h3 : (pv Φ t).a q.1.1 q.1.2 q.2 = some e) (h : Q (.nx e)) : wps Φ (.asg t m) env Q := ⟨_, (bindE h1).trans ((bindE h2).trans (mapE h3)), h⟩
theorem wps_par {is : List Nat} {m : E} {p : List (O × D) × PEnv} {e : PEnv} (h1 : (pv Φ m).tk env = some p) (nd : is.Nodup) (h3 : psetNs is p.1 p.2 = some e) (h : Q (.nx e)) : wps Φ (.par is m) env Q := ⟨_, (bindE h1).trans (by rw [if_pos nd]; exact mapE h3), h⟩
theorem wps_ex {m : E} {p : PR × PEnv} (h1 : (pv Φ m).e env = some p) (h : Q (.nx p.2)) : wps Φ (.ex m) env Q := ⟨_, mapE h1, h⟩
/-- what is handed back is a value, or a frozen name's -/
theorem wps_ret {m : E} {p : PR × PEnv} {q : (O × D) × PEnv} (h1 : (pv Φ m).e env = some p) (hp : match p.1 with | .val _ _ => True | .var _ .fr _ => True | _ => False) (h2 : ptake p.2 p.1 = some q) (h : Q (.rt q.1.1 q.1.2 q.2)) : wps Φ (.ret m) env Q := by
  obtain ⟨r, e⟩ := p
  refine ⟨_, (bindE h1).trans ?_, h⟩
  cases r with
  | val o d => exact mapE h2
  | var i g d => cases g <;> first | exact mapE h2 | exact False.elim hp
/-- a name of the def's own, an own list -/
theorem wps_retv {i : Nat} {l : D} (h : pslot env i = some (false, .ls, l)) (hq : Q (.rt .ls l (env.set i none))) : wps Φ (.ret (.var i)) env Q := by
  refine ⟨_, ?_, hq⟩
  have h1 : (pv Φ (.var i)).e env = some (.var i .ls l, env) := by rw [pv_e_var, h]; rfl
  refine (bindE h1).trans ?_
  dsimp only
  rw [h]
theorem wps_retN (h : Q (.rt .fr .none env)) : wps Φ .retN env Q := ⟨_, rfl, h⟩
theorem wps_if {c a b : E} {p : Bool × PEnv} (h1 : (pv Φ c).t env = some p) (ha : p.1 = true → wps Φ a p.2 Q) (hb : p.1 = false → wps Φ b p.2 Q) : wps Φ (.if_ c a b) env Q := by
  obtain ⟨k, e⟩ := p
  cases k with
  | true =>
    obtain ⟨f, h2, h3⟩ := ha rfl
    exact ⟨f, (bindE h1).trans h2, h3⟩
  | false =>
    obtain ⟨f, h2, h3⟩ := hb rfl
    exact ⟨f, (bindE h1).trans h2, h3⟩
theorem wps_brk (h : Q (.bk env)) : wps Φ .brk env Q := ⟨_, rfl, h⟩
theorem wps_cont (h : Q (.ct env)) : wps Φ .cont env Q := ⟨_, rfl, h⟩
def loopQ (I : PEnv → Prop) (Q : PFl → Prop) (lks : List (Nat × Fg)) : PFl → Prop
  | .nx e => I e
  | .ct e => I e
  | .bk e => Q (.nx (punlock e lks))
  | .rt o d e => Q (.rt o d e)
theorem wps_for {t it b : E} {p : (Bool × List D × List (Nat × Fg)) × PEnv} (I : List D → PEnv → Prop) (h1 : (pv Φ it).i env = some p) (h0 : I p.1.2.1 p.2)
    (hs : ∀ x xs e, I (x :: xs) e → ∃ e2, (pv Φ t).a .fr x e = some e2 ∧ wps Φ b e2 (loopQ (I xs) Q p.1.2.2)) (hd : ∀ e, I [] e → Q (.nx (punlock e p.1.2.2))) : wps Φ (.for_ t it b) env Q := by
  have go : ∀ (xs : List D) (e : PEnv), I xs e → ∃ f, pforG (fun x e => (pv Φ t).a .fr x e) (fun e => pvS Φ pwhO b e) xs e = some f ∧ match f with
      | .nx e => Q (.nx (punlock e p.1.2.2)) | f => Q f := by
    intro xs
    induction xs with
    | nil => intro e hI; exact ⟨_, rfl, hd e hI⟩
    | cons x xs ih =>
      intro e hI
      obtain ⟨e2, h2, f, h3, h4⟩ := hs x xs e hI
      show ∃ f, ((pv Φ t).a .fr x e).bind _ = some f ∧ _
      rw [bindE h2]
      show ∃ f, (pvS Φ pwhO b e2).bind _ = some f ∧ _
      rw [bindE h3]
      cases f with
      | nx e3 => exact ih e3 h4
      | ct e3 => exact ih e3 h4
      | bk e3 => exact ⟨_, rfl, h4⟩
      | rt o d e3 => exact ⟨_, rfl, h4⟩
  obtain ⟨f, h2, h3⟩ := go _ _ h0
  cases f with
  | nx e => exact ⟨_, (bindE h1).trans (mapE h2), h3⟩
  | rt o d e => exact ⟨_, (bindE h1).trans (mapE h2), h3⟩
  | bk e => exact ⟨_, (bindE h1).trans (mapE h2), h3⟩
  | ct e => exact ⟨_, (bindE h1).trans (mapE h2), h3⟩
theorem wps_while {c b : E} (I : Nat → PEnv → Prop) (n : Nat) (h0 : I n env)
    (hs : ∀ n e, I n e → ∃ k e1, (pv Φ c).t e = some (k, e1) ∧ (k = true → wps Φ b e1 (loopQ (fun e => ∃ m, m < n ∧ I m e) Q [])) ∧ (k = false → Q (.nx e1))) : wps Φ (.while_ c b) env Q := by
  have go : ∀ (N n : Nat) (e : PEnv), n < N → I n e → ∃ f, pwhN (fun e => (pv Φ c).t e) (fun e => pvS Φ pwhO b e) N e = some f ∧ Q f := by
    intro N
    induction N with
    | zero => intro n e h; omega
    | succ N ih =>
      intro n e hn hI
      obtain ⟨k, e1, h1, h2, h3⟩ := hs n e hI
      show ∃ f, ((pv Φ c).t e).bind _ = some f ∧ _
      rw [bindE h1]
      cases k with
      | false => exact ⟨_, rfl, h3 rfl⟩
      | true =>
        obtain ⟨f, h4, h5⟩ := h2 rfl
        show ∃ f, (pvS Φ pwhO b e1).bind _ = some f ∧ _
        rw [bindE h4]
        cases f with
        | nx e2 => obtain ⟨m, hm, hI⟩ := h5; exact ih m e2 (by omega) hI
        | ct e2 => obtain ⟨m, hm, hI⟩ := h5; exact ih m e2 (by omega) hI
        | bk e2 => exact ⟨_, rfl, h5⟩
        | rt o d e2 => exact ⟨_, rfl, h5⟩
  obtain ⟨f, h1, h2⟩ := go (n + 1) n env (Nat.lt_succ_self _) h0
  exact ⟨f, pwhO_eq h1, h2⟩
end
/-- a def by its body -/
def retQ (sl : List (Bool × Fg × D)) (P : (O × D) × List (Fg × D) → Prop) : PFl → Prop
  | .nx e => ∃ ps, pretS sl e = some ps ∧ P ((.fr, .none), ps)
  | .rt o d e => ∃ ps, pretS sl e = some ps ∧ P ((o, d), ps)
  | _ => False
theorem run_of {Φ : PFns} {f : Fn} {sl : List (Bool × Fg × D)} {P : (O × D) × List (Fg × D) → Prop} (hl : sl.length = f.par) (h : wps Φ f.body (sl.map some ++ List.replicate (f.size - f.par) none) (retQ sl P)) : ∃ r, prunF Φ pwhO f sl = some r ∧ P r := by
  obtain ⟨fl, h1, h2⟩ := h
  unfold prunF
  rw [if_pos hl, bindE h1]
  cases fl with
  | nx e => obtain ⟨ps, h3, h4⟩ := h2; exact ⟨_, mapE h3, h4⟩
  | rt o d e => obtain ⟨ps, h3, h4⟩ := h2; exact ⟨_, mapE h3, h4⟩
  | bk e => exact False.elim h2
  | ct e => exact False.elim h2
theorem run_eq {Φ : PFns} {f : Fn} {sl : List (Bool × Fg × D)} {r : (O × D) × List (Fg × D)} (hl : sl.length = f.par) (h : wps Φ f.body (sl.map some ++ List.replicate (f.size - f.par) none) (retQ sl (· = r))) : prunF Φ pwhO f sl = some r := by
  obtain ⟨r', h1, rfl⟩ := run_of hl h
  exact h1
end Ev
end
section
set_option linter.all false
set_option autoImplicit false
set_option maxRecDepth 20000
/-! Pw2: comprehensions that only read; calls. -/
namespace Ev
open PySem
theorem pcomp_pure {tgt : D → PEnv → Option PEnv} {test : PEnv → Option (Bool × PEnv)} {elt : PEnv → Option ((O × D) × PEnv)} {own : List Nat} {env : PEnv} (c : D → Bool) (f : D → D) :
    ∀ (xs acc : List D), (∀ x ∈ xs, ∃ e1 e2, tgt x env = some e1 ∧ test e1 = some (c x, e2) ∧ (c x = false → pwipe e2 own = env) ∧ (c x = true → ∃ o e3, elt e2 = some ((o, f x), e3) ∧ pwipe e3 own = env)) →
      acc.length + xs.length ≤ sizeLine → pcompG tgt test elt own xs acc env = some (acc ++ (xs.filter c).map f, env)
  | [], acc, _, _ => by simp [pcompG]
  | x :: xs, acc, h, hl => by
    obtain ⟨e1, e2, h1, h2, h3, h4⟩ := h x List.mem_cons_self
    have ih := fun acc hl => pcomp_pure c f xs acc (fun y hy => h y (List.mem_cons_of_mem _ hy)) hl
    rw [List.length_cons] at hl
    show ((tgt x env).bind _) = _
    rw [bindE h1]
    show ((test e1).bind _) = _
    rw [bindE h2]
    cases hc : c x with
    | false =>
      rw [if_neg Bool.false_ne_true, h3 hc, ih acc (by omega), List.filter_cons, hc]
      simp
    | true =>
      obtain ⟨o, e3, h5, h6⟩ := h4 hc
      rw [if_pos rfl]
      show ((elt e2).bind _) = _
      rw [bindE h5]
      show (if decide (acc.length < sizeLine) = true then pcompG tgt test elt own xs (acc ++ [f x]) (pwipe e3 own) else none) = _
      rw [if_pos (decide_eq_true (by omega)), h6, ih (acc ++ [f x]) (by rw [List.length_append, List.length_singleton]; omega), List.filter_cons, hc]
      simp
/-- items built one by one, the names' state going along -/
theorem pcomp_inv {tgt : D → PEnv → Option PEnv} {test : PEnv → Option (Bool × PEnv)} {elt : PEnv → Option ((O × D) × PEnv)} {own : List Nat} (I : List D → List D → PEnv → Prop)
    (hs : ∀ x xs acc e, I (x :: xs) acc e → ∃ e1 b e2, tgt x e = some e1 ∧ test e1 = some (b, e2) ∧ (b = false → I xs acc (pwipe e2 own)) ∧ (b = true → acc.length < sizeLine ∧ ∃ o d e3, elt e2 = some ((o, d), e3) ∧ I xs (acc ++ [d]) (pwipe e3 own))) :
    ∀ (xs acc : List D) (env : PEnv), I xs acc env → ∃ r e, pcompG tgt test elt own xs acc env = some (r, e) ∧ I [] r e
  | [], acc, env, h => ⟨acc, env, rfl, h⟩
  | x :: xs, acc, env, h => by
    obtain ⟨e1, b, e2, h1, h2, h3, h4⟩ := hs x xs acc env h
    show ∃ r e, ((tgt x env).bind _) = some (r, e) ∧ _
    rw [bindE h1]
    show ∃ r e, ((test e1).bind _) = some (r, e) ∧ _
    rw [bindE h2]
    cases b with
    | false => exact pcomp_inv I hs xs acc _ (h3 rfl)
    | true =>
      obtain ⟨hl, o, d, e3, h5, h6⟩ := h4 rfl
      rw [if_pos rfl]
      show ∃ r e, ((elt e2).bind _) = some (r, e) ∧ _
      rw [bindE h5]
      show ∃ r e, (if decide (acc.length < sizeLine) = true then pcompG tgt test elt own xs (acc ++ [d]) (pwipe e3 own) else none) = some (r, e) ∧ _
      rw [if_pos (decide_eq_true hl)]
      exact pcomp_inv I hs xs _ _ h6
section
variable {Φ : PFns}
theorem comp_e {elt t it c : E} {own : List Nat} {env env' : PEnv} {p : (Bool × List D × List (Nat × Fg)) × PEnv} (cf : D → Bool) (f : D → D) (h1 : (pv Φ it).i env = some p)
    (ho : own.Nodup ∧ own.all (fun i => !(p.1.2.2.map (·.1)).contains i && decide (i < env.length)) = true)
    (hx : ∀ x ∈ p.1.2.1, ∃ e1 e2, (pv Φ t).a .fr x (pwipe p.2 own) = some e1 ∧ (pv Φ c).t e1 = some (cf x, e2) ∧ (cf x = false → pwipe e2 own = pwipe p.2 own) ∧ (cf x = true → ∃ r e3 o e4, (pv Φ elt).e e2 = some (r, e3) ∧ ptake e3 r = some ((o, f x), e4) ∧ pwipe e4 own = pwipe p.2 own))
    (hl : p.1.2.1.length ≤ sizeLine) (he : punlock (prest (pwipe p.2 own) p.2 own) p.1.2.2 = env') : (pv Φ (.comp elt t it c own)).e env = some (.val .ls (.list ((p.1.2.1.filter cf).map f)), env') := by
  rw [pv_e_comp, bindE h1]
  show (if own.Nodup ∧ _ then _ else none) = _
  rw [if_pos ho, pcomp_pure cf f p.1.2.1 [] (fun x hx' => by
    obtain ⟨e1, e2, a1, a2, a3, a4⟩ := hx x hx'
    refine ⟨e1, e2, a1, a2, a3, fun hc => ?_⟩
    obtain ⟨r, e3, o, e4, b1, b2, b3⟩ := a4 hc
    exact ⟨o, e4, (bindE b1).trans b2, b3⟩) (by simpa using hl)]
  show some (PR.val .ls (.list ([] ++ (p.1.2.1.filter cf).map f)), punlock (prest (pwipe p.2 own) p.2 own) p.1.2.2) = _
  rw [he, List.nil_append]
/-- over a name's list or tuple; the test and the item read alone -/
theorem comp_walk {elt c : E} {i j : Nat} {env : PEnv} {b : Bool} {g : Fg} {k : Bool} {d : D} {l : List D} (cf : D → Bool) (f : D → D) (hi : pslot env i = some (b, g, d)) (hw : pwalk env (.var i g d) = some ((k, l, [(i, g)]), env.set i (some (b, g.lock, d)))) (hij : i ≠ j) (hj : j < env.length) (hn : pslot env j = none)
    (hx : ∀ x ∈ l, ∃ e, e = (env.set i (some (b, g.lock, d))).set j (some (false, .fr, x)) ∧ (pv Φ c).t e = some (cf x, e) ∧ (cf x = true → ∃ r o, (pv Φ elt).e e = some (r, e) ∧ ptake e r = some ((o, f x), e)))
    (hl : l.length ≤ sizeLine) : (pv Φ (.comp elt (.tname j) (.iof (.var i)) c [j])).e env = some (.val .ls (.list ((l.filter cf).map f)), env) := by
  have hil := pslot_lt hi
  have e0 : pslot (env.set i (some (b, g.lock, d))) j = none := by rw [pslot_set_ne hij]; exact hn
  have wp : pwipe (env.set i (some (b, g.lock, d))) [j] = env.set i (some (b, g.lock, d)) := by
    show (env.set i _).set j none = _
    refine set_eq_self ?_
    unfold pslot at e0
    rw [List.getD_eq_getElem?_getD] at e0
    have hlt : j < (env.set i (some (b, g.lock, d))).length := by rw [List.length_set]; exact hj
    rw [List.getElem?_eq_getElem hlt] at e0 ⊢
    exact congrArg some e0
  refine comp_e (p := ((k, l, [(i, g)]), env.set i (some (b, g.lock, d)))) cf f ?_ ?_ ?_ hl ?_
  · rw [pv_i_iof, pv_e_var, hi]
    exact hw
  · refine ⟨by simp, ?_⟩
    simp [hj, Ne.symm hij]
  · intro x hxl
    obtain ⟨e, he, h1, h2⟩ := hx x hxl
    rw [wp]
    have back : pwipe e [j] = env.set i (some (b, g.lock, d)) := by
      show e.set j none = _
      rw [he, List.set_set]
      exact wp
    refine ⟨e, e, ?_, h1, fun _ => back, fun hc => ?_⟩
    · rw [pv_a_tname, psetN_eq, e0, pst_none, if_pos (by rw [List.length_set]; exact hj), he]; rfl
    · obtain ⟨r, o, h3, h4⟩ := h2 hc
      exact ⟨r, e, o, e, h3, h4, back⟩
  · rw [wp]
    show punlock ((env.set i _).set j (pslot (env.set i _) j)) [(i, g)] = _
    rw [e0]
    have wp' : (env.set i (some (b, g.lock, d))).set j none = env.set i (some (b, g.lock, d)) := wp
    rw [wp']
    show punlock1 _ (i, g) = _
    rw [punlock1_any (b := b) (d := d) (pslot_set hil), List.set_set, pset_same hi]
theorem comp_var {elt c : E} {i j : Nat} {env : PEnv} {b : Bool} {g : Fg} {l : List D} (cf : D → Bool) (f : D → D) (hi : pslot env i = some (b, g, .list l)) (hij : i ≠ j) (hj : j < env.length) (hn : pslot env j = none)
    (hx : ∀ x ∈ l, ∃ e, e = (env.set i (some (b, g.lock, .list l))).set j (some (false, .fr, x)) ∧ (pv Φ c).t e = some (cf x, e) ∧ (cf x = true → ∃ r o, (pv Φ elt).e e = some (r, e) ∧ ptake e r = some ((o, f x), e)))
    (hl : l.length ≤ sizeLine) : (pv Φ (.comp elt (.tname j) (.iof (.var i)) c [j])).e env = some (.val .ls (.list ((l.filter cf).map f)), env) := comp_walk cf f hi (pwalk_any hi) hij hj hn hx hl
theorem comp_vart {elt c : E} {i j : Nat} {env : PEnv} {b : Bool} {l : List D} (cf : D → Bool) (f : D → D) (hi : pslot env i = some (b, .fr, .tup l)) (hij : i ≠ j) (hj : j < env.length) (hn : pslot env j = none)
    (hx : ∀ x ∈ l, ∃ e, e = env.set j (some (false, .fr, x)) ∧ (pv Φ c).t e = some (cf x, e) ∧ (cf x = true → ∃ r o, (pv Φ elt).e e = some (r, e) ∧ ptake e r = some ((o, f x), e)))
    (hl : l.length ≤ sizeLine) : (pv Φ (.comp elt (.tname j) (.iof (.var i)) c [j])).e env = some (.val .ls (.list ((l.filter cf).map f)), env) := comp_walk (g := .fr) (d := .tup l) cf f hi (by rw [show Fg.fr.lock = Fg.fr from rfl, pset_same hi]; rfl) hij hj hn (fun x hxl => by
      obtain ⟨e, h⟩ := hx x hxl
      refine ⟨e, ?_⟩
      rw [show Fg.fr.lock = Fg.fr from rfl, pset_same hi]
      exact h) hl
/-- a list or a tuple that is a value, walked -/
theorem comp_val {elt c it : E} {j : Nat} {env : PEnv} {k : Bool} {l : List D} (cf : D → Bool) (f : D → D) (hi : (pv Φ it).i env = some ((k, l, []), env)) (hj : j < env.length) (hn : pslot env j = none)
    (hx : ∀ x ∈ l, ∃ e, e = env.set j (some (false, .fr, x)) ∧ (pv Φ c).t e = some (cf x, e) ∧ (cf x = true → ∃ r o, (pv Φ elt).e e = some (r, e) ∧ ptake e r = some ((o, f x), e)))
    (hl : l.length ≤ sizeLine) : (pv Φ (.comp elt (.tname j) it c [j])).e env = some (.val .ls (.list ((l.filter cf).map f)), env) := by
  have wp : env.set j none = env := by
    refine set_eq_self ?_
    unfold pslot at hn
    rw [List.getD_eq_getElem?_getD] at hn
    rw [List.getElem?_eq_getElem hj] at hn ⊢
    exact congrArg some hn
  refine comp_e (p := ((k, l, []), env)) cf f hi ?_ ?_ hl ?_
  · exact ⟨by simp, by simp [hj]⟩
  · intro x hxl
    obtain ⟨e, he, h1, h2⟩ := hx x hxl
    have back : pwipe e [j] = env := by
      show e.set j none = _
      rw [he, List.set_set]
      exact wp
    refine ⟨e, e, ?_, h1, fun _ => ?_, fun hc => ?_⟩
    · show (pv Φ (.tname j)).a .fr x (env.set j none) = _
      rw [wp, pv_a_tname, psetN_eq, hn, pst_none, if_pos hj, he]; rfl
    · rw [back]; exact wp.symm
    · obtain ⟨r, o, h3, h4⟩ := h2 hc
      exact ⟨r, e, o, e, h3, h4, by rw [back]; exact wp.symm⟩
  · show (env.set j none).set j (pslot env j) = _
    rw [hn, List.set_set, wp]
theorem wps_ret_any {i : Nat} {env : PEnv} {b : Bool} {g : Fg} {d : D} {Q : PFl → Prop} (h : pslot env i = some (b, g, d)) (hg : g ≠ .lk) (hq : ∀ o e, (o = .fr ∨ o = .ls) → (e = env ∨ e = env.set i none ∨ e = env.set i (some (b, .fr, d))) → Q (.rt o d e)) : wps Φ (.ret (.var i)) env Q := by
  have h1 : (pv Φ (.var i)).e env = some (.var i g d, env) := by rw [pv_e_var, h]; rfl
  cases g with
  | fr => exact ⟨_, (bindE h1).trans rfl, hq _ _ (.inl rfl) (.inl rfl)⟩
  | lk => exact absurd rfl hg
  | ls =>
    cases b with
    | false => exact ⟨_, (bindE h1).trans (by dsimp only; rw [h]), hq _ _ (.inr rfl) (.inr (.inl rfl))⟩
    | true =>
      refine ⟨_, (bindE h1).trans ?_, hq .fr (env.set i (some (true, .fr, d))) (.inl rfl) (.inr (.inr rfl))⟩
      dsimp only
      rw [h]
      dsimp only
      rw [ptake_any h hg]; rfl
end
end Ev
end
section
set_option linter.all false
set_option autoImplicit false
set_option maxRecDepth 20000
/-! M1: whole numbers, lots and lists of lots as data; bits. -/
namespace Ev
open PySem

abbrev dI (n : Nat) : D := .int n
def pI (n : Nat) : PyData := .int n
def zI (n : Nat) : Int := n
@[simp] theorem zI_eq (n : Nat) : zI n = n := rfl
def dIs (l : List Nat) : List D := l.map dI
abbrev dL (l : List Nat) : D := .list (dIs l)
abbrev dT (l : List Nat) : D := .tup (dIs l)
def dLs (l : List (List Nat)) : List D := l.map dL
@[simp] theorem dIs_len (l : List Nat) : (dIs l).length = l.length := List.length_map _
@[simp] theorem dLs_len (l : List (List Nat)) : (dLs l).length = l.length := List.length_map _
@[simp] theorem dIs_nil : dIs [] = [] := rfl
@[simp] theorem dIs_cons (x : Nat) (l : List Nat) : dIs (x :: l) = dI x :: dIs l := rfl
@[simp] theorem dLs_nil : dLs [] = [] := rfl
@[simp] theorem dLs_cons (x : List Nat) (l : List (List Nat)) : dLs (x :: l) = dL x :: dLs l := rfl
theorem dIs_app (l m : List Nat) : dIs l ++ dIs m = dIs (l ++ m) := by unfold dIs; rw [List.map_append]
theorem dLs_app (l m : List (List Nat)) : dLs l ++ dLs m = dLs (l ++ m) := by unfold dLs; rw [List.map_append]
@[simp] theorem dInts_dIs (l : List Nat) : dInts (dIs l) = some (l.map zI) := by
  induction l with
  | nil => rfl
  | cons x l ih => show (dInts (dIs l)).map _ = _; rw [ih]; rfl
theorem toPyL_dIs (l : List Nat) : toPyL (dIs l) = some (l.map pI) := by
  induction l with
  | nil => simp only [dIs_nil, toPyL, List.map_nil]
  | cons x l ih => simp only [dIs_cons, toPyL, dI, toPy, ih, List.map_cons, pI]
theorem toPy_dL (l : List Nat) : toPy (dL l) = some (.list (l.map pI)) := by
  unfold dL
  rw [toPy, toPyL_dIs]; rfl
theorem toPy_dT (l : List Nat) : toPy (dT l) = some (.tuple (l.map pI)) := by
  unfold dT
  rw [toPy, toPyL_dIs]; rfl
theorem lay_ints (l : List Nat) : PyData.canLayAll0 (l.map pI) = true ∧ PyData.depthAll (l.map pI) = 0 := by
  induction l with
  | nil => simp [PyData.canLayAll0, PyData.depthAll]
  | cons x l ih => simp [PyData.canLayAll0, PyData.depthAll, PyData.canLay0, PyData.depth, ih.1, ih.2, pI]
theorem shaped_list (l : List Nat) : SeqAt.shaped (.list (l.map pI)) = true := by
  unfold SeqAt.shaped
  simp [PyData.canLay0, PyData.depth, lay_ints l]
theorem shaped_tup (l : List Nat) : SeqAt.shaped (.tuple (l.map pI)) = true := by
  unfold SeqAt.shaped
  simp [PyData.canLay0, PyData.depth, lay_ints l]
theorem eqv_ints : ∀ (l m : List Nat), PyData.eqvAll (l.map pI) (m.map pI) = decide (l = m)
  | [], [] => by simp [PyData.eqvAll]
  | [], y :: m => by simp [PyData.eqvAll]
  | x :: l, [] => by simp [PyData.eqvAll]
  | x :: l, y :: m => by
    simp only [List.map_cons, PyData.eqvAll, pI, PyData.eqv]
    rw [eqv_ints l m]
    by_cases h : x = y
    · subst h; simp
    · have : ((x : Int) == (y : Int)) = false := by
        rw [beq_eq_false_iff_ne]; omega
      rw [this]; simp [h]
@[simp] theorem eqD_dL (l m : List Nat) : eqD (dL l) (dL m) = some (decide (l = m)) := by
  unfold eqD
  rw [toPy_dL, toPy_dL]
  simp only [shaped_list, Bool.and_self, if_true, PyData.eqv, eqv_ints]
theorem toPyL_dLs (l : List (List Nat)) : toPyL (dLs l) = some (l.map fun k => PyData.list (k.map pI)) := by
  induction l with
  | nil => simp only [dLs_nil, toPyL, List.map_nil]
  | cons x l ih => simp only [dLs_cons, toPyL, toPy_dL, ih, List.map_cons]
theorem lay_lists (l : List (List Nat)) : PyData.canLayAll0 (l.map fun k => PyData.list (k.map pI)) = true ∧ PyData.depthAll (l.map fun k => PyData.list (k.map pI)) ≤ 1 := by
  induction l with
  | nil => simp [PyData.canLayAll0, PyData.depthAll]
  | cons x l ih =>
    simp only [List.map_cons, PyData.canLayAll0, PyData.depthAll, PyData.canLay0, PyData.depth, lay_ints x, ih.1, Bool.and_self, true_and]
    omega
theorem shaped_lists (l : List (List Nat)) : SeqAt.shaped (.list (l.map fun k => PyData.list (k.map pI))) = true := by
  unfold SeqAt.shaped
  have h := lay_lists l
  have h2 := h.2
  simp only [PyData.canLay0, PyData.depth, h.1, Bool.true_and]
  exact decide_eq_true (by omega)
@[simp] theorem inL_dLs (x : List Nat) (l : List (List Nat)) : inL (dL x) (dLs l) = some (decide (x ∈ l)) := by
  unfold inL
  rw [toPy_dL, toPyL_dLs]
  simp only [shaped_list, shaped_lists, Bool.and_self, if_true]
  rw [List.any_map]
  congr 1
  rw [Bool.eq_iff_iff, List.any_eq_true, decide_eq_true_eq]
  constructor
  · rintro ⟨y, hy, h⟩
    have h : PyData.eqv (.list (y.map pI)) (.list (x.map pI)) = true := h
    simp only [PyData.eqv, eqv_ints, decide_eq_true_eq] at h
    rw [← h]; exact hy
  · intro h
    refine ⟨x, h, ?_⟩
    show PyData.eqv (.list (x.map pI)) (.list (x.map pI)) = true
    simp only [PyData.eqv, eqv_ints, decide_true]
@[simp] theorem flat_dL (l : List Nat) : flatD (dL l) = false := rfl
theorem dI_int (n : Nat) : dI n = .int n := rfl
theorem inFlat_ints (x : Nat) (l : List Nat) : inFlat (.int x) (dIs l) = some (decide (x ∈ l)) := by
  unfold inFlat
  have : (dIs l).all flatD = true := by
    rw [List.all_eq_true]
    intro d hd
    obtain ⟨n, _, rfl⟩ := List.mem_map.mp hd
    rfl
  rw [this]
  simp only [flatD, Bool.and_self, if_true]
  congr 1
  rw [Bool.eq_iff_iff, List.any_eq_true, decide_eq_true_eq]
  constructor
  · rintro ⟨y, hy, h⟩
    obtain ⟨n, hn, rfl⟩ := List.mem_map.mp hy
    simp only [dI_int, eqFlat, beq_iff_eq] at h
    have : n = x := by omega
    rw [← this]; exact hn
  · intro h
    exact ⟨dI x, List.mem_map_of_mem h, by simp [eqFlat]⟩
@[simp] theorem in_ints (x : Nat) (l : List Nat) : (if (flatD (.int x) && (dIs l).all flatD) = true then inFlat (.int x) (dIs l) else inL (.int x) (dIs l)) = some (decide (x ∈ l)) := by
  have : (dIs l).all flatD = true := by
    rw [List.all_eq_true]
    intro d hd
    obtain ⟨n, _, rfl⟩ := List.mem_map.mp hd
    rfl
  rw [this]
  simp only [flatD, Bool.and_self, if_true]
  exact inFlat_ints x l
/-! ### items -/
@[simp] theorem atI_nat {α : Type} (l : List α) (i : Nat) : atI l (i : Int) = l[i]? := by
  unfold atI L2.atI L2.ixN
  rw [if_pos (by omega)]
  by_cases h : i < l.length
  · rw [if_pos (by omega)]
    show l[(i : Int).toNat]? = _
    rw [Int.toNat_natCast]
  · rw [if_neg (by omega), List.getElem?_eq_none (by omega)]; rfl
@[simp] theorem ixN_nat (n i : Nat) : L2.ixN n (i : Int) = if i < n then some i else none := by
  unfold L2.ixN
  rw [if_pos (by omega)]
  by_cases h : i < n
  · rw [if_pos (by omega), if_pos h, Int.toNat_natCast]
  · rw [if_neg (by omega), if_neg h]
theorem dIs_get (l : List Nat) (i : Nat) : (dIs l)[i]? = (l[i]?).map dI := List.getElem?_map ..
theorem dLs_get (l : List (List Nat)) (i : Nat) : (dLs l)[i]? = (l[i]?).map dL := List.getElem?_map ..
theorem cut_pre {α : Type} (l : List α) (i : Nat) : cut l none (some (i : Int)) = l.take i := by
  unfold cut
  rw [HT.sIx_none, HT.sIx_nat]
  simp
theorem cut_post {α : Type} (l : List α) (i : Nat) : cut l (some (i : Int)) none = l.drop i := by
  unfold cut
  rw [HT.sIx_none, HT.sIx_nat]
  rcases Nat.lt_or_ge i l.length with h | h
  · rw [Nat.min_eq_left (Nat.le_of_lt h), List.take_of_length_le (by simp)]
  · rw [Nat.min_eq_right h, List.drop_eq_nil_of_le (Nat.le_refl _), List.drop_eq_nil_of_le h]; simp
theorem sIx_pre (n i : Nat) : HT.sIx n n (some (i : Int)) = min i n := HT.sIx_nat n n i
/-! ### sums, greatest -/
theorem sum_ints (l : List Nat) : (l.map zI).sum = ((l.sum : Nat) : Int) := by
  induction l with
  | nil => rfl
  | cons x l ih => rw [List.map_cons, List.sum_cons, List.sum_cons, ih, zI_eq]; omega
def maxN : List Nat → Nat
  | [] => 0
  | [x] => x
  | x :: r => max x (maxN r)
theorem maxL_ints : ∀ l : List Nat, maxL (l.map zI) = ((maxN l : Nat) : Int)
  | [] => rfl
  | [x] => rfl
  | x :: y :: l => by
    show max (x : Int) (maxL ((y :: l).map zI)) = ((max x (maxN (y :: l)) : Nat) : Int)
    rw [maxL_ints (y :: l)]; omega
theorem maxN_ge : ∀ {l : List Nat} {x : Nat}, x ∈ l → x ≤ maxN l
  | [y], x, h => by rw [List.mem_singleton.mp h]; exact Nat.le_refl _
  | a :: b :: l, x, h => by
    show x ≤ max a (maxN (b :: l))
    rcases List.mem_cons.mp h with e | e
    · omega
    · have := maxN_ge e; omega
theorem maxN_mem : ∀ {l : List Nat}, l ≠ [] → maxN l ∈ l
  | [], h => absurd rfl h
  | [x], _ => List.mem_singleton.mpr rfl
  | a :: b :: l, _ => by
    show max a (maxN (b :: l)) ∈ _
    have := maxN_mem (l := b :: l) (fun z => nomatch z)
    rcases Nat.le_total a (maxN (b :: l)) with h | h
    · rw [Nat.max_eq_right h]; exact List.mem_cons_of_mem _ this
    · rw [Nat.max_eq_left h]; exact List.mem_cons_self
/-! ### bits -/
theorem bor_nat (a b : Nat) : Builtin.bitOr (a : Int) (b : Int) = ((a ||| b : Nat) : Int) := by
  unfold Builtin.bitOr Builtin.bitAnd Builtin.bitNot
  have h1 : decide (0 ≤ -(a : Int) - 1) = false := by rw [decide_eq_false_iff_not]; omega
  have h2 : decide (0 ≤ -(b : Int) - 1) = false := by rw [decide_eq_false_iff_not]; omega
  rw [h1, h2]
  have e1 : (-(-(a : Int) - 1) - 1).toNat = a := by omega
  have e2 : (-(-(b : Int) - 1) - 1).toNat = b := by omega
  dsimp only
  rw [e1, e2]
  omega
theorem band_nat (a b : Nat) : Builtin.bitAnd (a : Int) (b : Int) = ((a &&& b : Nat) : Int) := by
  unfold Builtin.bitAnd
  have h1 : decide (0 ≤ (a : Int)) = true := by rw [decide_eq_true_eq]; omega
  have h2 : decide (0 ≤ (b : Int)) = true := by rw [decide_eq_true_eq]; omega
  rw [h1, h2]
  rfl
/-- without b's bits -/
def diff (a b : Nat) : Nat := a - (a &&& b)
theorem bnand_nat (a b : Nat) : Builtin.bitAnd (a : Int) (Builtin.bitNot (b : Int)) = ((diff a b : Nat) : Int) := by
  unfold Builtin.bitAnd Builtin.bitNot diff
  have h1 : decide (0 ≤ (a : Int)) = true := by rw [decide_eq_true_eq]; omega
  have h2 : decide (0 ≤ -(b : Int) - 1) = false := by rw [decide_eq_false_iff_not]; omega
  rw [h1, h2]
  have e2 : (-(-(b : Int) - 1) - 1).toNat = b := by omega
  dsimp only
  rw [e2, Int.toNat_natCast]
  have := Nat.and_le_left (n := a) (m := b)
  omega
theorem xor_add_and (a b : Nat) : (a ^^^ (a &&& b)) + (a &&& b) = a := by
  induction a using Nat.strongRecOn generalizing b with
  | _ a ih =>
    rcases Nat.eq_zero_or_pos a with rfl | h
    · simp
    · have h1 := ih (a / 2) (by omega) (b / 2)
      have e1 : (a ^^^ (a &&& b)) / 2 = (a / 2) ^^^ (a / 2 &&& b / 2) := by rw [Nat.xor_div_two, Nat.and_div_two]
      have e2 : (a &&& b) / 2 = a / 2 &&& b / 2 := Nat.and_div_two
      have e3 : (a &&& b) % 2 = a % 2 &&& b % 2 := by simpa using Nat.and_mod_two_pow (a := a) (b := b) (n := 1)
      have e4 : (a ^^^ (a &&& b)) % 2 = (a % 2) ^^^ ((a &&& b) % 2) := by simpa using Nat.xor_mod_two_pow (a := a) (b := a &&& b) (n := 1)
      have key : ((a % 2) ^^^ (a % 2 &&& b % 2)) + (a % 2 &&& b % 2) = a % 2 := by
        rcases Nat.mod_two_eq_zero_or_one a with p | p <;> rcases Nat.mod_two_eq_zero_or_one b with q | q <;> rw [p, q] <;> rfl
      rw [e3] at e4
      omega
theorem testBit_diff (a b i : Nat) : (diff a b).testBit i = (a.testBit i && !b.testBit i) := by
  have : diff a b = a ^^^ (a &&& b) := by
    unfold diff
    have := xor_add_and a b
    omega
  rw [this, Nat.testBit_xor, Nat.testBit_and]
  cases a.testBit i <;> cases b.testBit i <;> rfl
def bitsN (l : List Nat) : Nat := l.foldl (fun f s => f ||| 2 ^ s) 0
theorem bitsN_fold (l : List Nat) (f i : Nat) : (l.foldl (fun f s => f ||| 2 ^ s) f).testBit i = (f.testBit i || decide (i ∈ l)) := by
  induction l generalizing f with
  | nil => simp
  | cons x l ih =>
    rw [List.foldl_cons, ih, Nat.testBit_or, Nat.testBit_two_pow]
    by_cases h : x = i
    · subst h; simp
    · have : i ≠ x := fun e => h e.symm
      simp [h, this]
theorem testBit_bitsN (l : List Nat) (i : Nat) : (bitsN l).testBit i = decide (i ∈ l) := by
  unfold bitsN
  rw [bitsN_fold]; simp
theorem bitsN_app (l : List Nat) (x : Nat) : bitsN (l ++ [x]) = bitsN l ||| 2 ^ x := by
  unfold bitsN; rw [List.foldl_append]; rfl
theorem bitsN_zero (l : List Nat) : bitsN l = 0 ↔ l = [] := by
  constructor
  · intro h
    cases l with
    | nil => rfl
    | cons x l =>
      have := testBit_bitsN (x :: l) x
      rw [h] at this
      simp at this
  · rintro rfl; rfl
theorem bitsN_ext {l m : List Nat} (h : ∀ i, i ∈ l ↔ i ∈ m) : bitsN l = bitsN m := by
  apply Nat.eq_of_testBit_eq
  intro i
  rw [testBit_bitsN, testBit_bitsN]
  simp [h i]
def spots (b : Nat) : List Nat := (List.range 8).filter fun i => b.testBit i
/-- a lot of shelves below 8, told: rising -/
def srt (l : List Nat) : List Nat := (List.range 8).filter fun i => decide (i ∈ l)
theorem spots_bits (l : List Nat) : spots (bitsN l) = srt l := by
  unfold spots srt
  congr 1
  funext i
  exact testBit_bitsN l i
theorem mem_spots {b i : Nat} : i ∈ spots b ↔ i < 8 ∧ b.testBit i = true := by unfold spots; rw [List.mem_filter, List.mem_range]
theorem mem_srt {l : List Nat} {i : Nat} : i ∈ srt l ↔ i < 8 ∧ i ∈ l := by unfold srt; rw [List.mem_filter, List.mem_range, decide_eq_true_eq]
theorem srt_up (l : List Nat) : (srt l).Pairwise (· < ·) := List.Pairwise.filter _ List.pairwise_lt_range
theorem spots_up (b : Nat) : (spots b).Pairwise (· < ·) := List.Pairwise.filter _ List.pairwise_lt_range
theorem bits_srt {l : List Nat} (h : ∀ x ∈ l, x < 8) : bitsN (srt l) = bitsN l := bitsN_ext fun i => by rw [mem_srt]; exact ⟨fun z => z.2, fun z => ⟨h i z, z⟩⟩
/-- the bit test -/
theorem bit_test (b i : Nat) : (Builtin.bitAnd ((b : Int) / 2 ^ i) 1 == 1) = b.testBit i := by
  rw [PyProof.Rows.bitAnd_m1, Nat.testBit_eq_decide_div_mod_eq]
  have : ((b : Int) / 2 ^ i) % 2 = (((b / 2 ^ i % 2 : Nat)) : Int) := by
    rw [Int.natCast_emod, Int.natCast_ediv]; norm_cast
  rw [this]
  rw [Bool.eq_iff_iff, beq_iff_eq, decide_eq_true_eq]
  omega
/-! ### strictly rising lists -/
theorem up_eq {α : Type} {lt : α → α → Prop} (irr : ∀ a, ¬ lt a a) (asy : ∀ a b, lt a b → lt b a → False) : ∀ {l m : List α}, l.Pairwise lt → m.Pairwise lt → (∀ x, x ∈ l ↔ x ∈ m) → l = m
  | [], [], _, _, _ => rfl
  | [], y :: m, _, _, h => nomatch (h y).mpr List.mem_cons_self
  | x :: l, [], _, _, h => nomatch (h x).mp List.mem_cons_self
  | x :: l, y :: m, pl, pm, h => by
    obtain ⟨hx, pl'⟩ := List.pairwise_cons.mp pl
    obtain ⟨hy, pm'⟩ := List.pairwise_cons.mp pm
    have e : x = y := by
      rcases List.mem_cons.mp ((h x).mp List.mem_cons_self) with e | e
      · exact e
      · rcases List.mem_cons.mp ((h y).mpr List.mem_cons_self) with e' | e'
        · exact e'.symm
        · exact (asy _ _ (hx y e') (hy x e)).elim
    subst e
    rw [up_eq irr asy pl' pm' fun z => ?_]
    have hz := h z
    rw [List.mem_cons, List.mem_cons] at hz
    constructor
    · intro hl
      rcases hz.mp (.inr hl) with e | e
      · subst e; exact (irr _ (hx _ hl)).elim
      · exact e
    · intro hm
      rcases hz.mpr (.inr hm) with e | e
      · subst e; exact (irr _ (hy _ hm)).elim
      · exact e
theorem upN_eq {l m : List Nat} (pl : l.Pairwise (· < ·)) (pm : m.Pairwise (· < ·)) (h : ∀ x, x ∈ l ↔ x ∈ m) : l = m := up_eq (lt := (· < ·)) (fun a => Nat.lt_irrefl a) (fun a b h k => Nat.lt_asymm h k) pl pm h
/-! ### sorting -/
def leN (a b : Nat) : Bool := leW (.d (dI a)) (.d (dI b))
theorem pyOf_dI (a : Nat) : pyOf (.d (dI a)) = .int a := by unfold pyOf; rw [frz_d]; rfl
theorem leN_eq (a b : Nat) : leN a b = decide (a ≤ b) := by
  unfold leN leW PySem.W.dataLe PySem.W.sortLe
  simp only [pyOf_dI, cond_false]
  show (!(PyProof.Rows.lexLt PyProof.Rows.itemOrd [.inl (b : Int)] [.inl (a : Int)])) = _
  show (!(decide ((b : Int) < a) || (!decide ((a : Int) < b) && false))) = _
  rw [Bool.and_false, Bool.or_false, Bool.eq_iff_iff]
  simp
theorem sort_ints {l : List Nat} : psortL (dIs l) = some (dIs (l.mergeSort leN)) := by
  unfold psortL
  have hok : sortOk ((dIs l).map W.d) = true := by
    unfold sortOk
    have hp : ∀ w ∈ (dIs l).map W.d, ∃ a : Nat, w = .d (dI a) := fun w hw => by
      obtain ⟨d, hd, rfl⟩ := List.mem_map.mp hw
      obtain ⟨a, _, rfl⟩ := List.mem_map.mp hd
      exact ⟨a, rfl⟩
    simp only [Bool.and_eq_true, Bool.or_eq_true, List.all_eq_true]
    refine ⟨⟨fun w hw => ?_, fun w hw v hv => ?_⟩, .inr fun w hw => ?_⟩
    · obtain ⟨a, rfl⟩ := hp w hw
      rw [pyOf_dI, frz_d]
      exact ⟨rfl, by simp [PyData.depth]⟩
    · obtain ⟨a, rfl⟩ := hp w hw
      obtain ⟨b, rfl⟩ := hp v hv
      rw [pyOf_dI, pyOf_dI]; rfl
    · obtain ⟨a, rfl⟩ := hp w hw
      rw [pyOf_dI]
  unfold sortW
  rw [if_pos hok]
  have e1 : (dIs l).map W.d = l.map fun n => W.d (dI n) := by unfold dIs; rw [List.map_map]; rfl
  rw [e1, ← List.map_mergeSort (r := leN) (s := leW) (f := fun n => W.d (dI n)) (fun a _ b _ => rfl)]
  show some (frzL _) = _
  rw [frzL_map, List.map_map]
  congr 1
theorem leN_tot : PySem.W.TotalLe leN := ⟨fun a b c h k => by rw [leN_eq, decide_eq_true_eq] at *; omega, fun a b => by rw [leN_eq, leN_eq, decide_eq_true_eq, decide_eq_true_eq]; omega⟩
/-- unlike numbers, sorted -/
theorem sort_nodup {l : List Nat} (nd : l.Nodup) : (l.mergeSort leN).Pairwise (· < ·) := by
  have h1 := PySem.W.sort_pairwise leN_tot l
  have h2 : (l.mergeSort leN).Nodup := (List.mergeSort_perm l leN).nodup_iff.mpr nd
  have := h1.and h2
  exact this.imp fun {a b} h => by
    have h0 := h.1
    rw [leN_eq, decide_eq_true_eq] at h0
    have := h.2
    omega
theorem sort_srt {l : List Nat} (nd : l.Nodup) (h : ∀ x ∈ l, x < 8) : l.mergeSort leN = srt l := upN_eq (sort_nodup nd) (srt_up l) fun x => by
  rw [List.mem_mergeSort, mem_srt]
  exact ⟨fun z => ⟨h x z, z⟩, fun z => z.2⟩
/-- lists of numbers, as sort has it -/
def leL (a b : List Nat) : Bool := leW (.d (dL a)) (.d (dL b))
theorem pyOf_dL (a : List Nat) : pyOf (.d (dL a)) = .list (a.map pI) := by unfold pyOf; rw [frz_d, toPy_dL]; rfl
theorem alike_ints : ∀ (a b : List Nat), PySem.W.alikeAll (a.map pI) (b.map pI) = true
  | [], b => by cases b <;> simp [PySem.W.alikeAll]
  | _ :: _, [] => by simp [PySem.W.alikeAll]
  | x :: a, y :: b => by simp [PySem.W.alikeAll, PySem.W.alike, alike_ints a b, pI]
theorem sort_lists {l : List (List Nat)} : psortL (dLs l) = some (dLs (l.mergeSort leL)) := by
  unfold psortL
  have hok : sortOk ((dLs l).map W.d) = true := by
    unfold sortOk
    have hp : ∀ w ∈ (dLs l).map W.d, ∃ a : List Nat, w = .d (dL a) := fun w hw => by
      obtain ⟨d, hd, rfl⟩ := List.mem_map.mp hw
      obtain ⟨a, _, rfl⟩ := List.mem_map.mp hd
      exact ⟨a, rfl⟩
    simp only [Bool.and_eq_true, Bool.or_eq_true, List.all_eq_true]
    refine ⟨⟨fun w hw => ?_, fun w hw v hv => ?_⟩, .inr fun w hw => ?_⟩
    · obtain ⟨a, rfl⟩ := hp w hw
      rw [pyOf_dL, frz_d, toPy_dL]
      exact ⟨rfl, by simp [PyData.depth, lay_ints a]⟩
    · obtain ⟨a, rfl⟩ := hp w hw
      obtain ⟨b, rfl⟩ := hp v hv
      rw [pyOf_dL, pyOf_dL]
      simp only [PySem.W.alike, alike_ints]
    · obtain ⟨a, rfl⟩ := hp w hw
      rw [pyOf_dL]
  unfold sortW
  rw [if_pos hok]
  have e1 : (dLs l).map W.d = l.map fun n => W.d (dL n) := by unfold dLs; rw [List.map_map]; rfl
  rw [e1, ← List.map_mergeSort (r := leL) (s := leW) (f := fun n => W.d (dL n)) (fun a _ b _ => rfl)]
  show some (frzL _) = _
  rw [frzL_map, List.map_map]
  congr 1
theorem leW_tot : PySem.W.TotalLe leW := by
  show PySem.W.TotalLe (PySem.W.sortLe (PyProof.Rows.listOrd PyProof.Rows.itemOrd) false fun b => PySem.W.keyToks (pyOf b))
  exact PySem.W.sortLe_total _ _ _
theorem leL_tot : PySem.W.TotalLe leL := ⟨fun a b c h k => leW_tot.trans _ _ _ h k, fun a b => leW_tot.total _ _⟩
theorem toks_inj : ∀ {a b : List Nat}, PySem.W.keyToksAll (a.map pI) = PySem.W.keyToksAll (b.map pI) → a = b
  | [], [], _ => rfl
  | [], _ :: _, h => by simp [PySem.W.keyToksAll] at h
  | _ :: _, [], h => by simp [PySem.W.keyToksAll] at h
  | x :: a, y :: b, h => by
    simp only [List.map_cons, PySem.W.keyToksAll, pI, PySem.W.keyToks, List.cons_append, List.nil_append, List.cons.injEq, Sum.inl.injEq, true_and] at h
    rw [toks_inj h.2]
    congr 1
    omega
theorem leL_anti {a b : List Nat} (h : leL a b = true) (k : leL b a = true) : a = b := by
  unfold leL leW PySem.W.dataLe PySem.W.sortLe at h k
  simp only [pyOf_dL, cond_false, Bool.not_eq_true'] at h k
  have := (PyProof.Rows.listOrd PyProof.Rows.itemOrd).total _ _ k h
  simp only [PySem.W.keyToks] at this
  exact toks_inj this
/-- strictly, as sort has it -/
def ltL (a b : List Nat) : Prop := leL a b = true ∧ a ≠ b
theorem ltL_irr (a : List Nat) : ¬ ltL a a := fun h => h.2 rfl
theorem ltL_asy (a b : List Nat) (h : ltL a b) (k : ltL b a) : False := h.2 (leL_anti h.1 k.1)
theorem sortL_nodup {l : List (List Nat)} (nd : l.Nodup) : (l.mergeSort leL).Pairwise ltL := by
  have h1 := PySem.W.sort_pairwise leL_tot l
  have h2 : (l.mergeSort leL).Nodup := (List.mergeSort_perm l leL).nodup_iff.mpr nd
  exact (h1.and h2).imp fun {a b} h => ⟨h.1, h.2⟩
/-- each once, the first one stays -/
def once : List (List Nat) → List (List Nat) → List (List Nat)
  | acc, [] => acc
  | acc, x :: l => if x ∈ acc then once acc l else once (acc ++ [x]) l
theorem once_up : ∀ {l acc : List (List Nat)}, l.Pairwise (fun a b => leL a b = true) → acc.Pairwise ltL → (∀ x ∈ acc, ∀ y ∈ l, leL x y = true) → (once acc l).Pairwise ltL ∧ ∀ x, x ∈ once acc l ↔ x ∈ acc ∨ x ∈ l
  | [], acc, _, h, _ => ⟨h, fun x => by simp [once]⟩
  | y :: l, acc, hl, h, hle => by
    obtain ⟨hy, hl'⟩ := List.pairwise_cons.mp hl
    unfold once
    split
    · rename_i hm
      obtain ⟨h1, h2⟩ := once_up hl' h fun x hx z hz => hle x hx z (List.mem_cons_of_mem _ hz)
      refine ⟨h1, fun x => ?_⟩
      rw [h2, List.mem_cons]
      constructor
      · rintro (z | z)
        · exact .inl z
        · exact .inr (.inr z)
      · rintro (z | z | z)
        · exact .inl z
        · rw [z]; exact .inl hm
        · exact .inr z
    · rename_i hm
      have hacc : (acc ++ [y]).Pairwise ltL := by
        rw [List.pairwise_append]
        refine ⟨h, List.pairwise_singleton _ _, fun a ha b hb => ?_⟩
        rw [List.mem_singleton.mp hb]
        exact ⟨hle a ha y List.mem_cons_self, fun e => hm (e ▸ ha)⟩
      obtain ⟨h1, h2⟩ := once_up hl' hacc fun x hx z hz => by
        rcases List.mem_append.mp hx with q | q
        · exact hle x q z (List.mem_cons_of_mem _ hz)
        · rw [List.mem_singleton.mp q]; exact hy z hz
      refine ⟨h1, fun x => ?_⟩
      rw [h2, List.mem_append, List.mem_singleton, List.mem_cons]
      constructor
      · rintro ((z | z) | z)
        · exact .inl z
        · exact .inr (.inl z)
        · exact .inr (.inr z)
      · rintro (z | z | z)
        · exact .inl (.inl z)
        · exact .inl (.inr z)
        · exact .inr z
/-- kinds as a store tells them -/
def told (ks : List (List Nat)) : List (List Nat) := once [] ((ks.map srt).mergeSort leL)
theorem told_up (ks : List (List Nat)) : (told ks).Pairwise ltL ∧ ∀ x, x ∈ told ks ↔ ∃ k ∈ ks, srt k = x := by
  obtain ⟨h1, h2⟩ := once_up (PySem.W.sort_pairwise leL_tot (ks.map srt)) .nil (fun _ h => nomatch h)
  refine ⟨h1, fun x => ?_⟩
  unfold told
  rw [h2, List.mem_mergeSort, List.mem_map]
  simp
end Ev
end
section
set_option linter.all false
set_option autoImplicit false
set_option maxRecDepth 100000
open PySem Ev
namespace Law
def top (i : Nat) : Stmt := PySem.Challenge.pw_twoabove_k81_whole_all_walks_to_the_full.main.body.getD i (.Pass ⟨0, 0, 0, 0⟩)
def mem (i j : Nat) : Stmt := match top i with | .ClassDef _ _ _ b _ _ _ _ _ _ _ => b.getD j (.Pass ⟨0, 0, 0, 0⟩) | _ => .Pass ⟨0, 0, 0, 0⟩
def m0 : E := (.seq (.ret (.and_ (.bi (.isin [.int]) (.cons (.var 0) .nil)) (.not_ (.bi (.isin [.bool]) (.cons (.var 0) .nil))))) .skip)
def d0 : DefI := { x := "is_integer", params := L2.defArgs (top 10), body := L2.defBody (top 10), scope := L2.defScope (top 10), N := ["value"], ps := ["value"], m := m0, q := "is_integer", at_ := ("is_integer", none), cl := none }
def m1 : E := (.seq (.ret (.and_ (.call 0 (.cons (.var 0) .nil) .nil [0]) (.cmp .ge (.var 0) (.int 0)))) .skip)
def d1 : DefI := { x := "is_count", params := L2.defArgs (top 11), body := L2.defBody (top 11), scope := L2.defScope (top 11), N := ["value"], ps := ["value"], m := m1, q := "is_count", at_ := ("is_count", none), cl := none }
def m2 : E := (.seq (.ret (.bi (.isin [.list, .tuple]) (.cons (.var 0) .nil))) .skip)
def d2 : DefI := { x := "is_list", params := L2.defArgs (top 12), body := L2.defBody (top 12), scope := L2.defScope (top 12), N := ["value"], ps := ["value"], m := m2, q := "is_list", at_ := ("is_list", none), cl := none }
def m3 : E := (.seq (.ret (.and_ (.call 1 (.cons (.var 0) .nil) .nil [0]) (.chain .le .le (.int 2) (.var 0) (.int 8)))) .skip)
def d3 : DefI := { x := "are_shelves", params := L2.defArgs (top 16), body := L2.defBody (top 16), scope := L2.defScope (top 16), N := ["value"], ps := ["value"], m := m3, q := "are_shelves", at_ := ("are_shelves", none), cl := none }
def m4 : E := (.seq (.if_ (.not_ (.call 3 (.cons (.var 0) .nil) .nil [0])) (.seq .never .skip) .skip) .skip)
def d4 : DefI := { x := "want_shelves", params := L2.defArgs (top 17), body := L2.defBody (top 17), scope := L2.defScope (top 17), N := ["value"], ps := ["value"], m := m4, q := "want_shelves", at_ := ("want_shelves", none), cl := none }
def c5_0 : E := (.comp (.and_ (.call 1 (.cons (.var 2) .nil) .nil [0]) (.cmp .lt (.var 2) (.var 0))) (.tname 2) (.iof (.var 1)) (.bool true) [2])
def m5 : E := (.seq (.if_ (.or_ (.not_ (.call 2 (.cons (.var 1) .nil) .nil [0])) (.not_ (.bi .all (.cons c5_0 .nil)))) (.seq (.ret (.bool false)) .skip) .skip) (.seq (.ret (.cmp .eq (.bi .len (.cons (.bi .sset (.cons (.var 1) .nil)) .nil)) (.bi .len (.cons (.var 1) .nil)))) .skip))
def d5 : DefI := { x := "is_lot_of", params := L2.defArgs (top 18), body := L2.defBody (top 18), scope := L2.defScope (top 18), N := ["shelves", "value", "shelf"], ps := ["shelves", "value"], m := m5, q := "is_lot_of", at_ := ("is_lot_of", none), cl := none }
def m6 : E := (.seq (.asg (.tname 1) (.int 0)) (.seq (.for_ (.tname 2) (.iof (.var 0)) (.seq (.asg (.tname 1) (.bin .bor (.var 1) (.bin .shl (.int 1) (.var 2)))) .skip)) (.seq (.ret (.var 1)) .skip)))
def d6 : DefI := { x := "bits_of", params := L2.defArgs (top 19), body := L2.defBody (top 19), scope := L2.defScope (top 19), N := ["lot", "found", "shelf"], ps := ["lot"], m := m6, q := "bits_of", at_ := ("bits_of", none), cl := none }
def c7_0 : E := (.comp (.var 1) (.tname 1) (.irng1 (.int 8)) (.cmp .eq (.bin .band (.bin .shr (.var 0) (.var 1)) (.int 1)) (.int 1)) [1])
def m7 : E := (.seq (.ret (.bi .tuple (.cons c7_0 .nil))) .skip)
def d7 : DefI := { x := "spots_of", params := L2.defArgs (top 20), body := L2.defBody (top 20), scope := L2.defScope (top 20), N := ["bits", "shelf"], ps := ["bits"], m := m7, q := "spots_of", at_ := ("spots_of", none), cl := none }
def m8 : E := (.seq (.ret (.bi .list (.cons (.call 7 (.cons (.var 0) .nil) .nil [0]) .nil))) .skip)
def d8 : DefI := { x := "told_lot", params := L2.defArgs (top 21), body := L2.defBody (top 21), scope := L2.defScope (top 21), N := ["bits"], ps := ["bits"], m := m8, q := "told_lot", at_ := ("told_lot", none), cl := none }
def m9 : E := (.seq (.ret (.and_ (.call 5 (.cons (.var 0) (.cons (.var 1) .nil)) .nil [0, 1]) (.cmp .gt (.bi .len (.cons (.var 1) .nil)) (.int 0)))) .skip)
def d9 : DefI := { x := "is_kind", params := L2.defArgs (top 24), body := L2.defBody (top 24), scope := L2.defScope (top 24), N := ["shelves", "value"], ps := ["shelves", "value"], m := m9, q := "is_kind", at_ := ("is_kind", none), cl := none }
def c10_0 : E := (.comp (.call 9 (.cons (.var 0) (.cons (.var 2) .nil)) .nil [0, 1]) (.tname 2) (.iof (.var 1)) (.bool true) [2])
def m10 : E := (.seq (.ret (.and_ (.call 2 (.cons (.var 1) .nil) .nil [0]) (.and_ (.cmp .le (.bi .len (.cons (.var 1) .nil)) (.int 8)) (.bi .all (.cons c10_0 .nil))))) .skip)
def d10 : DefI := { x := "are_kinds", params := L2.defArgs (top 25), body := L2.defBody (top 25), scope := L2.defScope (top 25), N := ["shelves", "value", "one"], ps := ["shelves", "value"], m := m10, q := "are_kinds", at_ := ("are_kinds", none), cl := none }
def c11_0 : E := (.comp (.call 8 (.cons (.var 2) .nil) .nil [0]) (.tname 2) (.iof (.bi .sset (.cons (.var 0) .nil))) (.bool true) [2])
def c11_1 : E := (.comp (.call 6 (.cons (.var 1) .nil) .nil [0]) (.tname 1) (.iof (.bi .sorted (.cons c11_0 .nil))) (.bool true) [1])
def m11 : E := (.seq (.ret (.bi .tuple (.cons c11_1 .nil))) .skip)
def d11 : DefI := { x := "plain_kinds", params := L2.defArgs (top 26), body := L2.defBody (top 26), scope := L2.defScope (top 26), N := ["kinds", "lot", "bits"], ps := ["kinds"], m := m11, q := "plain_kinds", at_ := ("plain_kinds", none), cl := none }
def c12_0 : E := (.comp (.call 6 (.cons (.var 4) .nil) .nil [0]) (.tname 4) (.iof (.var 2)) (.bool true) [4])
def c12_1 : E := (.comp (.call 6 (.cons (.var 4) .nil) .nil [0]) (.tname 4) (.iof (.var 3)) (.bool true) [4])
def m12 : E := (.seq (.ex (.call 4 (.cons (.var 1) .nil) .nil [0])) (.seq (.if_ (.not_ (.call 10 (.cons (.var 1) (.cons (.var 2) .nil)) .nil [0, 1])) (.seq .never .skip) .skip) (.seq (.if_ (.not_ (.call 10 (.cons (.var 1) (.cons (.var 3) .nil)) .nil [0, 1])) (.seq .never .skip) .skip) (.init 0 (.cons (.var 1) (.cons (.call 11 (.cons c12_0 .nil) .nil [0]) (.cons (.call 11 (.cons c12_1 .nil) .nil [0]) .nil)))))))
def d12 : DefI := { x := "__init__", params := L2.defArgs (mem 27 0), body := L2.defBody (mem 27 0), scope := L2.defScope (mem 27 0), N := ["self", "shelves", "deliveries", "sales", "kind"], ps := ["self", "shelves", "deliveries", "sales"], m := m12, q := "Store.__init__", at_ := ("Store", some "__init__"), cl := some 0 }
def m13 : E := (.seq (.if_ (.not_ (.bi (.isin [.obj 0]) (.cons (.var 0) .nil))) (.seq .never .skip) .skip) (.seq (.ret (.var 0)) .skip))
def d13 : DefI := { x := "want_store", params := L2.defArgs (top 28), body := L2.defBody (top 28), scope := L2.defScope (top 28), N := ["value"], ps := ["value"], m := m13, q := "want_store", at_ := ("want_store", none), cl := none }
def m14 : E := (.seq (.if_ (.or_ (.not_ (.call 1 (.cons (.var 1) .nil) .nil [0])) (.cmp .ge (.var 1) (.bi .len (.cons (.attr (.var 0) 0 1) .nil)))) (.seq .never .skip) .skip) .skip)
def d14 : DefI := { x := "want_delivery", params := L2.defArgs (top 29), body := L2.defBody (top 29), scope := L2.defScope (top 29), N := ["store", "value"], ps := ["store", "value"], m := m14, q := "want_delivery", at_ := ("want_delivery", none), cl := none }
def c15_0 : E := (.comp (.and_ (.call 1 (.cons (.var 2) .nil) .nil [0]) (.cmp .le (.var 2) (.int 60))) (.tname 2) (.iof (.var 1)) (.bool true) [2])
def m15 : E := (.seq (.if_ (.or_ (.not_ (.call 2 (.cons (.var 1) .nil) .nil [0])) (.cmp .ne (.bi .len (.cons (.var 1) .nil)) (.attr (.var 0) 0 0))) (.seq (.ret (.bool false)) .skip) .skip) (.seq (.ret (.bi .all (.cons c15_0 .nil))) .skip))
def d15 : DefI := { x := "is_board_of", params := L2.defArgs (top 32), body := L2.defBody (top 32), scope := L2.defScope (top 32), N := ["store", "value", "number"], ps := ["store", "value"], m := m15, q := "is_board_of", at_ := ("is_board_of", none), cl := none }
def m16 : E := (.seq (.if_ (.not_ (.call 15 (.cons (.var 0) (.cons (.var 1) .nil)) .nil [0, 1])) (.seq .never .skip) .skip) (.seq (.ret (.bi .tuple (.cons (.var 1) .nil))) .skip))
def d16 : DefI := { x := "want_board", params := L2.defArgs (top 33), body := L2.defBody (top 33), scope := L2.defScope (top 33), N := ["store", "value"], ps := ["store", "value"], m := m16, q := "want_board", at_ := ("want_board", none), cl := none }
def m17 : E := (.seq (.if_ (.not_ (.call 15 (.cons (.var 0) (.cons (.var 1) .nil)) .nil [0, 1])) (.seq .never .skip) .skip) (.seq (.ret (.bi .tuple (.cons (.var 1) .nil))) .skip))
def d17 : DefI := { x := "want_wished", params := L2.defArgs (top 34), body := L2.defBody (top 34), scope := L2.defScope (top 34), N := ["store", "value"], ps := ["store", "value"], m := m17, q := "want_wished", at_ := ("want_wished", none), cl := none }
def c18_0 : E := (.comp (.var 1) (.ttup (.cons (.tname 1) (.cons (.tname 2) .nil))) (.ienum (.var 0)) (.cmp .gt (.var 2) (.int 0)) [1, 2])
def m18 : E := (.seq (.ret (.call 6 (.cons c18_0 .nil) .nil [0])) .skip)
def d18 : DefI := { x := "filled", params := L2.defArgs (top 36), body := L2.defBody (top 36), scope := L2.defScope (top 36), N := ["board", "shelf", "number"], ps := ["board"], m := m18, q := "filled", at_ := ("filled", none), cl := none }
def c19_0 : E := (.comp (.var 4) (.tname 4) (.iof (.var 2)) (.cmp .eq (.fz (.sub (.var 0) (.var 4))) (.var 3)) [4])
def c19_1 : E := (.comp (.fz (.sub (.var 0) (.var 4))) (.tname 4) (.iof (.var 2)) (.bool true) [4])
def m19 : E := (.seq (.asg (.tname 2) (.call 7 (.cons (.var 1) .nil) .nil [0])) (.seq (.asg (.tname 3) (.bi .max1 (.cons c19_1 .nil))) (.seq (.ret (.call 6 (.cons c19_0 .nil) .nil [0])) .skip)))
def d19 : DefI := { x := "fullest_in", params := L2.defArgs (top 37), body := L2.defBody (top 37), scope := L2.defScope (top 37), N := ["board", "bits", "spots", "most", "shelf"], ps := ["board", "bits"], m := m19, q := "fullest_in", at_ := ("fullest_in", none), cl := none }
def m20 : E := (.seq (.for_ (.ttup (.cons (.tname 2) (.cons (.tname 3) .nil))) (.ienum (.attr (.var 0) 0 1)) (.seq (.asg (.tname 4) (.call 7 (.cons (.bin .band (.var 3) (.var 1)) .nil) .nil [0])) (.seq (.if_ (.cmp .eq (.bi .len (.cons (.var 4) .nil)) (.int 1)) (.seq (.ret (.tup (.cons (.fz (.sub (.var 4) (.int 0))) (.cons (.var 2) .nil)))) .skip) .skip) .skip))) (.seq (.ret .none_) .skip))
def d20 : DefI := { x := "last_of", params := L2.defArgs (top 38), body := L2.defBody (top 38), scope := L2.defScope (top 38), N := ["store", "left", "position", "kind", "spots"], ps := ["store", "left"], m := m20, q := "last_of", at_ := ("last_of", none), cl := none }
def m21 : E := (.seq (.par [2, 3] (.cons (.list .nil) (.cons (.call 18 (.cons (.var 1) .nil) .nil [0]) .nil))) (.seq (.while_ (.cmp .ne (.var 3) (.int 0)) (.seq (.asg (.tname 4) (.call 20 (.cons (.var 0) (.cons (.var 3) .nil)) .nil [0, 1])) (.seq (.if_ (.cmp .is_ (.var 4) .none_) (.seq (.ret (.tup (.cons (.var 2) (.cons (.var 3) .nil)))) .skip) .skip) (.seq (.asg (.tname 2) (.bin .add (.list (.cons (.var 4) .nil)) (.var 2))) (.seq (.asg (.tname 3) (.bin .band (.var 3) (.inv (.bin .shl (.int 1) (.fz (.sub (.var 4) (.int 0))))))) .skip))))) (.seq (.ret (.tup (.cons (.var 2) (.cons (.var 3) .nil)))) .skip)))
def d21 : DefI := { x := "peeled", params := L2.defArgs (top 39), body := L2.defBody (top 39), scope := L2.defScope (top 39), N := ["store", "wished", "row", "left", "found"], ps := ["store", "wished"], m := m21, q := "peeled", at_ := ("peeled", none), cl := none }
def m22 : E := (.seq (.ex (.call 13 (.cons (.var 0) .nil) .nil [0])) (.seq (.asg (.tname 3) (.call 16 (.cons (.var 0) (.cons (.var 1) .nil)) .nil [0, 1])) (.seq (.ex (.call 14 (.cons (.var 0) (.cons (.var 2) .nil)) .nil [0, 1])) (.seq (.ret (.call 8 (.cons (.call 19 (.cons (.var 3) (.cons (.fz (.sub (.attr (.var 0) 0 1) (.var 2))) .nil)) .nil [0, 1]) .nil) .nil [0])) .skip))))
def d22 : DefI := { x := "most_shelves", params := L2.defArgs (top 40), body := L2.defBody (top 40), scope := L2.defScope (top 40), N := ["store", "board", "position", "told"], ps := ["store", "board", "position"], m := m22, q := "most_shelves", at_ := ("most_shelves", none), cl := none }
def m23 : E := (.seq (.ex (.call 13 (.cons (.var 0) .nil) .nil [0])) (.seq (.ret (.cmp .eq (.fz (.sub (.call 21 (.cons (.var 0) (.cons (.call 17 (.cons (.var 0) (.cons (.var 1) .nil)) .nil [0, 1]) .nil)) .nil [0, 1]) (.int 1))) (.int 0))) .skip))
def d23 : DefI := { x := "comes_fullest", params := L2.defArgs (top 41), body := L2.defBody (top 41), scope := L2.defScope (top 41), N := ["store", "wished"], ps := ["store", "wished"], m := m23, q := "comes_fullest", at_ := ("comes_fullest", none), cl := none }
def m24 : E := (.seq (.asg (.tname 2) (.bin .add (.bin .add (.bin .mul (.int 409) (.var 1)) (.int 769)) (.bin .mod (.bi .sum (.cons (.slice (.var 0) .nil (.int 1)) .nil)) (.int 1000003)))) (.seq (.if_ (.cmp .lt (.var 1) (.bi .len (.cons (.var 0) .nil))) (.seq (.asg (.tname 2) (.bi .abs (.cons (.fz (.sub (.var 0) (.var 1))) .nil))) .skip) .skip) (.seq (.ret (.list (.cons (.bi .max2 (.cons (.int 0) (.cons (.bin .sub (.var 2) (.bin .pow (.int 10) (.int 18))) .nil))) (.cons (.bin .add (.bin .mod (.bin .mul (.bin .add (.bin .mod (.var 2) (.int 2147483549)) (.int 109)) (.bin .pow (.bin .add (.bin .mul (.int 2) (.var 1)) (.int 81)) (.int 3))) (.int 2147483477)) (.int 1)) .nil)))) .skip)))
def d24 : DefI := { x := "_law_pot", params := L2.defArgs (top 43), body := L2.defBody (top 43), scope := L2.defScope (top 43), N := ["_law_script", "_law_k", "_law_cell"], ps := ["_law_script", "_law_k"], m := m24, q := "_law_pot", at_ := ("_law_pot", none), cl := none }
def m25 : E := (.seq (.if_ (.cmp .gt (.fz (.sub (.var 0) (.int 0))) (.int 0)) (.seq (.asg (.ttup (.cons (.tsub (.var 0) (.int 0)) (.cons (.tname 2) .nil))) (.bi .divmod (.cons (.fz (.sub (.var 0) (.int 0))) (.cons (.var 1) .nil)))) (.seq (.ret (.var 2)) .skip)) .skip) (.seq (.asg (.tsub (.var 0) (.int 1)) (.bin .mod (.bin .add (.bin .mul (.fz (.sub (.var 0) (.int 1))) (.int 48271)) (.int 109)) (.int 2147483587))) (.seq (.ret (.bin .mod (.bin .fdiv (.bin .mod (.bin .mul (.fz (.sub (.var 0) (.int 1))) (.fz (.sub (.var 0) (.int 1)))) (.int 2147483549)) (.int 13)) (.var 1))) .skip)))
def d25 : DefI := { x := "_law_draw", params := L2.defArgs (top 44), body := L2.defBody (top 44), scope := L2.defScope (top 44), N := ["_law_pot_here", "_law_many", "_law_digit"], ps := ["_law_pot_here", "_law_many"], m := m25, q := "_law_draw", at_ := ("_law_draw", none), cl := none }
def m26 : E := (.seq (.ret (.fz (.sub (.var 1) (.call 25 (.cons (.var 0) (.cons (.bi .len (.cons (.var 1) .nil)) .nil)) .nil [0, 1])))) .skip)
def d26 : DefI := { x := "_law_pick", params := L2.defArgs (top 45), body := L2.defBody (top 45), scope := L2.defScope (top 45), N := ["_law_pot_here", "_law_some"], ps := ["_law_pot_here", "_law_some"], m := m26, q := "_law_pick", at_ := ("_law_pick", none), cl := none }
def m27 : E := (.seq (.asg (.tname 3) (.list .nil)) (.seq (.for_ (.tname 4) (.irng1 (.call 25 (.cons (.var 0) (.cons (.bin .add (.var 2) (.int 1)) .nil)) .nil [0, 1])) (.seq (.asg (.tname 5) (.list .nil)) (.seq (.for_ (.tname 6) (.irng1 (.var 1)) (.seq (.if_ (.cmp .eq (.call 25 (.cons (.var 0) (.cons (.int 2) .nil)) .nil [0, 1]) (.int 0)) (.seq (.ex (.append (.var 5) (.var 6))) .skip) .skip) .skip)) (.seq (.if_ (.cmp .eq (.var 5) (.list .nil)) (.seq (.ex (.append (.var 5) (.call 25 (.cons (.var 0) (.cons (.var 1) .nil)) .nil [0, 1]))) .skip) .skip) (.seq (.ex (.append (.var 3) (.ite (.cmp .eq (.call 25 (.cons (.var 0) (.cons (.int 2) .nil)) .nil [0, 1]) (.int 0)) (.var 5) (.rev (.var 5))))) .skip))))) (.seq (.ret (.var 3)) .skip)))
def d27 : DefI := { x := "_law_kinds", params := L2.defArgs (top 46), body := L2.defBody (top 46), scope := L2.defScope (top 46), N := ["_law_pot_here", "_law_shelves", "_law_most_here", "_law_found", "_law_turn", "_law_kind", "_law_shelf"], ps := ["_law_pot_here", "_law_shelves", "_law_most_here"], m := m27, q := "_law_kinds", at_ := ("_law_kinds", none), cl := none }
def c28_0 : E := (.comp (.bi .sorted (.cons (.var 3) .nil)) (.tname 3) (.iof (.var 0)) (.bool true) [3])
def m28 : E := (.seq (.asg (.tname 1) (.list .nil)) (.seq (.for_ (.tname 2) (.iof (.bi .sorted (.cons c28_0 .nil))) (.seq (.if_ (.cmp .notin (.var 2) (.var 1)) (.seq (.ex (.append (.var 1) (.var 2))) .skip) .skip) .skip)) (.seq (.ret (.var 1)) .skip)))
def d28 : DefI := { x := "_law_told", params := L2.defArgs (top 47), body := L2.defBody (top 47), scope := L2.defScope (top 47), N := ["_law_kinds_here", "_law_found", "_law_kind", "_law_one"], ps := ["_law_kinds_here"], m := m28, q := "_law_told", at_ := ("_law_told", none), cl := none }
def c29_0 : E := (.comp (.var 3) (.tname 3) (.iof (.var 1)) (.cmp .eq (.fz (.sub (.var 0) (.var 3))) (.var 2)) [3])
def c29_1 : E := (.comp (.fz (.sub (.var 0) (.var 3))) (.tname 3) (.iof (.var 1)) (.bool true) [3])
def m29 : E := (.seq (.asg (.tname 2) (.bi .max1 (.cons c29_1 .nil))) (.seq (.ret c29_0) .skip))
def d29 : DefI := { x := "_law_most", params := L2.defArgs (top 48), body := L2.defBody (top 48), scope := L2.defScope (top 48), N := ["_law_board", "_law_kind", "_law_most_here", "_law_shelf"], ps := ["_law_board", "_law_kind"], m := m29, q := "_law_most", at_ := ("_law_most", none), cl := none }
def m30 : E := (.seq (.par [3, 4] (.cons (.list (.cons (.bin .mul (.list (.cons (.int 0) .nil)) (.var 0)) .nil)) (.cons (.int 0) .nil))) (.seq (.while_ (.cmp .lt (.var 4) (.bi .len (.cons (.var 3) .nil))) (.seq (.asg (.tname 5) (.fz (.sub (.var 3) (.var 4)))) (.seq (.for_ (.tname 6) (.iof (.ite (.cmp .lt (.bi .sum (.cons (.var 5) .nil)) (.var 2)) (.var 1) (.list .nil))) (.seq (.for_ (.tname 7) (.iof (.call 29 (.cons (.var 5) (.cons (.var 6) .nil)) .nil [0, 1])) (.seq (.asg (.tname 8) (.bin .add (.bin .add (.slice (.var 5) .nil (.var 7)) (.list (.cons (.bin .add (.fz (.sub (.var 5) (.var 7))) (.int 1)) .nil))) (.slice (.var 5) (.bin .add (.var 7) (.int 1)) .nil))) (.seq (.if_ (.cmp .notin (.var 8) (.var 3)) (.seq (.ex (.append (.var 3) (.var 8))) .skip) .skip) .skip))) .skip)) (.seq (.asg (.tname 4) (.bin .add (.var 4) (.int 1))) .skip)))) (.seq (.ret (.var 3)) .skip)))
def d30 : DefI := { x := "_law_walks", params := L2.defArgs (top 49), body := L2.defBody (top 49), scope := L2.defScope (top 49), N := ["_law_shelves", "_law_kinds_here", "_law_pieces", "_law_found", "_law_at", "_law_board", "_law_kind", "_law_shelf", "_law_more"], ps := ["_law_shelves", "_law_kinds_here", "_law_pieces"], m := m30, q := "_law_walks", at_ := ("_law_walks", none), cl := none }
def c31_0 : E := (.comp (.bin .add (.var 5) (.list (.cons (.var 6) .nil))) (.tname 6) (.irng1 (.bin .add (.bin .sub (.var 1) (.bi .sum (.cons (.var 5) .nil))) (.int 1))) (.bool true) [6])
def m31 : E := (.seq (.asg (.tname 2) (.list (.cons (.list .nil) .nil))) (.seq (.for_ (.tname 3) (.irng1 (.var 0)) (.seq (.asg (.tname 4) (.list .nil)) (.seq (.for_ (.tname 5) (.iof (.var 2)) (.seq (.ex (.extend (.var 4) c31_0)) .skip)) (.seq (.asg (.tname 2) (.var 4)) .skip)))) (.seq (.ret (.var 2)) .skip)))
def d31 : DefI := { x := "_law_boards", params := L2.defArgs (top 50), body := L2.defBody (top 50), scope := L2.defScope (top 50), N := ["_law_shelves", "_law_pieces", "_law_found", "_law_turn", "_law_longer", "_law_board", "_law_number"], ps := ["_law_shelves", "_law_pieces"], m := m31, q := "_law_boards", at_ := ("_law_boards", none), cl := none }
def m32 : E := (.seq (.asg (.tname 1) (.bin .add (.int 2) (.call 25 (.cons (.var 0) (.cons (.int 3) .nil)) .nil [0, 1]))) (.seq (.asg (.tname 2) (.fz (.sub (.list (.cons (.int 0) (.cons (.int 0) (.cons (.int 6) (.cons (.int 5) (.cons (.int 4) .nil)))))) (.var 1)))) (.seq (.par [3, 4] (.cons (.call 27 (.cons (.var 0) (.cons (.var 1) (.cons (.int 4) .nil))) .nil [0, 1, 2]) (.cons (.call 27 (.cons (.var 0) (.cons (.var 1) (.cons (.int 2) .nil))) .nil [0, 1, 2]) .nil))) (.seq (.par [5, 6] (.cons (.call 12 (.cons (.var 1) (.cons (.var 3) (.cons (.var 4) .nil))) .nil [0, 1, 2]) (.cons (.call 28 (.cons (.var 3) .nil) .nil [0]) .nil))) (.seq (.asg (.tname 7) (.call 30 (.cons (.var 1) (.cons (.var 6) (.cons (.var 2) .nil))) .nil [0, 1, 2])) (.seq (.for_ (.tname 8) (.iof (.call 31 (.cons (.var 1) (.cons (.var 2) .nil)) .nil [0, 1])) (.seq (.if_ (.cmp .ne (.bi .repr (.cons (.call 23 (.cons (.var 5) (.cons (.var 8) .nil)) .nil [0, 1]) .nil)) (.bi .repr (.cons (.cmp .in_ (.var 8) (.var 7)) .nil))) (.seq (.ret (.bool false)) .skip) .skip) .skip)) (.seq (.par [8, 9] (.cons (.call 26 (.cons (.var 0) (.cons (.call 31 (.cons (.var 1) (.cons (.var 2) .nil)) .nil [0, 1]) .nil)) .nil [0, 1]) (.cons (.list .nil) .nil))) (.seq (.for_ (.tname 10) (.iof (.var 8)) (.seq (.ex (.append (.var 9) (.ite (.cmp .eq (.var 10) (.int 0)) (.int 0) (.bin .add (.int 1) (.call 25 (.cons (.var 0) (.cons (.int 60) .nil)) .nil [0, 1]))))) .skip)) (.seq (.if_ (.cmp .ne (.bi .repr (.cons (.list (.cons (.call 23 .nil (.cons (.bi .tuple (.cons (.var 9) .nil)) (.cons (.var 5) .nil)) [1, 0]) (.cons (.call 23 (.cons (.call 12 (.cons (.var 1) (.cons (.var 3) (.cons (.list .nil) .nil))) .nil [0, 1, 2]) (.cons (.var 9) .nil)) .nil [0, 1]) .nil))) .nil)) (.bi .repr (.cons (.bin .mul (.list (.cons (.cmp .in_ (.var 8) (.var 7)) .nil)) (.int 2)) .nil))) (.seq (.ret (.bool false)) .skip) .skip) (.seq (.for_ (.ttup (.cons (.tname 11) (.cons (.tname 12) .nil))) (.ienum (.var 6)) (.seq (.if_ (.or_ (.cmp .ne (.call 22 (.cons (.var 5) (.cons (.var 9) (.cons (.var 11) .nil))) .nil [0, 1, 2]) (.call 29 (.cons (.var 9) (.cons (.var 12) .nil)) .nil [0, 1])) (.cmp .ne (.call 22 .nil (.cons (.var 11) (.cons (.bi .tuple (.cons (.var 8) .nil)) (.cons (.var 5) .nil))) [2, 1, 0]) (.call 29 (.cons (.var 8) (.cons (.var 12) .nil)) .nil [0, 1]))) (.seq (.ret (.bool false)) .skip) .skip) .skip)) (.seq (.ret (.bool true)) .skip)))))))))))
def d32 : DefI := { x := "_law_right", params := L2.defArgs (top 51), body := L2.defBody (top 51), scope := L2.defScope (top 51), N := ["_law_pot_here", "_law_shelves", "_law_pieces", "_law_given", "_law_sales", "_law_store", "_law_kinds_here", "_law_known", "_law_board", "_law_other", "_law_number", "_law_position", "_law_kind"], ps := ["_law_pot_here"], m := m32, q := "_law_right", at_ := ("_law_right", none), cl := none }
def m33 : E := (.seq (.ret (.call 32 (.cons (.call 24 (.cons (.var 0) (.cons (.int 0) .nil)) .nil [0, 1]) .nil) .nil [0])) .skip)
def d33 : DefI := { x := "law", params := L2.defArgs (top 52), body := L2.defBody (top 52), scope := L2.defScope (top 52), N := ["_law_script"], ps := ["_law_script"], m := m33, q := "law", at_ := ("law", none), cl := none }
def ds : List DefI := [d0, d1, d2, d3, d4, d5, d6, d7, d8, d9, d10, d11, d12, d13, d14, d15, d16, d17, d18, d19, d20, d21, d22, d23, d24, d25, d26, d27, d28, d29, d30, d31, d32, d33]
def T : Tab := ⟨[⟨"is_integer", 1, [], [0], 0⟩, ⟨"is_count", 1, [], [0], 1⟩, ⟨"are_shelves", 1, [], [0], 3⟩, ⟨"is_list", 1, [], [0], 2⟩, ⟨"spots_of", 1, [], [0], 7⟩, ⟨"is_lot_of", 2, [], [0, 1], 5⟩, ⟨"is_kind", 2, [], [0, 1], 9⟩, ⟨"bits_of", 1, [], [0], 6⟩, ⟨"told_lot", 1, [], [0], 8⟩, ⟨"plain_kinds", 1, [], [0], 11⟩, ⟨"are_kinds", 2, [], [0, 1], 10⟩, ⟨"want_shelves", 1, [], [0], 4⟩, ⟨"is_board_of", 2, [], [0, 1], 15⟩, ⟨"last_of", 2, [], [0, 1], 20⟩, ⟨"filled", 1, [], [0], 18⟩, ⟨"fullest_in", 2, [], [0, 1], 19⟩, ⟨"want_delivery", 2, [], [0, 1], 14⟩, ⟨"want_board", 2, [], [0, 1], 16⟩, ⟨"want_store", 1, [], [0], 13⟩, ⟨"want_wished", 2, [], [0, 1], 17⟩, ⟨"peeled", 2, [], [0, 1], 21⟩, ⟨"_law_draw", 2, [], [0, 1], 25⟩, ⟨"_law_most", 2, [], [0, 1], 29⟩, ⟨"most_shelves", 0, ["position", "board", "store"], [2, 1, 0], 22⟩, ⟨"most_shelves", 3, [], [0, 1, 2], 22⟩, ⟨"comes_fullest", 0, ["wished", "store"], [1, 0], 23⟩, ⟨"comes_fullest", 2, [], [0, 1], 23⟩, ⟨"_law_boards", 2, [], [0, 1], 31⟩, ⟨"_law_pick", 2, [], [0, 1], 26⟩, ⟨"_law_walks", 3, [], [0, 1, 2], 30⟩, ⟨"_law_told", 1, [], [0], 28⟩, ⟨"_law_kinds", 3, [], [0, 1, 2], 27⟩, ⟨"_law_pot", 2, [], [0, 1], 24⟩, ⟨"_law_right", 1, [], [0], 32⟩, ⟨"law", 1, [], [0], 33⟩], [(⟨"Store", 3, [], [], 12⟩, 0)], [("LEAST_SHELVES", 2), ("MOST_SHELVES", 8), ("MOST_KINDS", 8), ("MOST_PIECES", 60)], [], [("Store", 0)], fun _ => ["own_shelves", "own_deliveries", "own_sales"]⟩
theorem g0 : d0.good T = true := by decide +kernel
theorem g1 : d1.good T = true := by decide +kernel
theorem g2 : d2.good T = true := by decide +kernel
theorem g3 : d3.good T = true := by decide +kernel
theorem g4 : d4.good T = true := by decide +kernel
theorem g5 : d5.good T = true := by decide +kernel
theorem g6 : d6.good T = true := by decide +kernel
theorem g7 : d7.good T = true := by decide +kernel
theorem g8 : d8.good T = true := by decide +kernel
theorem g9 : d9.good T = true := by decide +kernel
theorem g10 : d10.good T = true := by decide +kernel
theorem g11 : d11.good T = true := by decide +kernel
theorem g12 : d12.good T = true := by decide +kernel
theorem g13 : d13.good T = true := by decide +kernel
theorem g14 : d14.good T = true := by decide +kernel
theorem g15 : d15.good T = true := by decide +kernel
theorem g16 : d16.good T = true := by decide +kernel
theorem g17 : d17.good T = true := by decide +kernel
theorem g18 : d18.good T = true := by decide +kernel
theorem g19 : d19.good T = true := by decide +kernel
theorem g20 : d20.good T = true := by decide +kernel
theorem g21 : d21.good T = true := by decide +kernel
theorem g22 : d22.good T = true := by decide +kernel
theorem g23 : d23.good T = true := by decide +kernel
theorem g24 : d24.good T = true := by decide +kernel
theorem g25 : d25.good T = true := by decide +kernel
theorem g26 : d26.good T = true := by decide +kernel
theorem g27 : d27.good T = true := by decide +kernel
theorem g28 : d28.good T = true := by decide +kernel
theorem g29 : d29.good T = true := by decide +kernel
theorem g30 : d30.good T = true := by decide +kernel
theorem g31 : d31.good T = true := by decide +kernel
theorem g32 : d32.good T = true := by decide +kernel
theorem g33 : d33.good T = true := by decide +kernel
theorem b0 : BindP d0 1 [] [0] := fun _ _ _ _ _ _ us ws ys h1 h2 h3 => match us, ws, h1, h2, h3 with | [_], [], _, _, h3 => by cases h3; rfl
theorem b1 : BindP d1 1 [] [0] := fun _ _ _ _ _ _ us ws ys h1 h2 h3 => match us, ws, h1, h2, h3 with | [_], [], _, _, h3 => by cases h3; rfl
theorem b2 : BindP d3 1 [] [0] := fun _ _ _ _ _ _ us ws ys h1 h2 h3 => match us, ws, h1, h2, h3 with | [_], [], _, _, h3 => by cases h3; rfl
theorem b3 : BindP d2 1 [] [0] := fun _ _ _ _ _ _ us ws ys h1 h2 h3 => match us, ws, h1, h2, h3 with | [_], [], _, _, h3 => by cases h3; rfl
theorem b4 : BindP d7 1 [] [0] := fun _ _ _ _ _ _ us ws ys h1 h2 h3 => match us, ws, h1, h2, h3 with | [_], [], _, _, h3 => by cases h3; rfl
theorem b5 : BindP d5 2 [] [0, 1] := fun _ _ _ _ _ _ us ws ys h1 h2 h3 => match us, ws, h1, h2, h3 with | [_, _], [], _, _, h3 => by cases h3; rfl
theorem b6 : BindP d9 2 [] [0, 1] := fun _ _ _ _ _ _ us ws ys h1 h2 h3 => match us, ws, h1, h2, h3 with | [_, _], [], _, _, h3 => by cases h3; rfl
theorem b7 : BindP d6 1 [] [0] := fun _ _ _ _ _ _ us ws ys h1 h2 h3 => match us, ws, h1, h2, h3 with | [_], [], _, _, h3 => by cases h3; rfl
theorem b8 : BindP d8 1 [] [0] := fun _ _ _ _ _ _ us ws ys h1 h2 h3 => match us, ws, h1, h2, h3 with | [_], [], _, _, h3 => by cases h3; rfl
theorem b9 : BindP d11 1 [] [0] := fun _ _ _ _ _ _ us ws ys h1 h2 h3 => match us, ws, h1, h2, h3 with | [_], [], _, _, h3 => by cases h3; rfl
theorem b10 : BindP d10 2 [] [0, 1] := fun _ _ _ _ _ _ us ws ys h1 h2 h3 => match us, ws, h1, h2, h3 with | [_, _], [], _, _, h3 => by cases h3; rfl
theorem b11 : BindP d4 1 [] [0] := fun _ _ _ _ _ _ us ws ys h1 h2 h3 => match us, ws, h1, h2, h3 with | [_], [], _, _, h3 => by cases h3; rfl
theorem b12 : BindP d15 2 [] [0, 1] := fun _ _ _ _ _ _ us ws ys h1 h2 h3 => match us, ws, h1, h2, h3 with | [_, _], [], _, _, h3 => by cases h3; rfl
theorem b13 : BindP d20 2 [] [0, 1] := fun _ _ _ _ _ _ us ws ys h1 h2 h3 => match us, ws, h1, h2, h3 with | [_, _], [], _, _, h3 => by cases h3; rfl
theorem b14 : BindP d18 1 [] [0] := fun _ _ _ _ _ _ us ws ys h1 h2 h3 => match us, ws, h1, h2, h3 with | [_], [], _, _, h3 => by cases h3; rfl
theorem b15 : BindP d19 2 [] [0, 1] := fun _ _ _ _ _ _ us ws ys h1 h2 h3 => match us, ws, h1, h2, h3 with | [_, _], [], _, _, h3 => by cases h3; rfl
theorem b16 : BindP d14 2 [] [0, 1] := fun _ _ _ _ _ _ us ws ys h1 h2 h3 => match us, ws, h1, h2, h3 with | [_, _], [], _, _, h3 => by cases h3; rfl
theorem b17 : BindP d16 2 [] [0, 1] := fun _ _ _ _ _ _ us ws ys h1 h2 h3 => match us, ws, h1, h2, h3 with | [_, _], [], _, _, h3 => by cases h3; rfl
theorem b18 : BindP d13 1 [] [0] := fun _ _ _ _ _ _ us ws ys h1 h2 h3 => match us, ws, h1, h2, h3 with | [_], [], _, _, h3 => by cases h3; rfl
theorem b19 : BindP d17 2 [] [0, 1] := fun _ _ _ _ _ _ us ws ys h1 h2 h3 => match us, ws, h1, h2, h3 with | [_, _], [], _, _, h3 => by cases h3; rfl
theorem b20 : BindP d21 2 [] [0, 1] := fun _ _ _ _ _ _ us ws ys h1 h2 h3 => match us, ws, h1, h2, h3 with | [_, _], [], _, _, h3 => by cases h3; rfl
theorem b21 : BindP d25 2 [] [0, 1] := fun _ _ _ _ _ _ us ws ys h1 h2 h3 => match us, ws, h1, h2, h3 with | [_, _], [], _, _, h3 => by cases h3; rfl
theorem b22 : BindP d29 2 [] [0, 1] := fun _ _ _ _ _ _ us ws ys h1 h2 h3 => match us, ws, h1, h2, h3 with | [_, _], [], _, _, h3 => by cases h3; rfl
theorem b23 : BindP d22 0 ["position", "board", "store"] [2, 1, 0] := fun _ _ _ _ _ _ us ws ys h1 h2 h3 => match us, ws, h1, h2, h3 with | [], [_, _, _], _, _, h3 => by cases h3; rfl
theorem b24 : BindP d22 3 [] [0, 1, 2] := fun _ _ _ _ _ _ us ws ys h1 h2 h3 => match us, ws, h1, h2, h3 with | [_, _, _], [], _, _, h3 => by cases h3; rfl
theorem b25 : BindP d23 0 ["wished", "store"] [1, 0] := fun _ _ _ _ _ _ us ws ys h1 h2 h3 => match us, ws, h1, h2, h3 with | [], [_, _], _, _, h3 => by cases h3; rfl
theorem b26 : BindP d23 2 [] [0, 1] := fun _ _ _ _ _ _ us ws ys h1 h2 h3 => match us, ws, h1, h2, h3 with | [_, _], [], _, _, h3 => by cases h3; rfl
theorem b27 : BindP d31 2 [] [0, 1] := fun _ _ _ _ _ _ us ws ys h1 h2 h3 => match us, ws, h1, h2, h3 with | [_, _], [], _, _, h3 => by cases h3; rfl
theorem b28 : BindP d26 2 [] [0, 1] := fun _ _ _ _ _ _ us ws ys h1 h2 h3 => match us, ws, h1, h2, h3 with | [_, _], [], _, _, h3 => by cases h3; rfl
theorem b29 : BindP d30 3 [] [0, 1, 2] := fun _ _ _ _ _ _ us ws ys h1 h2 h3 => match us, ws, h1, h2, h3 with | [_, _, _], [], _, _, h3 => by cases h3; rfl
theorem b30 : BindP d28 1 [] [0] := fun _ _ _ _ _ _ us ws ys h1 h2 h3 => match us, ws, h1, h2, h3 with | [_], [], _, _, h3 => by cases h3; rfl
theorem b31 : BindP d27 3 [] [0, 1, 2] := fun _ _ _ _ _ _ us ws ys h1 h2 h3 => match us, ws, h1, h2, h3 with | [_, _, _], [], _, _, h3 => by cases h3; rfl
theorem b32 : BindP d24 2 [] [0, 1] := fun _ _ _ _ _ _ us ws ys h1 h2 h3 => match us, ws, h1, h2, h3 with | [_, _], [], _, _, h3 => by cases h3; rfl
theorem b33 : BindP d32 1 [] [0] := fun _ _ _ _ _ _ us ws ys h1 h2 h3 => match us, ws, h1, h2, h3 with | [_], [], _, _, h3 => by cases h3; rfl
theorem b34 : BindP d33 1 [] [0] := fun _ _ _ _ _ _ us ws ys h1 h2 h3 => match us, ws, h1, h2, h3 with | [_], [], _, _, h3 => by cases h3; rfl
theorem c0 : BindP d12 (3 + 1) [] (List.range (3 + 1)) := fun _ _ _ _ _ _ us ws ys h1 h2 h3 => match us, ws, h1, h2, h3 with | [_, _, _, _], [], _, _, h3 => by cases h3; rfl
abbrev lw : PySem.W.OpenLaw := PySem.Challenge.rw_twoabove_k81_whole_all_walks_to_the_full
abbrev R : PySem.W.OpenRow := PySem.W.OpenLaw.row lw
def names0 : List Str := ["StoreError", "InvalidBoard", "InvalidPosition", "InvalidShelves", "InvalidStore", "InvalidWished", "InvalidDeliveries", "InvalidSales", "is_integer", "is_count", "is_list", "LEAST_SHELVES", "MOST_SHELVES", "are_shelves", "want_shelves", "is_lot_of", "bits_of", "spots_of", "told_lot", "MOST_KINDS", "is_kind", "are_kinds", "plain_kinds", "Store", "want_store", "want_delivery", "MOST_PIECES", "is_board_of", "want_board", "want_wished"]
def names1 : List Str := ["filled", "fullest_in", "last_of", "peeled", "most_shelves", "comes_fullest", "_law_pot", "_law_draw", "_law_pick", "_law_kinds", "_law_told", "_law_most", "_law_walks", "_law_boards", "_law_right"]
def names : List Str := names0 ++ names1
theorem allGood : ∀ d ∈ ds, d.good T = true := List.forall_mem_cons.2 ⟨g0, List.forall_mem_cons.2 ⟨g1, List.forall_mem_cons.2 ⟨g2, List.forall_mem_cons.2 ⟨g3, List.forall_mem_cons.2 ⟨g4, List.forall_mem_cons.2 ⟨g5, List.forall_mem_cons.2 ⟨g6, List.forall_mem_cons.2 ⟨g7, List.forall_mem_cons.2 ⟨g8, List.forall_mem_cons.2 ⟨g9, List.forall_mem_cons.2 ⟨g10, List.forall_mem_cons.2 ⟨g11, List.forall_mem_cons.2 ⟨g12, List.forall_mem_cons.2 ⟨g13, List.forall_mem_cons.2 ⟨g14, List.forall_mem_cons.2 ⟨g15, List.forall_mem_cons.2 ⟨g16, List.forall_mem_cons.2 ⟨g17, List.forall_mem_cons.2 ⟨g18, List.forall_mem_cons.2 ⟨g19, List.forall_mem_cons.2 ⟨g20, List.forall_mem_cons.2 ⟨g21, List.forall_mem_cons.2 ⟨g22, List.forall_mem_cons.2 ⟨g23, List.forall_mem_cons.2 ⟨g24, List.forall_mem_cons.2 ⟨g25, List.forall_mem_cons.2 ⟨g26, List.forall_mem_cons.2 ⟨g27, List.forall_mem_cons.2 ⟨g28, List.forall_mem_cons.2 ⟨g29, List.forall_mem_cons.2 ⟨g30, List.forall_mem_cons.2 ⟨g31, List.forall_mem_cons.2 ⟨g32, List.forall_mem_cons.2 ⟨g33, (fun _ h => nomatch h)⟩⟩⟩⟩⟩⟩⟩⟩⟩⟩⟩⟩⟩⟩⟩⟩⟩⟩⟩⟩⟩⟩⟩⟩⟩⟩⟩⟩⟩⟩⟩⟩⟩⟩
theorem allCalls : ∀ c ∈ T.calls, ∃ d : DefI, ds[c.f]? = some d ∧ d.cl = none ∧ d.at_ = (c.x, none) ∧ BindP d c.n c.ks c.js := List.forall_mem_cons.2 ⟨⟨d0, rfl, rfl, rfl, b0⟩, List.forall_mem_cons.2 ⟨⟨d1, rfl, rfl, rfl, b1⟩, List.forall_mem_cons.2 ⟨⟨d3, rfl, rfl, rfl, b2⟩, List.forall_mem_cons.2 ⟨⟨d2, rfl, rfl, rfl, b3⟩, List.forall_mem_cons.2 ⟨⟨d7, rfl, rfl, rfl, b4⟩, List.forall_mem_cons.2 ⟨⟨d5, rfl, rfl, rfl, b5⟩, List.forall_mem_cons.2 ⟨⟨d9, rfl, rfl, rfl, b6⟩, List.forall_mem_cons.2 ⟨⟨d6, rfl, rfl, rfl, b7⟩, List.forall_mem_cons.2 ⟨⟨d8, rfl, rfl, rfl, b8⟩, List.forall_mem_cons.2 ⟨⟨d11, rfl, rfl, rfl, b9⟩, List.forall_mem_cons.2 ⟨⟨d10, rfl, rfl, rfl, b10⟩, List.forall_mem_cons.2 ⟨⟨d4, rfl, rfl, rfl, b11⟩, List.forall_mem_cons.2 ⟨⟨d15, rfl, rfl, rfl, b12⟩, List.forall_mem_cons.2 ⟨⟨d20, rfl, rfl, rfl, b13⟩, List.forall_mem_cons.2 ⟨⟨d18, rfl, rfl, rfl, b14⟩, List.forall_mem_cons.2 ⟨⟨d19, rfl, rfl, rfl, b15⟩, List.forall_mem_cons.2 ⟨⟨d14, rfl, rfl, rfl, b16⟩, List.forall_mem_cons.2 ⟨⟨d16, rfl, rfl, rfl, b17⟩, List.forall_mem_cons.2 ⟨⟨d13, rfl, rfl, rfl, b18⟩, List.forall_mem_cons.2 ⟨⟨d17, rfl, rfl, rfl, b19⟩, List.forall_mem_cons.2 ⟨⟨d21, rfl, rfl, rfl, b20⟩, List.forall_mem_cons.2 ⟨⟨d25, rfl, rfl, rfl, b21⟩, List.forall_mem_cons.2 ⟨⟨d29, rfl, rfl, rfl, b22⟩, List.forall_mem_cons.2 ⟨⟨d22, rfl, rfl, rfl, b23⟩, List.forall_mem_cons.2 ⟨⟨d22, rfl, rfl, rfl, b24⟩, List.forall_mem_cons.2 ⟨⟨d23, rfl, rfl, rfl, b25⟩, List.forall_mem_cons.2 ⟨⟨d23, rfl, rfl, rfl, b26⟩, List.forall_mem_cons.2 ⟨⟨d31, rfl, rfl, rfl, b27⟩, List.forall_mem_cons.2 ⟨⟨d26, rfl, rfl, rfl, b28⟩, List.forall_mem_cons.2 ⟨⟨d30, rfl, rfl, rfl, b29⟩, List.forall_mem_cons.2 ⟨⟨d28, rfl, rfl, rfl, b30⟩, List.forall_mem_cons.2 ⟨⟨d27, rfl, rfl, rfl, b31⟩, List.forall_mem_cons.2 ⟨⟨d24, rfl, rfl, rfl, b32⟩, List.forall_mem_cons.2 ⟨⟨d32, rfl, rfl, rfl, b33⟩, List.forall_mem_cons.2 ⟨⟨d33, rfl, rfl, rfl, b34⟩, (fun _ h => nomatch h)⟩⟩⟩⟩⟩⟩⟩⟩⟩⟩⟩⟩⟩⟩⟩⟩⟩⟩⟩⟩⟩⟩⟩⟩⟩⟩⟩⟩⟩⟩⟩⟩⟩⟩⟩
theorem allMakes : ∀ q ∈ T.makes, q.2 = 0 ∧ q.1.x = "Store" ∧ ∃ d : DefI, ds[q.1.f]? = some d ∧ d.cl = some 0 ∧ d.at_ = (("Store" : Str), some ("__init__" : Str)) ∧ BindP d (q.1.n + 1) [] (List.range (q.1.n + 1)) := List.forall_mem_cons.2 ⟨⟨rfl, rfl, d12, rfl, rfl, rfl, c0⟩, (fun _ h => nomatch h)⟩
theorem side : Side T ds "Store" where
  cls := rfl
  flds := fun _ => rfl
  nd := by decide +kernel
  nk := by decide +kernel
  sz := by decide +kernel
  good := fun i d h => allGood d (List.mem_of_getElem? h)
  calls := allCalls
  makes := allMakes
abbrev hk : PySem.W.Hook := hookE 6 (faOf T "Store") (fnOf ds) ["Store"]
def ob (s : PySem.W.SharedT) : Bool × He.AlD := obsEG 6 (faOf T "Store") (fnOf ds) ["Store"] (HandSHeadRun.getT s)
theorem ob_eq (s : PySem.W.SharedT) : ob s = hk.obs s.abs := obsEG_eq (HandSHeadRun.getT_eq s)
theorem run (w : World) : HandSHeadRun.RunEq R (PySem.W.view R.prog [52]) hk ob 20000 names w := by
  intro os
  kernel_rfl
end Law
end
section
set_option linter.all false
set_option autoImplicit false
set_option maxRecDepth 20000
namespace Law
open PySem Ev
abbrev FS : List Fn := ds.map DefI.fn
noncomputable abbrev ph (n : Nat) : PFns := pphi pwhO FS n
theorem ph_fn {n i : Nat} {d : DefI} (h : ds[i]? = some d) (hc : d.cl = none) (sl : List (Bool × Fg × D)) : ph (n + 1) i sl = prunF (ph n) pwhO d.fn sl := by
  show (match (ds.map DefI.fn)[i]? with | some fn => if fn.made then prunI (ph n) pwhO fn sl else prunF (ph n) pwhO fn sl | none => none) = _
  rw [List.getElem?_map, h]
  show (if d.fn.made then _ else _) = _
  have : d.fn.made = false := by unfold DefI.fn; rw [hc]; rfl
  rw [this]; rfl
/-- a def's body, by what holds behind it -/
theorem fn_eq {n i : Nat} {d : DefI} {sl : List (Bool × Fg × D)} {r : (O × D) × List (Fg × D)} (h : ds[i]? = some d) (hc : d.cl = none) (hl : sl.length = d.fn.par) (hw : wps (ph n) d.m (sl.map some ++ List.replicate (d.fn.size - d.fn.par) none) (retQ sl (· = r))) : ph (n + 1) i sl = some r := by
  rw [ph_fn h hc]
  exact run_eq hl hw
theorem fn_ex {n i : Nat} {d : DefI} {sl : List (Bool × Fg × D)} {P : (O × D) × List (Fg × D) → Prop} (h : ds[i]? = some d) (hc : d.cl = none) (hl : sl.length = d.fn.par) (hw : wps (ph n) d.m (sl.map some ++ List.replicate (d.fn.size - d.fn.par) none) (retQ sl P)) : ∃ r, ph (n + 1) i sl = some r ∧ P r := by
  rw [ph_fn h hc]
  exact run_of hl hw
@[simp] theorem pcallG_eq (Φ : PFns) (f : Nat) (rs : List PR) (perm : List Nat) (env : PEnv) : pcallG Φ f rs perm env = (ppickL rs perm).bind fun as => if (pvars as).Nodup then (pargs env as).bind fun sl => (Φ f sl).bind fun p => (pgive env as p.2).map fun e => (.val p.1.1 p.1.2, e) else none := rfl
/-- an int, no bool -/
def isI : D → Bool
  | .int _ => true
  | _ => false
def good0 : D → Bool
  | .scr _ | .dict _ _ | .obj _ _ => false
  | _ => true
@[simp] theorem is_integer_s (n : Nat) (b : Bool) (g : Fg) (i : Int) : ph (n + 1) 0 [(b, g, .int i)] = some ((.fr, .bool true), [ret b g (.int i)]) := by
  refine fn_eq (d := d0) rfl rfl rfl ?_
  show wps _ m0 [some (b, g, .int i)] _
  apply wps_seq
  refine wps_ret (p := (.val .fr (.bool true), [some (b, g, .int i)])) ?_ trivial rfl ?_
  · simp [isTys, isTy]
  · simp [seqQ, retQ]
@[simp] theorem is_count_s (n : Nat) (b : Bool) (g : Fg) (x : Nat) : ph (n + 2) 1 [(b, g, .int x)] = some ((.fr, .bool true), [ret b g (.int x)]) := by
  refine fn_eq (d := d1) rfl rfl rfl ?_
  show wps _ m1 [some (b, g, .int x)] _
  apply wps_seq
  refine wps_ret (p := (.val .fr (.bool true), [some (b, g, .int x)])) ?_ trivial rfl ?_
  · simp
  · simp [seqQ, retQ]
@[simp] theorem is_list_l (n : Nat) (b : Bool) (g : Fg) (l : List D) : ph (n + 1) 2 [(b, g, .list l)] = some ((.fr, .bool true), [ret b g (.list l)]) := by
  refine fn_eq (d := d2) rfl rfl rfl ?_
  show wps _ m2 [some (b, g, .list l)] _
  apply wps_seq
  refine wps_ret (p := (.val .fr (.bool true), [some (b, g, .list l)])) ?_ trivial rfl ?_
  · simp [isTys, isTy]
  · simp [seqQ, retQ]
@[simp] theorem is_list_t (n : Nat) (b : Bool) (l : List D) : ph (n + 1) 2 [(b, .fr, .tup l)] = some ((.fr, .bool true), [ret b .fr (.tup l)]) := by
  refine fn_eq (d := d2) rfl rfl rfl ?_
  show wps _ m2 [some (b, .fr, .tup l)] _
  apply wps_seq
  refine wps_ret (p := (.val .fr (.bool true), [some (b, .fr, .tup l)])) ?_ trivial rfl ?_
  · simp [isTys, isTy]
  · simp [seqQ, retQ]
@[simp] theorem are_shelves_s (n : Nat) (b : Bool) (g : Fg) (x : Nat) (h2 : 2 ≤ x) (h8 : x ≤ 8) : ph (n + 3) 3 [(b, g, .int x)] = some ((.fr, .bool true), [ret b g (.int x)]) := by
  refine fn_eq (d := d3) rfl rfl rfl ?_
  show wps _ m3 [some (b, g, .int x)] _
  apply wps_seq
  refine wps_ret (p := (.val .fr (.bool true), [some (b, g, .int x)])) ?_ trivial rfl ?_
  · have e1 : decide ((2 : Int) ≤ x) = true := decide_eq_true (by omega)
    have e2 : decide ((x : Int) ≤ 8) = true := decide_eq_true (by omega)
    simp [e1, e2]
  · simp [seqQ, retQ]
@[simp] theorem want_shelves_s (n : Nat) (b : Bool) (g : Fg) (x : Nat) (h2 : 2 ≤ x) (h8 : x ≤ 8) : ph (n + 4) 4 [(b, g, .int x)] = some ((.fr, .none), [ret b g (.int x)]) := by
  refine fn_eq (d := d4) rfl rfl rfl ?_
  show wps _ m4 [some (b, g, .int x)] _
  apply wps_seq
  refine wps_if (p := (false, [some (b, g, .int x)])) ?_ nofun fun _ => ?_
  · simp [h2, h8]
  · apply wps_skip
    apply wps_skip
    simp [retQ]
theorem filter_true {α : Type} (l : List α) : l.filter (fun _ => true) = l := by simp
theorem dBools_true {α : Type} (l : List α) : dBools (l.map fun _ => D.bool true) = some (l.map fun _ => true) := by
  induction l with
  | nil => rfl
  | cons x l ih => show (dBools (l.map _)).map _ = _; rw [ih]; rfl
theorem all_true {α : Type} (l : List α) : (l.map fun _ => true).all id = true := by simp
theorem nodup_len {α : Type} [DecidableEq α] {l m : List α} (h : l.Nodup) (k : m.Nodup) (e : ∀ x, x ∈ l ↔ x ∈ m) : l.length = m.length := (List.perm_ext_iff_of_nodup h k |>.mpr e).length_eq
theorem up_nd {l : List Int} (h : l.Pairwise (· < ·)) : l.Nodup := h.imp fun {a b} h e => by subst e; exact absurd h (Int.lt_irrefl _)
theorem zI_nd {l : List Nat} (h : l.Nodup) : (l.map zI).Nodup := List.Pairwise.map zI (fun a b hab e => hab (by unfold zI at e; omega)) h
theorem setSort_len {l : List Nat} (h : l.Nodup) : (setSort (l.map zI)).length = l.length := by
  rw [nodup_len (up_nd (setSort_up _)) (zI_nd h) (fun x => setSort_mem _ x), List.length_map]
theorem sz63 {n : Nat} (h : n < 63) : n ≤ sizeLine := by unfold sizeLine; omega
/-- a lot of a store -/
structure Lot (s : Nat) (l : List Nat) : Prop where
  lt : ∀ x ∈ l, x < s
  nd : l.Nodup
  len : l.length < 63
theorem c5_0_s (n : Nat) (b : Bool) (g : Fg) (b' : Bool) (g' : Fg) (s : Nat) (l : List Nat) (h : Lot s l) : (pv (ph (n + 2)) c5_0).e [some (b, g, .int s), some (b', g', dL l), none] = some (.val .ls (.list (l.map fun _ => D.bool true)), [some (b, g, .int s), some (b', g', dL l), none]) := by
  have := comp_var (Φ := ph (n + 2)) (elt := .and_ (.call 1 (.cons (.var 2) .nil) .nil [0]) (.cmp .lt (.var 2) (.var 0))) (c := .bool true) (i := 1) (j := 2) (env := [some (b, g, .int s), some (b', g', dL l), none]) (b := b') (g := g') (l := dIs l) (fun _ => true) (fun _ => D.bool true) rfl (by decide) (by simp) rfl (fun x hx => by
    obtain ⟨k, hk, rfl⟩ := List.mem_map.mp hx
    refine ⟨_, rfl, by simp, fun _ => ⟨.val .fr (.bool true), .fr, ?_, rfl⟩⟩
    have := h.lt k hk
    simp [this]) (by rw [dIs_len]; exact sz63 h.len)
  rw [filter_true] at this
  unfold dIs at this
  rw [List.map_map] at this
  exact this
@[simp] theorem is_lot_of_s (n : Nat) (b : Bool) (g : Fg) (b' : Bool) (g' : Fg) (s : Nat) (l : List Nat) (h : Lot s l) : ph (n + 3) 5 [(b, g, .int s), (b', g', dL l)] = some ((.fr, .bool true), [ret b g (.int s), ret b' g' (dL l)]) := by
  refine fn_eq (d := d5) rfl rfl rfl ?_
  show wps _ m5 [some (b, g, .int s), some (b', g', dL l), none] _
  apply wps_seq
  refine wps_if (p := (false, [some (b, g, .int s), some (b', g', dL l), none])) ?_ nofun fun _ => ?_
  · have e1 := is_list_l (n + 1) g'.nf g' (dIs l)
    simp [c5_0_s n b g b' g' s l h, dBools_true, all_true, dL, e1]
  · apply wps_skip
    apply wps_seq
    refine wps_ret (p := (.val .fr (.bool true), [some (b, g, .int s), some (b', g', dL l), none])) ?_ trivial rfl ?_
    · have := h.len
      simp [dL, this, setSort_len h.nd]
    · simp [seqQ, retQ]
end Law
end
section
set_option linter.all false
set_option autoImplicit false
set_option maxRecDepth 20000
namespace Law
open PySem Ev
section
variable {Φ : PFns} {env : PEnv} {Q : PFl → Prop}
theorem wps_asg1 {t m : E} {e : PEnv} (h1 : (((pv Φ m).e env).bind fun p => (ptake p.2 p.1).bind fun q => (pv Φ t).a q.1.1 q.1.2 q.2) = some e) (h : Q (.nx e)) : wps Φ (.asg t m) env Q := by
  obtain ⟨p, a1, h1⟩ := pbs h1
  obtain ⟨q, a2, h1⟩ := pbs h1
  exact wps_asg a1 a2 h1 h
theorem wps_ret1 {m : E} {o : O} {d : D} {e : PEnv} (h1 : (pv Φ m).e env = some (.val o d, e)) (h : Q (.rt o d e)) : wps Φ (.ret m) env Q := wps_ret h1 trivial rfl h
theorem wps_ex1 {m : E} {r : PR} {e : PEnv} (h1 : (pv Φ m).e env = some (r, e)) (h : Q (.nx e)) : wps Φ (.ex m) env Q := wps_ex h1 h
end
/-- a slot that a loop may store -/
def Fre (s : PSlot) : Prop := s = none ∨ ∃ x, s = some (false, .fr, x)
theorem Fre.none : Fre none := .inl rfl
theorem Fre.some (x : D) : Fre (some (false, .fr, x)) := .inr ⟨x, rfl⟩
theorem pst_fre {env : PEnv} {i : Nat} {o : O} {d : D} {s : PSlot} (h : Fre s) : pst env i o d s = if i < env.length then (fgOf o).map fun g => env.set i (some (false, g, d)) else none := by
  rcases h with rfl | ⟨x, rfl⟩ <;> rfl
theorem shl1 {x : Nat} (h : x ≤ 1000) : binI .shl 1 (x : Int) = some ((2 ^ x : Nat) : Int) := by
  have : shOk 1 (x : Int) = true := by
    unfold shOk
    simp
    omega
  show (if shOk 1 (x : Int) = true then some ((1 : Int) * 2 ^ (x : Int).toNat) else none) = _
  rw [if_pos this, Int.toNat_natCast]
  simp
theorem bor2 (a y : Nat) : Builtin.bitOr (a : Int) (2 ^ y) = ((a ||| 2 ^ y : Nat) : Int) := by
  have := bor_nat a (2 ^ y)
  simpa using this
theorem bits_of_s (n : Nat) (b : Bool) (g : Fg) (l : List Nat) (h : ∀ x ∈ l, x ≤ 1000) : ph (n + 1) 6 [(b, g, dL l)] = some ((.fr, .int (bitsN l)), [ret b g (dL l)]) := by
  refine fn_eq (d := d6) rfl rfl rfl ?_
  show wps _ m6 [some (b, g, dL l), none, none] _
  apply wps_seq
  refine wps_asg1 (e := [some (b, g, dL l), some (false, .fr, .int 0), none]) (by simp) ?_
  apply wps_seq
  refine wps_for (p := ((true, dIs l, [(0, g)]), [some (b, g.lock, dL l), some (false, .fr, .int 0), none])) (fun xs e => ∃ dn rs s2, dn ++ rs = l ∧ xs = dIs rs ∧ Fre s2 ∧ e = [some (b, g.lock, dL l), some (false, .fr, .int (bitsN dn)), s2]) ?_ ?_ ?_ ?_
  · rw [pv_i_iof, pv_e_var]
    exact pwalk_any (env := [some (b, g, dL l), some (false, .fr, .int 0), none]) (i := 0) (b := b) (l := dIs l) rfl
  · exact ⟨[], l, none, rfl, rfl, .none, rfl⟩
  · rintro x xs e ⟨dn, rs, s2, h1, h2, h3, rfl⟩
    cases rs with
    | nil => cases h2
    | cons y rs =>
      cases h2
      refine ⟨[some (b, g.lock, dL l), some (false, .fr, .int (bitsN dn)), some (false, .fr, .int y)], by simp [pst_fre h3], ?_⟩
      apply wps_seq
      refine wps_asg1 (e := [some (b, g.lock, dL l), some (false, .fr, .int (bitsN (dn ++ [y]))), some (false, .fr, .int y)]) ?_ ?_
      · have hy : y ≤ 1000 := h y (by rw [← h1]; simp)
        simp [shl1 hy, bor2, bitsN_app]
      · apply wps_skip
        exact ⟨dn ++ [y], rs, _, by rw [← h1]; simp, rfl, .some _, rfl⟩
  · rintro e ⟨dn, rs, s2, h1, h2, h3, rfl⟩
    have hr : rs = [] := by cases rs with | nil => rfl | cons => cases h2
    subst hr
    have : punlock [some (b, g.lock, dL l), some (false, .fr, .int (bitsN dn)), s2] [(0, g)] = [some (b, g, dL l), some (false, .fr, .int (bitsN dn)), s2] := punlock1_any (b := b) (d := dL l) rfl
    rw [this]
    apply wps_seq
    have hd : dn = l := by simpa using h1
    subst hd
    exact wps_ret (p := (.var 1 .fr (.int (bitsN dn)), _)) rfl trivial rfl (by simp [seqQ, retQ])
theorem shr1 (b x : Nat) : binI .shr (b : Int) (x : Int) = some ((b : Int) / 2 ^ x) := by
  show (if 0 ≤ (x : Int) then some ((b : Int) / 2 ^ (x : Int).toNat) else none) = _
  rw [if_pos (by omega), Int.toNat_natCast]
theorem rngL_nat (n : Nat) : rngL 0 n = dIs (List.range n) := by
  unfold rngL dIs
  refine List.map_congr_left fun k _ => ?_
  rw [Int.zero_add]
theorem dIs_filter (l : List Nat) (c : D → Bool) (c' : Nat → Bool) (h : ∀ x, c (dI x) = c' x) : (dIs l).filter c = dIs (l.filter c') := by
  unfold dIs
  rw [List.filter_map]
  congr 1
  exact List.filter_congr fun x _ => h x
theorem spots_of_s (n : Nat) (b : Bool) (g : Fg) (k : Nat) : ph (n + 1) 7 [(b, g, .int k)] = some ((.fr, dT (spots k)), [ret b g (.int k)]) := by
  refine fn_eq (d := d7) rfl rfl rfl ?_
  show wps _ m7 [some (b, g, .int k), none] _
  have hc : (pv (ph n) c7_0).e [some (b, g, .int k), none] = some (.val .ls (dL (spots k)), [some (b, g, .int k), none]) := by
    have := comp_val (Φ := ph n) (elt := .var 1) (c := .cmp .eq (.bin .band (.bin .shr (.var 0) (.var 1)) (.int 1)) (.int 1)) (it := .irng1 (.int 8)) (j := 1) (env := [some (b, g, .int k), none]) (k := false) (l := rngL 0 8)
      (fun x => match x with | .int i => (Builtin.bitAnd ((k : Int) / 2 ^ i.toNat) 1 == 1) | _ => false) (fun x => x) (by simp; decide) (by simp) rfl (fun x hx => by
        have hx' : x ∈ dIs (List.range 8) := hx
        obtain ⟨i, hi, rfl⟩ := List.mem_map.mp hx'
        refine ⟨_, rfl, ?_, fun _ => ⟨.var 1 .fr (.int i), .fr, rfl, rfl⟩⟩
        simp [shr1]) (by decide)
    rw [show rngL 0 8 = dIs (List.range 8) from rngL_nat 8, dIs_filter (List.range 8) _ (fun i => k.testBit i) (fun i => by simpa using bit_test k i), List.map_id'] at this
    exact this
  apply wps_seq
  refine wps_ret1 (o := .fr) (d := dT (spots k)) (e := [some (b, g, .int k), none]) ?_ ?_
  · simp [hc]
  · simp [seqQ, retQ]
theorem told_lot_s (n : Nat) (b : Bool) (g : Fg) (k : Nat) : ph (n + 2) 8 [(b, g, .int k)] = some ((.ls, dL (spots k)), [ret b g (.int k)]) := by
  refine fn_eq (d := d8) rfl rfl rfl ?_
  show wps _ m8 [some (b, g, .int k)] _
  apply wps_seq
  refine wps_ret1 (o := .ls) (d := dL (spots k)) (e := [some (b, g, .int k)]) ?_ ?_
  · simp [spots_of_s]
  · simp [seqQ, retQ]
theorem is_kind_s (n : Nat) (b : Bool) (g : Fg) (b' : Bool) (g' : Fg) (s : Nat) (l : List Nat) (h : Lot s l) (hn : l ≠ []) : ph (n + 4) 9 [(b, g, .int s), (b', g', dL l)] = some ((.fr, .bool true), [ret b g (.int s), ret b' g' (dL l)]) := by
  refine fn_eq (d := d9) rfl rfl rfl ?_
  show wps _ m9 [some (b, g, .int s), some (b', g', dL l)] _
  apply wps_seq
  refine wps_ret1 (o := .fr) (d := .bool true) (e := [some (b, g, .int s), some (b', g', dL l)]) ?_ ?_
  · have e1 := is_lot_of_s n g.nf g g'.nf g' s l h
    have : 0 < l.length := List.length_pos_iff.mpr hn
    simp [e1, this]
  · simp [seqQ, retQ]
/-- kinds, as they are handed in -/
structure Kinds (s : Nat) (ks : List (List Nat)) : Prop where
  lot : ∀ k ∈ ks, Lot s k ∧ k ≠ []
  len : ks.length ≤ 8
theorem sz8 {n : Nat} (h : n ≤ 8) : n ≤ sizeLine := by unfold sizeLine; omega
theorem are_kinds_s (n : Nat) (b : Bool) (g : Fg) (b' : Bool) (g' : Fg) (s : Nat) (ks : List (List Nat)) (h : Kinds s ks) : ph (n + 5) 10 [(b, g, .int s), (b', g', .list (dLs ks))] = some ((.fr, .bool true), [ret b g (.int s), ret b' g' (.list (dLs ks))]) := by
  refine fn_eq (d := d10) rfl rfl rfl ?_
  show wps _ m10 [some (b, g, .int s), some (b', g', .list (dLs ks)), none] _
  have hc : (pv (ph (n + 4)) c10_0).e [some (b, g, .int s), some (b', g', .list (dLs ks)), none] = some (.val .ls (.list (ks.map fun _ => D.bool true)), [some (b, g, .int s), some (b', g', .list (dLs ks)), none]) := by
    have := comp_var (Φ := ph (n + 4)) (elt := .call 9 (.cons (.var 0) (.cons (.var 2) .nil)) .nil [0, 1]) (c := .bool true) (i := 1) (j := 2) (env := [some (b, g, .int s), some (b', g', .list (dLs ks)), none]) (b := b') (g := g') (l := dLs ks) (fun _ => true) (fun _ => D.bool true) rfl (by decide) (by simp) rfl (fun x hx => by
      obtain ⟨k, hk, rfl⟩ := List.mem_map.mp hx
      refine ⟨_, rfl, by simp, fun _ => ⟨.val .fr (.bool true), .fr, ?_, rfl⟩⟩
      have e1 := is_kind_s n g.nf g false .fr s k (h.lot k hk).1 (h.lot k hk).2
      simp [e1]) (by rw [dLs_len]; exact sz8 h.len)
    rw [filter_true] at this
    unfold dLs at this
    rw [List.map_map] at this
    exact this
  apply wps_seq
  refine wps_ret1 (o := .fr) (d := .bool true) (e := [some (b, g, .int s), some (b', g', .list (dLs ks)), none]) ?_ ?_
  · have e1 := is_list_l (n + 3) g'.nf g' (dLs ks)
    have e2 : ((ks.length : Nat) : Int) ≤ 8 := by have := h.len; omega
    simp [hc, e1, e2, dBools_true]
  · simp [seqQ, retQ]
end Law
end
section
set_option linter.all false
set_option autoImplicit false
set_option maxRecDepth 20000
namespace Law
open PySem Ev
/-- unlike numbers, rising -/
def sN (B : List Nat) : List Nat := (setSort (B.map zI)).map Int.toNat
theorem sN_eq (B : List Nat) : (setSort (B.map zI)).map D.int = dIs (sN B) := by
  unfold sN dIs
  rw [List.map_map]
  refine List.map_congr_left fun x hx => ?_
  obtain ⟨k, _, hk⟩ := List.mem_map.mp ((setSort_mem _ x).mp hx)
  have : ((x.toNat : Nat) : Int) = x := by rw [← hk]; simp
  show D.int x = .int ((x.toNat : Nat) : Int)
  rw [this]
theorem sN_mem (B : List Nat) (k : Nat) : k ∈ sN B ↔ k ∈ B := by
  unfold sN
  rw [List.mem_map]
  constructor
  · rintro ⟨x, hx, rfl⟩
    obtain ⟨j, hj, rfl⟩ := List.mem_map.mp ((setSort_mem _ x).mp hx)
    simpa using hj
  · intro h
    exact ⟨zI k, (setSort_mem _ _).mpr (List.mem_map_of_mem h), by simp⟩
theorem sN_nd (B : List Nat) : (sN B).Nodup := by
  unfold sN
  have h := setSort_up (B.map zI)
  have h2 : ∀ x ∈ setSort (B.map zI), 0 ≤ x := fun x hx => by
    obtain ⟨j, hj, rfl⟩ := List.mem_map.mp ((setSort_mem _ x).mp hx)
    simp
  refine List.pairwise_map.mpr (h.imp_of_mem fun {a b} ha hb hab e => ?_)
  have := h2 a ha
  have := h2 b hb
  omega
theorem sN_len (B : List Nat) : (sN B).length ≤ B.length := List.Nodup.length_le_of_subset (sN_nd B) fun x hx => (sN_mem B x).mp hx
theorem map_dIs {β : Type} (l : List Nat) (f : D → β) : (dIs l).map f = l.map fun x => f (dI x) := by unfold dIs; rw [List.map_map]; rfl
theorem map_dLs {β : Type} (l : List (List Nat)) (f : D → β) : (dLs l).map f = l.map fun x => f (dL x) := by unfold dLs; rw [List.map_map]; rfl
def natOf : D → Nat
  | .int i => i.toNat
  | _ => 0
def natsOf : D → List Nat
  | .list l => l.map natOf
  | _ => []
@[simp] theorem natOf_dI (n : Nat) : natOf (.int n) = n := by simp [natOf]
@[simp] theorem natsOf_dL (l : List Nat) : natsOf (dL l) = l := by
  show (dIs l).map natOf = l
  rw [map_dIs]
  simp
def plain (B : List Nat) : List Nat := (((sN B).map spots).mergeSort leL).map bitsN
theorem plain_kinds_s (n : Nat) (b : Bool) (g : Fg) (B : List Nat) (h : B.length ≤ 8) : ph (n + 3) 11 [(b, g, dL B)] = some ((.fr, dT (plain B)), [ret b g (dL B)]) := by
  refine fn_eq (d := d11) rfl rfl rfl ?_
  show wps _ m11 [some (b, g, dL B), none, none] _
  have h63 : (dIs B).length < 63 := by rw [dIs_len]; omega
  have hc0 : (pv (ph (n + 2)) c11_0).e [some (b, g, dL B), none, none] = some (.val .ls (.list (dLs ((sN B).map spots))), [some (b, g, dL B), none, none]) := by
    have := comp_val (Φ := ph (n + 2)) (elt := .call 8 (.cons (.var 2) .nil) .nil [0]) (c := .bool true) (it := .iof (.bi .sset (.cons (.var 0) .nil))) (j := 2) (env := [some (b, g, dL B), none, none]) (k := true) (l := dIs (sN B))
      (fun _ => true) (fun x => dL (spots (natOf x))) (by simp [show B.length < 63 by omega, ← sN_eq]) (by simp) rfl (fun x hx => by
        obtain ⟨i, hi, rfl⟩ := List.mem_map.mp hx
        refine ⟨_, rfl, by simp, fun _ => ⟨.val .ls (dL (spots i)), .ls, ?_, rfl⟩⟩
        simp [told_lot_s]) (by rw [dIs_len]; exact sz8 (Nat.le_trans (sN_len B) h))
    rw [filter_true, map_dIs] at this
    unfold dLs
    rw [List.map_map]
    exact this
  have hc1 : (pv (ph (n + 2)) c11_1).e [some (b, g, dL B), none, none] = some (.val .ls (dL (plain B)), [some (b, g, dL B), none, none]) := by
    have := comp_val (Φ := ph (n + 2)) (elt := .call 6 (.cons (.var 1) .nil) .nil [0]) (c := .bool true) (it := .iof (.bi .sorted (.cons c11_0 .nil))) (j := 1) (env := [some (b, g, dL B), none, none]) (k := true) (l := dLs (((sN B).map spots).mergeSort leL))
      (fun _ => true) (fun x => .int (bitsN (natsOf x))) (by simp [hc0, sort_lists]) (by simp) rfl (fun x hx => by
        obtain ⟨l, hl, rfl⟩ := List.mem_map.mp hx
        rw [List.mem_mergeSort, List.mem_map] at hl
        obtain ⟨k, _, rfl⟩ := hl
        have e1 := bits_of_s (n + 1) false .fr (spots k) (fun x hx => by have := (mem_spots.mp hx).1; omega)
        refine ⟨_, rfl, by simp, fun _ => ⟨.val .fr (.int (bitsN (spots k))), .fr, ?_, ?_⟩⟩
        · simp [e1]
        · simp) (by rw [dLs_len, List.length_mergeSort, List.length_map]; exact sz8 (Nat.le_trans (sN_len B) h))
    rw [filter_true, map_dLs] at this
    have e2 : ((((sN B).map spots).mergeSort leL).map fun x => D.int (bitsN (natsOf (dL x)))) = dIs (plain B) := by
      unfold plain dIs
      rw [List.map_map]
      refine List.map_congr_left fun x _ => ?_
      simp only [natsOf_dL, Function.comp_apply]
    rw [e2] at this
    exact this
  apply wps_seq
  refine wps_ret1 (o := .fr) (d := dT (plain B)) (e := [some (b, g, dL B), none, none]) ?_ ?_
  · simp [hc1]
  · simp [seqQ, retQ]
theorem plain_told {ks : List (List Nat)} (h : ∀ k ∈ ks, ∀ x ∈ k, x < 8) : plain (ks.map bitsN) = (told ks).map bitsN := by
  unfold plain
  congr 1
  obtain ⟨h1, h2⟩ := told_up ks
  refine up_eq ltL_irr ltL_asy (sortL_nodup ?_) h1 fun x => ?_
  · refine List.pairwise_map.mpr ((sN_nd _).imp_of_mem fun {a b} ha hb hab e => hab ?_)
    obtain ⟨k, hk, rfl⟩ := List.mem_map.mp ((sN_mem _ _).mp ha)
    obtain ⟨k', hk', rfl⟩ := List.mem_map.mp ((sN_mem _ _).mp hb)
    rw [spots_bits, spots_bits] at e
    rw [← bits_srt (h k hk), ← bits_srt (h k' hk'), e]
  · rw [List.mem_mergeSort, List.mem_map, h2]
    constructor
    · rintro ⟨a, ha, rfl⟩
      obtain ⟨k, hk, rfl⟩ := List.mem_map.mp ((sN_mem _ _).mp ha)
      exact ⟨k, hk, (spots_bits k).symm⟩
    · rintro ⟨k, hk, rfl⟩
      exact ⟨bitsN k, (sN_mem _ _).mpr (List.mem_map_of_mem hk), spots_bits k⟩
/-- a Store, as data -/
def dStore (s : Nat) (ks ss : List (List Nat)) : D := .obj 0 [.int s, dT ((told ks).map bitsN), dT ((told ss).map bitsN)]
theorem fn_init {n i : Nat} {d : DefI} {c : Nat} {sl : List (Bool × Fg × D)} {r : (O × D) × List (Fg × D)} (h : ds[i]? = some d) (hc : d.cl = some c) (hl : sl.length = d.fn.par) (hw : wps (ph n) d.m (none :: (sl.map some ++ List.replicate (d.fn.size - (d.fn.par + 1)) none)) (fun f => match f with
    | .rt o x e => ∃ ps, pretS sl (e.drop 1) = some ps ∧ ((o, x), ps) = r
    | _ => False)) : ph (n + 1) i sl = some r := by
  show (match (ds.map DefI.fn)[i]? with | some fn => if fn.made then prunI (ph n) pwhO fn sl else prunF (ph n) pwhO fn sl | none => none) = _
  rw [List.getElem?_map, h]
  show (if d.fn.made then _ else _) = _
  have : d.fn.made = true := by unfold DefI.fn; rw [hc]; rfl
  rw [this, if_pos rfl]
  unfold prunI
  rw [if_pos hl]
  obtain ⟨f, h1, h2⟩ := hw
  rw [show d.fn.body = d.m from rfl, bindE h1]
  cases f with
  | rt o x e =>
    obtain ⟨ps, h3, h4⟩ := h2
    exact (mapE h3).trans (congrArg some h4)
  | _ => exact False.elim h2
theorem wps_init {Φ : PFns} {env : PEnv} {Q : PFl → Prop} {c : Nat} {es : E} {l : List (O × D)} {e : PEnv} (h1 : (pv Φ es).tk env = some (l, e)) (hf : l.all (fun q => isFr q.1) = true) (h : Q (.rt .fr (.obj c (l.map (·.2))) e)) : wps Φ (.init c es) env Q := ⟨_, (bindE h1).trans (by dsimp only; rw [if_pos hf]), h⟩
@[simp] theorem isFr_fr : isFr .fr = true := rfl
theorem init_s (n : Nat) (b1 : Bool) (g1 : Fg) (b2 : Bool) (g2 : Fg) (s : Nat) (ks ss : List (List Nat)) (h2 : 2 ≤ s) (h8 : s ≤ 8) (hk : Kinds s ks) (hs : Kinds s ss) :
    ph (n + 6) 12 [(false, .fr, .int s), (b1, g1, .list (dLs ks)), (b2, g2, .list (dLs ss))] = some ((.fr, dStore s ks ss), [(.fr, .none), ret b1 g1 (.list (dLs ks)), ret b2 g2 (.list (dLs ss))]) := by
  refine fn_init (d := d12) (c := 0) rfl rfl rfl ?_
  show wps _ m12 [none, some (false, .fr, .int s), some (b1, g1, .list (dLs ks)), some (b2, g2, .list (dLs ss)), none] _
  have lots : ∀ {ks : List (List Nat)}, Kinds s ks → ∀ k ∈ ks, ∀ x ∈ k, x < 8 := fun {ks} h k hk x hx => Nat.lt_of_lt_of_le ((h.lot k hk).1.lt x hx) h8
  have bts : ∀ {ks : List (List Nat)}, (dLs ks).map (fun x => D.int (bitsN (natsOf x))) = dIs (ks.map bitsN) := fun {ks} => by
    rw [map_dLs]
    unfold dIs
    rw [List.map_map]
    refine List.map_congr_left fun x _ => ?_
    simp only [natsOf_dL, Function.comp_apply]
  have hc0 : (pv (ph (n + 5)) c12_0).e [none, some (false, .fr, .int s), some (b1, g1, .list (dLs ks)), some (b2, g2, .list (dLs ss)), none] = some (.val .ls (dL (ks.map bitsN)), [none, some (false, .fr, .int s), some (b1, g1, .list (dLs ks)), some (b2, g2, .list (dLs ss)), none]) := by
    have := comp_var (Φ := ph (n + 5)) (elt := .call 6 (.cons (.var 4) .nil) .nil [0]) (c := .bool true) (i := 2) (j := 4) (env := [none, some (false, .fr, .int s), some (b1, g1, .list (dLs ks)), some (b2, g2, .list (dLs ss)), none]) (b := b1) (g := g1) (l := dLs ks) (fun _ => true)
      (fun x => D.int (bitsN (natsOf x))) rfl (by decide) (by simp) rfl (fun x hx => by
      obtain ⟨k, hk', rfl⟩ := List.mem_map.mp hx
      have e1 := bits_of_s (n + 4) false .fr k (fun x hx => by have := lots hk k hk' x hx; omega)
      refine ⟨_, rfl, by simp, fun _ => ⟨.val .fr (.int (bitsN k)), .fr, ?_, ?_⟩⟩
      · simp [e1]
      · simp) (by rw [dLs_len]; exact sz8 hk.len)
    rw [filter_true, bts] at this
    exact this
  have hc1 : (pv (ph (n + 5)) c12_1).e [none, some (false, .fr, .int s), some (b1, g1, .list (dLs ks)), some (b2, g2, .list (dLs ss)), none] = some (.val .ls (dL (ss.map bitsN)), [none, some (false, .fr, .int s), some (b1, g1, .list (dLs ks)), some (b2, g2, .list (dLs ss)), none]) := by
    have := comp_var (Φ := ph (n + 5)) (elt := .call 6 (.cons (.var 4) .nil) .nil [0]) (c := .bool true) (i := 3) (j := 4) (env := [none, some (false, .fr, .int s), some (b1, g1, .list (dLs ks)), some (b2, g2, .list (dLs ss)), none]) (b := b2) (g := g2) (l := dLs ss) (fun _ => true)
      (fun x => D.int (bitsN (natsOf x))) rfl (by decide) (by simp) rfl (fun x hx => by
      obtain ⟨k, hk', rfl⟩ := List.mem_map.mp hx
      have e1 := bits_of_s (n + 4) false .fr k (fun x hx => by have := lots hs k hk' x hx; omega)
      refine ⟨_, rfl, by simp, fun _ => ⟨.val .fr (.int (bitsN k)), .fr, ?_, ?_⟩⟩
      · simp [e1]
      · simp) (by rw [dLs_len]; exact sz8 hs.len)
    rw [filter_true, bts] at this
    exact this
  have a1 := want_shelves_s (n + 1) false .fr s h2 h8
  have a2 := are_kinds_s n false .fr g1.nf g1 s ks hk
  have a3 := are_kinds_s n false .fr g2.nf g2 s ss hs
  have a4 := plain_kinds_s (n + 2) false .ls (ks.map bitsN) (by rw [List.length_map]; exact hk.len)
  have a5 := plain_kinds_s (n + 2) false .ls (ss.map bitsN) (by rw [List.length_map]; exact hs.len)
  rw [plain_told (lots hk)] at a4
  rw [plain_told (lots hs)] at a5
  apply wps_seq
  refine wps_ex1 (r := .val .fr .none) (e := [none, some (false, .fr, .int s), some (b1, g1, .list (dLs ks)), some (b2, g2, .list (dLs ss)), none]) (by simp [a1]) ?_
  apply wps_seq
  refine wps_if (p := (false, [none, some (false, .fr, .int s), some (b1, g1, .list (dLs ks)), some (b2, g2, .list (dLs ss)), none])) (by simp [a2]) nofun fun _ => ?_
  apply wps_skip
  apply wps_seq
  refine wps_if (p := (false, [none, some (false, .fr, .int s), some (b1, g1, .list (dLs ks)), some (b2, g2, .list (dLs ss)), none])) (by simp [a3]) nofun fun _ => ?_
  apply wps_skip
  refine wps_init (l := [(.fr, .int s), (.fr, dT ((told ks).map bitsN)), (.fr, dT ((told ss).map bitsN))]) (e := [none, some (false, .fr, .int s), some (b1, g1, .list (dLs ks)), some (b2, g2, .list (dLs ss)), none]) ?_ rfl ?_
  · simp [hc0, hc1, a4, a5]
  · simp [dStore]
end Law
end
section
set_option linter.all false
set_option autoImplicit false
set_option maxRecDepth 20000
namespace Law
open PySem Ev
theorem want_store_s (n : Nat) (b : Bool) (fs : List D) : ph (n + 1) 13 [(b, .fr, .obj 0 fs)] = some ((.fr, .obj 0 fs), [ret b .fr (.obj 0 fs)]) := by
  refine fn_eq (d := d13) rfl rfl rfl ?_
  show wps _ m13 [some (b, .fr, .obj 0 fs)] _
  apply wps_seq
  refine wps_if (p := (false, [some (b, .fr, .obj 0 fs)])) ?_ nofun fun _ => ?_
  · simp [isTys, isTy]
  · apply wps_skip
    apply wps_seq
    exact wps_ret (p := (.var 0 .fr (.obj 0 fs), _)) rfl trivial rfl (by simp [retQ, seqQ])
theorem want_delivery_s (n : Nat) (b b' : Bool) (g' : Fg) (s : Nat) (ks ss : List (List Nat)) (p : Nat) (h : p < (told ks).length) : ph (n + 3) 14 [(b, .fr, dStore s ks ss), (b', g', .int p)] = some ((.fr, .none), [ret b .fr (dStore s ks ss), ret b' g' (.int p)]) := by
  refine fn_eq (d := d14) rfl rfl rfl ?_
  show wps _ m14 [some (b, .fr, dStore s ks ss), some (b', g', .int p)] _
  apply wps_seq
  refine wps_if (p := (false, [some (b, .fr, dStore s ks ss), some (b', g', .int p)])) ?_ nofun fun _ => ?_
  · have : ¬ (((told ks).length : Nat) : Int) ≤ p := by omega
    simp [dStore, this]
  · apply wps_skip
    apply wps_skip
    simp [retQ]
/-- a board, as it is handed in -/
inductive BoardV (l : List Nat) : Fg → D → Prop
  | list (g : Fg) : BoardV l g (dL l)
  | tup : BoardV l .fr (dT l)
structure Board (s : Nat) (l : List Nat) : Prop where
  len : l.length = s
  le : ∀ x ∈ l, x ≤ 60
theorem is_board_of_s (n : Nat) (b b' : Bool) (g' : Fg) (v : D) (s : Nat) (ks ss : List (List Nat)) (l : List Nat) (h : Board s l) (h8 : s ≤ 8) (hv : BoardV l g' v) : ph (n + 3) 15 [(b, .fr, dStore s ks ss), (b', g', v)] = some ((.fr, .bool true), [ret b .fr (dStore s ks ss), ret b' g' v]) := by
  refine fn_eq (d := d15) rfl rfl rfl ?_
  show wps _ m15 [some (b, .fr, dStore s ks ss), some (b', g', v), none] _
  have hlen := h.len
  have hs : (dIs l).length ≤ sizeLine := by rw [dIs_len]; exact sz8 (by omega)
  have hel : ∀ {e : PEnv} {k : Nat}, k ∈ l → e = [some (b, .fr, dStore s ks ss), some (b', g'.lock, v), some (false, .fr, .int k)] → (pv (ph (n + 2)) (.and_ (.call 1 (.cons (.var 2) .nil) .nil [0]) (.cmp .le (.var 2) (.int 60)))).e e = some (.val .fr (.bool true), e) := fun {e k} hk he => by
    have := h.le k hk
    have h60 : (k : Int) ≤ 60 := by omega
    subst he
    simp [h60]
  have hc : (pv (ph (n + 2)) c15_0).e [some (b, .fr, dStore s ks ss), some (b', g', v), none] = some (.val .ls (.list (l.map fun _ => D.bool true)), [some (b, .fr, dStore s ks ss), some (b', g', v), none]) := by
    cases hv with
    | list =>
      have := comp_var (Φ := ph (n + 2)) (elt := .and_ (.call 1 (.cons (.var 2) .nil) .nil [0]) (.cmp .le (.var 2) (.int 60))) (c := .bool true) (i := 1) (j := 2) (env := [some (b, .fr, dStore s ks ss), some (b', g', dL l), none]) (b := b') (g := g') (l := dIs l) (fun _ => true) (fun _ => D.bool true) rfl (by decide) (by simp) rfl (fun x hx => by
        obtain ⟨k, hk, rfl⟩ := List.mem_map.mp hx
        exact ⟨_, rfl, by simp, fun _ => ⟨.val .fr (.bool true), .fr, hel hk rfl, rfl⟩⟩) hs
      rw [filter_true, map_dIs] at this
      exact this
    | tup =>
      have := comp_vart (Φ := ph (n + 2)) (elt := .and_ (.call 1 (.cons (.var 2) .nil) .nil [0]) (.cmp .le (.var 2) (.int 60))) (c := .bool true) (i := 1) (j := 2) (env := [some (b, .fr, dStore s ks ss), some (b', .fr, dT l), none]) (b := b') (l := dIs l) (fun _ => true) (fun _ => D.bool true) rfl (by decide) (by simp) rfl (fun x hx => by
        obtain ⟨k, hk, rfl⟩ := List.mem_map.mp hx
        exact ⟨_, rfl, by simp, fun _ => ⟨.val .fr (.bool true), .fr, hel hk rfl, rfl⟩⟩) hs
      rw [filter_true, map_dIs] at this
      exact this
  apply wps_seq
  refine wps_if (p := (false, [some (b, .fr, dStore s ks ss), some (b', g', v), none])) ?_ nofun fun _ => ?_
  · cases hv with
    | list =>
      have e1 := is_list_l (n + 1) g'.nf g' (dIs l)
      simp [e1, dStore, hlen]
    | tup =>
      have e1 := is_list_t (n + 1) false (dIs l)
      simp [e1, dStore, hlen]
  · apply wps_skip
    apply wps_seq
    refine wps_ret1 (o := .fr) (d := .bool true) (e := [some (b, .fr, dStore s ks ss), some (b', g', v), none]) ?_ ?_
    · simp [hc, dBools_true]
    · simp [seqQ, retQ]
theorem want_board_s (n : Nat) (b b' : Bool) (g' : Fg) (v : D) (s : Nat) (ks ss : List (List Nat)) (l : List Nat) (h : Board s l) (h8 : s ≤ 8) (hv : BoardV l g' v) : ph (n + 4) 16 [(b, .fr, dStore s ks ss), (b', g', v)] = some ((.fr, dT l), [ret b .fr (dStore s ks ss), ret b' g' v]) := by
  refine fn_eq (d := d16) rfl rfl rfl ?_
  show wps _ m16 [some (b, .fr, dStore s ks ss), some (b', g', v)] _
  have e1 := is_board_of_s n false g'.nf g' v s ks ss l h h8 hv
  apply wps_seq
  refine wps_if (p := (false, [some (b, .fr, dStore s ks ss), some (b', g', v)])) (by simp [e1]) nofun fun _ => ?_
  apply wps_skip
  apply wps_seq
  refine wps_ret1 (o := .fr) (d := dT l) (e := [some (b, .fr, dStore s ks ss), some (b', g', v)]) ?_ (by simp [seqQ, retQ])
  cases hv with
  | list => simp
  | tup => simp
theorem want_wished_s (n : Nat) (b b' : Bool) (g' : Fg) (v : D) (s : Nat) (ks ss : List (List Nat)) (l : List Nat) (h : Board s l) (h8 : s ≤ 8) (hv : BoardV l g' v) : ph (n + 4) 17 [(b, .fr, dStore s ks ss), (b', g', v)] = some ((.fr, dT l), [ret b .fr (dStore s ks ss), ret b' g' v]) := by
  refine fn_eq (d := d17) rfl rfl rfl ?_
  show wps _ m17 [some (b, .fr, dStore s ks ss), some (b', g', v)] _
  have e1 := is_board_of_s n false g'.nf g' v s ks ss l h h8 hv
  apply wps_seq
  refine wps_if (p := (false, [some (b, .fr, dStore s ks ss), some (b', g', v)])) (by simp [e1]) nofun fun _ => ?_
  apply wps_skip
  apply wps_seq
  refine wps_ret1 (o := .fr) (d := dT l) (e := [some (b, .fr, dStore s ks ss), some (b', g', v)]) ?_ (by simp [seqQ, retQ])
  cases hv with
  | list => simp
  | tup => simp
/-- the filled shelves -/
def fillN (l : List Nat) : List Nat := (l.zipIdx.filter fun p => decide (0 < p.1)).map (·.2)
theorem mem_fillN (l : List Nat) (i : Nat) : i ∈ fillN l ↔ ∃ v, l[i]? = some v ∧ 0 < v := by
  unfold fillN
  rw [List.mem_map]
  constructor
  · rintro ⟨⟨v, j⟩, h, rfl⟩
    obtain ⟨h1, h2⟩ := List.mem_filter.mp h
    exact ⟨v, (List.mem_zipIdx_iff_getElem?.mp h1), by simpa using h2⟩
  · rintro ⟨v, h1, h2⟩
    exact ⟨(v, i), List.mem_filter.mpr ⟨List.mem_zipIdx_iff_getElem?.mpr h1, by simpa using h2⟩, rfl⟩
theorem mapIdx_dIs (l : List Nat) : ((dIs l).mapIdx fun k x => D.tup [.int k, x]) = l.zipIdx.map fun p => D.tup [.int p.2, dI p.1] := by
  rw [List.mapIdx_eq_zipIdx_map]
  unfold dIs
  rw [List.zipIdx_map, List.map_map]
  rfl
def pairFst : D → D
  | .tup (x :: _) => x
  | _ => .none
def pairPos : D → Bool
  | .tup [_, .int v] => decide (0 < v)
  | _ => false
theorem filled_s (n : Nat) (b : Bool) (l : List Nat) (hl : l.length ≤ 8) : ph (n + 2) 18 [(b, .fr, dT l)] = some ((.fr, .int (bitsN (fillN l))), [ret b .fr (dT l)]) := by
  refine fn_eq (d := d18) rfl rfl rfl ?_
  show wps _ m18 [some (b, .fr, dT l), none, none] _
  have hc : (pv (ph (n + 1)) c18_0).e [some (b, .fr, dT l), none, none] = some (.val .ls (dL (fillN l)), [some (b, .fr, dT l), none, none]) := by
    have := comp_e (Φ := ph (n + 1)) (elt := .var 1) (t := .ttup (.cons (.tname 1) (.cons (.tname 2) .nil))) (it := .ienum (.var 0)) (c := .cmp .gt (.var 2) (.int 0)) (own := [1, 2]) (env := [some (b, .fr, dT l), none, none]) (env' := [some (b, .fr, dT l), none, none])
      (p := ((false, l.zipIdx.map fun p => D.tup [.int p.2, dI p.1], [(0, .fr)]), [some (b, .fr, dT l), none, none])) pairPos pairFst (by simp [← mapIdx_dIs]) (by simp) (fun x hx => by
        obtain ⟨⟨v, i⟩, _, rfl⟩ := List.mem_map.mp hx
        refine ⟨[some (b, .fr, dT l), some (false, .fr, .int i), some (false, .fr, .int v)], [some (b, .fr, dT l), some (false, .fr, .int i), some (false, .fr, .int v)], by simp, by simp [pairPos], fun _ => by simp, fun _ => ⟨.var 1 .fr (.int i), [some (b, .fr, dT l), some (false, .fr, .int i), some (false, .fr, .int v)], .fr, [some (b, .fr, dT l), some (false, .fr, .int i), some (false, .fr, .int v)], rfl, rfl, by simp⟩⟩)
      (by simp; exact sz8 hl) (by simp)
    have e2 : ((l.zipIdx.map fun p => D.tup [.int p.2, dI p.1]).filter pairPos).map pairFst = dIs (fillN l) := by
      unfold fillN dIs
      rw [List.filter_map, List.map_map, List.map_map]
      congr 1
      refine List.filter_congr fun p _ => ?_
      simp [pairPos]
    rw [e2] at this
    exact this
  have e1 := bits_of_s n false .ls (fillN l) (fun x hx => by
    obtain ⟨v, h1, _⟩ := (mem_fillN l x).mp hx
    have := (List.getElem?_eq_some_iff.mp h1).1
    omega)
  apply wps_seq
  refine wps_ret1 (o := .fr) (d := .int (bitsN (fillN l))) (e := [some (b, .fr, dT l), none, none]) ?_ (by simp [seqQ, retQ])
  simp [hc, e1]
def at0 (bd : List Nat) (i : Nat) : Nat := bd.getD i 0
/-- those of the shelves that hold most -/
def mostN (bd l : List Nat) : List Nat := l.filter fun i => at0 bd i == maxN (l.map fun i => at0 bd i)
theorem getD_get {bd : List Nat} {i : Nat} (h : i < bd.length) : bd[i]? = some (at0 bd i) := by
  unfold at0
  rw [List.getD_eq_getElem?_getD, List.getElem?_eq_getElem h]; rfl
theorem map_fun_dIs (l : List Nat) (f : Nat → Nat) : (dIs l).map (fun x => D.int (f (natOf x))) = dIs (l.map f) := by
  unfold dIs
  rw [List.map_map, List.map_map]
  refine List.map_congr_left fun x _ => ?_
  simp
theorem fullest_in_s (n : Nat) (b b1 : Bool) (g1 : Fg) (bd : List Nat) (k : Nat) (h : ∀ i ∈ spots k, i < bd.length) (hn : spots k ≠ []) : ph (n + 2) 19 [(b, .fr, dT bd), (b1, g1, .int k)] = some ((.fr, .int (bitsN (mostN bd (spots k)))), [ret b .fr (dT bd), ret b1 g1 (.int k)]) := by
  refine fn_eq (d := d19) rfl rfl rfl ?_
  show wps _ m19 [some (b, .fr, dT bd), some (b1, g1, .int k), none, none, none] _
  have e0 := spots_of_s n g1.nf g1 k
  have hs : (dIs (spots k)).length ≤ sizeLine := by
    rw [dIs_len]
    refine sz8 ?_
    unfold spots
    exact Nat.le_trans (List.length_filter_le ..) (by simp)
  apply wps_seq
  refine wps_asg1 (e := [some (b, .fr, dT bd), some (b1, g1, .int k), some (false, .fr, dT (spots k)), none, none]) (by simp [e0]) ?_
  have hc1 : (pv (ph (n + 1)) c19_1).e [some (b, .fr, dT bd), some (b1, g1, .int k), some (false, .fr, dT (spots k)), none, none] = some (.val .ls (dL ((spots k).map fun i => at0 bd i)), [some (b, .fr, dT bd), some (b1, g1, .int k), some (false, .fr, dT (spots k)), none, none]) := by
    have := comp_vart (Φ := ph (n + 1)) (elt := .fz (.sub (.var 0) (.var 4))) (c := .bool true) (i := 2) (j := 4) (env := [some (b, .fr, dT bd), some (b1, g1, .int k), some (false, .fr, dT (spots k)), none, none]) (b := false) (l := dIs (spots k)) (fun _ => true) (fun x => D.int (at0 bd (natOf x))) rfl (by decide) (by simp) rfl (fun x hx => by
      obtain ⟨i, hi, rfl⟩ := List.mem_map.mp hx
      refine ⟨_, rfl, by simp, fun _ => ⟨.val .fr (.int (at0 bd i)), .fr, ?_, by simp⟩⟩
      simp [dIs_get, getD_get (h i hi)]) hs
    rw [filter_true, map_fun_dIs (spots k) (fun i => at0 bd i)] at this
    exact this
  apply wps_seq
  refine wps_asg1 (e := [some (b, .fr, dT bd), some (b1, g1, .int k), some (false, .fr, dT (spots k)), some (false, .fr, .int (maxN ((spots k).map fun i => at0 bd i))), none]) ?_ ?_
  · have : (spots k).map (fun i => at0 bd i) ≠ [] := by simpa using hn
    simp only [pv_e_bi, pv_es_cons, pv_es_nil, hc1, Option.bind_some, Option.map_some, pbi_max1, prd_val, biD_max1, dInts_dIs]
    rw [if_neg (by simpa using hn), maxL_ints]
    simp
  have hc0 : (pv (ph (n + 1)) c19_0).e [some (b, .fr, dT bd), some (b1, g1, .int k), some (false, .fr, dT (spots k)), some (false, .fr, .int (maxN ((spots k).map fun i => at0 bd i))), none] = some (.val .ls (dL (mostN bd (spots k))), [some (b, .fr, dT bd), some (b1, g1, .int k), some (false, .fr, dT (spots k)), some (false, .fr, .int (maxN ((spots k).map fun i => at0 bd i))), none]) := by
    have := comp_vart (Φ := ph (n + 1)) (elt := .var 4) (c := .cmp .eq (.fz (.sub (.var 0) (.var 4))) (.var 3)) (i := 2) (j := 4) (env := [some (b, .fr, dT bd), some (b1, g1, .int k), some (false, .fr, dT (spots k)), some (false, .fr, .int (maxN ((spots k).map fun i => at0 bd i))), none]) (b := false) (l := dIs (spots k)) (fun x => at0 bd (natOf x) == maxN ((spots k).map fun i => at0 bd i)) (fun x => x) rfl (by decide) (by simp) rfl (fun x hx => by
      obtain ⟨i, hi, rfl⟩ := List.mem_map.mp hx
      refine ⟨_, rfl, ?_, fun _ => ⟨.var 4 .fr (.int i), .fr, rfl, rfl⟩⟩
      simp [dIs_get, getD_get (h i hi)]
      rw [Bool.eq_iff_iff, beq_iff_eq, beq_iff_eq]
      omega) hs
    rw [dIs_filter (spots k) _ (fun i => at0 bd i == maxN ((spots k).map fun i => at0 bd i)) (fun i => by simp), List.map_id'] at this
    exact this
  have e1 := bits_of_s n false .ls (mostN bd (spots k)) (fun x hx => by
    have := (mem_spots.mp (List.mem_filter.mp hx).1).1
    omega)
  apply wps_seq
  refine wps_ret1 (o := .fr) (d := .int (bitsN (mostN bd (spots k)))) (e := [some (b, .fr, dT bd), some (b1, g1, .int k), some (false, .fr, dT (spots k)), some (false, .fr, .int (maxN ((spots k).map fun i => at0 bd i))), none]) ?_ (by simp [seqQ, retQ])
  simp [hc0, e1]
end Law
end
section
set_option linter.all false
set_option autoImplicit false
set_option maxRecDepth 20000
namespace Law
open PySem Ev
theorem lenOk_le {n : Nat} (h : n ≤ 1000000) : lenOk n = true := decide_eq_true (by unfold sizeLine; omega)
theorem pst_fre2 {env : PEnv} {i : Nat} {o : O} {d : D} {s : PSlot} (h : Fre s) : pst env i o d s = if i < env.length then (fgOf o).map fun g => env.set i (some (false, g, d)) else none := pst_fre h
/-- the first kind with just one shelf left in it -/
def LastR (B : List Nat) (left : Nat) (r : D) : Prop := (r = .none ∧ ∀ k ∈ B, (spots (k &&& left)).length ≠ 1) ∨ ∃ x p k : Nat, r = .tup [.int x, .int p] ∧ k ∈ B ∧ spots (k &&& left) = [x]
theorem mapIdx_dIs2 (l : List Nat) : ((dIs l).mapIdx fun k x => D.tup [.int k, x]) = l.zipIdx.map fun p => D.tup [.int p.2, dI p.1] := mapIdx_dIs l
theorem mem_zip {l : List Nat} {p : Nat × Nat} (h : p ∈ l.zipIdx) : p.1 ∈ l := List.mem_of_getElem? (List.mem_zipIdx_iff_getElem?.mp h)
theorem last_of_s (n : Nat) (b b1 : Bool) (g1 : Fg) (s : Nat) (ks ss : List (List Nat)) (left : Nat) : ∃ r, ph (n + 2) 20 [(b, .fr, dStore s ks ss), (b1, g1, .int left)] = some ((.fr, r), [ret b .fr (dStore s ks ss), ret b1 g1 (.int left)]) ∧ LastR ((told ks).map bitsN) left r := by
  have key : ∃ r, ph (n + 2) 20 [(b, .fr, dStore s ks ss), (b1, g1, .int left)] = some r ∧ ∃ d, r = ((.fr, d), [ret b .fr (dStore s ks ss), ret b1 g1 (.int left)]) ∧ LastR ((told ks).map bitsN) left d := by
    refine fn_ex (d := d20) rfl rfl rfl ?_
    show wps _ m20 [some (b, .fr, dStore s ks ss), some (b1, g1, .int left), none, none, none] _
    apply wps_seq
    refine wps_for (p := ((false, ((told ks).map bitsN).zipIdx.map fun p => D.tup [.int p.2, dI p.1], []), [some (b, .fr, dStore s ks ss), some (b1, g1, .int left), none, none, none]))
      (fun xs e => ∃ dn rs : List (Nat × Nat), ∃ s2 s3 s4, dn ++ rs = ((told ks).map bitsN).zipIdx ∧ (xs = rs.map fun p => D.tup [.int p.2, dI p.1]) ∧ (∀ p ∈ dn, (spots (p.1 &&& left)).length ≠ 1) ∧ Fre s2 ∧ Fre s3 ∧ Fre s4 ∧ e = [some (b, .fr, dStore s ks ss), some (b1, g1, .int left), s2, s3, s4]) ?_ ?_ ?_ ?_
    · simp [dStore, ← mapIdx_dIs]
    · exact ⟨[], _, none, none, none, rfl, rfl, by simp, .none, .none, .none, rfl⟩
    · rintro x xs e ⟨dn, rs, s2, s3, s4, h1, h2, h3, f2, f3, f4, rfl⟩
      cases rs with
      | nil => cases h2
      | cons p rs =>
        obtain ⟨k, i⟩ := p
        cases h2
        have hk : k ∈ (told ks).map bitsN := mem_zip (p := (k, i)) (by rw [← h1]; simp)
        refine ⟨[some (b, .fr, dStore s ks ss), some (b1, g1, .int left), some (false, .fr, .int i), some (false, .fr, .int k), s4], by simp [pst_fre f2, pst_fre f3], ?_⟩
        have e0 := spots_of_s n false .fr (k &&& left)
        apply wps_seq
        refine wps_asg1 (e := [some (b, .fr, dStore s ks ss), some (b1, g1, .int left), some (false, .fr, .int i), some (false, .fr, .int k), some (false, .fr, dT (spots (k &&& left)))]) (by simp [band_nat, e0, pst_fre f4]) ?_
        apply wps_seq
        refine wps_if (p := (decide ((spots (k &&& left)).length = 1), [some (b, .fr, dStore s ks ss), some (b1, g1, .int left), some (false, .fr, .int i), some (false, .fr, .int k), some (false, .fr, dT (spots (k &&& left)))])) ?_ (fun hd => ?_) (fun hd => ?_)
        · simp
          rw [Bool.eq_iff_iff, beq_iff_eq, decide_eq_true_eq]
          omega
        · have hd := of_decide_eq_true hd
          obtain ⟨x, hx⟩ := List.length_eq_one_iff.mp hd
          apply wps_seq
          refine wps_ret1 (o := .fr) (d := .tup [.int x, .int i]) (e := [some (b, .fr, dStore s ks ss), some (b1, g1, .int left), some (false, .fr, .int i), some (false, .fr, .int k), some (false, .fr, dT (spots (k &&& left)))]) ?_ ?_
          · simp [hx, atI, L2.atI, L2.ixN, lenOk_le]
          · simp only [seqQ, loopQ, retQ]
            refine ⟨_, by simp, _, rfl, .inr ⟨x, i, k, rfl, hk, hx⟩⟩
        · have hd := of_decide_eq_false hd
          apply wps_skip
          apply wps_skip
          exact ⟨dn ++ [(k, i)], rs, _, _, _, by rw [← h1]; simp, rfl, fun p hp => by
            rcases List.mem_append.mp hp with q | q
            · exact h3 p q
            · rw [List.mem_singleton.mp q]; exact hd, .some _, .some _, .some _, rfl⟩
    · rintro e ⟨dn, rs, s2, s3, s4, h1, h2, h3, f2, f3, f4, rfl⟩
      have hr : rs = [] := by cases rs with | nil => rfl | cons => cases h2
      subst hr
      apply wps_seq
      refine wps_ret1 (o := .fr) (d := .none) (e := [some (b, .fr, dStore s ks ss), some (b1, g1, .int left), s2, s3, s4]) rfl ?_
      simp only [seqQ, retQ]
      refine ⟨_, by simp, _, rfl, .inl ⟨rfl, fun k hk => ?_⟩⟩
      obtain ⟨i, hi⟩ := List.getElem?_of_mem hk
      refine h3 (k, i) ?_
      rw [List.append_nil] at h1
      rw [h1]
      exact List.mem_zipIdx_iff_getElem?.mpr hi
  obtain ⟨r, h1, d, rfl, h2⟩ := key
  exact ⟨d, h1, h2⟩
/-- peeled, shelf by shelf -/
inductive Peel (B : List Nat) : Nat → Nat → Prop
  | done (l : Nat) : Peel B l l
  | step {l l' x k : Nat} : k ∈ B → spots (k &&& l) = [x] → Peel B (diff l (2 ^ x)) l' → Peel B l l'
theorem Peel.snoc {B : List Nat} {l l' x k : Nat} (h : Peel B l l') (hk : k ∈ B) (hx : spots (k &&& l') = [x]) : Peel B l (diff l' (2 ^ x)) := by
  induction h with
  | done l => exact .step hk hx (.done _)
  | step a b _ ih => exact .step a b (ih hx)
theorem diff_lt {l x : Nat} (h : l.testBit x = true) : diff l (2 ^ x) < l := by
  unfold diff
  have h1 : (l &&& 2 ^ x) ≠ 0 := fun e => by
    have : (l &&& 2 ^ x).testBit x = true := by rw [Nat.testBit_and, h, Nat.testBit_two_pow_self]; rfl
    rw [e] at this
    simp at this
  have h2 : l &&& 2 ^ x ≤ l := Nat.and_le_left
  omega
theorem spot_bit {k l x : Nat} (h : spots (k &&& l) = [x]) : x < 8 ∧ k.testBit x = true ∧ l.testBit x = true := by
  have : x ∈ spots (k &&& l) := by rw [h]; simp
  obtain ⟨h1, h2⟩ := mem_spots.mp this
  rw [Nat.testBit_and, Bool.and_eq_true] at h2
  exact ⟨h1, h2.1, h2.2⟩
theorem inv_shl {x : Nat} (left : Nat) : Builtin.bitAnd (left : Int) (Builtin.bitNot (2 ^ x)) = ((diff left (2 ^ x) : Nat) : Int) := by
  have := bnand_nat left (2 ^ x)
  simpa using this
theorem peeled_s (n : Nat) (b b1 : Bool) (s : Nat) (ks ss : List (List Nat)) (l : List Nat) (hl : l.length ≤ 8) (hb : bitsN (fillN l) < 256) : ∃ row left, ph (n + 3) 21 [(b, .fr, dStore s ks ss), (b1, .fr, dT l)] = some ((.fr, .tup [row, .int ((left : Nat) : Int)]), [ret b .fr (dStore s ks ss), ret b1 .fr (dT l)]) ∧ Peel ((told ks).map bitsN) (bitsN (fillN l)) left ∧ (left = 0 ∨ ∀ k ∈ (told ks).map bitsN, (spots (k &&& left)).length ≠ 1) := by
  have key : ∃ r, ph (n + 3) 21 [(b, .fr, dStore s ks ss), (b1, .fr, dT l)] = some r ∧ ∃ row left, r = ((.fr, .tup [row, .int ((left : Nat) : Int)]), [ret b .fr (dStore s ks ss), ret b1 .fr (dT l)]) ∧ Peel ((told ks).map bitsN) (bitsN (fillN l)) left ∧ (left = 0 ∨ ∀ k ∈ (told ks).map bitsN, (spots (k &&& left)).length ≠ 1) := by
    refine fn_ex (d := d21) rfl rfl rfl ?_
    show wps _ m21 [some (b, .fr, dStore s ks ss), some (b1, .fr, dT l), none, none, none] _
    have e0 := filled_s n false l hl
    apply wps_seq
    refine wps_par (p := ([(.ls, .list []), (.fr, .int (bitsN (fillN l)))], [some (b, .fr, dStore s ks ss), some (b1, .fr, dT l), none, none, none])) (e := [some (b, .fr, dStore s ks ss), some (b1, .fr, dT l), some (false, .ls, .list []), some (false, .fr, .int (bitsN (fillN l))), none]) (by simp [e0, lenOk, sizeLine]) (by decide) (by simp [psetNs]) ?_
    apply wps_seq
    refine wps_while (fun m e => ∃ (row : List D) (left : Nat) (s4 : PSlot), m = left ∧ row.length + left ≤ 256 ∧ Peel ((told ks).map bitsN) (bitsN (fillN l)) left ∧ Fre s4 ∧ e = [some (b, .fr, dStore s ks ss), some (b1, .fr, dT l), some (false, .ls, .list row), some (false, .fr, .int left), s4]) (bitsN (fillN l)) ?_ ?_
    · exact ⟨[], _, none, rfl, by simp; omega, .done _, .none, rfl⟩
    · rintro m e ⟨row, left, s4, rfl, hr, hp, f4, rfl⟩
      refine ⟨decide (m ≠ 0), [some (b, .fr, dStore s ks ss), some (b1, .fr, dT l), some (false, .ls, .list row), some (false, .fr, .int m), s4], ?_, fun hk => ?_, fun hk => ?_⟩
      · simp
        rw [Bool.eq_iff_iff]
        simp
      · have hm := of_decide_eq_true hk
        obtain ⟨r, e1, hr1⟩ := last_of_s n false false .fr s ks ss m
        apply wps_seq
        refine wps_asg1 (e := [some (b, .fr, dStore s ks ss), some (b1, .fr, dT l), some (false, .ls, .list row), some (false, .fr, .int m), some (false, .fr, r)]) (by simp [e1, pst_fre f4]) ?_
        apply wps_seq
        rcases hr1 with ⟨rfl, hn⟩ | ⟨x, p, k, rfl, hk1, hk2⟩
        · refine wps_if (p := (true, [some (b, .fr, dStore s ks ss), some (b1, .fr, dT l), some (false, .ls, .list row), some (false, .fr, .int m), some (false, .fr, .none)])) (by simp [isNone]) (fun _ => ?_) nofun
          apply wps_seq
          refine wps_ret1 (o := .fr) (d := .tup [.list row, .int m]) (e := [some (b, .fr, dStore s ks ss), some (b1, .fr, dT l), some (false, .fr, .list row), some (false, .fr, .int m), some (false, .fr, .none)]) (by simp [lenOk, sizeLine]) ?_
          simp only [seqQ, loopQ, retQ]
          exact ⟨_, by simp, _, _, rfl, hp, .inr hn⟩
        · refine wps_if (p := (false, [some (b, .fr, dStore s ks ss), some (b1, .fr, dT l), some (false, .ls, .list row), some (false, .fr, .int m), some (false, .fr, .tup [.int x, .int p])])) (by simp [isNone]) nofun fun _ => ?_
          apply wps_skip
          apply wps_seq
          obtain ⟨hx8, _, hxl⟩ := spot_bit hk2
          refine wps_asg1 (e := [some (b, .fr, dStore s ks ss), some (b1, .fr, dT l), some (false, .ls, .list (.tup [.int x, .int p] :: row)), some (false, .fr, .int m), some (false, .fr, .tup [.int x, .int p])]) ?_ ?_
          · have h1 : lenOk (1 + row.length) = true := lenOk_le (by omega)
            have h2 : lenOk (row.length + 1) = true := lenOk_le (by omega)
            have h3 : lenOk 1 = true := lenOk_le (by omega)
            simp [h1, h2, h3]
          apply wps_seq
          have hx1000 : x ≤ 1000 := by omega
          refine wps_asg1 (e := [some (b, .fr, dStore s ks ss), some (b1, .fr, dT l), some (false, .ls, .list (.tup [.int x, .int p] :: row)), some (false, .fr, .int (diff m (2 ^ x))), some (false, .fr, .tup [.int x, .int p])]) ?_ ?_
          · have a0 : atI [D.int x, .int p] 0 = some (D.int x) := rfl
            simp [a0, shl1 hx1000, inv_shl]
          apply wps_skip
          have hlt := diff_lt hxl
          exact ⟨diff m (2 ^ x), hlt, _, _, _, rfl, by simp; omega, hp.snoc hk1 hk2, .some _, rfl⟩
      · have hm : m = 0 := by simpa using hk
        subst hm
        apply wps_seq
        refine wps_ret1 (o := .fr) (d := .tup [.list row, .int ((0 : Nat) : Int)]) (e := [some (b, .fr, dStore s ks ss), some (b1, .fr, dT l), some (false, .fr, .list row), some (false, .fr, .int ((0 : Nat) : Int)), s4]) (by simp [lenOk, sizeLine]) ?_
        simp only [seqQ, retQ]
        exact ⟨_, by simp, _, _, rfl, hp, .inl rfl⟩
  obtain ⟨r, h1, row, left, rfl, h2⟩ := key
  exact ⟨row, left, h1, h2⟩
end Law
end
section
set_option linter.all false
set_option autoImplicit false
set_option maxRecDepth 20000
namespace Law
open PySem Ev
theorem srt_self {l : List Nat} (h : l.Pairwise (· < ·)) (h8 : ∀ x ∈ l, x < 8) : srt l = l := upN_eq (srt_up l) h fun x => by rw [mem_srt]; exact ⟨fun z => z.2, fun z => ⟨h8 x z, z⟩⟩
theorem srt_srt (l : List Nat) : srt (srt l) = srt l := srt_self (srt_up l) fun x hx => (mem_srt.mp hx).1
/-- a told kind -/
theorem told_kind {s : Nat} {ks : List (List Nat)} (hk : Kinds s ks) (h8 : s ≤ 8) {K : List Nat} (h : K ∈ told ks) : spots (bitsN K) = K ∧ K ≠ [] ∧ (∀ x ∈ K, x < s) ∧ K.Pairwise (· < ·) := by
  obtain ⟨k, hk1, rfl⟩ := ((told_up ks).2 K).mp h
  have hl := (hk.lot k hk1)
  refine ⟨by rw [spots_bits, srt_srt], fun e => ?_, fun x hx => hl.1.lt x (mem_srt.mp hx).2, srt_up k⟩
  obtain ⟨x, hx⟩ := List.exists_mem_of_ne_nil k hl.2
  have : x ∈ srt k := mem_srt.mpr ⟨Nat.lt_of_lt_of_le (hl.1.lt x hx) h8, hx⟩
  rw [e] at this
  exact nomatch this
theorem most_shelves_s (n : Nat) (b b1 b2 : Bool) (g1 g2 : Fg) (v : D) (s : Nat) (ks ss : List (List Nat)) (l : List Nat) (p : Nat) (K : List Nat) (hk : Kinds s ks) (h : Board s l) (h8 : s ≤ 8) (hv : BoardV l g1 v) (hp : (told ks)[p]? = some K) :
    ph (n + 5) 22 [(b, .fr, dStore s ks ss), (b1, g1, v), (b2, g2, .int p)] = some ((.ls, dL (mostN l K)), [ret b .fr (dStore s ks ss), ret b1 g1 v, ret b2 g2 (.int p)]) := by
  refine fn_eq (d := d22) rfl rfl rfl ?_
  show wps _ m22 [some (b, .fr, dStore s ks ss), some (b1, g1, v), some (b2, g2, .int p), none] _
  have hpl : p < (told ks).length := (List.getElem?_eq_some_iff.mp hp).1
  obtain ⟨t1, t2, t3, t4⟩ := told_kind hk h8 (List.mem_of_getElem? hp)
  have e1 := want_store_s (n + 3) false [.int s, dT ((told ks).map bitsN), dT ((told ss).map bitsN)]
  have e2 := want_board_s n false g1.nf g1 v s ks ss l h h8 hv
  have e3 := want_delivery_s (n + 1) false g2.nf g2 s ks ss p hpl
  have e4 := fullest_in_s (n + 2) false false .fr l (bitsN K) (by rw [t1, h.len]; exact t3) (by rw [t1]; exact t2)
  rw [t1] at e4
  have e5 := told_lot_s (n + 2) false .fr (bitsN (mostN l K))
  have e6 : spots (bitsN (mostN l K)) = mostN l K := by
    rw [spots_bits]
    exact srt_self (t4.filter _) fun x hx => Nat.lt_of_lt_of_le (t3 x (List.mem_filter.mp hx).1) h8
  rw [e6] at e5
  apply wps_seq
  refine wps_ex1 (r := .val .fr (dStore s ks ss)) (e := [some (b, .fr, dStore s ks ss), some (b1, g1, v), some (b2, g2, .int p), none]) (by simp [dStore, e1]) ?_
  apply wps_seq
  refine wps_asg1 (e := [some (b, .fr, dStore s ks ss), some (b1, g1, v), some (b2, g2, .int p), some (false, .fr, dT l)]) (by simp [e2]) ?_
  apply wps_seq
  refine wps_ex1 (r := .val .fr .none) (e := [some (b, .fr, dStore s ks ss), some (b1, g1, v), some (b2, g2, .int p), some (false, .fr, dT l)]) (by simp [e3]) ?_
  apply wps_seq
  refine wps_ret1 (o := .ls) (d := dL (mostN l K)) (e := [some (b, .fr, dStore s ks ss), some (b1, g1, v), some (b2, g2, .int p), some (false, .fr, dT l)]) ?_ (by simp [seqQ, retQ])
  have hB : (dIs ((told ks).map bitsN))[p]? = some (D.int (bitsN K)) := by
    rw [dIs_get, List.getElem?_map, hp]; rfl
  simp [dStore, hB, e4, e5]
theorem bits_lt {l : List Nat} (h : ∀ x ∈ l, x < 8) : bitsN l < 256 := by
  have : bitsN l < 2 ^ 8 := by
    apply Nat.lt_pow_two_of_testBit
    intro i hi
    rw [testBit_bitsN, decide_eq_false_iff_not]
    intro hm
    have := h i hm
    omega
  simpa using this
theorem comes_s (n : Nat) (b b1 : Bool) (g1 : Fg) (v : D) (s : Nat) (ks ss : List (List Nat)) (l : List Nat) (h : Board s l) (h8 : s ≤ 8) (hv : BoardV l g1 v) : ∃ left, ph (n + 5) 23 [(b, .fr, dStore s ks ss), (b1, g1, v)] = some ((.fr, .bool (decide (left = 0))), [ret b .fr (dStore s ks ss), ret b1 g1 v]) ∧ Peel ((told ks).map bitsN) (bitsN (fillN l)) left ∧ (left = 0 ∨ ∀ k ∈ (told ks).map bitsN, (spots (k &&& left)).length ≠ 1) := by
  have hf : bitsN (fillN l) < 256 := bits_lt fun x hx => by
    obtain ⟨v, h1, _⟩ := (mem_fillN l x).mp hx
    have := (List.getElem?_eq_some_iff.mp h1).1
    have := h.len
    omega
  obtain ⟨row, left, e3, h3⟩ := peeled_s (n + 1) false false s ks ss l (by rw [h.len]; exact h8) hf
  refine ⟨left, ?_, h3⟩
  refine fn_eq (d := d23) rfl rfl rfl ?_
  show wps _ m23 [some (b, .fr, dStore s ks ss), some (b1, g1, v)] _
  have e1 := want_store_s (n + 3) false [.int s, dT ((told ks).map bitsN), dT ((told ss).map bitsN)]
  have e2 := want_wished_s n false g1.nf g1 v s ks ss l h h8 hv
  apply wps_seq
  refine wps_ex1 (r := .val .fr (dStore s ks ss)) (e := [some (b, .fr, dStore s ks ss), some (b1, g1, v)]) (by simp [dStore, e1]) ?_
  apply wps_seq
  refine wps_ret1 (o := .fr) (d := .bool (decide (left = 0))) (e := [some (b, .fr, dStore s ks ss), some (b1, g1, v)]) ?_ (by simp [seqQ, retQ])
  have a1 : atI [row, D.int ((left : Nat) : Int)] 1 = some (.int (left : Nat)) := rfl
  simp [e2, e3, a1]
  rw [Bool.eq_iff_iff, beq_iff_eq, decide_eq_true_eq]
  omega
/-- the drawn numbers' pot -/
def Pot (d : D) : Prop := ∃ a b : Nat, d = .list [.int a, .int b] ∧ b < 2147483648
theorem mul_small {i j : Int} (h : 0 ≤ j) (h2 : j < 2 ^ 64) : binI .mul i j = some (i * j) := by
  show (if (small i || small j) = true then some (i * j) else none) = _
  have : small j = true := by unfold small; simp; omega
  rw [this, Bool.or_true, if_pos rfl]
theorem mod_pos {i j : Int} (h : 0 < j) : binI .mod i j = some (i % j) := by
  show (if 0 < j then some (i % j) else none) = _
  rw [if_pos h]
theorem fdiv_pos {i j : Int} (h : 0 < j) (h2 : j < 1073741824) : binI .fdiv i j = some (i / j) := by
  show (if (decide (0 < j) && decide (j < 1073741824)) = true then some (i / j) else none) = _
  rw [if_pos (by simp [h, h2])]
theorem at20 (x y : D) : atI [x, y] 0 = some x := rfl
theorem at21 (x y : D) : atI [x, y] 1 = some y := rfl
theorem ix20 : L2.ixN 2 0 = some 0 := rfl
theorem ix21 : L2.ixN 2 1 = some 1 := rfl
theorem dr1 (c q : Nat) (hq' : (c * 48271 + 109) % 2147483587 = q) : binI .mod ((c : Int) * 48271 + 109) 2147483587 = some (q : Int) := by
  rw [mod_pos (by decide)]
  exact congrArg some (by omega)
theorem dr2 (q m : Nat) : (((q * q % 2147483549 / 13 % m : Nat)) : Int) = (q : Int) * q % 2147483549 / 13 % m := by
      have h0 : ((q * q : Nat) : Int) = (q : Int) * q := Int.natCast_mul q q
      rw [← h0]
      generalize q * q = t
      have h1 : ((t % 2147483549 / 13 : Nat) : Int) = (t : Int) % 2147483549 / 13 := by omega
      rw [← h1]
      exact Int.natCast_emod _ _
theorem dr3 (c : Nat) : (c * 48271 + 109) % 2147483587 < 2147483587 := Nat.mod_lt (c * 48271 + 109) (y := 2147483587) (by decide)
theorem dr4 (q : Int) : binI .mod (q * q) 2147483549 = some ((q : Int) * q % 2147483549) := mod_pos (by decide)
theorem dr5 (c : Int) : binI .mul (c : Int) 48271 = some ((c : Int) * 48271) := mul_small (by decide) (by decide)
theorem dr6 (q : Nat) (h : q < 2147483587) : binI .mul (q : Int) (q : Int) = some ((q : Int) * q) := mul_small (by omega) (by omega)
theorem dr7 (q : Int) : binI .fdiv (q * q % 2147483549) 13 = some (q * q % 2147483549 / 13) := fdiv_pos (by decide) (by decide)
theorem dr8 (q : Int) (m : Nat) (hm : 0 < m) : binI .mod (q * q % 2147483549 / 13) m = some (q * q % 2147483549 / 13 % m) := mod_pos (by omega)
theorem draw_s (n : Nat) (b1 : Bool) (g1 : Fg) (d : D) (m : Nat) (hd : Pot d) (hm : 0 < m) (hm2 : m < 1073741824) : ∃ d' r, Pot d' ∧ r < m ∧ ph (n + 1) 25 [(true, .ls, d), (b1, g1, .int m)] = some ((.fr, .int (r : Nat)), [(.ls, d'), ret b1 g1 (.int m)]) := by
  obtain ⟨a, c, rfl, hc⟩ := hd
  by_cases ha : 0 < a
  · refine ⟨.list [.int ((a / m : Nat) : Int), .int c], a % m, ⟨a / m, c, rfl, hc⟩, Nat.mod_lt _ hm, ?_⟩
    refine fn_eq (d := d25) rfl rfl rfl ?_
    show wps _ m25 [some (true, .ls, .list [.int a, .int c]), some (b1, g1, .int m), none] _
    apply wps_seq
    refine wps_if (p := (true, [some (true, .ls, .list [.int a, .int c]), some (b1, g1, .int m), none])) (by simp [at20, ha]) (fun _ => ?_) nofun
    apply wps_seq
    refine wps_asg1 (e := [some (true, .ls, .list [.int ((a / m : Nat) : Int), .int c]), some (b1, g1, .int m), some (false, .fr, .int ((a % m : Nat) : Int))]) ?_ ?_
    · simp [at20, hm, ix20, show (m : Int) < 1073741824 by omega]
    · apply wps_seq
      exact wps_ret (p := (.var 2 .fr (.int ((a % m : Nat) : Int)), _)) rfl trivial rfl (by simp [seqQ, retQ])
  · have ha0 : a = 0 := by omega
    subst ha0
    obtain ⟨q, hq', hq⟩ : ∃ q, (c * 48271 + 109) % 2147483587 = q ∧ q < 2147483587 := ⟨_, rfl, dr3 c⟩
    obtain ⟨rr, hr, hrm⟩ : ∃ rr : Nat, (rr : Int) = (q : Int) * q % 2147483549 / 13 % m ∧ rr < m := ⟨_, dr2 q m, Nat.mod_lt _ hm⟩
    refine ⟨.list [.int ((0 : Nat) : Int), .int (q : Nat)], rr, ⟨0, q, rfl, by omega⟩, hrm, ?_⟩
    refine fn_eq (d := d25) rfl rfl rfl ?_
    show wps _ m25 [some (true, .ls, .list [.int ((0 : Nat) : Int), .int c]), some (b1, g1, .int m), none] _
    apply wps_seq
    refine wps_if (p := (false, [some (true, .ls, .list [.int ((0 : Nat) : Int), .int c]), some (b1, g1, .int m), none])) (by simp [at20]) nofun fun _ => ?_
    apply wps_skip
    apply wps_seq
    refine wps_asg1 (e := [some (true, .ls, .list [.int ((0 : Nat) : Int), .int (q : Nat)]), some (b1, g1, .int m), none]) ?_ ?_
    · obtain ⟨z, e1, e2⟩ : ∃ z, binI .mul (c : Int) 48271 = some z ∧ binI .mod (z + 109) 2147483587 = some (q : Int) := ⟨_, dr5 c, dr1 c q hq'⟩
      simp -implicitDefEqProofs [at21, e1, e2, ix21]
    apply wps_seq
    refine wps_ret1 (o := .fr) (d := .int (rr : Nat)) (e := [some (true, .ls, .list [.int ((0 : Nat) : Int), .int (q : Nat)]), some (b1, g1, .int m), none]) ?_ (by simp [seqQ, retQ])
    obtain ⟨z1, z2, z3, e1, e2, e3, e4⟩ : ∃ z1 z2 z3, binI .mul (q : Int) (q : Int) = some z1 ∧ binI .mod z1 2147483549 = some z2 ∧ binI .fdiv z2 13 = some z3 ∧ binI .mod z3 m = some (rr : Int) := ⟨_, _, _, dr6 q hq, dr4 q, dr7 q, by rw [hr]; exact dr8 q m hm⟩
    simp -implicitDefEqProofs [at21, e1, e2, e3, e4]
theorem dInts_int : ∀ l : List Int, dInts (l.map D.int) = some l
  | [] => rfl
  | x :: l => by show (dInts (l.map D.int)).map _ = _; rw [dInts_int l]; rfl
theorem pot_s (n : Nat) (ns : List Int) : ∃ d, Pot d ∧ ph (n + 1) 24 [(false, .fr, .scr ns), (false, .fr, .int 0)] = some ((.ls, d), [(.fr, .none), (.fr, .none)]) := by
  have key : ∃ r, ph (n + 1) 24 [(false, .fr, .scr ns), (false, .fr, .int 0)] = some r ∧ ∃ d, Pot d ∧ r = ((.ls, d), [(.fr, .none), (.fr, .none)]) := by
    refine fn_ex (d := d24) rfl rfl rfl ?_
    show wps _ m24 [some (false, .fr, .scr ns), some (false, .fr, .int 0), none] _
    have m0 : binI .mul 409 0 = some 0 := rfl
    have m1 : ∀ i : Int, binI .mod i 1000003 = some (i % 1000003) := fun i => mod_pos (by decide)
    apply wps_seq
    refine wps_asg1 (e := [some (false, .fr, .scr ns), some (false, .fr, .int 0), some (false, .fr, .int (0 + 769 + (cut ns none (some 1)).sum % 1000003))]) (by simp [m0, m1, dInts_int]) ?_
    have fin : ∀ c : Int, 0 ≤ c → wps (ph n) (.seq (.ret (.list (.cons (.bi .max2 (.cons (.int 0) (.cons (.bin .sub (.var 2) (.bin .pow (.int 10) (.int 18))) .nil))) (.cons (.bin .add (.bin .mod (.bin .mul (.bin .add (.bin .mod (.var 2) (.int 2147483549)) (.int 109)) (.bin .pow (.bin .add (.bin .mul (.int 2) (.var 1)) (.int 81)) (.int 3))) (.int 2147483477)) (.int 1)) .nil)))) .skip)
        [some (false, .fr, .scr ns), some (false, .fr, .int 0), some (false, .fr, .int c)] (retQ [(false, .fr, .scr ns), (false, .fr, .int 0)] (fun r => ∃ d, Pot d ∧ r = ((.ls, d), [(.fr, .none), (.fr, .none)]))) := fun c hc => by
      apply wps_seq
      have p1 : binI .pow 10 18 = some 1000000000000000000 := rfl
      have p2 : binI .mul 2 0 = some 0 := rfl
      have p3 : binI .pow 81 3 = some 531441 := rfl
      have p4 : binI .mod c 2147483549 = some (c % 2147483549) := mod_pos (by decide)
      have p5 : binI .mul (c % 2147483549 + 109) 531441 = some ((c % 2147483549 + 109) * 531441) := mul_small (by decide) (by decide)
      have p6 : binI .mod ((c % 2147483549 + 109) * 531441) 2147483477 = some ((c % 2147483549 + 109) * 531441 % 2147483477) := mod_pos (by decide)
      refine wps_ret1 (o := .ls) (d := .list [.int (if c - 1000000000000000000 > 0 then c - 1000000000000000000 else 0), .int ((c % 2147483549 + 109) * 531441 % 2147483477 + 1)]) (e := [some (false, .fr, .scr ns), some (false, .fr, .int 0), some (false, .fr, .int c)]) ?_ ?_
      · simp [p1, p2, p3, p4, p5, p6, lenOk_le]
      · simp only [seqQ, retQ]
        refine ⟨_, by simp, _, ⟨(if c - 1000000000000000000 > 0 then c - 1000000000000000000 else 0).toNat, ((c % 2147483549 + 109) * 531441 % 2147483477 + 1).toNat, ?_, ?_⟩, rfl⟩
        · congr 2
          · congr 1
            split <;> omega
          · congr 2
            omega
        · omega
    apply wps_seq
    by_cases hl : ns = []
    · subst hl
      refine wps_if (p := (false, [some (false, .fr, .scr []), some (false, .fr, .int 0), some (false, .fr, .int (0 + 769 + (cut ([] : List Int) none (some 1)).sum % 1000003))])) (by simp) nofun fun _ => ?_
      apply wps_skip
      refine fin _ ?_
      omega
    · obtain ⟨x, r, rfl⟩ := List.exists_cons_of_ne_nil hl
      refine wps_if (p := (true, [some (false, .fr, .scr (x :: r)), some (false, .fr, .int 0), some (false, .fr, .int (0 + 769 + (cut (x :: r) none (some 1)).sum % 1000003))])) (by simp) (fun _ => ?_) nofun
      apply wps_seq
      have a0 : atI (x :: r) 0 = some x := by
        have := atI_nat (x :: r) 0
        simpa using this
      refine wps_asg1 (e := [some (false, .fr, .scr (x :: r)), some (false, .fr, .int 0), some (false, .fr, .int (if x < 0 then -x else x))]) (by simp [a0]) ?_
      apply wps_skip
      refine fin _ ?_
      split <;> omega
  obtain ⟨r, h1, d, hd, rfl⟩ := key
  exact ⟨d, hd, h1⟩
end Law
end
section
set_option linter.all false
set_option autoImplicit false
set_option maxRecDepth 20000
namespace Law
open PySem Ev
theorem pick_s (n : Nat) (b : Bool) (g : Fg) (d : D) (l : List D) (hd : Pot d) (hl : l ≠ []) (hl2 : l.length < 1073741824) : ∃ d' x, Pot d' ∧ x ∈ l ∧ ph (n + 2) 26 [(true, .ls, d), (b, g, .list l)] = some ((.fr, x), [(.ls, d'), ret b g (.list l)]) := by
  have hpos : 0 < l.length := List.length_pos_iff.mpr hl
  obtain ⟨d', r, h1, h2, h3⟩ := draw_s n false .fr d l.length hd hpos hl2
  refine ⟨d', l[r], h1, List.getElem_mem h2, ?_⟩
  refine fn_eq (d := d26) rfl rfl rfl ?_
  show wps _ m26 [some (true, .ls, d), some (b, g, .list l)] _
  apply wps_seq
  refine wps_ret1 (o := .fr) (d := l[r]) (e := [some (true, .ls, d'), some (b, g, .list l)]) ?_ (by simp [seqQ, retQ])
  simp [h3, List.getElem?_eq_getElem h2]
/-- a slot that a loop may store, whatever stood there -/
def Fre2 (s : PSlot) : Prop := s = none ∨ ∃ g x, g ≠ Fg.lk ∧ s = some (false, g, x)
theorem Fre2.none : Fre2 none := .inl rfl
theorem Fre2.fr (x : D) : Fre2 (some (false, .fr, x)) := .inr ⟨.fr, x, nofun, rfl⟩
theorem Fre2.ls (x : D) : Fre2 (some (false, .ls, x)) := .inr ⟨.ls, x, nofun, rfl⟩
theorem pst_fre3 {env : PEnv} {i : Nat} {o : O} {d : D} {s : PSlot} (h : Fre2 s) : pst env i o d s = if i < env.length then (fgOf o).map fun g => env.set i (some (false, g, d)) else none := by
  rcases h with rfl | ⟨g, x, hg, rfl⟩
  · rfl
  · cases g <;> first | rfl | exact absurd rfl hg
theorem rng_nat {r : Nat} (h : r ≤ 1000) : rngOk (r : Int) = true := by
  unfold rngOk
  rw [decide_eq_true (by omega), decide_eq_true (by omega)]; rfl
theorem nil_eq (kl : List Nat) : eqD (dL kl) (.list []) = some (decide (kl = [])) := eqD_dL kl []
theorem szL {n : Nat} (h : n ≤ 1000) : n < sizeLine := by unfold sizeLine; omega
theorem kinds_s (n : Nat) (dd : D) (s m : Nat) (hd : Pot dd) (h2 : 2 ≤ s) (h8 : s ≤ 8) (hm : m ≤ 7) : ∃ d' ks, Pot d' ∧ Kinds s ks ∧ ks.length ≤ m ∧ ph (n + 2) 27 [(true, .ls, dd), (false, .fr, .int s), (false, .fr, .int m)] = some ((.ls, .list (dLs ks)), [(.ls, d'), (.fr, .none), (.fr, .none)]) := by
  have key : ∃ r, ph (n + 2) 27 [(true, .ls, dd), (false, .fr, .int s), (false, .fr, .int m)] = some r ∧ ∃ d' ks, Pot d' ∧ Kinds s ks ∧ ks.length ≤ m ∧ r = ((.ls, .list (dLs ks)), [(.ls, d'), (.fr, .none), (.fr, .none)]) := by
    refine fn_ex (d := d27) rfl rfl rfl ?_
    show wps _ m27 [some (true, .ls, dd), some (false, .fr, .int s), some (false, .fr, .int m), none, none, none, none] _
    apply wps_seq
    refine wps_asg1 (e := [some (true, .ls, dd), some (false, .fr, .int s), some (false, .fr, .int m), some (false, .ls, .list []), none, none, none]) (by simp -implicitDefEqProofs [lenOk_le]) ?_
    apply wps_seq
    obtain ⟨d1, r, p1, hr, e1⟩ := draw_s n false .fr dd (m + 1) hd (by omega) (by omega)
    have e1' : ph (n + 1) 25 [(true, .ls, dd), (false, .fr, .int ((m : Int) + 1))] = some ((.fr, .int (r : Nat)), [(.ls, d1), (.fr, .none)]) := by
      have := e1
      simpa using this
    refine wps_for (p := ((false, rngL 0 r, []), [some (true, .ls, d1), some (false, .fr, .int s), some (false, .fr, .int m), some (false, .ls, .list []), none, none, none]))
      (fun xs e => ∃ d ks s4 s5 s6, Pot d ∧ (∀ k ∈ ks, Lot s k ∧ k ≠ []) ∧ ks.length + xs.length ≤ m ∧ Fre s4 ∧ Fre2 s5 ∧ Fre s6 ∧ e = [some (true, .ls, d), some (false, .fr, .int s), some (false, .fr, .int m), some (false, .ls, .list (dLs ks)), s4, s5, s6]) ?_ ?_ ?_ ?_
    · have hr' : rngOk ((r : Nat) : Int) = true := rng_nat (by omega)
      simp -implicitDefEqProofs [e1', hr']
    · exact ⟨d1, [], none, none, none, p1, by simp, by simp -implicitDefEqProofs [rngL]; omega, .none, .none, .none, rfl⟩
    · rintro x xs e ⟨d, ks, s4, s5, s6, hp, hks, hl, f4, f5, f6, rfl⟩
      refine ⟨[some (true, .ls, d), some (false, .fr, .int s), some (false, .fr, .int m), some (false, .ls, .list (dLs ks)), some (false, .fr, x), s5, s6], by simp -implicitDefEqProofs [pst_fre f4], ?_⟩
      apply wps_seq
      refine wps_asg1 (e := [some (true, .ls, d), some (false, .fr, .int s), some (false, .fr, .int m), some (false, .ls, .list (dLs ks)), some (false, .fr, x), some (false, .ls, .list []), s6]) (by simp -implicitDefEqProofs [lenOk_le, pst_fre3 f5]) ?_
      apply wps_seq
      refine wps_for (p := ((false, dIs (List.range s), []), [some (true, .ls, d), some (false, .fr, .int s), some (false, .fr, .int m), some (false, .ls, .list (dLs ks)), some (false, .fr, x), some (false, .ls, .list []), s6]))
        (fun xs e => ∃ d kl dn rs s6, Pot d ∧ dn ++ rs = List.range s ∧ xs = dIs rs ∧ kl.Sublist dn ∧ Fre s6 ∧ e = [some (true, .ls, d), some (false, .fr, .int s), some (false, .fr, .int m), some (false, .ls, .list (dLs ks)), some (false, .fr, x), some (false, .ls, dL kl), s6]) ?_ ?_ ?_ ?_
      · have hr' : rngOk ((s : Nat) : Int) = true := rng_nat (by omega)
        simp -implicitDefEqProofs [hr', rngL_nat]
      · exact ⟨d, [], [], List.range s, s6, hp, rfl, rfl, List.Sublist.slnil, f6, rfl⟩
      · rintro y ys e ⟨d, kl, dn, rs, s6, hp, h1, h3, h4, f6, rfl⟩
        cases rs with
        | nil => cases h3
        | cons z rs =>
          cases h3
          have hz : z < s := List.mem_range.mp (by rw [← h1]; simp)
          refine ⟨[some (true, .ls, d), some (false, .fr, .int s), some (false, .fr, .int m), some (false, .ls, .list (dLs ks)), some (false, .fr, x), some (false, .ls, dL kl), some (false, .fr, .int z)], by simp -implicitDefEqProofs [pst_fre f6], ?_⟩
          obtain ⟨d2, q, p2, hq, e2⟩ := draw_s n false .fr d 2 hp (by decide) (by decide)
          have e2' : ph (n + 1) 25 [(true, .ls, d), (false, .fr, .int 2)] = some ((.fr, .int (q : Nat)), [(.ls, d2), (.fr, .none)]) := by simpa using e2
          apply wps_seq
          refine wps_if (p := (decide (q = 0), [some (true, .ls, d2), some (false, .fr, .int s), some (false, .fr, .int m), some (false, .ls, .list (dLs ks)), some (false, .fr, x), some (false, .ls, dL kl), some (false, .fr, .int z)])) ?_ (fun _ => ?_) (fun _ => ?_)
          · simp -implicitDefEqProofs [e2']
            rw [Bool.eq_iff_iff, beq_iff_eq, decide_eq_true_eq]
            omega
          · have hkl : kl.length < sizeLine := by
              refine szL ?_
              have a1 := h4.length_le
              have a2 : dn.length ≤ (List.range s).length := by rw [← h1]; simp
              rw [List.length_range] at a2
              omega
            apply wps_seq
            refine wps_ex1 (r := .val .fr .none) (e := [some (true, .ls, d2), some (false, .fr, .int s), some (false, .fr, .int m), some (false, .ls, .list (dLs ks)), some (false, .fr, x), some (false, .ls, dL (kl ++ [z])), some (false, .fr, .int z)]) ?_ ?_
            · simp -implicitDefEqProofs [hkl, ← dIs_app]
            · apply wps_skip
              apply wps_skip
              exact ⟨d2, kl ++ [z], dn ++ [z], rs, _, p2, by rw [← h1]; simp, rfl, h4.append (List.Sublist.refl _), .some _, rfl⟩
          · apply wps_skip
            apply wps_skip
            exact ⟨d2, kl, dn ++ [z], rs, _, p2, by rw [← h1]; simp, rfl, h4.trans (List.sublist_append_left _ _), .some _, rfl⟩
      · rintro e ⟨d, kl, dn, rs, s6, hp, h1, h3, h4, f6, rfl⟩
        have hr : rs = [] := by cases rs with | nil => rfl | cons => cases h3
        subst hr
        rw [List.append_nil] at h1
        subst h1
        simp only [punlock_nil, seqQ]
        -- the kind, not empty
        have hlot : kl ≠ [] → Lot s kl := fun _ => ⟨fun x hx => List.mem_range.mp (h4.subset hx), h4.nodup List.nodup_range, by have := h4.length_le; rw [List.length_range] at this; omega⟩
        have fin : ∀ (d : D) (kl : List Nat) (s6 : PSlot), Pot d → Lot s kl → kl ≠ [] → Fre s6 → wps (ph (n + 1)) (.seq (.ex (.append (.var 3) (.ite (.cmp .eq (.call 25 (.cons (.var 0) (.cons (.int 2) .nil)) .nil [0, 1]) (.int 0)) (.var 5) (.rev (.var 5))))) .skip)
            [some (true, .ls, d), some (false, .fr, .int s), some (false, .fr, .int m), some (false, .ls, .list (dLs ks)), some (false, .fr, x), some (false, .ls, dL kl), s6]
            (loopQ (fun e => ∃ d ks s4 s5 s6, Pot d ∧ (∀ k ∈ ks, Lot s k ∧ k ≠ []) ∧ ks.length + xs.length ≤ m ∧ Fre s4 ∧ Fre2 s5 ∧ Fre s6 ∧ e = [some (true, .ls, d), some (false, .fr, .int s), some (false, .fr, .int m), some (false, .ls, .list (dLs ks)), s4, s5, s6]) (seqQ (ph (n + 1)) (.seq (.ret (.var 3)) .skip) (retQ [(true, .ls, dd), (false, .fr, .int s), (false, .fr, .int m)] fun r => ∃ d' ks, Pot d' ∧ Kinds s ks ∧ ks.length ≤ m ∧ r = ((.ls, .list (dLs ks)), [(.ls, d'), (.fr, .none), (.fr, .none)]))) []) := fun d kl s6 hp hlot hne f6 => by
          obtain ⟨d2, q, p2, hq, e2⟩ := draw_s n false .fr d 2 hp (by decide) (by decide)
          have e2' : ph (n + 1) 25 [(true, .ls, d), (false, .fr, .int 2)] = some ((.fr, .int (q : Nat)), [(.ls, d2), (.fr, .none)]) := by simpa using e2
          have hks' : ks.length < sizeLine := szL (by rw [List.length_cons] at hl; omega)
          apply wps_seq
          by_cases hq0 : q = 0
          · subst hq0
            refine wps_ex1 (r := .val .fr .none) (e := [some (true, .ls, d2), some (false, .fr, .int s), some (false, .fr, .int m), some (false, .ls, .list (dLs (ks ++ [kl]))), some (false, .fr, x), some (false, .fr, dL kl), s6]) ?_ ?_
            · simp -implicitDefEqProofs [e2', hks', ← dLs_app]
            · apply wps_skip
              refine ⟨d2, ks ++ [kl], _, _, _, p2, fun k hk => ?_, by rw [List.length_append, List.length_singleton]; rw [List.length_cons] at hl; omega, .some _, .fr _, f6, rfl⟩
              rcases List.mem_append.mp hk with z | z
              · exact hks k z
              · rw [List.mem_singleton.mp z]; exact ⟨hlot, hne⟩
          · refine wps_ex1 (r := .val .fr .none) (e := [some (true, .ls, d2), some (false, .fr, .int s), some (false, .fr, .int m), some (false, .ls, .list (dLs (ks ++ [kl.reverse]))), some (false, .fr, x), some (false, .ls, dL kl), s6]) ?_ ?_
            · have hq1 : ((q : Int) == 0) = false := by rw [beq_eq_false_iff_ne]; omega
              have hrev : (dIs kl).reverse = dIs kl.reverse := by unfold dIs; rw [List.map_reverse]
              simp -implicitDefEqProofs [e2', hks', hq1, hrev, ← dLs_app]
            · apply wps_skip
              refine ⟨d2, ks ++ [kl.reverse], _, _, _, p2, fun k hk => ?_, by rw [List.length_append, List.length_singleton]; rw [List.length_cons] at hl; omega, .some _, .ls _, f6, rfl⟩
              rcases List.mem_append.mp hk with z | z
              · exact hks k z
              · rw [List.mem_singleton.mp z]
                exact ⟨⟨fun x hx => hlot.lt x (List.mem_reverse.mp hx), (List.reverse_perm kl).nodup_iff.mpr hlot.nd, by rw [List.length_reverse]; exact hlot.len⟩, fun e => hne (List.reverse_eq_nil_iff.mp e)⟩
        apply wps_seq
        refine wps_if (p := (decide (kl = []), [some (true, .ls, d), some (false, .fr, .int s), some (false, .fr, .int m), some (false, .ls, .list (dLs ks)), some (false, .fr, x), some (false, .ls, dL kl), s6])) (by simp -implicitDefEqProofs [lenOk_le, nil_eq]) (fun hk => ?_) (fun hk => ?_)
        · have hk := of_decide_eq_true hk
          subst hk
          obtain ⟨d2, q, p2, hq, e2⟩ := draw_s n false .fr d s hp (by omega) (by omega)
          apply wps_seq
          refine wps_ex1 (r := .val .fr .none) (e := [some (true, .ls, d2), some (false, .fr, .int s), some (false, .fr, .int m), some (false, .ls, .list (dLs ks)), some (false, .fr, x), some (false, .ls, dL [q]), s6]) ?_ ?_
          · simp -implicitDefEqProofs [e2, szL]
          · apply wps_skip
            exact fin d2 [q] s6 p2 ⟨fun x hx => by rw [List.mem_singleton.mp hx]; exact hq, by simp, by simp⟩ nofun f6
        · have hk := of_decide_eq_false hk
          apply wps_skip
          exact fin d kl s6 hp (hlot hk) hk f6
    · rintro e ⟨d, ks, s4, s5, s6, hp, hks, hl, f4, f5, f6, rfl⟩
      simp only [punlock_nil, seqQ]
      apply wps_seq
      refine wps_retv (l := .list (dLs ks)) rfl ?_
      simp only [seqQ, retQ]
      have hlen : ks.length ≤ m := by simpa using hl
      exact ⟨_, by simp, d, ks, hp, ⟨hks, by omega⟩, hlen, rfl⟩
  obtain ⟨r, h1, d', ks, p1, p2, p3, rfl⟩ := key
  exact ⟨d', ks, p1, p2, p3, h1⟩
end Law
end
section
set_option linter.all false
set_option autoImplicit false
set_option maxRecDepth 20000
namespace Law
open PySem Ev
theorem once_app (acc l : List (List Nat)) (x : List Nat) : once acc (x :: l) = if x ∈ acc then once acc l else once (acc ++ [x]) l := rfl
theorem told_s (n : Nat) (b : Bool) (g : Fg) (s : Nat) (ks : List (List Nat)) (h : Kinds s ks) (h8 : s ≤ 8) : ph (n + 1) 28 [(b, g, .list (dLs ks))] = some ((.ls, .list (dLs (told ks))), [ret b g (.list (dLs ks))]) := by
  refine fn_eq (d := d28) rfl rfl rfl ?_
  show wps _ m28 [some (b, g, .list (dLs ks)), none, none, none] _
  apply wps_seq
  refine wps_asg1 (e := [some (b, g, .list (dLs ks)), some (false, .ls, .list []), none, none]) (by simp -implicitDefEqProofs [lenOk_le]) ?_
  have hc : (pv (ph n) c28_0).e [some (b, g, .list (dLs ks)), some (false, .ls, .list []), none, none] = some (.val .ls (.list (dLs (ks.map srt))), [some (b, g, .list (dLs ks)), some (false, .ls, .list []), none, none]) := by
    have := comp_var (Φ := ph n) (elt := .bi .sorted (.cons (.var 3) .nil)) (c := .bool true) (i := 0) (j := 3) (env := [some (b, g, .list (dLs ks)), some (false, .ls, .list []), none, none]) (b := b) (g := g) (l := dLs ks) (fun _ => true) (fun x => dL (srt (natsOf x))) rfl (by decide) (by simp) rfl (fun x hx => by
      obtain ⟨k, hk, rfl⟩ := List.mem_map.mp hx
      have hl := (h.lot k hk).1
      have e1 : k.mergeSort leN = srt k := sort_srt hl.nd fun x hx => Nat.lt_of_lt_of_le (hl.lt x hx) h8
      refine ⟨_, rfl, by simp, fun _ => ⟨.val .ls (dL (srt k)), .ls, ?_, by simp⟩⟩
      simp -implicitDefEqProofs [sort_ints, e1]) (by rw [dLs_len]; exact sz8 h.len)
    rw [filter_true, map_dLs] at this
    have e2 : (ks.map fun x => dL (srt (natsOf (dL x)))) = dLs (ks.map srt) := by
      unfold dLs
      rw [List.map_map]
      refine List.map_congr_left fun x _ => ?_
      simp only [natsOf_dL, Function.comp_apply]
    rw [e2] at this
    exact this
  apply wps_seq
  refine wps_for (p := ((true, dLs ((ks.map srt).mergeSort leL), []), [some (b, g, .list (dLs ks)), some (false, .ls, .list []), none, none]))
    (fun xs e => ∃ acc rs s2, once acc rs = told ks ∧ xs = dLs rs ∧ acc.length + rs.length ≤ 8 ∧ Fre s2 ∧ e = [some (b, g, .list (dLs ks)), some (false, .ls, .list (dLs acc)), s2, none]) ?_ ?_ ?_ ?_
  · simp -implicitDefEqProofs [hc, sort_lists]
  · exact ⟨[], _, none, rfl, rfl, by rw [List.length_mergeSort, List.length_map]; have := h.len; simpa using this, .none, rfl⟩
  · rintro x xs e ⟨acc, rs, s2, h1, h2, h3, f2, rfl⟩
    cases rs with
    | nil => cases h2
    | cons k rs =>
      cases h2
      rw [List.length_cons] at h3
      refine ⟨[some (b, g, .list (dLs ks)), some (false, .ls, .list (dLs acc)), some (false, .fr, dL k), none], by simp -implicitDefEqProofs [pst_fre f2], ?_⟩
      apply wps_seq
      rw [once_app] at h1
      refine wps_if (p := (!decide (k ∈ acc), [some (b, g, .list (dLs ks)), some (false, .ls, .list (dLs acc)), some (false, .fr, dL k), none])) ?_ (fun hk => ?_) (fun hk => ?_)
      · have e3 := inL_dLs k acc
        simp -implicitDefEqProofs [flatD, e3]
      · have hk : k ∉ acc := by simpa using hk
        rw [if_neg hk] at h1
        apply wps_seq
        refine wps_ex1 (r := .val .fr .none) (e := [some (b, g, .list (dLs ks)), some (false, .ls, .list (dLs (acc ++ [k]))), some (false, .fr, dL k), none]) ?_ ?_
        · have : acc.length < sizeLine := szL (by omega)
          simp -implicitDefEqProofs [this, ← dLs_app]
        · apply wps_skip
          apply wps_skip
          exact ⟨acc ++ [k], rs, _, h1, rfl, by rw [List.length_append, List.length_singleton]; omega, .some _, rfl⟩
      · have hk : k ∈ acc := by simpa using hk
        rw [if_pos hk] at h1
        apply wps_skip
        apply wps_skip
        exact ⟨acc, rs, _, h1, rfl, by omega, .some _, rfl⟩
  · rintro e ⟨acc, rs, s2, h1, h2, h3, f2, rfl⟩
    have hr : rs = [] := by cases rs with | nil => rfl | cons => cases h2
    subst hr
    have h1 : acc = told ks := h1
    subst h1
    simp only [punlock_nil, seqQ]
    apply wps_seq
    refine wps_retv (l := .list (dLs (told ks))) rfl ?_
    simp -implicitDefEqProofs [seqQ, retQ]
theorem most_s (n : Nat) (b b1 : Bool) (g g1 : Fg) (bd k : List Nat) (h : ∀ i ∈ k, i < bd.length) (hn : k ≠ []) (hl : k.length ≤ 8) : ph (n + 1) 29 [(b, g, dL bd), (b1, g1, dL k)] = some ((.ls, dL (mostN bd k)), [ret b g (dL bd), ret b1 g1 (dL k)]) := by
  refine fn_eq (d := d29) rfl rfl rfl ?_
  show wps _ m29 [some (b, g, dL bd), some (b1, g1, dL k), none, none] _
  have hs : (dIs k).length ≤ sizeLine := by rw [dIs_len]; exact sz8 hl
  have hc1 : (pv (ph n) c29_1).e [some (b, g, dL bd), some (b1, g1, dL k), none, none] = some (.val .ls (dL (k.map fun i => at0 bd i)), [some (b, g, dL bd), some (b1, g1, dL k), none, none]) := by
    have := comp_var (Φ := ph n) (elt := .fz (.sub (.var 0) (.var 3))) (c := .bool true) (i := 1) (j := 3) (env := [some (b, g, dL bd), some (b1, g1, dL k), none, none]) (b := b1) (g := g1) (l := dIs k) (fun _ => true) (fun x => D.int (at0 bd (natOf x))) rfl (by decide) (by simp) rfl (fun x hx => by
      obtain ⟨i, hi, rfl⟩ := List.mem_map.mp hx
      refine ⟨_, rfl, by simp, fun _ => ⟨.val .fr (.int (at0 bd i)), .fr, ?_, by simp⟩⟩
      simp -implicitDefEqProofs [dIs_get, getD_get (h i hi)]) hs
    rw [filter_true, map_fun_dIs k (fun i => at0 bd i)] at this
    exact this
  apply wps_seq
  refine wps_asg1 (e := [some (b, g, dL bd), some (b1, g1, dL k), some (false, .fr, .int (maxN (k.map fun i => at0 bd i))), none]) ?_ ?_
  · simp only [pv_e_bi, pv_es_cons, pv_es_nil, hc1, Option.bind_some, Option.map_some, pbi_max1, prd_val, biD_max1, dInts_dIs]
    rw [if_neg (by simpa using hn), maxL_ints]
    simp -implicitDefEqProofs
  have hc0 : (pv (ph n) c29_0).e [some (b, g, dL bd), some (b1, g1, dL k), some (false, .fr, .int (maxN (k.map fun i => at0 bd i))), none] = some (.val .ls (dL (mostN bd k)), [some (b, g, dL bd), some (b1, g1, dL k), some (false, .fr, .int (maxN (k.map fun i => at0 bd i))), none]) := by
    have := comp_var (Φ := ph n) (elt := .var 3) (c := .cmp .eq (.fz (.sub (.var 0) (.var 3))) (.var 2)) (i := 1) (j := 3) (env := [some (b, g, dL bd), some (b1, g1, dL k), some (false, .fr, .int (maxN (k.map fun i => at0 bd i))), none]) (b := b1) (g := g1) (l := dIs k) (fun x => at0 bd (natOf x) == maxN (k.map fun i => at0 bd i)) (fun x => x) rfl (by decide) (by simp) rfl (fun x hx => by
      obtain ⟨i, hi, rfl⟩ := List.mem_map.mp hx
      refine ⟨_, rfl, ?_, fun _ => ⟨.var 3 .fr (.int i), .fr, rfl, rfl⟩⟩
      simp -implicitDefEqProofs [dIs_get, getD_get (h i hi)]
      rw [Bool.eq_iff_iff, beq_iff_eq, beq_iff_eq]
      omega) hs
    rw [dIs_filter k _ (fun i => at0 bd i == maxN (k.map fun i => at0 bd i)) (fun i => by simp), List.map_id'] at this
    exact this
  apply wps_seq
  exact wps_ret1 hc0 (by simp [seqQ, retQ])
/-! ### boards -/
/-- all boards of so many shelves with at most so many pieces, as the law lists them -/
def grow (p : Nat) (l : List (List Nat)) : List (List Nat) := l.flatMap fun b => (List.range (p - b.sum + 1)).map fun i => b ++ [i]
def allB (p : Nat) : Nat → List (List Nat)
  | 0 => [[]]
  | s + 1 => grow p (allB p s)
theorem mem_allB (p : Nat) : ∀ (s : Nat) (b : List Nat), b ∈ allB p s ↔ b.length = s ∧ b.sum ≤ p
  | 0, b => by
    simp only [allB, List.mem_singleton, List.length_eq_zero_iff]
    constructor
    · rintro rfl; simp
    · exact fun h => h.1
  | s + 1, b => by
    simp only [allB, grow, List.mem_flatMap, List.mem_map, List.mem_range]
    constructor
    · rintro ⟨c, hc, i, hi, rfl⟩
      obtain ⟨h1, h2⟩ := (mem_allB p s c).mp hc
      rw [List.length_append, List.length_singleton, List.sum_append, List.sum_singleton]
      omega
    · rintro ⟨h1, h2⟩
      have hne : b ≠ [] := fun e => by rw [e] at h1; simp at h1
      obtain ⟨c, i, rfl⟩ : ∃ c i, b = c ++ [i] := ⟨b.dropLast, b.getLast hne, (List.dropLast_concat_getLast hne).symm⟩
      rw [List.length_append, List.length_singleton] at h1
      rw [List.sum_append, List.sum_singleton] at h2
      exact ⟨c, (mem_allB p s c).mpr ⟨by omega, by omega⟩, i, by omega, rfl⟩
theorem allB_len {p : Nat} (hp : p ≤ 6) : ∀ s, (allB p s).length ≤ 7 ^ s
  | 0 => by simp [allB]
  | s + 1 => by
    have ih := allB_len hp s
    have : ∀ l : List (List Nat), (grow p l).length ≤ 7 * l.length := fun l => by
      induction l with
      | nil => simp [grow]
      | cons b l ih =>
        have e : grow p (b :: l) = (List.range (p - b.sum + 1)).map (fun i => b ++ [i]) ++ grow p l := rfl
        rw [e, List.length_append, List.length_map, List.length_range, List.length_cons]
        omega
    have h := this (allB p s)
    show (grow p (allB p s)).length ≤ _
    rw [Nat.pow_succ]
    omega
theorem boards_s (n : Nat) (s p : Nat) (hp : p ≤ 6) (h1 : 1 ≤ s) (hs : s ≤ 4) : ∃ o, (o = .fr ∨ o = .ls) ∧ ph (n + 1) 31 [(false, .fr, .int s), (false, .fr, .int p)] = some ((o, .list (dLs (allB p s))), [(.fr, .none), (.fr, .none)]) := by
  have key : ∃ r, ph (n + 1) 31 [(false, .fr, .int s), (false, .fr, .int p)] = some r ∧ ∃ o, (o = O.fr ∨ o = .ls) ∧ r = ((o, .list (dLs (allB p s))), [(.fr, .none), (.fr, .none)]) := by
    refine fn_ex (d := d31) rfl rfl rfl ?_
    show wps _ m31 [some (false, .fr, .int s), some (false, .fr, .int p), none, none, none, none, none] _
    apply wps_seq
    refine wps_asg1 (e := [some (false, .fr, .int s), some (false, .fr, .int p), some (false, .ls, .list (dLs [[]])), none, none, none, none]) (by simp -implicitDefEqProofs [lenOk_le]) ?_
    apply wps_seq
    refine wps_for (p := ((false, rngL 0 s, []), [some (false, .fr, .int s), some (false, .fr, .int p), some (false, .ls, .list (dLs [[]])), none, none, none, none]))
      (fun xs e => ∃ j g s3 s4 s5, j + xs.length = s ∧ g ≠ Fg.lk ∧ Fre s3 ∧ Fre2 s4 ∧ Fre s5 ∧ e = [some (false, .fr, .int s), some (false, .fr, .int p), some (false, g, .list (dLs (allB p j))), s3, s4, s5, none]) ?_ ?_ ?_ ?_
    · have hr' : rngOk ((s : Nat) : Int) = true := rng_nat (by omega)
      simp -implicitDefEqProofs [hr']
    · exact ⟨0, .ls, none, none, none, by simp [rngL], nofun, .none, .none, .none, rfl⟩
    · rintro x xs e ⟨j, g, s3, s4, s5, hj, hg, f3, f4, f5, rfl⟩
      rw [List.length_cons] at hj
      refine ⟨[some (false, .fr, .int s), some (false, .fr, .int p), some (false, g, .list (dLs (allB p j))), some (false, .fr, x), s4, s5, none], by simp -implicitDefEqProofs [pst_fre f3], ?_⟩
      apply wps_seq
      refine wps_asg1 (e := [some (false, .fr, .int s), some (false, .fr, .int p), some (false, g, .list (dLs (allB p j))), some (false, .fr, x), some (false, .ls, .list []), s5, none]) (by simp -implicitDefEqProofs [lenOk_le, pst_fre3 f4]) ?_
      apply wps_seq
      have hlen := allB_len hp j
      have h7 : 7 ^ j ≤ 7 ^ 3 := Nat.pow_le_pow_right (by decide) (by omega)
      have h343 : (7 : Nat) ^ 3 = 343 := by decide
      refine wps_for (p := ((true, dLs (allB p j), [(2, g)]), [some (false, .fr, .int s), some (false, .fr, .int p), some (false, g.lock, .list (dLs (allB p j))), some (false, .fr, x), some (false, .ls, .list []), s5, none]))
        (fun ys e => ∃ dn rs s5, dn ++ rs = allB p j ∧ ys = dLs rs ∧ Fre s5 ∧ e = [some (false, .fr, .int s), some (false, .fr, .int p), some (false, g.lock, .list (dLs (allB p j))), some (false, .fr, x), some (false, .ls, .list (dLs (grow p dn))), s5, none]) ?_ ?_ ?_ ?_
      · rw [pv_i_iof, pv_e_var]
        exact pwalk_any (env := [some (false, .fr, .int s), some (false, .fr, .int p), some (false, g, .list (dLs (allB p j))), some (false, .fr, x), some (false, .ls, .list []), s5, none]) (i := 2) (b := false) rfl
      · exact ⟨[], _, s5, rfl, rfl, f5, rfl⟩
      · rintro y ys e ⟨dn, rs, s5, q1, q2, f5, rfl⟩
        cases rs with
        | nil => cases q2
        | cons bd rs =>
          cases q2
          have hbd : bd ∈ allB p j := by rw [← q1]; simp
          obtain ⟨b1, b2⟩ := (mem_allB p j bd).mp hbd
          refine ⟨[some (false, .fr, .int s), some (false, .fr, .int p), some (false, g.lock, .list (dLs (allB p j))), some (false, .fr, x), some (false, .ls, .list (dLs (grow p dn))), some (false, .fr, dL bd), none], by simp -implicitDefEqProofs [pst_fre f5], ?_⟩
          have hc : (pv (ph n) c31_0).e [some (false, .fr, .int s), some (false, .fr, .int p), some (false, g.lock, .list (dLs (allB p j))), some (false, .fr, x), some (false, .ls, .list (dLs (grow p dn))), some (false, .fr, dL bd), none] = some (.val .ls (.list (dLs ((List.range (p - bd.sum + 1)).map fun i => bd ++ [i]))), [some (false, .fr, .int s), some (false, .fr, .int p), some (false, g.lock, .list (dLs (allB p j))), some (false, .fr, x), some (false, .ls, .list (dLs (grow p dn))), some (false, .fr, dL bd), none]) := by
            have hr' : rngOk (((p - bd.sum + 1 : Nat)) : Int) = true := rng_nat (by omega)
            have ez : ((p : Int) - ((bd.sum : Nat) : Int) + 1) = ((p - bd.sum + 1 : Nat) : Int) := by omega
            have := comp_val (Φ := ph n) (elt := .bin .add (.var 5) (.list (.cons (.var 6) .nil))) (c := .bool true) (it := .irng1 (.bin .add (.bin .sub (.var 1) (.bi .sum (.cons (.var 5) .nil))) (.int 1))) (j := 6) (env := [some (false, .fr, .int s), some (false, .fr, .int p), some (false, g.lock, .list (dLs (allB p j))), some (false, .fr, x), some (false, .ls, .list (dLs (grow p dn))), some (false, .fr, dL bd), none]) (k := false) (l := dIs (List.range (p - bd.sum + 1)))
              (fun _ => true) (fun y => dL (bd ++ [natOf y])) (by
                rw [← rngL_nat]
                simp -implicitDefEqProofs only [pv_i_irng1, pv_e_bin, pv_e_var, pslot_s, pslot_z, Option.map_some, Option.bind_some, pv_e_bi, pv_es_cons, pv_es_nil, pbi_sum, prd_var, psel_eq, psel_fr, biD_sum, dInts_dIs, sum_ints, prd_val, pbinF_eq, pbn_ii, binI_sub, binI_add, pv_e_int, pint_some]
                rw [ez, hr', Int.toNat_natCast]
                rfl) (by simp) rfl (fun y hy => by
                obtain ⟨i, hi, rfl⟩ := List.mem_map.mp hy
                have l1 : lenOk (bd.length + 1) = true := lenOk_le (by omega)
                refine ⟨_, rfl, by simp, fun _ => ⟨.val .ls (dL (bd ++ [i])), .ls, ?_, by simp⟩⟩
                simp -implicitDefEqProofs [lenOk_le, l1, ← dIs_app]) (by rw [dIs_len, List.length_range]; exact sz8 (by omega))
            rw [filter_true, map_dIs] at this
            have e2 : ((List.range (p - bd.sum + 1)).map fun x => dL (bd ++ [natOf (dI x)])) = dLs ((List.range (p - bd.sum + 1)).map fun i => bd ++ [i]) := by
              unfold dLs
              rw [List.map_map]
              refine List.map_congr_left fun x _ => ?_
              simp
            rw [e2] at this
            exact this
          have hgl : (grow p (dn ++ [bd])).length ≤ 7 * 343 := by
            have e : allB p (j + 1) = grow p (dn ++ [bd]) ++ grow p rs := by
              show grow p (allB p j) = _
              rw [← q1]
              unfold grow
              rw [← List.flatMap_append]
              simp
            have := allB_len hp (j + 1)
            rw [e, List.length_append, Nat.pow_succ] at this
            omega
          have eg : grow p (dn ++ [bd]) = grow p dn ++ (List.range (p - bd.sum + 1)).map fun i => bd ++ [i] := by
            unfold grow
            rw [List.flatMap_append]
            simp
          have hl2 : lenOk ((grow p dn).length + (p - bd.sum + 1)) = true := lenOk_le (by
            rw [eg, List.length_append, List.length_map, List.length_range] at hgl
            omega)
          apply wps_seq
          refine wps_ex1 (r := .val .fr .none) (e := [some (false, .fr, .int s), some (false, .fr, .int p), some (false, g.lock, .list (dLs (allB p j))), some (false, .fr, x), some (false, .ls, .list (dLs (grow p (dn ++ [bd])))), some (false, .fr, dL bd), none]) ?_ ?_
          · simp -implicitDefEqProofs [hc, hl2, eg, ← dLs_app]
          · apply wps_skip
            exact ⟨dn ++ [bd], rs, _, by rw [← q1]; simp, rfl, .some _, rfl⟩
      · rintro e ⟨dn, rs, s5, q1, q2, f5, rfl⟩
        have hr : rs = [] := by cases rs with | nil => rfl | cons => cases q2
        subst hr
        rw [List.append_nil] at q1
        subst q1
        have hu : punlock [some (false, .fr, .int s), some (false, .fr, .int p), some (false, g.lock, .list (dLs (allB p j))), some (false, .fr, x), some (false, .ls, .list (dLs (grow p (allB p j)))), s5, none] [(2, g)] = [some (false, .fr, .int s), some (false, .fr, .int p), some (false, g, .list (dLs (allB p j))), some (false, .fr, x), some (false, .ls, .list (dLs (grow p (allB p j)))), s5, none] := punlock1_any (b := false) (d := .list (dLs (allB p j))) rfl
        rw [hu]
        apply wps_seq
        refine wps_asg1 (e := [some (false, .fr, .int s), some (false, .fr, .int p), some (false, .fr, .list (dLs (allB p (j + 1)))), some (false, .fr, x), some (false, .fr, .list (dLs (grow p (allB p j)))), s5, none]) ?_ ?_
        · cases g with
          | fr => simp -implicitDefEqProofs [allB]
          | ls => simp -implicitDefEqProofs [allB]
          | lk => exact absurd rfl hg
        · apply wps_skip
          exact ⟨j + 1, .fr, _, _, _, by omega, nofun, .some _, .fr _, f5, rfl⟩
    · rintro e ⟨j, g, s3, s4, s5, hj, hg, f3, f4, f5, rfl⟩
      have hj : j = s := by simpa using hj
      subst hj
      simp only [punlock_nil, seqQ]
      apply wps_seq
      refine wps_ret_any (g := g) rfl hg fun o e ho he => ?_
      simp only [seqQ, retQ]
      rcases he with rfl | rfl | rfl
      · exact ⟨_, by simp, o, ho, rfl⟩
      · exact ⟨_, by simp, o, ho, rfl⟩
      · exact ⟨_, by simp, o, ho, rfl⟩
  obtain ⟨r, h1, o, ho, rfl⟩ := key
  exact ⟨o, ho, h1⟩
end Law
end
section
set_option linter.all false
set_option autoImplicit false
set_option maxRecDepth 20000
namespace Law
open PySem Ev
/-- one piece more on a shelf -/
def up (b : List Nat) (i : Nat) : List Nat := b.set i (at0 b i + 1)
/-- boards that come to the fullest -/
inductive Reach (s : Nat) (K : List (List Nat)) : List Nat → Prop
  | zero : Reach s K (List.replicate s 0)
  | step {b k : List Nat} {i : Nat} : Reach s K b → k ∈ K → i ∈ mostN b k → Reach s K (up b i)
structure KOk (s : Nat) (K : List (List Nat)) : Prop where
  ne : ∀ k ∈ K, k ≠ []
  lt : ∀ k ∈ K, ∀ x ∈ k, x < s
  len : ∀ k ∈ K, k.length ≤ 8
theorem sum_set : ∀ (b : List Nat) (i v : Nat), i < b.length → (b.set i v).sum + at0 b i = b.sum + v
  | [], i, v, h => by simp at h
  | x :: b, 0, v, h => by simp [at0]; omega
  | x :: b, i + 1, v, h => by
    have := sum_set b i v (by simpa using h)
    simp only [List.set_cons_succ, List.sum_cons]
    have e : at0 (x :: b) (i + 1) = at0 b i := rfl
    rw [e]; omega
theorem sum_up {b : List Nat} {i : Nat} (h : i < b.length) : (up b i).sum = b.sum + 1 := by
  have := sum_set b i (at0 b i + 1) h
  unfold up
  omega
theorem up_len (b : List Nat) (i : Nat) : (up b i).length = b.length := List.length_set
theorem Reach.len {s : Nat} {K : List (List Nat)} {b : List Nat} (h : Reach s K b) : b.length = s := by
  induction h with
  | zero => simp
  | step _ _ _ ih => rw [up_len]; exact ih
theorem mem_most {b k : List Nat} {i : Nat} (h : i ∈ mostN b k) : i ∈ k ∧ at0 b i = maxN (k.map fun i => at0 b i) := by
  obtain ⟨h1, h2⟩ := List.mem_filter.mp h
  exact ⟨h1, by simpa using h2⟩
theorem up_eq' {b : List Nat} {i : Nat} (h : i < b.length) : b.take i ++ ([at0 b i + 1] ++ b.drop (i + 1)) = up b i := by
  unfold up
  rw [List.set_eq_take_append_cons_drop, if_pos h]; rfl
theorem subset_len {l m : List (List Nat)} (nd : l.Nodup) (h : ∀ x ∈ l, x ∈ m) : l.length ≤ m.length := List.Nodup.length_le_of_subset nd h
/-- what the search has found -/
structure Found (s p : Nat) (K F : List (List Nat)) : Prop where
  nd : F.Nodup
  ok : ∀ b ∈ F, Reach s K b ∧ b.sum ≤ p
  z : List.replicate s 0 ∈ F
theorem Found.len {s p : Nat} {K F : List (List Nat)} (h : Found s p K F) (hp : p ≤ 6) (hs : s ≤ 4) : F.length ≤ (allB p s).length ∧ F.length ≤ 2401 := by
  have h1 := subset_len h.nd fun b hb => (mem_allB p s b).mpr ⟨(h.ok b hb).1.len, (h.ok b hb).2⟩
  have h2 := allB_len hp s
  have h3 : 7 ^ s ≤ 7 ^ 4 := Nat.pow_le_pow_right (by decide) hs
  have h4 : (7 : Nat) ^ 4 = 2401 := by decide
  omega
theorem Found.add {s p : Nat} {K F : List (List Nat)} (h : Found s p K F) {b k : List Nat} {i : Nat} (hb : b ∈ F) (hk : k ∈ K) (hi : i ∈ mostN b k) (hlt : i < b.length) (hs : b.sum < p) (hn : up b i ∉ F) : Found s p K (F ++ [up b i]) where
  nd := by
    rw [List.nodup_append]
    refine ⟨h.nd, by simp, fun x hx y hy e => ?_⟩
    rw [List.mem_singleton.mp hy] at e
    exact hn (e ▸ hx)
  ok := fun c hc => by
    rcases List.mem_append.mp hc with z | z
    · exact h.ok c z
    · rw [List.mem_singleton.mp z]
      exact ⟨.step (h.ok b hb).1 hk hi, by rw [sum_up hlt]; omega⟩
  z := List.mem_append_left _ h.z
/-- the steps of a board are there -/
def Done (p : Nat) (K F : List (List Nat)) (b : List Nat) : Prop := b.sum < p → ∀ k ∈ K, ∀ i ∈ mostN b k, up b i ∈ F
theorem Found.all {s p : Nat} {K F : List (List Nat)} (h : Found s p K F) (hK : KOk s K) (hd : ∀ b ∈ F, Done p K F b) (b : List Nat) : b ∈ F ↔ Reach s K b ∧ b.sum ≤ p := by
  refine ⟨h.ok b, fun hh => ?_⟩
  have h1 := hh.1
  have h2 := hh.2
  clear hh
  induction h1 with
  | zero => exact h.z
  | @step b k i hr hk hi ih =>
    have hlt : i < b.length := by rw [hr.len]; exact hK.lt k hk i (mem_most hi).1
    rw [sum_up hlt] at h2
    exact hd b (ih (by omega)) (by omega) k hk i hi
theorem repl_ints (s : Nat) : (List.replicate s [D.int 0]).flatten = dIs (List.replicate s 0) := by
  induction s with
  | zero => rfl
  | succ s ih => rw [List.replicate_succ, List.flatten_cons, ih, List.replicate_succ]; rfl
theorem walks_s (n : Nat) (b : Bool) (g : Fg) (s p : Nat) (K : List (List Nat)) (hK : KOk s K) (hp : p ≤ 6) (hs : s ≤ 4) : ∃ F, (∀ c, c ∈ F ↔ Reach s K c ∧ c.sum ≤ p) ∧ ph (n + 2) 30 [(false, .fr, .int s), (b, g, .list (dLs K)), (false, .fr, .int p)] = some ((.ls, .list (dLs F)), [(.fr, .none), ret b g (.list (dLs K)), (.fr, .none)]) := by
  have key : ∃ r, ph (n + 2) 30 [(false, .fr, .int s), (b, g, .list (dLs K)), (false, .fr, .int p)] = some r ∧ ∃ F, (∀ c, c ∈ F ↔ Reach s K c ∧ c.sum ≤ p) ∧ r = ((.ls, .list (dLs F)), [(.fr, .none), ret b g (.list (dLs K)), (.fr, .none)]) := by
    refine fn_ex (d := d30) rfl rfl rfl ?_
    show wps _ m30 [some (false, .fr, .int s), some (b, g, .list (dLs K)), some (false, .fr, .int p), none, none, none, none, none, none] _
    apply wps_seq
    refine wps_par (p := ([(.ls, .list (dLs [List.replicate s 0])), (.fr, .int 0)], [some (false, .fr, .int s), some (b, g, .list (dLs K)), some (false, .fr, .int p), none, none, none, none, none, none])) (e := [some (false, .fr, .int s), some (b, g, .list (dLs K)), some (false, .fr, .int p), some (false, .ls, .list (dLs [List.replicate s 0])), some (false, .fr, .int ((0 : Nat) : Int)), none, none, none, none]) ?_ (by decide) (by simp [psetNs]) ?_
    · have hlen : lenOk s = true := lenOk_le (by omega)
      have hs1 : -(9223372036854775808 : Int) ≤ (s : Int) := by omega
      have hs2 : (s : Int) < 9223372036854775808 := by omega
      simp -implicitDefEqProofs [lenOk_le, hlen, hs1, hs2, repl_ints]
      unfold dIs; rw [List.map_replicate]; rfl
    apply wps_seq
    refine wps_while (fun m e => ∃ F a s5 s6 s7 s8, Found s p K F ∧ a ≤ F.length ∧ (∀ j c, j < a → F[j]? = some c → Done p K F c) ∧ m = (allB p s).length - a ∧ Fre s5 ∧ Fre s6 ∧ Fre s7 ∧ Fre2 s8 ∧ e = [some (false, .fr, .int s), some (b, g, .list (dLs K)), some (false, .fr, .int p), some (false, .ls, .list (dLs F)), some (false, .fr, .int (a : Nat)), s5, s6, s7, s8]) (allB p s).length ?_ ?_
    · exact ⟨[List.replicate s 0], 0, none, none, none, none, ⟨by simp, fun c hc => by rw [List.mem_singleton.mp hc]; exact ⟨.zero, by simp⟩, by simp⟩, by simp, fun j c h => absurd h (Nat.not_lt_zero _), by simp, .none, .none, .none, .none, rfl⟩
    · rintro m e ⟨F, a, s5, s6, s7, s8, hF, haF, hd, hm, f5, f6, f7, f8, rfl⟩
      obtain ⟨hF1, hF2⟩ := hF.len hp hs
      refine ⟨decide (a < F.length), [some (false, .fr, .int s), some (b, g, .list (dLs K)), some (false, .fr, .int p), some (false, .ls, .list (dLs F)), some (false, .fr, .int (a : Nat)), s5, s6, s7, s8], ?_, fun hk => ?_, fun hk => ?_⟩
      · simp -implicitDefEqProofs
      · have ha := of_decide_eq_true hk
        obtain ⟨bd, hbd⟩ : ∃ bd, F[a]? = some bd := ⟨F[a], List.getElem?_eq_getElem ha⟩
        have hbF : bd ∈ F := List.mem_of_getElem? hbd
        have hbl : bd.length = s := (hF.ok bd hbF).1.len
        apply wps_seq
        refine wps_asg1 (e := [some (false, .fr, .int s), some (b, g, .list (dLs K)), some (false, .fr, .int p), some (false, .ls, .list (dLs F)), some (false, .fr, .int (a : Nat)), some (false, .fr, dL bd), s6, s7, s8]) (by simp -implicitDefEqProofs [dLs_get, hbd, pst_fre f5]) ?_
        -- behind the two loops
        have fin : ∀ (F' : List (List Nat)) (s6 s7 s8 : PSlot), Found s p K F' → (∃ ext, F' = F ++ ext) → Done p K F' bd → Fre s6 → Fre s7 → Fre2 s8 → wps (ph (n + 1)) (.seq (.asg (.tname 4) (.bin .add (.var 4) (.int 1))) .skip) [some (false, .fr, .int s), some (b, g, .list (dLs K)), some (false, .fr, .int p), some (false, .ls, .list (dLs F')), some (false, .fr, .int (a : Nat)), some (false, .fr, dL bd), s6, s7, s8]
            (loopQ (fun e => ∃ m', m' < m ∧ ∃ F a s5 s6 s7 s8, Found s p K F ∧ a ≤ F.length ∧ (∀ j c, j < a → F[j]? = some c → Done p K F c) ∧ m' = (allB p s).length - a ∧ Fre s5 ∧ Fre s6 ∧ Fre s7 ∧ Fre2 s8 ∧ e = [some (false, .fr, .int s), some (b, g, .list (dLs K)), some (false, .fr, .int p), some (false, .ls, .list (dLs F)), some (false, .fr, .int (a : Nat)), s5, s6, s7, s8]) (seqQ (ph (n + 1)) (.seq (.ret (.var 3)) .skip) (retQ [(false, .fr, .int s), (b, g, .list (dLs K)), (false, .fr, .int p)] fun r => ∃ F, (∀ c, c ∈ F ↔ Reach s K c ∧ c.sum ≤ p) ∧ r = ((.ls, .list (dLs F)), [(.fr, .none), ret b g (.list (dLs K)), (.fr, .none)]))) []) := fun F' s6 s7 s8 hF' ⟨ext, hext⟩ hdone f6 f7 f8 => by
          apply wps_seq
          refine wps_asg1 (e := [some (false, .fr, .int s), some (b, g, .list (dLs K)), some (false, .fr, .int p), some (false, .ls, .list (dLs F')), some (false, .fr, .int ((a + 1 : Nat) : Int)), some (false, .fr, dL bd), s6, s7, s8]) (by simp -implicitDefEqProofs) ?_
          apply wps_skip
          refine ⟨(allB p s).length - (a + 1), by omega, F', a + 1, _, s6, s7, s8, hF', by rw [hext, List.length_append]; omega, fun j c hj hc => ?_, rfl, .some _, f6, f7, f8, rfl⟩
          by_cases hja : j = a
          · subst hja
            rw [hext, List.getElem?_append_left ha, hbd] at hc
            cases hc
            exact hdone
          · have hj' : j < a := by omega
            rw [hext, List.getElem?_append_left (by omega)] at hc
            intro hsum k hk i hi
            rw [hext]
            exact List.mem_append_left _ (hd j c hj' hc hsum k hk i hi)
        apply wps_seq
        by_cases hsum : bd.sum < p
        · refine wps_for (p := ((true, dLs K, [(1, g)]), [some (false, .fr, .int s), some (b, g.lock, .list (dLs K)), some (false, .fr, .int p), some (false, .ls, .list (dLs F)), some (false, .fr, .int (a : Nat)), some (false, .fr, dL bd), s6, s7, s8]))
            (fun xs e => ∃ F' dn rs s6 s7 s8, Found s p K F' ∧ (∃ ext, F' = F ++ ext) ∧ dn ++ rs = K ∧ xs = dLs rs ∧ (∀ k ∈ dn, ∀ i ∈ mostN bd k, up bd i ∈ F') ∧ Fre s6 ∧ Fre s7 ∧ Fre2 s8 ∧ e = [some (false, .fr, .int s), some (b, g.lock, .list (dLs K)), some (false, .fr, .int p), some (false, .ls, .list (dLs F')), some (false, .fr, .int (a : Nat)), some (false, .fr, dL bd), s6, s7, s8]) ?_ ?_ ?_ ?_
          · have hs' : ((bd.sum : Nat) : Int) < p := by omega
            have e1 : (pv (ph (n + 1)) (.ite (.cmp .lt (.bi .sum (.cons (.var 5) .nil)) (.var 2)) (.var 1) (.list .nil))).e [some (false, .fr, .int s), some (b, g, .list (dLs K)), some (false, .fr, .int p), some (false, .ls, .list (dLs F)), some (false, .fr, .int (a : Nat)), some (false, .fr, dL bd), s6, s7, s8] = some (.var 1 g (.list (dLs K)), [some (false, .fr, .int s), some (b, g, .list (dLs K)), some (false, .fr, .int p), some (false, .ls, .list (dLs F)), some (false, .fr, .int (a : Nat)), some (false, .fr, dL bd), s6, s7, s8]) := by
              simp -implicitDefEqProofs [sum_ints, hs']
            rw [pv_i_iof, e1]
            exact pwalk_any (env := [some (false, .fr, .int s), some (b, g, .list (dLs K)), some (false, .fr, .int p), some (false, .ls, .list (dLs F)), some (false, .fr, .int (a : Nat)), some (false, .fr, dL bd), s6, s7, s8]) (i := 1) (b := b) rfl
          · exact ⟨F, [], K, s6, s7, s8, hF, ⟨[], by simp⟩, rfl, rfl, by simp, f6, f7, f8, rfl⟩
          · rintro x xs e ⟨F', dn, rs, s6, s7, s8, hF', ⟨ext, hext⟩, q1, q2, q3, f6, f7, f8, rfl⟩
            cases rs with
            | nil => cases q2
            | cons k rs =>
              cases q2
              have hkK : k ∈ K := by rw [← q1]; simp
              refine ⟨[some (false, .fr, .int s), some (b, g.lock, .list (dLs K)), some (false, .fr, .int p), some (false, .ls, .list (dLs F')), some (false, .fr, .int (a : Nat)), some (false, .fr, dL bd), some (false, .fr, dL k), s7, s8], by simp -implicitDefEqProofs [pst_fre f6], ?_⟩
              have em := most_s n false false .fr .fr bd k (by rw [hbl]; exact hK.lt k hkK) (hK.ne k hkK) (hK.len k hkK)
              apply wps_seq
              refine wps_for (p := ((true, dIs (mostN bd k), []), [some (false, .fr, .int s), some (b, g.lock, .list (dLs K)), some (false, .fr, .int p), some (false, .ls, .list (dLs F')), some (false, .fr, .int (a : Nat)), some (false, .fr, dL bd), some (false, .fr, dL k), s7, s8]))
                (fun xs e => ∃ F'' dm rm s7 s8, Found s p K F'' ∧ (∃ ext, F'' = F' ++ ext) ∧ dm ++ rm = mostN bd k ∧ xs = dIs rm ∧ (∀ i ∈ dm, up bd i ∈ F'') ∧ Fre s7 ∧ Fre2 s8 ∧ e = [some (false, .fr, .int s), some (b, g.lock, .list (dLs K)), some (false, .fr, .int p), some (false, .ls, .list (dLs F'')), some (false, .fr, .int (a : Nat)), some (false, .fr, dL bd), some (false, .fr, dL k), s7, s8]) ?_ ?_ ?_ ?_
              · simp -implicitDefEqProofs [em]
              · exact ⟨F', [], _, s7, s8, hF', ⟨[], by simp⟩, rfl, rfl, by simp, f7, f8, rfl⟩
              · rintro y ys e ⟨F'', dm, rm, s7, s8, hF'', ⟨ext2, hext2⟩, r1, r2, r3, f7, f8, rfl⟩
                cases rm with
                | nil => cases r2
                | cons i rm =>
                  cases r2
                  have him : i ∈ mostN bd k := by rw [← r1]; simp
                  have hil : i < bd.length := by rw [hbl]; exact hK.lt k hkK i (mem_most him).1
                  obtain ⟨_, hF2⟩ := hF''.len hp hs
                  refine ⟨[some (false, .fr, .int s), some (b, g.lock, .list (dLs K)), some (false, .fr, .int p), some (false, .ls, .list (dLs F'')), some (false, .fr, .int (a : Nat)), some (false, .fr, dL bd), some (false, .fr, dL k), some (false, .fr, .int i), s8], by simp -implicitDefEqProofs [pst_fre f7], ?_⟩
                  have hb'' : bd ∈ F'' := by rw [hext2, hext]; simp [hbF]
                  have c1 : cut (dIs bd) none (some (i : Int)) = dIs (bd.take i) := by
                    rw [cut_pre]; unfold dIs; rw [List.map_take]
                  have c2 : cut (dIs bd) (some ((i : Int) + 1)) none = dIs (bd.drop (i + 1)) := by
                    have := cut_post (dIs bd) (i + 1)
                    rw [show (((i + 1 : Nat)) : Int) = (i : Int) + 1 by omega] at this
                    rw [this]; unfold dIs; rw [List.map_drop]
                  have c3 : dIs (bd.take i) ++ ([D.int ((at0 bd i : Nat) + 1 : Int)] ++ dIs (bd.drop (i + 1))) = dIs (up bd i) := by
                    rw [← up_eq' hil, ← dIs_app, ← dIs_app]; rfl
                  have c4 : (dIs bd)[i]? = some (.int (at0 bd i : Nat)) := by rw [dIs_get, getD_get hil]; rfl
                  have l1 : lenOk ((bd.take i).length + 1) = true := lenOk_le (by have := List.length_take_le i bd; omega)
                  have l2 : lenOk ((bd.take i).length + 1 + (bd.drop (i + 1)).length) = true := lenOk_le (by have := List.length_take_le i bd; rw [List.length_drop]; omega)
                  apply wps_seq
                  refine wps_asg1 (e := [some (false, .fr, .int s), some (b, g.lock, .list (dLs K)), some (false, .fr, .int p), some (false, .ls, .list (dLs F'')), some (false, .fr, .int (a : Nat)), some (false, .fr, dL bd), some (false, .fr, dL k), some (false, .fr, .int i), some (false, .ls, dL (up bd i))]) ?_ ?_
                  · rw [List.length_take, List.length_drop] at l2
                    rw [List.length_take] at l1
                    simp -implicitDefEqProofs [c1, c2, c4, l1, l2, lenOk_le, pst_fre3 f8]
                    rw [← c3]; simp
                  apply wps_seq
                  refine wps_if (p := (!decide (up bd i ∈ F''), [some (false, .fr, .int s), some (b, g.lock, .list (dLs K)), some (false, .fr, .int p), some (false, .ls, .list (dLs F'')), some (false, .fr, .int (a : Nat)), some (false, .fr, dL bd), some (false, .fr, dL k), some (false, .fr, .int i), some (false, .ls, dL (up bd i))])) ?_ (fun hk => ?_) (fun hk => ?_)
                  · have e3 := inL_dLs (up bd i) F''
                    simp -implicitDefEqProofs [flatD, e3]
                  · have hnot : up bd i ∉ F'' := by simpa using hk
                    apply wps_seq
                    refine wps_ex1 (r := .val .fr .none) (e := [some (false, .fr, .int s), some (b, g.lock, .list (dLs K)), some (false, .fr, .int p), some (false, .ls, .list (dLs (F'' ++ [up bd i]))), some (false, .fr, .int (a : Nat)), some (false, .fr, dL bd), some (false, .fr, dL k), some (false, .fr, .int i), some (false, .fr, dL (up bd i))]) ?_ ?_
                    · have : F''.length < sizeLine := by unfold sizeLine; omega
                      simp -implicitDefEqProofs [this, ← dLs_app]
                    · apply wps_skip
                      apply wps_skip
                      refine ⟨F'' ++ [up bd i], dm ++ [i], rm, _, _, hF''.add hb'' hkK him hil hsum hnot, ⟨ext2 ++ [up bd i], by rw [hext2]; simp⟩, by rw [← r1]; simp, rfl, fun j hj => ?_, .some _, .fr _, rfl⟩
                      rcases List.mem_append.mp hj with z | z
                      · exact List.mem_append_left _ (r3 j z)
                      · rw [List.mem_singleton.mp z]; simp
                  · have hin : up bd i ∈ F'' := by simpa using hk
                    apply wps_skip
                    apply wps_skip
                    refine ⟨F'', dm ++ [i], rm, _, _, hF'', ⟨ext2, hext2⟩, by rw [← r1]; simp, rfl, fun j hj => ?_, .some _, .ls _, rfl⟩
                    rcases List.mem_append.mp hj with z | z
                    · exact r3 j z
                    · rw [List.mem_singleton.mp z]; exact hin
              · rintro e ⟨F'', dm, rm, s7, s8, hF'', ⟨ext2, hext2⟩, r1, r2, r3, f7, f8, rfl⟩
                have hr : rm = [] := by cases rm with | nil => rfl | cons => cases r2
                subst hr
                rw [List.append_nil] at r1
                subst r1
                simp only [punlock_nil, seqQ]
                apply wps_skip
                refine ⟨F'', dn ++ [k], rs, _, s7, s8, hF'', ⟨ext ++ ext2, by rw [hext2, hext]; simp⟩, by rw [← q1]; simp, rfl, fun k' hk' i hi => ?_, .some _, f7, f8, rfl⟩
                rcases List.mem_append.mp hk' with z | z
                · rw [hext2]; exact List.mem_append_left _ (q3 k' z i hi)
                · rw [List.mem_singleton.mp z] at hi; exact r3 i hi
          · rintro e ⟨F', dn, rs, s6, s7, s8, hF', hext, q1, q2, q3, f6, f7, f8, rfl⟩
            have hr : rs = [] := by cases rs with | nil => rfl | cons => cases q2
            subst hr
            rw [List.append_nil] at q1
            subst q1
            have hu : punlock [some (false, .fr, .int s), some (b, g.lock, .list (dLs dn)), some (false, .fr, .int p), some (false, .ls, .list (dLs F')), some (false, .fr, .int (a : Nat)), some (false, .fr, dL bd), s6, s7, s8] [(1, g)] = [some (false, .fr, .int s), some (b, g, .list (dLs dn)), some (false, .fr, .int p), some (false, .ls, .list (dLs F')), some (false, .fr, .int (a : Nat)), some (false, .fr, dL bd), s6, s7, s8] := punlock1_any (b := b) (d := .list (dLs dn)) rfl
            rw [hu]
            exact fin F' s6 s7 s8 hF' hext (fun _ => q3) f6 f7 f8
        · refine wps_for (p := ((true, [], []), [some (false, .fr, .int s), some (b, g, .list (dLs K)), some (false, .fr, .int p), some (false, .ls, .list (dLs F)), some (false, .fr, .int (a : Nat)), some (false, .fr, dL bd), s6, s7, s8]))
            (fun xs e => xs = [] ∧ e = [some (false, .fr, .int s), some (b, g, .list (dLs K)), some (false, .fr, .int p), some (false, .ls, .list (dLs F)), some (false, .fr, .int (a : Nat)), some (false, .fr, dL bd), s6, s7, s8]) ?_ ⟨rfl, rfl⟩ (fun x xs e h => by cases h.1) ?_
          · have hs' : ¬ ((bd.sum : Nat) : Int) < p := by omega
            simp -implicitDefEqProofs [sum_ints, hs', lenOk_le]
          · rintro e ⟨_, rfl⟩
            exact fin F s6 s7 s8 hF ⟨[], by simp⟩ (fun h => absurd h hsum) f6 f7 f8
      · have ha : ¬ a < F.length := of_decide_eq_false hk
        have haf : a = F.length := by omega
        simp only [seqQ]
        apply wps_seq
        refine wps_retv (l := .list (dLs F)) rfl ?_
        simp only [seqQ, retQ]
        refine ⟨_, by simp, F, hF.all hK fun c hc => ?_, rfl⟩
        obtain ⟨j, hj⟩ := List.getElem?_of_mem hc
        exact hd j c (by rw [haf]; exact (List.getElem?_eq_some_iff.mp hj).1) hj
  obtain ⟨r, h1, F, hF, rfl⟩ := key
  exact ⟨F, hF, h1⟩
end Law
end
section
set_option linter.all false
set_option autoImplicit false
set_option maxRecDepth 20000
namespace Law
open PySem Ev
theorem at0_lt {b : List Nat} {i : Nat} (h : 0 < at0 b i) : i < b.length := by
  by_cases hl : i < b.length
  · exact hl
  · exfalso
    unfold at0 at h
    rw [List.getD_eq_getElem?_getD, List.getElem?_eq_none (by omega)] at h
    exact Nat.lt_irrefl 0 h
theorem at0_set {b : List Nat} {x : Nat} (v j : Nat) (h : x < b.length) : at0 (b.set x v) j = if j = x then v else at0 b j := by
  unfold at0
  rw [List.getD_eq_getElem?_getD, List.getD_eq_getElem?_getD, List.getElem?_set]
  by_cases e : x = j
  · subst e; rw [if_pos rfl, if_pos h, if_pos rfl]; rfl
  · rw [if_neg e, if_neg fun z => e z.symm]
theorem fill_at (b : List Nat) (i : Nat) : i ∈ fillN b ↔ 0 < at0 b i := by
  rw [mem_fillN]
  constructor
  · rintro ⟨v, h, hv⟩
    unfold at0
    rw [List.getD_eq_getElem?_getD, h]; exact hv
  · intro h
    exact ⟨at0 b i, getD_get (at0_lt h), h⟩
theorem fill_bit (b : List Nat) (i : Nat) : (bitsN (fillN b)).testBit i = decide (0 < at0 b i) := by
  rw [testBit_bitsN]; exact decide_eq_decide.mpr (fill_at b i)
theorem set_set {b : List Nat} (x v w : Nat) : (b.set x v).set x w = b.set x w := List.set_set ..
theorem set_self {b : List Nat} {x : Nat} (h : x < b.length) : b.set x (at0 b x) = b := by
  refine List.ext_getElem? fun j => ?_
  rw [List.getElem?_set]
  by_cases e : x = j
  · subst e; rw [if_pos rfl, if_pos h, getD_get h]
  · rw [if_neg e]
theorem zero_repl {s : Nat} {b : List Nat} (hl : b.length = s) (h : fillN b = []) : b = List.replicate s 0 := by
  refine List.eq_replicate_iff.mpr ⟨hl, fun x hx => ?_⟩
  obtain ⟨i, hi⟩ := List.getElem?_of_mem hx
  have : ¬ 0 < x := fun hp => by
    have := (mem_fillN b i).mpr ⟨x, hi, hp⟩
    rw [h] at this; cases this
  omega
theorem maxN_le {l : List Nat} {v : Nat} (hn : l ≠ []) (h : ∀ x ∈ l, x ≤ v) : maxN l ≤ v := h _ (maxN_mem hn)
theorem in_most {b k : List Nat} {x : Nat} (hx : x ∈ k) (h : ∀ y ∈ k, at0 b y ≤ at0 b x) : x ∈ mostN b k := by
  unfold mostN
  rw [List.mem_filter]
  refine ⟨hx, ?_⟩
  have hn : (k.map fun i => at0 b i) ≠ [] := by
    intro e; rw [List.map_eq_nil_iff] at e; rw [e] at hx; cases hx
  have h1 : maxN (k.map fun i => at0 b i) ≤ at0 b x := maxN_le hn fun z hz => by
    obtain ⟨y, hy, rfl⟩ := List.mem_map.mp hz
    exact h y hy
  have h2 : at0 b x ≤ maxN (k.map fun i => at0 b i) := maxN_ge (List.mem_map.mpr ⟨x, hx, rfl⟩)
  have : at0 b x = maxN (k.map fun i => at0 b i) := Nat.le_antisymm h2 h1
  simpa using this
theorem most_ge {b k : List Nat} {x y : Nat} (h : x ∈ mostN b k) (hy : y ∈ k) : at0 b y ≤ at0 b x := by
  rw [(mem_most h).2]
  exact maxN_ge (List.mem_map.mpr ⟨y, hy, rfl⟩)
/-- peeling bare comes from raising -/
theorem peel_reach {s : Nat} {K : List (List Nat)} (h8 : s ≤ 8) {l l' : Nat} (hp : Peel (K.map bitsN) l l') : l' = 0 → ∀ b : List Nat, b.length = s → bitsN (fillN b) = l → Reach s K b := by
  induction hp with
  | done l =>
    intro h0 b hb hl
    rw [h0] at hl
    rw [zero_repl hb ((bitsN_zero _).mp hl)]
    exact .zero
  | @step l l' x k hk hx _ ih =>
    intro h0 b hb hl
    obtain ⟨κ, hκ, rfl⟩ := List.mem_map.mp hk
    obtain ⟨x8, hxk, hxl⟩ := spot_bit hx
    have hxκ : x ∈ κ := by rw [testBit_bitsN] at hxk; exact of_decide_eq_true hxk
    have hpos : 0 < at0 b x := by rw [← hl, fill_bit] at hxl; exact of_decide_eq_true hxl
    have hlt : x < b.length := at0_lt hpos
    have oth : ∀ y ∈ κ, y ≠ x → at0 b y = 0 := fun y hy hne => by
      by_cases hz : at0 b y = 0
      · exact hz
      · exfalso
        have hp' : 0 < at0 b y := Nat.pos_of_ne_zero hz
        have h1 : y ∈ spots (bitsN κ &&& l) := by
          rw [mem_spots, Nat.testBit_and, testBit_bitsN, ← hl, fill_bit]
          refine ⟨by have := at0_lt hp'; omega, by simp [hy, hp']⟩
        rw [hx] at h1
        exact hne (List.mem_singleton.mp h1)
    have r0 : Reach s K (b.set x 0) := ih h0 _ (by rw [List.length_set]; exact hb) (by
      refine Nat.eq_of_testBit_eq fun j => ?_
      rw [fill_bit, testBit_diff, ← hl, fill_bit, at0_set _ _ hlt, Nat.testBit_two_pow]
      by_cases e : j = x
      · subst e; simp
      · simp [e]; exact fun _ z => e z.symm)
    have r : ∀ v, Reach s K (b.set x v) := fun v => by
      induction v with
      | zero => exact r0
      | succ v ih =>
        have e : up (b.set x v) x = b.set x (v + 1) := by
          unfold up
          rw [set_set, at0_set _ _ hlt, if_pos rfl]
        rw [← e]
        refine .step ih hκ (in_most hxκ fun y hy => ?_)
        rw [at0_set _ _ hlt, at0_set _ _ hlt, if_pos rfl]
        by_cases e : y = x
        · rw [if_pos e]; exact Nat.le_refl _
        · rw [if_neg e, oth y hy e]; exact Nat.zero_le _
    have := r (at0 b x)
    rwa [set_self hlt] at this
/-- where raising comes, a last shelf is found -/
theorem reach_last {s : Nat} {K : List (List Nat)} (hK : KOk s K) (h8 : s ≤ 8) {b : List Nat} (h : Reach s K b) : ∀ L : Nat, (∀ i, L.testBit i = true → 0 < at0 b i) → L ≠ 0 → ∃ κ ∈ K, (spots (bitsN κ &&& L)).length = 1 := by
  induction h with
  | zero =>
    intro L hL hn
    exfalso
    obtain ⟨i, hi⟩ := Nat.exists_testBit_of_ne_zero hn
    have := hL i hi
    unfold at0 at this
    rw [List.getD_eq_getElem?_getD, List.getElem?_replicate] at this
    split at this <;> simp at this
  | @step b k i hr hk hi ih =>
    intro L hL hn
    have hib : i < b.length := by rw [hr.len]; exact hK.lt k hk i (mem_most hi).1
    by_cases hall : ∀ j, L.testBit j = true → 0 < at0 b j
    · exact ih L hall hn
    · obtain ⟨j, hj⟩ := Classical.not_forall.mp hall
      obtain ⟨hjL, hj0⟩ := Classical.not_imp.mp hj
      have hup : ∀ y, at0 (up b i) y = if y = i then at0 b i + 1 else at0 b y := fun y => by unfold up; rw [at0_set _ _ hib]
      have hji : j = i := by
        by_cases e : j = i
        · exact e
        · have := hL j hjL
          rw [hup, if_neg e] at this
          exact absurd this hj0
      subst hji
      have hb0 : at0 b j = 0 := by omega
      have hz : ∀ y ∈ k, at0 b y = 0 := fun y hy => by have := most_ge hi hy; omega
      refine ⟨k, hk, ?_⟩
      have hm : ∀ y, y ∈ spots (bitsN k &&& L) ↔ y ∈ [j] := fun y => by
        rw [mem_spots, Nat.testBit_and, testBit_bitsN, List.mem_singleton]
        constructor
        · rintro ⟨_, hy⟩
          have hy' : y ∈ k ∧ L.testBit y = true := by simpa using hy
          by_cases e : y = j
          · exact e
          · have := hL y hy'.2
            rw [hup, if_neg e, hz y hy'.1] at this
            exact absurd this (Nat.lt_irrefl 0)
        · rintro rfl
          refine ⟨by have := hr.len; omega, ?_⟩
          rw [hjL, Bool.and_true]
          exact decide_eq_true (mem_most hi).1
      have := nodup_len ((spots_up (bitsN k &&& L)).imp fun {a b} h => Nat.ne_of_lt h) (m := [j]) (by simp) hm
      simpa using this
theorem Peel.sub {B : List Nat} {l l' : Nat} (h : Peel B l l') (i : Nat) : l'.testBit i = true → l.testBit i = true := by
  induction h with
  | done l => exact id
  | step _ _ _ ih =>
    intro hi
    have := ih hi
    rw [testBit_diff] at this
    revert this
    cases Nat.testBit _ i <;> simp
def Stuck (K : List (List Nat)) (left : Nat) : Prop := left = 0 ∨ ∀ k ∈ K.map bitsN, (spots (k &&& left)).length ≠ 1
theorem bare_iff {s : Nat} {K : List (List Nat)} (hK : KOk s K) (h8 : s ≤ 8) {b : List Nat} {left : Nat} (hb : b.length = s) (hp : Peel (K.map bitsN) (bitsN (fillN b)) left) (hs : Stuck K left) : left = 0 ↔ Reach s K b := by
  constructor
  · exact fun h0 => peel_reach h8 hp h0 b hb rfl
  · intro hr
    by_cases h0 : left = 0
    · exact h0
    · exfalso
      obtain ⟨κ, hκ, h1⟩ := reach_last hK h8 hr left (fun i hi => by
        have := hp.sub i hi
        rw [fill_bit] at this
        exact of_decide_eq_true this) h0
      rcases hs with z | z
      · exact h0 z
      · exact z _ (List.mem_map.mpr ⟨κ, hκ, rfl⟩) h1
theorem told_ok {s : Nat} {ks : List (List Nat)} (hk : Kinds s ks) (h8 : s ≤ 8) : KOk s (told ks) where
  ne := fun k h => (told_kind hk h8 h).2.1
  lt := fun k h => (told_kind hk h8 h).2.2.1
  len := fun k h => by
    obtain ⟨_, _, h3, h4⟩ := told_kind hk h8 h
    have : k.length ≤ (List.range 8).length := List.Nodup.length_le_of_subset (h4.imp fun {a b} h => Nat.ne_of_lt h) fun x hx => List.mem_range.mpr (by have := h3 x hx; omega)
    simpa using this
theorem told_len' {s : Nat} {ks : List (List Nat)} (hk : Kinds s ks) : (told ks).length ≤ 8 := by
  have h := told_up ks
  have h1 : (told ks).length ≤ (ks.map srt).length := List.Nodup.length_le_of_subset (h.1.imp fun {a b} h e => h.2 e) fun x hx => by
    obtain ⟨k, hk, e⟩ := (h.2 x).mp hx
    exact List.mem_map.mpr ⟨k, hk, e⟩
  rw [List.length_map] at h1
  have := hk.len
  omega
open Classical in
theorem comes_r (n : Nat) (b b1 : Bool) (g1 : Fg) (v : D) (s : Nat) (ks ss : List (List Nat)) (l l0 : List Nat) (hk : Kinds s ks) (h : Board s l) (h0 : Board s l0) (h8 : s ≤ 8) (hv : BoardV l g1 v) (he : fillN l = fillN l0) : ph (n + 5) 23 [(b, .fr, dStore s ks ss), (b1, g1, v)] = some ((.fr, .bool (decide (Reach s (told ks) l0))), [ret b .fr (dStore s ks ss), ret b1 g1 v]) := by
  obtain ⟨left, e, hp, hs⟩ := comes_s n b b1 g1 v s ks ss l h h8 hv
  rw [he] at hp
  rw [e, decide_eq_decide.mpr (bare_iff (told_ok hk h8) h8 h0.len hp hs)]
end Law
end
section
set_option linter.all false
set_option autoImplicit false
set_option maxRecDepth 20000
namespace Law
open PySem Ev
theorem sum_mem : ∀ {l : List Nat} {x : Nat}, x ∈ l → x ≤ l.sum
  | y :: l, x, h => by
    rw [List.sum_cons]
    rcases List.mem_cons.mp h with e | e
    · omega
    · have := sum_mem e; omega
theorem boards_ok {s p : Nat} {c : List Nat} (hp : p ≤ 60) (h : c ∈ allB p s) : Board s c := by
  obtain ⟨h1, h2⟩ := (mem_allB p s c).mp h
  refine ⟨h1, fun x hx => ?_⟩
  have : x ≤ c.sum := sum_mem hx
  omega
def shB (b : Bool) : D := .str (PyData.bool b).shown
theorem repr_b (b : Bool) : biD .repr [.bool b] = some (shB b) := by cases b <;> rfl
def shB2 (b : Bool) : D := .str (PyData.list [.bool b, .bool b]).shown
theorem repr_b2 (b : Bool) : biD .repr [.list [.bool b, .bool b]] = some (shB2 b) := by cases b <;> rfl
theorem eq_str {x : Str} (h : PyData.strOk x = true) : eqD (.str x) (.str x) = some true := by
  unfold eqD
  simp [toPy, SeqAt.shaped, PyData.eqv, PyData.canLay0, PyData.depth, h]
theorem ne_b (b : Bool) : eqD (shB b) (shB b) = some true := eq_str (by cases b <;> decide +kernel)
theorem ne_b2 (b : Bool) : eqD (shB2 b) (shB2 b) = some true := eq_str (by cases b <;> decide +kernel)
theorem mapIdx_dLs (l : List (List Nat)) : ((dLs l).mapIdx fun k x => D.tup [.int k, x]) = l.zipIdx.map fun p => D.tup [.int p.2, dL p.1] := by
  rw [List.mapIdx_eq_zipIdx_map]
  unfold dLs
  rw [List.zipIdx_map, List.map_map]
  rfl
theorem fill_snoc (l : List Nat) (v : Nat) : fillN (l ++ [v]) = if 0 < v then fillN l ++ [l.length] else fillN l := by
  unfold fillN
  rw [List.zipIdx_append, List.filter_append, List.map_append]
  by_cases h : 0 < v
  · rw [if_pos h]; simp [h]
  · rw [if_neg h]; simp [h]
theorem allB_ne (s p : Nat) : dLs (allB p s) ≠ [] := fun e => by
  have h := (mem_allB p s (List.replicate s 0)).mpr ⟨by simp, by simp⟩
  unfold dLs at e
  rw [List.map_eq_nil_iff] at e
  rw [e] at h; cases h
theorem allB_small {s p : Nat} (hp : p ≤ 6) (hs : s ≤ 4) : (dLs (allB p s)).length < 1073741824 := by
  have h2 := allB_len hp s
  have h3 : 7 ^ s ≤ 7 ^ 4 := Nat.pow_le_pow_right (by decide) hs
  have h4 : (7 : Nat) ^ 4 = 2401 := by decide
  rw [dLs_len]
  omega
open Classical in
theorem right_s (n : Nat) (d : D) (hd : Pot d) : ph (n + 7) 32 [(false, .ls, d)] = some ((.fr, .bool true), [(.fr, .none)]) := by
  refine fn_eq (d := d32) rfl rfl rfl ?_
  show wps _ m32 [some (false, .ls, d), none, none, none, none, none, none, none, none, none, none, none, none] _
  obtain ⟨d1, r, hd1, hr, er⟩ := draw_s (n + 5) false .fr d 3 hd (by decide) (by decide)
  obtain ⟨s, hs⟩ : ∃ s, s = 2 + r := ⟨_, rfl⟩
  obtain ⟨p, hp⟩ : ∃ p, p = [0, 0, 6, 5, 4].getD s 0 := ⟨_, rfl⟩
  have hs2 : 2 ≤ s := by omega
  have hs4 : s ≤ 4 := by omega
  have hs8 : s ≤ 8 := by omega
  have hp6 : p ≤ 6 := by
    obtain rfl | rfl | rfl : r = 0 ∨ r = 1 ∨ r = 2 := by omega
    all_goals subst hs; subst hp; decide
  apply wps_seq
  refine wps_asg1 (e := [some (false, .ls, d1), some (false, .fr, .int (s : Nat)), none, none, none, none, none, none, none, none, none, none, none]) ?_ ?_
  · have : (2 : Int) + (r : Nat) = (s : Nat) := by omega
    have er' : ph (n + 6) 25 [(true, .ls, d), (false, .fr, .int 3)] = some ((.fr, .int (r : Nat)), [(.ls, d1), ret false .fr (.int 3)]) := er
    simp -implicitDefEqProofs [er', this]
  apply wps_seq
  refine wps_asg1 (e := [some (false, .ls, d1), some (false, .fr, .int (s : Nat)), some (false, .fr, .int (p : Nat)), none, none, none, none, none, none, none, none, none, none]) ?_ ?_
  · obtain rfl | rfl | rfl : r = 0 ∨ r = 1 ∨ r = 2 := by omega
    all_goals subst hs; subst hp; rfl
  obtain ⟨d2, ks, hd2, hks, hkl, ek⟩ := kinds_s (n + 4) d1 s 4 hd1 hs2 hs8 (by decide)
  obtain ⟨d3, ss, hd3, hss, hsl, es⟩ := kinds_s (n + 4) d2 s 2 hd2 hs2 hs8 (by decide)
  have ek' : ph (n + 6) 27 [(true, .ls, d1), (false, .fr, .int (s : Nat)), (false, .fr, .int 4)] = some ((.ls, .list (dLs ks)), [(.ls, d2), (.fr, .none), (.fr, .none)]) := ek
  have es' : ph (n + 6) 27 [(true, .ls, d2), (false, .fr, .int (s : Nat)), (false, .fr, .int 2)] = some ((.ls, .list (dLs ss)), [(.ls, d3), (.fr, .none), (.fr, .none)]) := es
  apply wps_seq
  refine wps_par (p := ([(.ls, .list (dLs ks)), (.ls, .list (dLs ss))], [some (false, .ls, d3), some (false, .fr, .int (s : Nat)), some (false, .fr, .int (p : Nat)), none, none, none, none, none, none, none, none, none, none])) (e := [some (false, .ls, d3), some (false, .fr, .int (s : Nat)), some (false, .fr, .int (p : Nat)), some (false, .ls, .list (dLs ks)), some (false, .ls, .list (dLs ss)), none, none, none, none, none, none, none, none]) ?_ (by decide) (by simp [psetNs]) ?_
  · simp -implicitDefEqProofs [ek', es']
  have ei := init_s n true .ls true .ls s ks ss hs2 hs8 hks hss
  have et := told_s (n + 5) true .ls s ks hks hs8
  apply wps_seq
  refine wps_par (p := ([(.fr, dStore s ks ss), (.ls, .list (dLs (told ks)))], [some (false, .ls, d3), some (false, .fr, .int (s : Nat)), some (false, .fr, .int (p : Nat)), some (false, .ls, .list (dLs ks)), some (false, .ls, .list (dLs ss)), none, none, none, none, none, none, none, none])) (e := [some (false, .ls, d3), some (false, .fr, .int (s : Nat)), some (false, .fr, .int (p : Nat)), some (false, .ls, .list (dLs ks)), some (false, .ls, .list (dLs ss)), some (false, .fr, dStore s ks ss), some (false, .ls, .list (dLs (told ks))), none, none, none, none, none, none]) ?_ (by decide) (by simp [psetNs]) ?_
  · simp -implicitDefEqProofs [ei, et]
  have hK := told_ok hks hs8
  obtain ⟨F, hF, ew⟩ := walks_s (n + 4) true .ls s p (told ks) hK hp6 hs4
  apply wps_seq
  refine wps_asg1 (e := [some (false, .ls, d3), some (false, .fr, .int (s : Nat)), some (false, .fr, .int (p : Nat)), some (false, .ls, .list (dLs ks)), some (false, .ls, .list (dLs ss)), some (false, .fr, dStore s ks ss), some (false, .ls, .list (dLs (told ks))), some (false, .ls, .list (dLs F)), none, none, none, none, none]) ?_ ?_
  · have ew' : ph (n + 6) 30 [(false, .fr, .int (s : Nat)), (true, .ls, .list (dLs (told ks))), (false, .fr, .int (p : Nat))] = some ((.ls, .list (dLs F)), [(.fr, .none), ret true .ls (.list (dLs (told ks))), (.fr, .none)]) := ew
    simp -implicitDefEqProofs [ew']
  obtain ⟨o, ho, eb⟩ := boards_s (n + 5) s p hp6 (by omega) hs4
  have eb' : ph (n + 6) 31 [(false, .fr, .int (s : Nat)), (false, .fr, .int (p : Nat))] = some ((o, .list (dLs (allB p s))), [(.fr, .none), (.fr, .none)]) := eb
  have hmF : ∀ c, c ∈ allB p s → (decide (Reach s (told ks) c) = decide (c ∈ F)) := fun c hc => decide_eq_decide.mpr (by rw [hF c]; exact ⟨fun z => ⟨z, ((mem_allB p s c).mp hc).2⟩, fun z => z.1⟩)
  apply wps_seq
  refine wps_for (p := ((true, dLs (allB p s), []), [some (false, .ls, d3), some (false, .fr, .int (s : Nat)), some (false, .fr, .int (p : Nat)), some (false, .ls, .list (dLs ks)), some (false, .ls, .list (dLs ss)), some (false, .fr, dStore s ks ss), some (false, .ls, .list (dLs (told ks))), some (false, .ls, .list (dLs F)), none, none, none, none, none]))
    (fun xs e => ∃ rs s8, (∀ c ∈ rs, c ∈ allB p s) ∧ xs = dLs rs ∧ Fre s8 ∧ e = [some (false, .ls, d3), some (false, .fr, .int (s : Nat)), some (false, .fr, .int (p : Nat)), some (false, .ls, .list (dLs ks)), some (false, .ls, .list (dLs ss)), some (false, .fr, dStore s ks ss), some (false, .ls, .list (dLs (told ks))), some (false, .ls, .list (dLs F)), s8, none, none, none, none]) ?_ ?_ ?_ ?_
  · simp -implicitDefEqProofs [eb']
  · exact ⟨_, none, fun c hc => hc, rfl, .none, rfl⟩
  · rintro x xs e ⟨rs, s8, h1, h2, f8, rfl⟩
    cases rs with
    | nil => cases h2
    | cons c rs =>
      cases h2
      have hc := h1 c List.mem_cons_self
      have hB := boards_ok (by omega) hc
      refine ⟨[some (false, .ls, d3), some (false, .fr, .int (s : Nat)), some (false, .fr, .int (p : Nat)), some (false, .ls, .list (dLs ks)), some (false, .ls, .list (dLs ss)), some (false, .fr, dStore s ks ss), some (false, .ls, .list (dLs (told ks))), some (false, .ls, .list (dLs F)), some (false, .fr, dL c), none, none, none, none], by simp -implicitDefEqProofs [pst_fre f8], ?_⟩
      have ec := comes_r (n + 1) false false .fr (dL c) s ks ss c c hks hB hB hs8 (.list _) rfl
      rw [hmF c hc] at ec
      apply wps_seq
      refine wps_if (p := (false, [some (false, .ls, d3), some (false, .fr, .int (s : Nat)), some (false, .fr, .int (p : Nat)), some (false, .ls, .list (dLs ks)), some (false, .ls, .list (dLs ss)), some (false, .fr, dStore s ks ss), some (false, .ls, .list (dLs (told ks))), some (false, .ls, .list (dLs F)), some (false, .fr, dL c), none, none, none, none])) ?_ (fun hk => by cases hk) (fun _ => ?_)
      · have e3 := inL_dLs c F
        simp -implicitDefEqProofs [-biD_repr, ec, e3, flatD, repr_b, ne_b]
      · apply wps_skip
        apply wps_skip
        exact ⟨rs, _, fun c hc => h1 c (List.mem_cons_of_mem _ hc), rfl, .some _, rfl⟩
  · rintro e ⟨rs, s8, h1, h2, f8, rfl⟩
    simp only [punlock_nil, seqQ]
    obtain ⟨d4, x, hd4, hx, ep⟩ := pick_s (n + 4) false (if o = .ls then .ls else .fr) d3 (dLs (allB p s)) hd3 (allB_ne s p) (allB_small hp6 hs4)
    obtain ⟨bd, hbd, rfl⟩ := List.mem_map.mp hx
    have ep' : ph (n + 6) 26 [(true, .ls, d3), (false, (if o = .ls then .ls else .fr), .list (dLs (allB p s)))] = some ((.fr, dL bd), [(.ls, d4), ret false (if o = .ls then .ls else .fr) (.list (dLs (allB p s)))]) := ep
    have hB := boards_ok (by omega) hbd
    apply wps_seq
    refine wps_par (p := ([(.fr, dL bd), (.ls, dL [])], [some (false, .ls, d4), some (false, .fr, .int (s : Nat)), some (false, .fr, .int (p : Nat)), some (false, .ls, .list (dLs ks)), some (false, .ls, .list (dLs ss)), some (false, .fr, dStore s ks ss), some (false, .ls, .list (dLs (told ks))), some (false, .ls, .list (dLs F)), s8, none, none, none, none])) (e := [some (false, .ls, d4), some (false, .fr, .int (s : Nat)), some (false, .fr, .int (p : Nat)), some (false, .ls, .list (dLs ks)), some (false, .ls, .list (dLs ss)), some (false, .fr, dStore s ks ss), some (false, .ls, .list (dLs (told ks))), some (false, .ls, .list (dLs F)), some (false, .fr, dL bd), some (false, .ls, dL []), none, none, none]) ?_ (by decide) (by simp [psetNs, pst_fre f8]) ?_
    · rcases ho with rfl | rfl
      · have ep'' : ph (n + 6) 26 [(true, .ls, d3), (false, .fr, .list (dLs (allB p s)))] = some ((.fr, dL bd), [(.ls, d4), ret false .fr (.list (dLs (allB p s)))]) := by simpa using ep'
        simp -implicitDefEqProofs [eb', ep'', lenOk_le]
      · have ep'' : ph (n + 6) 26 [(true, .ls, d3), (false, .ls, .list (dLs (allB p s)))] = some ((.fr, dL bd), [(.ls, d4), ret false .ls (.list (dLs (allB p s)))]) := by simpa using ep'
        simp -implicitDefEqProofs [eb', ep'', lenOk_le]
    apply wps_seq
    refine wps_for (p := ((true, dIs bd, [(8, .fr)]), [some (false, .ls, d4), some (false, .fr, .int (s : Nat)), some (false, .fr, .int (p : Nat)), some (false, .ls, .list (dLs ks)), some (false, .ls, .list (dLs ss)), some (false, .fr, dStore s ks ss), some (false, .ls, .list (dLs (told ks))), some (false, .ls, .list (dLs F)), some (false, .fr, dL bd), some (false, .ls, dL []), none, none, none]))
      (fun xs e => ∃ dn rs ot d4 s10, Pot d4 ∧ dn ++ rs = bd ∧ xs = dIs rs ∧ ot.length = dn.length ∧ (∀ x ∈ ot, x ≤ 60) ∧ fillN ot = fillN dn ∧ Fre s10 ∧ e = [some (false, .ls, d4), some (false, .fr, .int (s : Nat)), some (false, .fr, .int (p : Nat)), some (false, .ls, .list (dLs ks)), some (false, .ls, .list (dLs ss)), some (false, .fr, dStore s ks ss), some (false, .ls, .list (dLs (told ks))), some (false, .ls, .list (dLs F)), some (false, .fr, dL bd), some (false, .ls, dL ot), s10, none, none]) ?_ ?_ ?_ ?_
    · simp -implicitDefEqProofs
    · exact ⟨[], bd, [], d4, none, hd4, rfl, rfl, rfl, by simp, rfl, .none, rfl⟩
    · rintro x xs e ⟨dn, rs, ot, d4, s10, hd4, q1, q2, q3, q4, q5, f10, rfl⟩
      cases rs with
      | nil => cases q2
      | cons a rs =>
        cases q2
        refine ⟨[some (false, .ls, d4), some (false, .fr, .int (s : Nat)), some (false, .fr, .int (p : Nat)), some (false, .ls, .list (dLs ks)), some (false, .ls, .list (dLs ss)), some (false, .fr, dStore s ks ss), some (false, .ls, .list (dLs (told ks))), some (false, .ls, .list (dLs F)), some (false, .fr, dL bd), some (false, .ls, dL ot), some (false, .fr, .int (a : Nat)), none, none], by simp -implicitDefEqProofs [pst_fre f10], ?_⟩
        obtain ⟨d5, r, hd5, hr, er⟩ := draw_s (n + 5) false .fr d4 60 hd4 (by decide) (by decide)
        have er' : ph (n + 6) 25 [(true, .ls, d4), (false, .fr, .int 60)] = some ((.fr, .int (r : Nat)), [(.ls, d5), ret false .fr (.int 60)]) := er
        have hol : ot.length < sizeLine := by
          have := hB.len
          rw [← q1, List.length_append, List.length_cons] at this
          exact szL (by omega)
        apply wps_seq
        by_cases ha : a = 0
        · subst ha
          refine wps_ex1 (r := .val .fr .none) (e := [some (false, .ls, d4), some (false, .fr, .int (s : Nat)), some (false, .fr, .int (p : Nat)), some (false, .ls, .list (dLs ks)), some (false, .ls, .list (dLs ss)), some (false, .fr, dStore s ks ss), some (false, .ls, .list (dLs (told ks))), some (false, .ls, .list (dLs F)), some (false, .fr, dL bd), some (false, .ls, dL (ot ++ [0])), some (false, .fr, .int ((0 : Nat) : Int)), none, none]) ?_ ?_
          · simp -implicitDefEqProofs [hol, ← dIs_app]
          · apply wps_skip
            refine ⟨dn ++ [0], rs, ot ++ [0], d4, _, hd4, by rw [← q1]; simp, rfl, by simp [q3], ?_, ?_, .some _, rfl⟩
            · intro x hx
              rcases List.mem_append.mp hx with z | z
              · exact q4 x z
              · rw [List.mem_singleton.mp z]; decide
            · rw [fill_snoc, fill_snoc, if_neg (by decide), if_neg (by decide)]; exact q5
        · refine wps_ex1 (r := .val .fr .none) (e := [some (false, .ls, d5), some (false, .fr, .int (s : Nat)), some (false, .fr, .int (p : Nat)), some (false, .ls, .list (dLs ks)), some (false, .ls, .list (dLs ss)), some (false, .fr, dStore s ks ss), some (false, .ls, .list (dLs (told ks))), some (false, .ls, .list (dLs F)), some (false, .fr, dL bd), some (false, .ls, dL (ot ++ [1 + r])), some (false, .fr, .int (a : Nat)), none, none]) ?_ ?_
          · have ha' : ¬ (a : Int) = 0 := by omega
            have e5 : dI (1 + r) = .int (1 + (r : Nat)) := by show D.int _ = _; rw [show ((1 + r : Nat) : Int) = 1 + (r : Nat) by omega]
            have e6 : dIs [1 + r] = [.int (1 + (r : Nat))] := by rw [← e5]; rfl
            simp -implicitDefEqProofs [hol, ← dIs_app, er', ha, ha', e6]
          · apply wps_skip
            refine ⟨dn ++ [a], rs, ot ++ [1 + r], d5, _, hd5, by rw [← q1]; simp, rfl, by simp [q3], ?_, ?_, .some _, rfl⟩
            · intro x hx
              rcases List.mem_append.mp hx with z | z
              · exact q4 x z
              · rw [List.mem_singleton.mp z]; omega
            · rw [fill_snoc, fill_snoc, if_pos (by omega), if_pos (by omega), q5, q3]
    · rintro e ⟨dn, rs, ot, d5, s10, hd5, q1, q2, q3, q4, q5, f10, rfl⟩
      have hr : rs = [] := by cases rs with | nil => rfl | cons => cases q2
      subst hr
      rw [List.append_nil] at q1
      subst q1
      simp only [punlock_cons, punlock_nil, punlock1_fr, seqQ]
      have hBo : Board s ot := ⟨by rw [q3]; exact hB.len, q4⟩
      have ei2 : ph (n + 6) 12 [(false, .fr, .int (s : Nat)), (true, .ls, .list (dLs ks)), (false, .ls, .list [])] = some ((.fr, dStore s ks []), [(.fr, .none), ret true .ls (.list (dLs ks)), ret false .ls (.list (dLs []))]) := init_s n true .ls false .ls s ks [] hs2 hs8 hks ⟨by simp, by simp⟩
      have c1 := comes_r (n + 1) false false .fr (dT ot) s ks ss ot dn hks hBo hB hs8 .tup q5
      have c2 := comes_r (n + 1) false true .ls (dL ot) s ks [] ot dn hks hBo hB hs8 (.list _) q5
      rw [hmF dn hbd] at c1 c2
      have e3 := inL_dLs dn F
      apply wps_seq
      refine wps_if (p := (false, [some (false, .ls, d5), some (false, .fr, .int (s : Nat)), some (false, .fr, .int (p : Nat)), some (false, .ls, .list (dLs ks)), some (false, .ls, .list (dLs ss)), some (false, .fr, dStore s ks ss), some (false, .ls, .list (dLs (told ks))), some (false, .ls, .list (dLs F)), some (false, .fr, dL dn), some (false, .ls, dL ot), s10, none, none])) ?_ (fun hk => by cases hk) (fun _ => ?_)
      · simp -implicitDefEqProofs [-biD_repr, ei2, c1, c2, e3, flatD, repr_b2, ne_b2, lenOk_le]
      apply wps_skip
      apply wps_seq
      refine wps_for (p := ((false, (told ks).zipIdx.map (fun (p : List Nat × Nat) => D.tup [.int p.2, dL p.1]), [(6, .ls)]), [some (false, .ls, d5), some (false, .fr, .int (s : Nat)), some (false, .fr, .int (p : Nat)), some (false, .ls, .list (dLs ks)), some (false, .ls, .list (dLs ss)), some (false, .fr, dStore s ks ss), some (false, .lk, .list (dLs (told ks))), some (false, .ls, .list (dLs F)), some (false, .fr, dL dn), some (false, .ls, dL ot), s10, none, none]))
        (fun xs e => ∃ (rs : List (List Nat × Nat)) (s11 s12 : PSlot), (∀ q ∈ rs, (told ks)[q.2]? = some q.1) ∧ xs = rs.map (fun (p : List Nat × Nat) => D.tup [.int p.2, dL p.1]) ∧ Fre s11 ∧ Fre s12 ∧ e = [some (false, .ls, d5), some (false, .fr, .int (s : Nat)), some (false, .fr, .int (p : Nat)), some (false, .ls, .list (dLs ks)), some (false, .ls, .list (dLs ss)), some (false, .fr, dStore s ks ss), some (false, .lk, .list (dLs (told ks))), some (false, .ls, .list (dLs F)), some (false, .fr, dL dn), some (false, .ls, dL ot), s10, s11, s12]) ?_ ?_ ?_ ?_
      · simp -implicitDefEqProofs [← mapIdx_dLs]
      · exact ⟨(told ks).zipIdx, none, none, fun q hq => List.mem_zipIdx_iff_getElem?.mp hq, rfl, .none, .none, rfl⟩
      · rintro x xs e ⟨rs, s11, s12, h1, h2, f11, f12, rfl⟩
        cases rs with
        | nil => cases h2
        | cons q rs =>
          obtain ⟨k, i⟩ := q
          cases h2
          have hq : (told ks)[i]? = some k := h1 (k, i) List.mem_cons_self
          have hkt : k ∈ told ks := List.mem_of_getElem? hq
          refine ⟨[some (false, .ls, d5), some (false, .fr, .int (s : Nat)), some (false, .fr, .int (p : Nat)), some (false, .ls, .list (dLs ks)), some (false, .ls, .list (dLs ss)), some (false, .fr, dStore s ks ss), some (false, .lk, .list (dLs (told ks))), some (false, .ls, .list (dLs F)), some (false, .fr, dL dn), some (false, .ls, dL ot), s10, some (false, .fr, .int (i : Nat)), some (false, .fr, dL k)], by simp -implicitDefEqProofs [pst_fre f11, pst_fre f12], ?_⟩
          have m1 := most_shelves_s (n + 1) false true false .ls .fr (dL ot) s ks ss ot i k hks hBo hs8 (.list _) hq
          have m2 := most_shelves_s (n + 1) false false false .fr .fr (dT dn) s ks ss dn i k hks hB hs8 .tup hq
          have w1 := most_s (n + 5) true false .ls .fr ot k (by rw [hBo.len]; exact hK.lt k hkt) (hK.ne k hkt) (hK.len k hkt)
          have w2 := most_s (n + 5) false false .fr .fr dn k (by rw [hB.len]; exact hK.lt k hkt) (hK.ne k hkt) (hK.len k hkt)
          apply wps_seq
          refine wps_if (p := (false, [some (false, .ls, d5), some (false, .fr, .int (s : Nat)), some (false, .fr, .int (p : Nat)), some (false, .ls, .list (dLs ks)), some (false, .ls, .list (dLs ss)), some (false, .fr, dStore s ks ss), some (false, .lk, .list (dLs (told ks))), some (false, .ls, .list (dLs F)), some (false, .fr, dL dn), some (false, .ls, dL ot), s10, some (false, .fr, .int (i : Nat)), some (false, .fr, dL k)])) ?_ (fun hk => by cases hk) (fun _ => ?_)
          · simp -implicitDefEqProofs [m1, m2, w1, w2, eqD_dL]
          · apply wps_skip
            apply wps_skip
            exact ⟨rs, _, _, fun q hq => h1 q (List.mem_cons_of_mem _ hq), rfl, .some _, .some _, rfl⟩
      · rintro e ⟨rs, s11, s12, h1, h2, f11, f12, rfl⟩
        simp only [punlock_cons, punlock_nil, punlock1_ls, pslot_z, pslot_s, pul_lk, seqQ]
        apply wps_seq
        refine wps_ret1 (o := .fr) (d := .bool true) (e := _) rfl ?_
        simp -implicitDefEqProofs [seqQ, retQ]
theorem law_s (n : Nat) (ns : List Int) : ph (n + 8) 33 [(false, .fr, .scr ns)] = some ((.fr, .bool true), [(.fr, .none)]) := by
  refine fn_eq (d := d33) rfl rfl rfl ?_
  show wps _ m33 [some (false, .fr, .scr ns)] _
  obtain ⟨d, hd, ep⟩ := pot_s (n + 6) ns
  have er := right_s n d hd
  have ep' : ph (n + 7) 24 [(false, .fr, .scr ns), (false, .fr, .int 0)] = some ((.ls, d), [(.fr, .none), (.fr, .none)]) := ep
  apply wps_seq
  refine wps_ret1 (o := .fr) (d := .bool true) (e := [some (false, .fr, .scr ns)]) ?_ (by simp -implicitDefEqProofs [seqQ, retQ])
  simp -implicitDefEqProofs [ep', er]
theorem hlaw (ns : List Int) (_ : ns.length ≤ 63) : ∃ o ps, pphi pwhO (Law.ds.map DefI.fn) 14 33 [(false, .fr, .scr ns)] = some ((o, .bool true), ps) := ⟨_, _, law_s 6 ns⟩
end Law
end
section
set_option linter.all false
set_option autoImplicit false
set_option maxRecDepth 100000
open PySem PySem.W PySem.Calls PyProof.Rows
set_option maxHeartbeats 0 in
theorem Law.holds_of (hlaw : ∀ ns : List Int, ns.length ≤ 63 → ∃ o ps, Ev.pphi Ev.pwhO (Law.ds.map Ev.DefI.fn) 14 33 [(false, .fr, .scr ns)] = some ((o, .bool true), ps)) : PySem.Challenge.rw_twoabove_k81_whole_all_walks_to_the_full.Holds := by
  w_on; o_law
  refine HandSHeadRun.head_any (r := Law.R) (q := view Law.R.prog [52]) (H := Law.hk) (ob := Law.ob) (M := 20000) (loose := Law.names) (d := HandSHeadRun.topDef Law.R.prog 52) (kwd := []) Law.ob_eq
    (by kernel_rfl) (fun s => by kernel_rfl) Law.run (by kernel_rfl) (by kernel_rfl) (by kernel_rfl) (by rfl) (by first | assumption | decide +kernel) (by decide +kernel) ⟨rfl, rfl, rfl, rfl, rfl, by decide +kernel⟩ ?hw ?hc
  case hw => w_witness2
  case hc =>
    refine Ev.walk_ofG (l := Law.lw) (n := 63) (k := 2 * 14) (x := "_law_script") rfl (by decide) (by kernel_rfl) ⟨rfl, by decide, by decide⟩ ?F
    intro w mg fa h Y G hmg0
    obtain ⟨K, KX, c, cb⟩ := Y
    have hmg : mg ("law" : PySem.Str) = some (.ref fa) := by
      have e : (HandSHeadRun.topDef Law.R.prog 52).name = ("law" : PySem.Str) := by kernel_rfl
      rw [← e]
      exact hmg0
    have FF := Ev.facts_of Law.side KX G c (cb "Store" (List.mem_singleton.mpr rfl))
    obtain ⟨F0, _⟩ := FF.defs 33 Law.d33 rfl
    obtain ⟨dd, hd1, _, hd2, _⟩ := FF.calls ⟨"law", 1, [], [0], 33⟩ (List.mem_of_getElem? (i := 34) rfl)
    have hfa : fa = Ev.adrOf K Law.ds 33 := by
      have e := hmg.symm.trans hd2
      exact Value.ref.inj (Option.some.inj e)
    subst hfa
    refine ⟨K, Ev.fdOf K Law.ds 33, Ev.spF (Ev.infP Law.T K "Store") (Ev.phi Ev.whO (Law.ds.map Ev.DefI.fn) 14) 33, KX, ?_, fun H a ns hl hO hS => ?_, fun base _ _ => ?_⟩
    · obtain ⟨oc, od, dV, kV, doc, pm, an, cdv, ct, osl, e, lk, hcd, hD, hK⟩ := F0.ex
      intro s u
      rw [e]
      rcases hD with ⟨_, rfl⟩ | ⟨e, _⟩
      · exact .of_eq rfl
      · exact absurd rfl e
    · obtain ⟨o, ps, hp⟩ := hlaw ns hl
      obtain ⟨ws, hw⟩ := Ev.law_of hp
      exact Ev.law_sp hO hS hw
    · exact Ev.levels FF 14 33 Law.d33 rfl
end
theorem PySem.Challenge.cw_twoabove_k81_whole_all_walks_to_the_full_holds : PySem.Challenge.rw_twoabove_k81_whole_all_walks_to_the_full.Holds :=
  Law.holds_of Law.hlaw
