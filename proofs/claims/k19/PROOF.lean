import PyProof.Rows.All
import Wide.All
import OpenK.AllK
import Wide.FinOn
import KE.KStateDown
import KE.GoesZip
import KE.GoesMore
import HandS.ForMost
import HandS.Exc
import HandS.Flow
import HandS.Star
import HandS.IsInst
import HandS.TupAny
import HandS.Conv
import HandS.Defaults
import HandS.MakeKwOnly
import HandS.ExcOwn
import HandS.Head0
import HandS.Head1
import HandS.Head2
import HandS.HeadEnd
import HandS.HeadHook1
import HandS.HeadHook2
import HandS.CallRecv
import HandS.HeadWalk
import HandS.CallSlots
import PySem.Challenge.RW_shownplay_k19_truth_values_of_formulas
set_option Elab.async false
set_option linter.all false
set_option maxRecDepth 100000
set_option maxHeartbeats 4000000
/-! PmA: a small Python of our own: values, heap, syntax, what it does. -/
namespace PM
open PySem L2

/-- values: tuples stand as values, mutable objects by their place in the heap -/
inductive W where
  | non | bl (b : Bool) | int (i : Int) | str (s : Str) | ty (n : String) | fn (f : Nat) | cls (c : Nat) | ref (n : Nat) | tup (ws : List W) | rol (ws : List W)
instance : Inhabited W := ⟨.non⟩
/-- what stands in the heap -/
inductive AO where
  | lst (ws : List W) | ins (c : Nat) (fs : List (Nat × W))
/-- a tree of objects by number -/
inductive Tr where
  | e | n (l : Tr) (x : Option AO) (r : Tr)
def Tr.get : Tr → Nat → Option AO
  | .e, _ => none
  | .n l x r, k => if k = 0 then x else if k % 2 = 1 then l.get (k / 2) else r.get (k / 2 - 1)
def Tr.put : Nat → Tr → Nat → AO → Tr
  | 0, t, _, _ => t
  | f + 1, .e, k, v => if k = 0 then .n .e (some v) .e else if k % 2 = 1 then .n (Tr.put f .e (k / 2) v) none .e else .n .e none (Tr.put f .e (k / 2 - 1) v)
  | f + 1, .n l x r, k, v => if k = 0 then .n l (some v) r else if k % 2 = 1 then .n (Tr.put f l (k / 2) v) x r else .n l x (Tr.put f r (k / 2 - 1) v)
theorem Tr.get_put : ∀ (f : Nat) (t : Tr) (k : Nat) (v : AO) (j : Nat), k < f → (Tr.put f t k v).get j = if j = k then some v else t.get j
  | 0, _, _, _, _, h => absurd h (Nat.not_lt_zero _)
  | f + 1, t, k, v, j, h => by
    have em : ∀ j, Tr.e.get j = none := fun _ => rfl
    cases t with
    | e =>
      unfold Tr.put
      by_cases k0 : k = 0
      · rw [if_pos k0]
        show (if j = 0 then some v else if j % 2 = 1 then Tr.e.get (j / 2) else Tr.e.get (j / 2 - 1)) = _
        rw [em, em, em]
        by_cases j0 : j = 0
        · rw [if_pos j0, if_pos (by omega)]
        · rw [if_neg j0, if_neg (show ¬ j = k by omega)]
          split <;> rfl
      · rw [if_neg k0]
        by_cases k1 : k % 2 = 1
        · rw [if_pos k1]
          show (if j = 0 then none else if j % 2 = 1 then (Tr.put f .e (k / 2) v).get (j / 2) else Tr.e.get (j / 2 - 1)) = _
          rw [Tr.get_put f .e (k / 2) v (j / 2) (by omega), em, em, em]
          by_cases j0 : j = 0
          · rw [if_pos j0, if_neg (by omega)]
          · rw [if_neg j0]
            by_cases j1 : j % 2 = 1
            · rw [if_pos j1]
              by_cases e : j = k
              · rw [if_pos e, if_pos (by omega)]
              · rw [if_neg e, if_neg (by omega)]
            · rw [if_neg j1, if_neg (by omega)]
        · rw [if_neg k1]
          show (if j = 0 then none else if j % 2 = 1 then Tr.e.get (j / 2) else (Tr.put f .e (k / 2 - 1) v).get (j / 2 - 1)) = _
          rw [Tr.get_put f .e (k / 2 - 1) v (j / 2 - 1) (by omega), em, em, em]
          by_cases j0 : j = 0
          · rw [if_pos j0, if_neg (by omega)]
          · rw [if_neg j0]
            by_cases j1 : j % 2 = 1
            · rw [if_pos j1, if_neg (by omega)]
            · rw [if_neg j1]
              by_cases e : j = k
              · rw [if_pos e, if_pos (by omega)]
              · rw [if_neg e, if_neg (by omega)]
    | n l x r =>
      unfold Tr.put
      by_cases k0 : k = 0
      · rw [if_pos k0]
        show (if j = 0 then some v else if j % 2 = 1 then l.get (j / 2) else r.get (j / 2 - 1)) = if j = k then some v else if j = 0 then x else if j % 2 = 1 then l.get (j / 2) else r.get (j / 2 - 1)
        by_cases j0 : j = 0
        · rw [if_pos j0, if_pos (by omega)]
        · rw [if_neg j0, if_neg (show ¬ j = k by omega), if_neg j0]
      · rw [if_neg k0]
        by_cases k1 : k % 2 = 1
        · rw [if_pos k1]
          show (if j = 0 then x else if j % 2 = 1 then (Tr.put f l (k / 2) v).get (j / 2) else r.get (j / 2 - 1)) = if j = k then some v else if j = 0 then x else if j % 2 = 1 then l.get (j / 2) else r.get (j / 2 - 1)
          rw [Tr.get_put f l (k / 2) v (j / 2) (by omega)]
          by_cases j0 : j = 0
          · rw [if_pos j0, if_neg (by omega), if_pos j0]
          · rw [if_neg j0, if_neg j0]
            by_cases j1 : j % 2 = 1
            · rw [if_pos j1, if_pos j1]
              by_cases e : j = k
              · rw [if_pos e, if_pos (by omega)]
              · rw [if_neg e, if_neg (by omega)]
            · rw [if_neg j1, if_neg j1, if_neg (by omega)]
        · rw [if_neg k1]
          show (if j = 0 then x else if j % 2 = 1 then l.get (j / 2) else (Tr.put f r (k / 2 - 1) v).get (j / 2 - 1)) = if j = k then some v else if j = 0 then x else if j % 2 = 1 then l.get (j / 2) else r.get (j / 2 - 1)
          rw [Tr.get_put f r (k / 2 - 1) v (j / 2 - 1) (by omega)]
          by_cases j0 : j = 0
          · rw [if_pos j0, if_neg (by omega), if_pos j0]
          · rw [if_neg j0, if_neg j0]
            by_cases j1 : j % 2 = 1
            · rw [if_pos j1, if_pos j1, if_neg (by omega)]
            · rw [if_neg j1, if_neg j1]
              by_cases e : j = k
              · rw [if_pos e, if_pos (by omega)]
              · rw [if_neg e, if_neg (by omega)]
/-- the heap: how many places are taken, what stands there -/
structure GH where
  sz : Nat
  t : Tr
def GH.get (G : GH) (n : Nat) : Option AO := G.t.get n
def GH.push (G : GH) (o : AO) : GH := ⟨G.sz + 1, G.t.put (G.sz + 1) G.sz o⟩
def GH.set (G : GH) (n : Nat) (o : AO) : GH := ⟨G.sz, G.t.put (n + 1) n o⟩
theorem GH.get_push (G : GH) (o : AO) (j : Nat) : (G.push o).get j = if j = G.sz then some o else G.get j := Tr.get_put _ _ _ _ _ (Nat.lt_succ_self _)
theorem GH.get_set (G : GH) (n : Nat) (o : AO) (j : Nat) : (G.set n o).get j = if j = n then some o else G.get j := Tr.get_put _ _ _ _ _ (Nat.lt_succ_self _)
theorem GH.sz_push (G : GH) (o : AO) : (G.push o).sz = G.sz + 1 := rfl
theorem GH.sz_set (G : GH) (n : Nat) (o : AO) : (G.set n o).sz = G.sz := rfl

/-! ### the syntax -/
inductive BO where
  | add | sub | mul | div | mod | pow
  deriving DecidableEq
inductive CO where
  | eq | ne | lt | le | gt | ge | isin | notin | is | isnot
  deriving DecidableEq
inductive Bf where
  | len | int | list | tuple | isinst | all
  deriving DecidableEq
/-- how a call binds: the written arguments by number, defaults -/
inductive Bd where
  | a (i : Nat) | d (w : W)
inductive Tg where
  | v (i : Nat) | t (ts : List Tg)
mutual
inductive E where
  | cst (w : W) | var (i : Nat)
  | bin (o : BO) (a b : E) | cmp (o : CO) (a b : E)
  | and (a b : E) | or (a b : E) | not (a : E) | neg (a : E) | ife (c a b : E)
  | tup (es : List Ar) | lst (es : List Ar)
  | ix (a i : E) | sl (a lo hi : E)
  | call (f : Nat) (es : List E) (bd : List Bd)
  | mk (c : Nat) (es : List E) (bd : List Bd)
  | met (o : E) (m : Nat) (es : List E)
  | att (o : E) (f : Nat)
  | blt (b : Bf) (es : List E)
  | lc (vs : List Nat) (tg : Tg) (it : It) (ifs : List E) (e : E)
inductive Ar where
  | e (x : E) | s (x : E)
inductive It where
  | e (x : E) | rng (es : List E) | zip (a b : E)
end
inductive S where
  | asg (t : Tg) (e : E) | sub (o i e : E) | att (o : E) (f : Nat) (e : E)
  | par (is : List Nat) (es : List E)
  | exp (e : E)
  | ife (c : E) (a b : List S)
  | for (t : Tg) (it : It) (b : List S)
  | whl (c : E) (b : List S)
  | ret (e : E) | pass

/-! ### results -/
inductive R (α : Type) where
  | ok (a : α) (G : GH) | exc (c : W) (d : Option Nat) (G : GH) | bad
def R.bind {α β : Type} (r : R α) (f : α → GH → R β) : R β := match r with
  | .ok a G => f a G
  | .exc c d G => .exc c d G
  | .bad => .bad
/-- nothing may be raised -/
def R.nox {α : Type} : R α → R α
  | .ok a G => .ok a G
  | _ => .bad
abbrev Sg := List (Option W)
inductive F where
  | nx (σ : Sg) (G : GH) | ret (w : W) (G : GH) | brk (σ : Sg) (G : GH) | cnt (σ : Sg) (G : GH) | exc (c : W) (d : Option Nat) (σ : Sg) (G : GH) | bad
def R.toF {α : Type} (r : R α) (σ : Sg) (f : α → GH → F) : F := match r with
  | .ok a G => f a G
  | .exc c d G => .exc c d σ G
  | .bad => .bad
def F.then (r : F) (f : Sg → GH → F) : F := match r with
  | .nx σ G => f σ G
  | r => r
/-- behind a def's body -/
def F.out : F → R W
  | .nx _ G => .ok .non G
  | .ret w G => .ok w G
  | .exc c d _ G => .exc c d G
  | _ => .bad
def ofO {α : Type} (o : Option α) (G : GH) : R α := match o with
  | some a => .ok a G
  | none => .bad
def ofOG {α : Type} (o : Option (α × GH)) : R α := match o with
  | some (a, G) => .ok a G
  | none => .bad

/-! ### operations -/
def szOk (n : Nat) : Bool := decide (n ≤ sizeLine)
def tru (G : GH) : W → Option Bool
  | .non => some false
  | .bl b => some b
  | .int i => some (i != 0)
  | .str s => if szOk s.length then some ((s.length : Int) != 0) else none
  | .tup ws => some (!ws.isEmpty)
  | .rol ws => some (!ws.isEmpty)
  | .ref n => match G.get n with
    | some (.lst ws) => some (!ws.isEmpty)
    | _ => none
  | _ => none
def newL (G : GH) (ws : List W) : Option (W × GH) := if szOk ws.length then some (.ref G.sz, G.push (.lst ws)) else none
/-- a list's items -/
def items (G : GH) : W → Option (List W)
  | .rol ws => some ws
  | .ref n => match G.get n with
    | some (.lst ws) => some ws
    | _ => none
  | _ => none
/-- a list's or a tuple's items -/
def seqOf (G : GH) : W → Option (List W)
  | .tup ws => some ws
  | w => items G w
def lstOf (G : GH) : W → Option (List W)
  | .ref n => match G.get n with
    | some (.lst ws) => some ws
    | _ => none
  | _ => none
def binop (o : BO) (x y : W) (G : GH) : Option (W × GH) := match o, x, y with
  | .add, .int i, .int j => some (.int (i + j), G)
  | .sub, .int i, .int j => some (.int (i - j), G)
  | .mul, .int i, .int j => if decide (i.natAbs < 18446744073709551616) || decide (j.natAbs < 18446744073709551616) then some (.int (i * j), G) else none
  | .div, .int i, .int j => if decide (j ≠ 0) && decide (j.natAbs < 1073741824) then some (.int (i.fdiv j), G) else none
  | .mod, .int i, .int j => if j ≠ 0 then some (.int (i.fmod j), G) else none
  | .pow, .int i, .int j => if decide (0 ≤ j) && (decide (j ≤ 1000000) && decide (i.natAbs < 2 ^ 64)) then some (.int (i ^ j.toNat), G) else none
  | .add, .str a, .str b => if szOk (a.length + b.length) then some (.str (a ++ b), G) else none
  | .add, .tup a, .tup b => if !a.isEmpty && szOk (a.length + b.length) then some (.tup (a ++ b), G) else none
  | .add, .ref a, .ref b => match lstOf G (.ref a), lstOf G (.ref b) with
    | some xs, some ys => newL G (xs ++ ys)
    | _, _ => none
  | _, _, _ => none
/-- values that == tells apart at once -/
def scalW : W → W → Bool
  | .non, .non => true | .non, .int _ => true | .int _, .non => true | .non, .bl _ => true | .bl _, .non => true | .non, .str _ => true | .str _, .non => true
  | .int _, .int _ => true | .bl _, .bl _ => true | .str _, .str _ => true
  | .int _, .str _ => true | .str _, .int _ => true | .bl _, .str _ => true | .str _, .bl _ => true
  | _, _ => false
def eqScal : W → W → Bool
  | .non, .non => true
  | .int i, .int j => decide (i = j)
  | .bl i, .bl j => decide (i = j)
  | .str i, .str j => decide (i = j)
  | _, _ => false
def optAll {α β : Type} (f : α → Option β) : List α → Option (List β)
  | [] => some []
  | x :: r => match f x, optAll f r with
    | some y, some ys => some (y :: ys)
    | _, _ => none
/-- a value as data -/
def dat : Nat → GH → W → Option PyData
  | 0, _, _ => none
  | _ + 1, _, .non => some .none
  | _ + 1, _, .bl b => some (.bool b)
  | _ + 1, _, .int i => some (.int i)
  | _ + 1, _, .str s => some (.str s)
  | n + 1, G, .tup ws => (optAll (dat n G) ws).map .tuple
  | n + 1, G, .rol ws => (optAll (dat n G) ws).map .list
  | n + 1, G, .ref a => match G.get a with
    | some (.lst ws) => (optAll (dat n G) ws).map .list
    | _ => none
  | _, _, _ => none
def eqD (G : GH) (x y : W) : Option Bool := match dat 60 G x, dat 60 G y with
  | some d, some e => if SeqAt.shaped d && SeqAt.shaped e then some (PyData.eqv d e) else none
  | _, _ => none
def eqW (G : GH) (x y : W) : Option Bool := if scalW x y then some (eqScal x y) else eqD G x y
def flatW : W → Bool
  | .non => true | .bl _ => true | .int _ => true | .str _ => true
  | _ => false
def eqFl : W → W → Bool
  | .non, .non => true
  | .bl a, .bl b => a == b
  | .int i, .int j => i == j
  | .str x, .str y => x == y
  | .bl a, .int j => (if a then 1 else 0) == j
  | .int i, .bl b => i == (if b then 1 else 0)
  | _, _ => false
def inFl (x : W) (ws : List W) : Bool := ws.any fun y => eqFl y x
def inW (G : GH) (x y : W) : Option Bool := match x, y with
  | .str a, .str b => some (!(Builtin.Str.occurrences b a 0 b.length 1).isEmpty)
  | x, y => match seqOf G y with
    | some ws => if flatW x && ws.all flatW then some (inFl x ws) else none
    | none => none
def isNon : W → Bool
  | .non => true
  | _ => false
def cmpop (o : CO) (x y : W) (G : GH) : Option Bool := match o with
  | .eq => eqW G x y
  | .ne => (eqW G x y).map (!·)
  | .lt => match x, y with
    | .int i, .int j => some (decide (i < j))
    | .str a, .str b => some (decide (a.cps.toList < b.cps.toList))
    | _, _ => none
  | .le => match x, y with
    | .int i, .int j => some (decide (i ≤ j))
    | _, _ => none
  | .gt => match x, y with
    | .int i, .int j => some (decide (j < i))
    | _, _ => none
  | .ge => match x, y with
    | .int i, .int j => some (decide (j ≤ i))
    | _, _ => none
  | .isin => inW G x y
  | .notin => (inW G x y).map (!·)
  | .is => match y with
    | .non => some (isNon x)
    | _ => none
  | .isnot => match y with
    | .non => some (!isNon x)
    | _ => none
def ixop (G : GH) (x y : W) : Option W := match x, y with
  | .str s, .int i => if szOk s.length then (atI s.cps.toList i).map fun c => .str ⟨#[c]⟩ else none
  | x, .int i => match seqOf G x with
    | some ws => atI ws i
    | none => none
  | _, _ => none
def optI : W → Option (Option Int)
  | .non => some none
  | .int i => some (some i)
  | _ => none
def cutW (xs : List W) (lo hi : Option Int) : List W := (xs.drop (HT.sIx xs.length 0 lo)).take (HT.sIx xs.length xs.length hi - HT.sIx xs.length 0 lo)
def slop (G : GH) (x : W) (l h : Option Int) : Option (W × GH) := match x with
  | .tup ws => some (.tup (cutW ws l h), G)
  | .str s => if szOk s.length then some (.str (cutS s l h), G) else none
  | w => match items G w with
    | some ws => newL G (cutW ws l h)
    | none => none
/-- a type for isinstance -/
inductive Ty where
  | b (n : String) | c (i : Nat)
  deriving DecidableEq
def tyOf (G : GH) : W → Option Ty
  | .non => some (.b "NoneType")
  | .bl _ => some (.b "bool")
  | .int _ => some (.b "int")
  | .str _ => some (.b "str")
  | .tup _ => some (.b "tuple")
  | .rol _ => some (.b "list")
  | .ref n => match G.get n with
    | some (.lst _) => some (.b "list")
    | some (.ins c _) => some (.c c)
    | _ => none
  | _ => none
/-- methods of built-in types -/
inductive Bt where
  | lst | str
  deriving DecidableEq
inductive Bm where
  | append | join
  deriving DecidableEq
def bmTy : Bm → Bt
  | .append => .lst
  | .join => .str
structure FnD where
  np : Nat
  ns : Nat
  body : List S
/-- the text's tables -/
structure Tb where
  fns : List FnD
  /-- methods: class, name, def -/
  ms : List ((Nat × Nat) × Nat)
  /-- __init__ -/
  ini : List (Nat × Nat)
  /-- isinstance -/
  isi : List ((Ty × Ty) × Bool)
  /-- methods of built-in types, by their names -/
  bm : List ((Bt × Nat) × Bm)
  /-- class, field: plain fields -/
  fl : List (Nat × Nat)
def isiOne (T : Tb) (t : Ty) : W → Option Bool
  | .ty n => T.isi.lookup (t, .b n)
  | .cls c => T.isi.lookup (t, .c c)
  | _ => none
def isiAny (T : Tb) (t : Ty) : List W → Option Bool
  | [] => some false
  | w :: r => match isiOne T t w, isiAny T t r with
    | some true, some _ => some true
    | some false, some b => some b
    | _, _ => none
def isinst (T : Tb) (G : GH) (x c : W) : Option Bool := match tyOf G x with
  | some t => match c with
    | .tup cs => if cs.isEmpty then none else isiAny T t cs
    | c => isiOne T t c
  | none => none
def bools : List W → Option (List Bool)
  | [] => some []
  | .bl b :: r => (bools r).map (b :: ·)
  | _ => none
def allStr : List W → Option (List Str)
  | [] => some []
  | .str s :: r => (allStr r).map (s :: ·)
  | _ => none
def bfop (T : Tb) (b : Bf) (ws : List W) (G : GH) : Option (W × GH) := match b, ws with
  | .len, [.str s] => if szOk s.length then some (.int s.length, G) else none
  | .len, [w] => (seqOf G w).map fun xs => (.int xs.length, G)
  | .int, [.int i] => some (.int i, G)
  | .int, [.bl k] => some (.int (if k then 1 else 0), G)
  | .list, [w] => match seqOf G w with
    | some xs => newL G xs
    | none => none
  | .tuple, [.tup xs] => some (.tup xs, G)
  | .tuple, [w] => (items G w).map fun xs => (.tup xs, G)
  | .isinst, [x, c] => (isinst T G x c).map fun b => (.bl b, G)
  | .all, [w] => match items G w with
    | some xs => (bools xs).map fun bs => (.bl (bs.all id), G)
    | none => none
  | _, _ => none
/-- a method of a list or a text -/
def bmop (m : Bm) (x : W) (ws : List W) (G : GH) : Option (W × GH) := match m, x, ws with
  | .append, .ref n, [w] => match G.get n with
    | some (.lst xs) => if decide (xs.length < sizeLine) then some (.non, G.set n (.lst (xs ++ [w]))) else none
    | _ => none
  | .join, .str s, [w] => match seqOf G w with
    | some xs => match allStr xs with
      | some ys => if decide ((ys.map (·.length)).sum + ys.length * s.length ≤ 16777216) then some (.str (Txt.join s ys), G) else none
      | none => none
    | none => none
  | _, _, _ => none
def btOf (G : GH) : W → Option Bt
  | .str _ => some .str
  | .rol _ => some .lst
  | .ref n => match G.get n with
    | some (.lst _) => some .lst
    | _ => none
  | _ => none
inductive Mk where
  | b (m : Bm) | f (i : Nat)
def mkOf (T : Tb) (G : GH) (x : W) (m : Nat) : Option Mk := match btOf G x with
  | some t => (T.bm.lookup (t, m)).map .b
  | none => match x with
    | .ref a => match G.get a with
      | some (.ins c fs) => match fs.lookup m, T.ms.lookup (c, m) with
        | none, some f => some (.f f)
        | _, _ => none
      | _ => none
    | _ => none
/-- what is walked -/
inductive I1 where
  | sq (l : List W) | live (a : Nat)
inductive IV where
  | one (x : I1) | zip (x y : I1)
def I1.len (G : GH) : I1 → Option Nat
  | .sq l => some l.length
  | .live a => match G.get a with
    | some (.lst ws) => some ws.length
    | _ => none
def I1.at (G : GH) : I1 → Nat → Option (Option W)
  | .sq l, i => some l[i]?
  | .live a, i => match G.get a with
    | some (.lst ws) => some ws[i]?
    | _ => none
def IV.at (G : GH) : IV → Nat → Option (Option W)
  | .one x, i => x.at G i
  | .zip x y, i => match x.at G i, y.at G i with
    | some (some u), some (some v) => some (some (.tup [u, v]))
    | some _, some _ => match x.len G, y.len G with
      | some n, some m => if decide (i ≤ n) && decide (i ≤ m) then some none else none
      | _, _ => none
    | _, _ => none
def ivOf (G : GH) : W → Option I1
  | .tup ws => some (.sq ws)
  | .rol ws => some (.sq ws)
  | .str s => some (.sq (s.cps.toList.map fun c => .str ⟨#[c]⟩))
  | .ref n => match G.get n with
    | some (.lst _) => some (.live n)
    | _ => none
  | _ => none
def rngW (lo : Int) (n : Nat) : List W := (List.range n).map fun i => .int (lo + (i : Nat))
def in62 (i : Int) : Bool := decide (i.natAbs < 4611686018427387904)
theorem in62_ok {i : Int} (h : in62 i = true) : -(2 ^ 62) ≤ i ∧ i < 2 ^ 62 := by
  have := of_decide_eq_true h
  omega
def rngOf : List W → Option (List W)
  | [.int j] => if in62 j then some (rngW 0 j.toNat) else none
  | [.int i, .int j] => if in62 i && in62 j then some (rngW i (j - i).toNat) else none
  | _ => none
mutual
def asgT : Tg → W → Sg → Option Sg
  | .v i, w, σ => some (σ.set i (some w))
  | .t ts, .tup ws, σ => asgTs ts ws σ
  | .t _, _, _ => none
def asgTs : List Tg → List W → Sg → Option Sg
  | [], [], σ => some σ
  | t :: ts, w :: ws, σ => match asgT t w σ with
    | some σ' => asgTs ts ws σ'
    | none => none
  | _, _, _ => none
end
def wipeW (σ : Sg) : List Nat → Sg
  | [] => σ
  | v :: vs => (wipeW σ vs).set v none
def bindA (bd : List Bd) (ws : List W) : Option (List W) := match bd with
  | [] => some ws
  | bd => optAll (fun b => match b with | .a i => ws[i]? | .d w => some w) bd
def putFW (f : Nat) (v : W) : List (Nat × W) → List (Nat × W)
  | [] => [(f, v)]
  | (g, x) :: r => if g = f then (g, v) :: r else (g, x) :: putFW f v r
def parS : List Nat → List W → Sg → Option Sg
  | [], [], σ => some σ
  | i :: is, w :: ws, σ => parS is ws (σ.set i (some w))
  | _, _, _ => none

/-! ### what it does -/
section
variable (T : Tb)
mutual
def evE : Nat → Nat → E → Sg → GH → R W
  | 0, _, _, _, _ => .bad
  | n + 1, d, e, σ, G => match e with
    | .cst w => .ok w G
    | .var i => match σ[i]? with
      | some (some w) => .ok w G
      | _ => .bad
    | .bin o a b => (evE n d a σ G).bind fun x G1 => (evE n d b σ G1).bind fun y G2 => ofOG (binop o x y G2)
    | .cmp o a b => (evE n d a σ G).bind fun x G1 => (evE n d b σ G1).bind fun y G2 => ofO ((cmpop o x y G2).map .bl) G2
    | .and a b => (evE n d a σ G).bind fun x G1 => (ofO (tru G1 x) G1).bind fun k G1 => if k then evE n d b σ G1 else .ok x G1
    | .or a b => (evE n d a σ G).bind fun x G1 => (ofO (tru G1 x) G1).bind fun k G1 => if k then .ok x G1 else evE n d b σ G1
    | .not a => (evE n d a σ G).bind fun x G1 => (ofO (tru G1 x) G1).bind fun k G1 => .ok (.bl (!k)) G1
    | .neg a => (evE n d a σ G).bind fun x G1 => match x with
      | .int i => .ok (.int (-i)) G1
      | _ => .bad
    | .ife c a b => (evE n d c σ G).bind fun x G1 => (ofO (tru G1 x) G1).bind fun k G1 => if k then evE n d a σ G1 else evE n d b σ G1
    | .tup es => (evA n d es σ G).bind fun ws G1 => if szOk ws.length then .ok (.tup ws) G1 else .bad
    | .lst es => (evA n d es σ G).bind fun ws G1 => ofOG (newL G1 ws)
    | .ix a i => (evE n d a σ G).bind fun x G1 => (evE n d i σ G1).bind fun y G2 => ofO (ixop G2 x y) G2
    | .sl a lo hi => (evE n d a σ G).bind fun x G1 => ((evE n d lo σ G1).bind fun v G2 => ofO (optI v) G2).bind fun l G2 => ((evE n d hi σ G2).bind fun v G3 => ofO (optI v) G3).bind fun h G3 => ofOG (slop G3 x l h)
    | .call f es bd => (evEs n d es σ G).bind fun ws G1 => match bindA bd ws with
      | some us => evC n d f us G1
      | none => .bad
    | .mk c es bd => match T.ini.lookup c with
      | some f => (evEs n d es σ G).bind fun ws G1 => match bindA bd (.ref G1.sz :: ws) with
        | some us => (evC n (d - 1) f us (G1.push (.ins c []))).bind fun w G2 => if isNon w then .ok (.ref G1.sz) G2 else .bad
        | none => .bad
      | none => .bad
    | .met o m es => (evE n d o σ G).bind fun x G1 => match mkOf T G1 x m with
      | some (.b k) => (evEs n d es σ G1).bind fun ws G2 => ofOG (bmop k x ws G2)
      | some (.f f) => (evEs n d es σ G1).bind fun ws G2 => evC n d f (x :: ws) G2
      | none => .bad
    | .att o f => (evE n d o σ G).bind fun x G1 => match x with
      | .ref a => match G1.get a with
        | some (.ins c fs) => if T.fl.contains (c, f) then ofO (fs.lookup f) G1 else .bad
        | _ => .bad
      | _ => .bad
    | .blt b es => (evEs n d es σ G).bind fun ws G1 => ofOG (bfop T b ws G1)
    | .lc vs tg it ifs e => (evI n d it σ G).bind fun iv G1 => (evL n d iv 0 tg ifs e (wipeW σ vs) vs [] G1).nox.bind fun ws G2 => ofOG (newL G2 ws)
def evEs : Nat → Nat → List E → Sg → GH → R (List W)
  | 0, _, _, _, _ => .bad
  | n + 1, d, es, σ, G => match es with
    | [] => .ok [] G
    | e :: r => (evE n d e σ G).bind fun w G1 => (evEs n d r σ G1).bind fun ws G2 => .ok (w :: ws) G2
def evA : Nat → Nat → List Ar → Sg → GH → R (List W)
  | 0, _, _, _, _ => .bad
  | n + 1, d, es, σ, G => match es with
    | [] => .ok [] G
    | .e e :: r => (evE n d e σ G).bind fun w G1 => (evA n d r σ G1).bind fun ws G2 => .ok (w :: ws) G2
    | .s e :: r => (evE n d e σ G).bind fun w G1 => (ofO (seqOf G1 w) G1).bind fun us G1 => (evA n d r σ G1).bind fun ws G2 => .ok (us ++ ws) G2
def evI : Nat → Nat → It → Sg → GH → R IV
  | 0, _, _, _, _ => .bad
  | n + 1, d, it, σ, G => match it with
    | .e e => (evE n d e σ G).bind fun w G1 => ofO ((ivOf G1 w).map .one) G1
    | .rng es => (evEs n d es σ G).bind fun ws G1 => ofO ((rngOf ws).map fun l => .one (.sq l)) G1
    | .zip a b => (evE n d a σ G).bind fun x G1 => (evE n d b σ G1).bind fun y G2 => match ivOf G2 x, ivOf G2 y with
      | some u, some v => .ok (.zip u v) G2
      | _, _ => .bad
/-- a comprehension's turns: σ without the own names, what is made so far -/
def evL : Nat → Nat → IV → Nat → Tg → List E → E → Sg → List Nat → List W → GH → R (List W)
  | 0, _, _, _, _, _, _, _, _, _, _ => .bad
  | n + 1, d, iv, i, tg, ifs, e, σ, vs, acc, G => match iv.at G i with
    | none => .bad
    | some none => .ok acc G
    | some (some w) => match asgT tg w σ with
      | none => .bad
      | some σ1 => match ifs with
        | [] => (evE n d e σ1 G).bind fun u G1 => if decide (acc.length < sizeLine) then evL n d iv (i + 1) tg ifs e σ vs (acc ++ [u]) G1 else .bad
        | [c] => (evE n d c σ1 G).bind fun x G1 => (ofO (tru G1 x) G1).bind fun k G1 => if k then (evE n d e σ1 G1).bind fun u G2 => (if decide (acc.length < sizeLine) then evL n d iv (i + 1) tg ifs e σ vs (acc ++ [u]) G2 else .bad) else evL n d iv (i + 1) tg ifs e σ vs acc G1
        | _ => .bad
/-- a def called: d calls deep at most -/
def evC : Nat → Nat → Nat → List W → GH → R W
  | 0, _, _, _, _ => .bad
  | _ + 1, 0, _, _, _ => .bad
  | n + 1, d + 1, f, ws, G => match T.fns[f]? with
    | some fd => if ws.length = fd.np then (evSs n d fd.body (ws.map some ++ List.replicate (fd.ns - fd.np) none) G).out else .bad
    | none => .bad
def evS : Nat → Nat → S → Sg → GH → F
  | 0, _, _, _, _ => .bad
  | n + 1, d, s, σ, G => match s with
    | .asg t e => (evE n d e σ G).toF σ fun w G1 => match asgT t w σ with
      | some σ' => .nx σ' G1
      | none => .bad
    | .sub o i e => (evE n d e σ G).toF σ fun w G1 => (evE n d o σ G1).toF σ fun x G2 => (evE n d i σ G2).toF σ fun y G3 => match x, y with
      | .ref a, .int k => match G3.get a with
        | some (.lst ws) => match ixN ws.length k with
          | some j => .nx σ (G3.set a (.lst (ws.set j w)))
          | none => .bad
        | _ => .bad
      | _, _ => .bad
    | .att o f e => (evE n d e σ G).toF σ fun w G1 => (evE n d o σ G1).toF σ fun x G2 => match x with
      | .ref a => match G2.get a with
        | some (.ins c fs) => if decide (fs.length < 1000) && T.fl.contains (c, f) then .nx σ (G2.set a (.ins c (putFW f w fs))) else .bad
        | _ => .bad
      | _ => .bad
    | .par is es => (evEs n d es σ G).toF σ fun ws G1 => match parS is ws σ with
      | some σ' => .nx σ' G1
      | none => .bad
    | .exp e => (evE n d e σ G).toF σ fun _ G1 => .nx σ G1
    | .ife c a b => (evE n d c σ G).toF σ fun x G1 => match tru G1 x with
      | some true => evSs n d a σ G1
      | some false => evSs n d b σ G1
      | none => .bad
    | .for t it b => (evI n d it σ G).toF σ fun iv G1 => evF n d iv 0 t b σ G1
    | .whl c b => evW n d c b σ G
    | .ret e => (evE n d e σ G).toF σ fun w G1 => .ret w G1
    | .pass => .nx σ G
def evSs : Nat → Nat → List S → Sg → GH → F
  | 0, _, _, _, _ => .bad
  | n + 1, d, ss, σ, G => match ss with
    | [] => .nx σ G
    | s :: r => (evS n d s σ G).then fun σ1 G1 => evSs n d r σ1 G1
def evF : Nat → Nat → IV → Nat → Tg → List S → Sg → GH → F
  | 0, _, _, _, _, _, _, _ => .bad
  | n + 1, d, iv, i, tg, b, σ, G => match iv.at G i with
    | none => .bad
    | some none => .nx σ G
    | some (some w) => match asgT tg w σ with
      | none => .bad
      | some σ1 => match evSs n d b σ1 G with
        | .nx σ2 G2 => evF n d iv (i + 1) tg b σ2 G2
        | .cnt σ2 G2 => evF n d iv (i + 1) tg b σ2 G2
        | .brk σ2 G2 => .nx σ2 G2
        | r => r
def evW : Nat → Nat → E → List S → Sg → GH → F
  | 0, _, _, _, _, _ => .bad
  | n + 1, d, c, b, σ, G => (evE n d c σ G).toF σ fun x G1 => match tru G1 x with
    | some true => match evSs n d b σ G1 with
      | .nx σ2 G2 => evW n d c b σ2 G2
      | .cnt σ2 G2 => evW n d c b σ2 G2
      | .brk σ2 G2 => .nx σ2 G2
      | r => r
    | some false => .nx σ G1
    | none => .bad
end
end
end PM

set_option maxHeartbeats 4000000
/-! PmB: how our values and heap lie in the layer's. -/
namespace PM
open PySem PySem.Spec PyProof.Rows L2

/-- where the text's defs and classes stand -/
structure En where
  K : PySem.W.Frag
  fa : Nat → Addr
  ca : Nat → Addr
  nm : Nat → Str
/-- a list that is read alone: locked, or of the written part -/
def SqF (K : PySem.W.Frag) (H : Hp) (a : Addr) (xs : List V) : Prop := (∃ o, H a = some (.frz o (.lst xs))) ∨
    ∃ (o : Obj) (its : Array Value) (n : Nat), K.lookup a = some o ∧ o.cls = .type "list" ∧ o.dict = none ∧ o.data = .seq its n ∧ its.size ≤ sizeLine ∧ Vals xs its.toList
theorem SqF.l {K : PySem.W.Frag} {H : Hp} {a : Addr} {xs : List V} (h : SqF K H a xs) : SqL K H a xs := by
  rcases h with ⟨o, h⟩ | h
  · exact .inl (.inr ⟨o, h⟩)
  · exact .inr h
/-- a tuple: a tracked one, or of the written part -/
def SqU (K : PySem.W.Frag) (H : Hp) (a : Addr) (xs : List V) : Prop := H a = some (.tup xs) ∨
    ∃ (o : Obj) (its : Array Value) (n : Nat), K.lookup a = some o ∧ o.cls = .type "tuple" ∧ o.data = .seq its n ∧ its.size ≤ sizeLine ∧ Vals xs its.toList
theorem SqU.t {K : PySem.W.Frag} {H : Hp} {a : Addr} {xs : List V} (h : SqU K H a xs) : SqT K H a xs := by
  rcases h with h | h
  · exact .inl (.inl h)
  · exact .inr h
section
variable (N : En) (ρ : List Addr) (H : Hp)
mutual
def Rw : W → V → Prop
  | .non, v => v = .non
  | .bl b, v => v = .bl b
  | .int i, v => v = .int i
  | .str s, v => v = .str s
  | .ty n, v => v = .ty n
  | .fn f, v => v = .ref (N.fa f)
  | .cls c, v => v = .ref (N.ca c)
  | .ref n, v => ∃ a, ρ[n]? = some a ∧ v = .ref a
  | .tup ws, v => ∃ a xs, v = .ref a ∧ SqU N.K H a xs ∧ Rws ws xs
  | .rol ws, v => ∃ a xs, v = .ref a ∧ SqF N.K H a xs ∧ Rws ws xs
def Rws : List W → List V → Prop
  | [], vs => vs = []
  | w :: ws, vs => ∃ x xs, vs = x :: xs ∧ Rw w x ∧ Rws ws xs
end
end
/-- what may stand at a place of ours -/
def okHO : HO → Prop
  | .lst _ => True
  | .ins _ _ _ => True
  | _ => False
/-- fields -/
def Rfs (N : En) (ρ : List Addr) (H : Hp) : List (Nat × W) → List (Str × V) → Prop
  | [], xs => xs = []
  | (f, w) :: r, xs => ∃ v xs', xs = (N.nm f, v) :: xs' ∧ Rw N ρ H w v ∧ Rfs N ρ H r xs'
def Ro (N : En) (ρ : List Addr) (H : Hp) (a : Addr) : AO → Prop
  | .lst ws => ∃ xs, H a = some (.lst xs) ∧ Rws N ρ H ws xs
  | .ins c fs => ∃ dx xs, H a = some (.ins (N.ca c) dx xs) ∧ Rfs N ρ H fs xs
structure Rg (N : En) (ρ : List Addr) (G : GH) (H : Hp) : Prop where
  nd : ρ.Nodup
  sz : ρ.length = G.sz
  ok : ∀ a ∈ ρ, ∃ o, H a = some o ∧ okHO o
  at_ : ∀ n o, G.get n = some o → ∃ a, ρ[n]? = some a ∧ Ro N ρ H a o
/-- what may happen: new places, what is not ours stays -/
structure Stp (ρ : List Addr) (H : Hp) (ρ' : List Addr) (H' : Hp) : Prop where
  pre : ∃ r, ρ' = ρ ++ r
  new : ∀ a ∈ ρ', a ∉ ρ → H a = none
  keep : ∀ a o, H a = some o → a ∉ ρ → H' a = some o
def Rs (N : En) (ρ : List Addr) (H : Hp) (σw : Sg) (σ : L2.St) : Prop := σw.length = σ.length ∧ ∀ (i : Nat) (w : W), σw[i]? = some (some w) → ∃ v, σ[i]? = some (some v) ∧ Rw N ρ H w v

section
variable {N : En} {ρ ρ' ρ1 ρ2 : List Addr} {H H' H1 H2 : Hp} {G : GH} {a : Addr} {o : HO}
theorem Stp.refl (ρ : List Addr) (H : Hp) : Stp ρ H ρ H := ⟨⟨[], by simp⟩, fun _ h n => absurd h n, fun _ _ h _ => h⟩
theorem Stp.mem (s : Stp ρ H ρ' H') (h : a ∈ ρ) : a ∈ ρ' := by
  obtain ⟨r, rfl⟩ := s.pre
  exact List.mem_append_left _ h
theorem Stp.get (s : Stp ρ H ρ' H') {n : Nat} (h : ρ[n]? = some a) : ρ'[n]? = some a := by
  obtain ⟨r, rfl⟩ := s.pre
  obtain ⟨hn, e⟩ := List.getElem?_eq_some_iff.mp h
  rw [List.getElem?_append_left hn, h]
theorem Stp.out (s : Stp ρ H ρ' H') (h : H a = some o) (n : a ∉ ρ) : a ∉ ρ' := fun m => by
  rw [s.new a m n] at h
  cases h
theorem Stp.trans (s : Stp ρ H ρ1 H1) (t : Stp ρ1 H1 ρ2 H2) : Stp ρ H ρ2 H2 := by
  refine ⟨?_, fun a m n => ?_, fun a o h n => t.keep a o (s.keep a o h n) (s.out h n)⟩
  · obtain ⟨r, rfl⟩ := s.pre
    obtain ⟨r', rfl⟩ := t.pre
    exact ⟨r ++ r', by rw [List.append_assoc]⟩
  · by_cases m1 : a ∈ ρ1
    · exact s.new a m1 n
    · have z := t.new a m m1
      cases q : H a with
      | none => rfl
      | some o =>
        rw [s.keep a o q n] at z
        cases z
/-- a new object that is not ours (a tuple) -/
theorem Stp.laid (h : H a = none) : Stp ρ H ρ (upd H a o) := ⟨⟨[], by simp⟩, fun _ m n => absurd m n, fun b u e _ => by rw [upd_ne (ne_of_none e h)]; exact e⟩
/-- a new object of ours -/
theorem Stp.push (h : H a = none) : Stp ρ H (ρ ++ [a]) (upd H a o) := ⟨⟨[a], rfl⟩, fun b m n => by
    rcases List.mem_append.mp m with m | m
    · exact absurd m n
    · rw [List.mem_singleton.mp m]
      exact h, fun b u e _ => by rw [upd_ne (ne_of_none e h)]; exact e⟩
/-- an object of ours changed -/
theorem Stp.set (h : a ∈ ρ) : Stp ρ H ρ (upd H a o) := ⟨⟨[], by simp⟩, fun _ m n => absurd m n, fun b u e n => by
    rw [upd_ne (fun z => n (by rw [z]; exact h))]
    exact e⟩

theorem Rg.ntup (g : Rg N ρ G H) {u : HO} (h : H a = some u) (hu : okHO u → False) : a ∉ ρ := fun m => by
  obtain ⟨o, e, k⟩ := g.ok a m
  rw [h] at e
  cases e
  exact hu k
theorem sqU_stp (g : Rg N ρ G H) (s : Stp ρ H ρ' H') {xs : List V} (h : SqU N.K H a xs) : SqU N.K H' a xs := by
  rcases h with h | h
  · exact .inl (s.keep _ _ h (g.ntup h fun z => z))
  · exact .inr h
mutual
theorem Rw.stp (g : Rg N ρ G H) (s : Stp ρ H ρ' H') : ∀ (w : W) {v : V}, Rw N ρ H w v → Rw N ρ' H' w v
  | .non, _, h => h
  | .bl _, _, h => h
  | .int _, _, h => h
  | .str _, _, h => h
  | .ty _, _, h => h
  | .fn _, _, h => h
  | .cls _, _, h => h
  | .ref n, _, h => by
    obtain ⟨a, h1, h2⟩ := h
    exact ⟨a, s.get h1, h2⟩
  | .tup ws, _, h => by
    obtain ⟨a, xs, h1, h2, h3⟩ := h
    exact ⟨a, xs, h1, sqU_stp g s h2, Rws.stp g s ws h3⟩
  | .rol ws, _, h => by
    obtain ⟨a, xs, h1, h2, h3⟩ := h
    refine ⟨a, xs, h1, ?_, Rws.stp g s ws h3⟩
    rcases h2 with ⟨o, h2⟩ | h2
    · exact .inl ⟨o, s.keep _ _ h2 (g.ntup h2 fun z => z)⟩
    · exact .inr h2
theorem Rws.stp (g : Rg N ρ G H) (s : Stp ρ H ρ' H') : ∀ (ws : List W) {vs : List V}, Rws N ρ H ws vs → Rws N ρ' H' ws vs
  | [], _, h => h
  | w :: ws, _, h => by
    obtain ⟨x, xs, h1, h2, h3⟩ := h
    exact ⟨x, xs, h1, Rw.stp g s w h2, Rws.stp g s ws h3⟩
end
theorem Rfs.stp (g : Rg N ρ G H) (s : Stp ρ H ρ' H') : ∀ (fs : List (Nat × W)) {xs : List (Str × V)}, Rfs N ρ H fs xs → Rfs N ρ' H' fs xs
  | [], _, h => h
  | (f, w) :: r, _, h => by
    obtain ⟨v, xs', h1, h2, h3⟩ := h
    exact ⟨v, xs', h1, h2.stp g s w, Rfs.stp g s r h3⟩
theorem Rs.stp {σw : Sg} {σ : L2.St} (g : Rg N ρ G H) (s : Stp ρ H ρ' H') (h : Rs N ρ H σw σ) : Rs N ρ' H' σw σ := ⟨h.1, fun i w e => by
  obtain ⟨v, h1, h2⟩ := h.2 i w e
  exact ⟨v, h1, h2.stp g s w⟩⟩
/-- our objects as they were -/
theorem Ro.stp (g : Rg N ρ G H) (s : Stp ρ H ρ' H') {o : AO} (e : H' a = H a) (h : Ro N ρ H a o) : Ro N ρ' H' a o := by
  cases o with
  | lst ws =>
    obtain ⟨xs, h1, h2⟩ := h
    exact ⟨xs, e.trans h1, h2.stp g s ws⟩
  | ins c fs =>
    obtain ⟨dx, xs, h1, h2⟩ := h
    exact ⟨dx, xs, e.trans h1, h2.stp g s fs⟩
/-- a step that leaves our objects alone -/
theorem Rg.same (g : Rg N ρ G H) (s : Stp ρ H ρ H') (k : ∀ a ∈ ρ, H' a = H a) : Rg N ρ G H' := ⟨g.nd, g.sz, fun a m => by
    obtain ⟨o, e, q⟩ := g.ok a m
    exact ⟨o, (k a m).trans e, q⟩, fun n o e => by
    obtain ⟨a, h1, h2⟩ := g.at_ n o e
    exact ⟨a, h1, h2.stp g s (k a (List.mem_of_getElem? h1))⟩⟩
/-- a tuple laid -/
theorem Rg.laid (g : Rg N ρ G H) (h : H a = none) : Rg N ρ G (upd H a o) := g.same (Stp.laid h) fun b m => by
  obtain ⟨u, e, _⟩ := g.ok b m
  exact upd_ne (ne_of_none e h)
theorem Rg.fresh (g : Rg N ρ G H) (h : H a = none) : a ∉ ρ := fun m => by
  obtain ⟨u, e, _⟩ := g.ok a m
  rw [h] at e
  cases e
/-- a new object of ours -/
theorem Rg.push (g : Rg N ρ G H) (h : H a = none) (k : okHO o) {u : AO} (hu : Ro N (ρ ++ [a]) (upd H a o) a u) : Rg N (ρ ++ [a]) (G.push u) (upd H a o) := by
  have s : Stp ρ H (ρ ++ [a]) (upd H a o) := Stp.push h
  refine ⟨?_, ?_, fun b m => ?_, fun n q e => ?_⟩
  · rw [List.nodup_append]
    refine ⟨g.nd, by simp, fun x hx y hy e => ?_⟩
    rw [List.mem_singleton.mp hy] at e
    exact g.fresh h (e ▸ hx)
  · rw [List.length_append, g.sz]
    rfl
  · rcases List.mem_append.mp m with m | m
    · obtain ⟨q, e, z⟩ := g.ok b m
      exact ⟨q, by rw [upd_ne (ne_of_none e h)]; exact e, z⟩
    · rw [List.mem_singleton.mp m]
      exact ⟨o, upd_same, k⟩
  · rw [GH.get_push] at e
    by_cases hn : n = G.sz
    · rw [if_pos hn] at e
      cases e
      refine ⟨a, ?_, hu⟩
      rw [hn, ← g.sz, List.getElem?_append_right (Nat.le_refl _)]
      simp
    · rw [if_neg hn] at e
      obtain ⟨b, h1, h2⟩ := g.at_ n q e
      obtain ⟨w, e1, _⟩ := g.ok b (List.mem_of_getElem? h1)
      exact ⟨b, s.get h1, h2.stp g s (upd_ne (ne_of_none e1 h))⟩
/-- an object of ours changed -/
theorem Rg.set (g : Rg N ρ G H) {n : Nat} (h : ρ[n]? = some a) (k : okHO o) {u : AO} (hu : Ro N ρ (upd H a o) a u) : Rg N ρ (G.set n u) (upd H a o) := by
  have m := List.mem_of_getElem? h
  have s : Stp ρ H ρ (upd H a o) := Stp.set m
  refine ⟨g.nd, g.sz, fun b mb => ?_, fun j q e => ?_⟩
  · by_cases hb : b = a
    · rw [hb]
      exact ⟨o, upd_same, k⟩
    · rw [upd_ne hb]
      exact g.ok b mb
  · rw [GH.get_set] at e
    by_cases hj : j = n
    · rw [if_pos hj] at e
      cases e
      exact ⟨a, by rw [hj]; exact h, hu⟩
    · rw [if_neg hj] at e
      obtain ⟨b, h1, h2⟩ := g.at_ j q e
      refine ⟨b, h1, h2.stp g s (upd_ne fun z => hj ?_)⟩
      rw [z] at h1
      exact nd_ix g.nd h1 h
/-- what a number of ours names -/
theorem Rg.ref (g : Rg N ρ G H) {n : Nat} {o : AO} {v : V} (h : Rw N ρ H (.ref n) v) (e : G.get n = some o) : ∃ a, v = .ref a ∧ ρ[n]? = some a ∧ Ro N ρ H a o := by
  obtain ⟨a, h1, h2⟩ := h
  obtain ⟨b, h3, h4⟩ := g.at_ n o e
  rw [h1] at h3
  cases h3
  exact ⟨a, h2, h1, h4⟩
end

/-! ### lists of values -/
section
variable {N : En} {ρ ρ' : List Addr} {H H' : Hp} {G : GH}
theorem Rws.len : ∀ {ws : List W} {vs : List V}, Rws N ρ H ws vs → ws.length = vs.length
  | [], _, h => by
    have e : _ = [] := h
    rw [e]
    rfl
  | w :: ws, _, h => by
    obtain ⟨x, xs, h1, _, h3⟩ := h
    rw [h1, List.length_cons, List.length_cons, h3.len]
theorem Rws.get : ∀ {ws : List W} {vs : List V} {i : Nat} {w : W}, Rws N ρ H ws vs → ws[i]? = some w → ∃ v, vs[i]? = some v ∧ Rw N ρ H w v
  | [], _, _, _, _, e => by simp at e
  | w :: ws, _, 0, u, h, e => by
    obtain ⟨x, xs, h1, h2, _⟩ := h
    simp at e
    exact ⟨x, by rw [h1]; rfl, e ▸ h2⟩
  | w :: ws, _, i + 1, u, h, e => by
    obtain ⟨x, xs, h1, _, h3⟩ := h
    obtain ⟨v, e1, e2⟩ := h3.get (i := i) (by simpa using e)
    exact ⟨v, by rw [h1]; simpa using e1, e2⟩
theorem Rws.none : ∀ {ws : List W} {vs : List V} {i : Nat}, Rws N ρ H ws vs → ws[i]? = none → vs[i]? = none := fun h e => by
  rw [List.getElem?_eq_none_iff] at e ⊢
  rw [← h.len]
  exact e
theorem Rws.append : ∀ {ws us : List W} {vs xs : List V}, Rws N ρ H ws vs → Rws N ρ H us xs → Rws N ρ H (ws ++ us) (vs ++ xs)
  | [], _, _, _, h, k => by rw [show _ = _ from h]; exact k
  | w :: ws, _, _, _, h, k => by
    obtain ⟨x, xs, h1, h2, h3⟩ := h
    exact ⟨x, _, by rw [h1]; rfl, h2, h3.append k⟩
theorem Rws.one {w : W} {v : V} (h : Rw N ρ H w v) : Rws N ρ H [w] [v] := ⟨v, [], rfl, h, rfl⟩
theorem Rws.take : ∀ {ws : List W} {vs : List V} (n : Nat), Rws N ρ H ws vs → Rws N ρ H (ws.take n) (vs.take n)
  | _, _, 0, _ => rfl
  | [], _, _ + 1, h => by rw [show _ = _ from h]; rfl
  | w :: ws, _, n + 1, h => by
    obtain ⟨x, xs, h1, h2, h3⟩ := h
    rw [h1]
    exact ⟨x, _, rfl, h2, h3.take n⟩
theorem Rws.drop : ∀ {ws : List W} {vs : List V} (n : Nat), Rws N ρ H ws vs → Rws N ρ H (ws.drop n) (vs.drop n)
  | _, _, 0, h => h
  | [], _, _ + 1, h => by rw [show _ = _ from h]; rfl
  | w :: ws, _, n + 1, h => by
    obtain ⟨x, xs, h1, h2, h3⟩ := h
    rw [h1]
    exact h3.drop n
theorem Rws.set : ∀ {ws : List W} {vs : List V} {w : W} {v : V} (i : Nat), Rws N ρ H ws vs → Rw N ρ H w v → Rws N ρ H (ws.set i w) (vs.set i v)
  | [], _, _, _, _, h, _ => by rw [show _ = _ from h]; rfl
  | w :: ws, _, _, _, 0, h, k => by
    obtain ⟨x, xs, h1, h2, h3⟩ := h
    rw [h1]
    exact ⟨_, _, rfl, k, h3⟩
  | w :: ws, _, _, _, i + 1, h, k => by
    obtain ⟨x, xs, h1, h2, h3⟩ := h
    rw [h1]
    exact ⟨_, _, rfl, h2, h3.set i k⟩
theorem Rws.cut {ws : List W} {vs : List V} (lo hi : Option Int) (h : Rws N ρ H ws vs) : Rws N ρ H (cutW ws lo hi) (cutV vs lo hi) := by
  unfold cutW cutV
  rw [h.len]
  exact (h.drop _).take _
theorem Rws.at_ {ws : List W} {vs : List V} {i : Int} {w : W} (h : Rws N ρ H ws vs) (e : atI ws i = some w) : ∃ v, atI vs i = some v ∧ Rw N ρ H w v := by
  unfold atI at e ⊢
  rw [← h.len]
  cases q : ixN ws.length i with
  | none => rw [q] at e; cases e
  | some j =>
    rw [q] at e
    exact h.get e
/-- slots -/
theorem Rs.set {σw : Sg} {σ : L2.St} {w : W} {v : V} (i : Nat) (h : Rs N ρ H σw σ) (k : Rw N ρ H w v) : Rs N ρ H (σw.set i (some w)) (σ.set i (some v)) := by
  refine ⟨by rw [List.length_set, List.length_set]; exact h.1, fun j u e => ?_⟩
  by_cases hj : i = j
  · rw [← hj] at e ⊢
    by_cases hl : i < σw.length
    · rw [List.getElem?_set_self hl] at e
      cases e
      exact ⟨v, List.getElem?_set_self (by rw [← h.1]; exact hl), k⟩
    · rw [List.getElem?_eq_none (by rw [List.length_set]; omega)] at e
      cases e
  · rw [List.getElem?_set_ne hj] at e ⊢
    exact h.2 j u e
theorem Rs.wipe {σw : Sg} {σ : L2.St} (h : Rs N ρ H σw σ) : ∀ vs : List Nat, Rs N ρ H (wipeW σw vs) (wipe σ vs)
  | [] => h
  | i :: vs => by
    have ih := Rs.wipe h vs
    unfold wipeW L2.wipe
    refine ⟨by rw [List.length_set, List.length_set]; exact ih.1, fun j u e => ?_⟩
    by_cases hj : i = j
    · rw [← hj] at e
      by_cases hl : i < (wipeW σw vs).length
      · rw [List.getElem?_set_self hl] at e
        cases e
      · rw [List.getElem?_eq_none (by rw [List.length_set]; omega)] at e
        cases e
    · rw [List.getElem?_set_ne hj] at e ⊢
      exact ih.2 j u e
end
end PM

set_option maxHeartbeats 4000000
/-! PmC: from the text's syntax to ours. -/
namespace PM
open PySem PySem.Spec PyProof.Rows L2

/-- the text's names -/
structure Gn where
  fns : List (Str × Nat)
  clss : List (Str × Nat)
  csts : List (Str × W)
  /-- built-in names that the text leaves alone -/
  free : List Str
  nms : List Str
  /-- calls of defs: def, written values, keywords -/
  sh : List ((Nat × Nat × List Str) × List Bd)
  shc : List ((Nat × Nat × List Str) × List Bd)
/-- where an expression stands -/
structure Ct where
  N : List Str
  sc : Scope
  st : List Str
def ixS : List Str → Str → Option Nat
  | [], _ => none
  | y :: r, x => if y = x then some 0 else (ixS r x).map (· + 1)
theorem ixS_get : ∀ {N : List Str} {x : Str} {i : Nat}, ixS N x = some i → N[i]? = some x
  | [], _, _, h => by cases h
  | y :: r, x, i, h => by
    unfold ixS at h
    by_cases e : y = x
    · rw [if_pos e] at h
      cases h
      rw [e]
      rfl
    · rw [if_neg e] at h
      cases q : ixS r x with
      | none => rw [q] at h; cases h
      | some j =>
        rw [q] at h
        cases h
        simpa using ixS_get q
def visB (sc : Scope) (x : Str) : Bool := match sc.names.lookup x with
  | some .local => true
  | some .cell => true
  | some .free => true
  | _ => false
theorem visB_ok {sc : Scope} {x : Str} (h : visB sc x = true) : Vis sc x := by
  unfold visB at h
  unfold Vis
  cases e : sc.names.lookup x with
  | none => rw [e] at h; cases h
  | some k => cases k <;> first | exact .inl rfl | exact .inr (.inl rfl) | exact .inr (.inr rfl) | (rw [e] at h; cases h)
def locB (sc : Scope) (x : Str) : Bool := match sc.names.lookup x with
  | some .local => true
  | some .cell => true
  | _ => false
theorem locB_ok {sc : Scope} {x : Str} (h : locB sc x = true) : L2.Loc sc x := by
  unfold locB at h
  unfold L2.Loc
  cases e : sc.names.lookup x with
  | none => rw [e] at h; cases h
  | some k => cases k <;> first | exact .inl rfl | exact .inr rfl | (rw [e] at h; cases h)
def gloB (sc : Scope) (x : Str) : Bool := decide (sc.names.lookup x = some .globalImplicit)
def okName (x : Str) : Bool := !(x == ("__debug__" : Str)) && (!(x == ("__classdict__" : Str)) && !decide (x = "__name__"))
def tyName (x : Str) : Option String := if x = "int" then some "int" else if x = "str" then some "str" else if x = "list" then some "list" else if x = "tuple" then some "tuple" else if x = "bool" then some "bool" else none
def bfName (x : Str) : Option Bf := if x = "len" then some .len else if x = "int" then some .int else if x = "list" then some .list else if x = "tuple" then some .tuple else if x = "isinstance" then some .isinst else if x = "all" then some .all else none
/-- what a name of the module stands for, as a value -/
def glob (g : Gn) (x : Str) : Option W := match g.fns.lookup x with
  | some f => some (.fn f)
  | none => match g.clss.lookup x with
    | some c => some (.cls c)
    | none => match g.csts.lookup x with
      | some w => some w
      | none => if g.free.contains x then (tyName x).map .ty else none
def opB : Operator → Option BO
  | .Add => some .add | .Sub => some .sub | .Mult => some .mul | .FloorDiv => some .div | .Mod => some .mod | .Pow => some .pow
  | _ => none
def opC : CmpOp → Option CO
  | .Eq => some .eq | .NotEq => some .ne | .Lt => some .lt | .LtE => some .le | .Gt => some .gt | .GtE => some .ge | .In => some .isin | .NotIn => some .notin | .Is => some .is | .IsNot => some .isnot
def isSet : Expr → Bool
  | .Set _ _ _ => true
  | _ => false
def isStar : Expr → Bool
  | .Starred _ _ => true
  | _ => false
def isSlice : Expr → Bool
  | .Slice _ _ _ _ => true
  | _ => false
def isComp : Expr → Bool
  | .ListComp _ _ _ _ => true
  | .SetComp _ _ _ _ => true
  | .DictComp _ _ _ _ _ => true
  | _ => false
def superCall : Expr → Bool
  | .Call (.Name id _) [] [] _ => id == ("super" : Str)
  | _ => false
def isIfE : Expr → Bool
  | .IfExp _ _ _ _ => true
  | _ => false
/-- the own names of a comprehension that have a place -/
def ownOf (N : List Str) (sc : Scope) : List (Str × Nat) := sc.names.filterMap fun y => if (y.2 == .local || y.2 == .cell) then (ixS N y.1).map fun i => (y.1, i) else none
def blkCt (C : Ct) (scope : Scope) : Ct := ⟨C.N, relS scope C.sc, (ownOf C.N scope).map (·.1)⟩
def kwNames : List Keyword → List Str
  | [] => []
  | ⟨some x, _, _⟩ :: r => x :: kwNames r
  | ⟨none, _, _⟩ :: r => kwNames r
def kwAll : List Keyword → Bool
  | [] => true
  | ⟨some _, _, _⟩ :: r => kwAll r
  | ⟨none, _, _⟩ :: _ => false
section
variable (g : Gn)
def trT (C : Ct) : Nat → Expr → Option Tg
  | 0, _ => none
  | n + 1, e => match e with
    | .Name x _ => if C.st.contains x && locB C.sc x then (ixS C.N x).map .v else none
    | .Tuple ts _ _ => if ts.any isStar then none else (optAll (trT C n) ts).map .t
    | _ => none
mutual
def trE : Nat → Ct → Expr → Option E
  | 0, _, _ => none
  | n + 1, C, e => match e with
    | .Constant c _ _ => match c with
      | .none => some (.cst .non)
      | .bool b => some (.cst (.bl b))
      | .int i => some (.cst (.int i))
      | .str s => some (.cst (.str s))
      | _ => none
    | .Name x _ => if okName x then (if visB C.sc x then (ixS C.N x).map .var else if gloB C.sc x then (glob g x).map .cst else none) else none
    | .BinOp a op b _ => (opB op).bind fun o => (trE n C a).bind fun a' => (trE n C b).bind fun b' => some (.bin o a' b')
    | .UnaryOp op a _ => match op with
      | .Not => if isIfE a then none else (trE n C a).bind fun a' => some (.not a')
      | .USub => (trE n C a).bind fun a' => some (.neg a')
      | _ => none
    | .BoolOp op vs _ => trB n C op vs
    | .IfExp c a b _ => if isIfE c then none else (trE n C c).bind fun c' => (trE n C a).bind fun a' => (trE n C b).bind fun b' => some (.ife c' a' b')
    | .Compare a ops bs _ => match ops, bs with
      | [op], [b] => if isSet b then none else (opC op).bind fun o => (trE n C a).bind fun a' => (trE n C b).bind fun b' => some (.cmp o a' b')
      | _, _ => none
    | .Tuple es _ _ => (trA n C es).bind fun es' => some (.tup es')
    | .List es _ => (trA n C es).bind fun es' => some (.lst es')
    | .Subscript a i _ => match i with
      | .Slice lo hi none _ => (trE n C a).bind fun a' => (trO n C lo).bind fun lo' => (trO n C hi).bind fun hi' => some (.sl a' lo' hi')
      | i => if isSlice i then none else (trE n C a).bind fun a' => (trE n C i).bind fun i' => some (.ix a' i')
    | .Attribute o f _ => if superCall o then none else (trE n C o).bind fun o' => (ixS g.nms f).bind fun f' => some (.att o' f')
    | .Call fe es kws pos => match fe with
      | .Name x _ => if okName x && gloB C.sc x then (match g.fns.lookup x with
          | some f => if kwAll kws then (g.sh.lookup (f, es.length, kwNames kws)).bind fun bd => (trEs n C es).bind fun es' => (trK n C kws).bind fun ks' => some (.call f (es' ++ ks') bd) else none
          | none => match g.clss.lookup x with
            | some c => if kwAll kws then (g.shc.lookup (c, es.length, kwNames kws)).bind fun bd => (trEs n C es).bind fun es' => (trK n C kws).bind fun ks' => some (.mk c (es' ++ ks') bd) else none
            | none => if g.free.contains x && kws.isEmpty then (bfName x).bind fun b => (trEs n C es).bind fun es' => some (.blt b es') else none)
        else none
      | .Attribute o m apos => if kws.isEmpty && (apos.endLine == pos.line && (!superCall o && decide (es.length < 20))) then (trE n C o).bind fun o' => (ixS g.nms m).bind fun m' => (trEs n C es).bind fun es' => some (.met o' m' es') else none
      | _ => none
    | .ListComp elt gens scope _ => match gens with
      | [⟨tg, iter, ifs, 0⟩] => if blkC C.N C.sc scope (ownOf C.N scope) && !isSet iter then
          (trI n C tg iter).bind fun it => (trT (blkCt C scope) n tg).bind fun tg' => (match ifs with
            | [] => some []
            | [c] => if isIfE c then none else (trE n (blkCt C scope) c).map fun x => [x]
            | _ => none : Option (List E)).bind fun ifs' => (trE n (blkCt C scope) elt).bind fun e' => some (.lc ((ownOf C.N scope).map (·.2)) tg' it ifs' e')
        else none
      | _ => none
    | _ => none
def trO : Nat → Ct → Option Expr → Option E
  | 0, _, _ => none
  | n + 1, C, e => match e with
    | none => some (.cst .non)
    | some e => trE n C e
def trB : Nat → Ct → BoolOp → List Expr → Option E
  | 0, _, _, _ => none
  | n + 1, C, op, es => match es with
    | [] => none
    | [a] => if isIfE a then none else trE n C a
    | a :: r => if isIfE a then none else (trE n C a).bind fun a' => (trB n C op r).bind fun r' => match op with
      | .And => some (.and a' r')
      | .Or => some (.or a' r')
def trEs : Nat → Ct → List Expr → Option (List E)
  | 0, _, _ => none
  | n + 1, C, es => match es with
    | [] => some []
    | e :: r => if isStar e then none else (trE n C e).bind fun e' => (trEs n C r).bind fun r' => some (e' :: r')
def trK : Nat → Ct → List Keyword → Option (List E)
  | 0, _, _ => none
  | n + 1, C, es => match es with
    | [] => some []
    | e :: r => (trE n C e.value).bind fun e' => (trK n C r).bind fun r' => some (e' :: r')
def trA : Nat → Ct → List Expr → Option (List Ar)
  | 0, _, _ => none
  | n + 1, C, es => match es with
    | [] => some []
    | e :: r => match e with
      | .Starred x _ => (trE n C x).bind fun e' => (trA n C r).bind fun r' => some (.s e' :: r')
      | e => (trE n C e).bind fun e' => (trA n C r).bind fun r' => some (.e e' :: r')
def trI : Nat → Ct → Expr → Expr → Option It
  | 0, _, _, _ => none
  | n + 1, C, tg, e => match e with
    | .Call (.Name x _) es [] _ =>
      if okName x && gloB C.sc x && g.free.contains x then
        (if x = "range" then (if decide (es.length = 1) || decide (es.length = 2) then (trEs n C es).bind fun es' => some (.rng es') else none)
        else if x = "zip" then (match es, tg with
          | [a, b], .Tuple _ _ _ => if isStar a || isStar b then none else (trE n C a).bind fun a' => (trE n C b).bind fun b' => some (.zip a' b')
          | _, _ => none)
        else none)
      else (trE n C e).bind fun e' => some (.e e')
    | e => (trE n C e).bind fun e' => some (.e e')
end
/-- does name = comprehension store in another order -/
def swB (C : Ct) (e : Expr) (t : Str) (tp : Pos) : Bool := match e with
  | .ListComp _ _ scope pos => decide (C.sc.names.lookup t = some .local) && (tp.line == pos.line) && !(scope.names.any fun (n, k) => n == t && (k == .local || k == .cell))
  | _ => false
mutual
def trS : Nat → Ct → Stmt → Option S
  | 0, _, _ => none
  | n + 1, C, s => match s with
    | .Assign ts e pos => match ts with
      | [.Name x p] => (match e with
        | .ListComp _ _ _ _ => if C.st.contains x && locB C.sc x then (ixS C.N x).bind fun i => (trE g n C e).bind fun e' => some (.asg (.v i) e') else none
        | e => if isComp e then none else if C.st.contains x && locB C.sc x then (ixS C.N x).bind fun i => (trE g n C e).bind fun e' => some (.asg (.v i) e') else none)
      | [.Tuple ts k p] => (match e with
        | .Tuple es _ _ => (match ts, es with
          | [.Name x px, .Name y py], [a, b] => if isStar a || (isStar b || (decide (x = y) || (foldedForSure 8 a && foldedForSure 8 b || (constantsAlone 8 a && constantsAlone 8 b)))) then none else
            if decide (C.sc.names.lookup x = some .local) && (decide (C.sc.names.lookup y = some .local) && (py.line == px.line)) then
              (ixS C.N x).bind fun i => (ixS C.N y).bind fun j => (trE g n C a).bind fun a' => (trE g n C b).bind fun b' => some (.par [i, j] [a', b'])
            else none
          | _, _ => none)
        | e => if isComp e then none else (trT C n (.Tuple ts k p)).bind fun t => (trE g n C e).bind fun e' => some (.asg t e'))
      | [.Subscript o i _] => if isComp e || isSlice i then none else (trE g n C e).bind fun e' => (trE g n C o).bind fun o' => (trE g n C i).bind fun i' => some (.sub o' i' e')
      | [.Attribute o f _] => if isComp e then none else (trE g n C e).bind fun e' => (trE g n C o).bind fun o' => (ixS g.nms f).bind fun f' => some (.att o' f' e')
      | _ => none
    | .Expr e _ => if isComp e then none else (trE g n C e).bind fun e' => some (.exp e')
    | .If c a b _ => if isIfE c then none else (trE g n C c).bind fun c' => (trSs n C a).bind fun a' => (trSs n C b).bind fun b' => some (.ife c' a' b')
    | .For tg it b els _ => match els with
      | [] => if isSet it then none else (trI g n C tg it).bind fun it' => (trT C n tg).bind fun tg' => (trSs n C b).bind fun b' => some (.for tg' it' b')
      | _ => none
    | .While c b els _ => match els with
      | [] => if isIfE c then none else (trE g n C c).bind fun c' => (trSs n C b).bind fun b' => some (.whl c' b')
      | _ => none
    | .Return e _ => match e with
      | some e => (trE g n C e).bind fun e' => some (.ret e')
      | none => some (.ret (.cst .non))
    | .Pass _ => some .pass
    | _ => none
def trSs : Nat → Ct → List Stmt → Option (List S)
  | 0, _, _ => none
  | n + 1, C, ss => match ss with
    | [] => some []
    | s :: r => (trS n C s).bind fun s' => (trSs n C r).bind fun r' => some (s' :: r')
end
end
end PM

set_option maxHeartbeats 4000000
/-! PmD: results, and what the operations on values do. -/
namespace PM
open PySem PySem.Spec PyProof.Rows L2

/-- an exception's class -/
def Rx (N : En) : W → Value → Prop
  | .cls c, v => v = .ref (N.ca c)
  | .ty n, v => v = .type n
  | _, _ => False
def Rd (ρ : List Addr) : Option Nat → Option Addr → Prop
  | none, d => d = none
  | some n, d => ∃ a, ρ[n]? = some a ∧ d = some a
/-- a result and what is wanted of it -/
def QG {α β : Type} (N : En) (rel : List Addr → Hp → α → β → Prop) (Q : β → Hp → Prop) (E : XK) (r : R α) (ρ : List Addr) (H : Hp) : Prop := match r with
  | .ok a G' => ∀ ρ' b H', Stp ρ H ρ' H' → Rg N ρ' G' H' → rel ρ' H' a b → Q b H'
  | .exc c dd G' => ∀ ρ' H' cls d, Stp ρ H ρ' H' → Rg N ρ' G' H' → Rx N c cls → Rd ρ' dd d → E cls d H'
  | .bad => False
abbrev QC (N : En) := QG (β := V) N (Rw N)
abbrev QL (N : En) := QG (β := List V) N (Rws N)
section
variable {α β γ δ : Type} {N : En} {rel : List Addr → Hp → α → β → Prop} {rel2 : List Addr → Hp → γ → δ → Prop} {Q Q' : β → Hp → Prop} {Q2 : δ → Hp → Prop} {E : XK} {r : R α} {ρ ρ' : List Addr} {H H' : Hp} {G : GH} {a : α} {b : β}
theorem QG.stp (h : QG N rel Q E r ρ H) (s : Stp ρ H ρ' H') : QG N rel Q E r ρ' H' := by
  cases r with
  | ok a G' => exact fun ρ2 b H2 s2 g2 x => h ρ2 b H2 (s.trans s2) g2 x
  | exc c dd G' => exact fun ρ2 H2 cls d s2 g2 x y => h ρ2 H2 cls d (s.trans s2) g2 x y
  | bad => exact h
theorem QG.mono (h : QG N rel Q E r ρ H) (k : ∀ b H, Q b H → Q' b H) : QG N rel Q' E r ρ H := by
  cases r with
  | ok a G' => exact fun ρ2 b H2 s2 g2 x => k _ _ (h ρ2 b H2 s2 g2 x)
  | exc c dd G' => exact h
  | bad => exact h
/-- what stands behind a first part -/
structure Pk (N : En) (rel : List Addr → Hp → α → β → Prop) (ρ : List Addr) (H : Hp) (r : R α) (P : α → GH → List Addr → Prop) (b : β) (H1 : Hp) : Prop where
  ex : ∃ ρ1 a G1, Stp ρ H ρ1 H1 ∧ Rg N ρ1 G1 H1 ∧ rel ρ1 H1 a b ∧ r = .ok a G1 ∧ P a G1 ρ1
theorem QG.bind {f : α → GH → R γ} (h : QG N rel2 Q2 E (r.bind f) ρ H) : QG N rel (fun b H1 => ∃ ρ1 a G1, Stp ρ H ρ1 H1 ∧ Rg N ρ1 G1 H1 ∧ rel ρ1 H1 a b ∧ QG N rel2 Q2 E (f a G1) ρ1 H1) E r ρ H := by
  cases r with
  | ok a G' => exact fun ρ2 b H2 s2 g2 x => ⟨ρ2, a, G', s2, g2, x, QG.stp h s2⟩
  | exc c dd G' => exact h
  | bad => exact h
theorem QG.done (h : QG N rel Q E (.ok a G) ρ H) (g : Rg N ρ G H) (x : rel ρ H a b) : Q b H := h ρ b H (Stp.refl ρ H) g x
theorem QG.ofO {o : Option α} (h : QG N rel Q E (ofO o G) ρ H) : ∃ a, o = some a ∧ QG N rel Q E (.ok a G) ρ H := by
  cases o with
  | none => exact h.elim
  | some a => exact ⟨a, rfl, h⟩
theorem QG.ofOG {o : Option (α × GH)} (h : QG N rel Q E (ofOG o) ρ H) : ∃ a G', o = some (a, G') ∧ QG N rel Q E (.ok a G') ρ H := by
  cases o with
  | none => exact h.elim
  | some p => exact ⟨p.1, p.2, rfl, h⟩
end
theorem szOk_le {n : Nat} (h : szOk n = true) : n ≤ sizeLine := of_decide_eq_true h

section
variable {N : En} {ρ : List Addr} {H : Hp} {G : GH}
/-- a new list -/
theorem new_lst {Q : VK} {E : XK} {ws : List W} {xs : List V} {a : Addr} (g : Rg N ρ G H) (h : QC N Q E (ofOG (newL G ws)) ρ H) (r : Rws N ρ H ws xs) (n : H a = none) : Q (.ref a) (upd H a (.lst xs)) := by
  obtain ⟨w, G', e, h⟩ := h.ofOG
  unfold newL at e
  split at e
  · cases e
    have s : Stp ρ H (ρ ++ [a]) (upd H a (.lst xs)) := Stp.push n
    refine h (ρ ++ [a]) _ _ s (g.push (o := .lst xs) n (show okHO (.lst xs) from True.intro) ⟨xs, upd_same, r.stp g s ws⟩) ⟨a, ?_, rfl⟩
    rw [← g.sz, List.getElem?_append_right (Nat.le_refl _)]
    simp
  · cases e
theorem newL_sz {ws : List W} {w : W} {G' : GH} (h : newL G ws = some (w, G')) : ws.length ≤ sizeLine := by
  unfold newL at h
  split at h
  · exact szOk_le (by assumption)
  · cases h
/-- a new tuple -/
theorem new_tup {Q : VK} {E : XK} {ws : List W} {xs : List V} {a : Addr} (g : Rg N ρ G H) (h : QC N Q E (.ok (.tup ws) G) ρ H) (r : Rws N ρ H ws xs) (n : H a = none) : Q (.ref a) (upd H a (.tup xs)) := by
  have s : Stp ρ H ρ (upd H a (.tup xs)) := Stp.laid n
  exact h ρ _ _ s (g.laid n) ⟨a, xs, rfl, .inl upd_same, r.stp g s ws⟩
/-- a list's items -/
theorem items_ok {w : W} {v : V} {ws : List W} (g : Rg N ρ G H) (r : Rw N ρ H w v) (e : items G w = some ws) : ∃ a xs, v = .ref a ∧ SqL N.K H a xs ∧ Rws N ρ H ws xs := by
  cases w with
  | rol us =>
    cases e
    obtain ⟨a, xs, h1, h2, h3⟩ := r
    exact ⟨a, xs, h1, h2.l, h3⟩
  | ref n =>
    have e2 : (match G.get n with
      | some (.lst ws) => some ws
      | _ => none) = some ws := e
    split at e2
    · rename_i us q2
      cases e2
      obtain ⟨a, h1, _, xs, h3, h4⟩ := g.ref r q2
      exact ⟨a, xs, h1, .inl (.inl h3), h4⟩
    · cases e2
  | _ => cases e
theorem lstOf_ok {w : W} {v : V} {ws : List W} (g : Rg N ρ G H) (r : Rw N ρ H w v) (e : lstOf G w = some ws) : ∃ a xs, v = .ref a ∧ H a = some (.lst xs) ∧ Rws N ρ H ws xs := by
  cases w with
  | ref n =>
    have e2 : (match G.get n with
      | some (.lst ws) => some ws
      | _ => none) = some ws := e
    split at e2
    · rename_i us q2
      cases e2
      obtain ⟨a, h1, _, xs, h3, h4⟩ := g.ref r q2
      exact ⟨a, xs, h1, h3, h4⟩
    · cases e2
  | _ => cases e
theorem seqOf_ok {w : W} {v : V} {ws : List W} (g : Rg N ρ G H) (r : Rw N ρ H w v) (e : seqOf G w = some ws) : ∃ a xs, v = .ref a ∧ (SqL N.K H a xs ∨ SqT N.K H a xs) ∧ Rws N ρ H ws xs := by
  unfold seqOf at e
  split at e
  · cases e
    obtain ⟨a, xs, h1, h2, h3⟩ := r
    exact ⟨a, xs, h1, .inr h2.t, h3⟩
  · obtain ⟨a, xs, h1, h2, h3⟩ := items_ok g r e
    exact ⟨a, xs, h1, .inl h2, h3⟩
theorem Rws.isEmpty {ws : List W} {xs : List V} (r : Rws N ρ H ws xs) : ws.isEmpty = xs.isEmpty := by
  have e := r.len
  cases ws <;> cases xs <;> first | rfl | (simp at e)
/-- truth -/
theorem tru_V {w : W} {v : V} {k : Bool} (g : Rg N ρ G H) (r : Rw N ρ H w v) (e : tru G w = some k) : TruV N.K v H k := by
  cases w with
  | non => rw [show v = .non from r]; cases e; rfl
  | bl b => rw [show v = .bl b from r]; cases e; rfl
  | int i => rw [show v = .int i from r]; cases e; rfl
  | str s =>
    rw [show v = .str s from r]
    have e2 : (if szOk s.length = true then some ((s.length : Int) != 0) else none) = some k := e
    split at e2
    · cases e2
      exact ⟨szOk_le (by assumption), rfl⟩
    · cases e2
  | tup ws =>
    obtain ⟨a, xs, h1, h2, h3⟩ := r
    rw [h1]
    cases e
    exact .inr (.inl ⟨xs, h2.t, by rw [h3.isEmpty]⟩)
  | rol ws =>
    obtain ⟨a, xs, h1, h2, h3⟩ := r
    rw [h1]
    cases e
    exact .inl ⟨xs, h2.l, by rw [h3.isEmpty]⟩
  | ref n =>
    have e2 : (match G.get n with
      | some (.lst ws) => some (!ws.isEmpty)
      | _ => none) = some k := e
    split at e2
    · rename_i us q2
      cases e2
      obtain ⟨a, h1, _, xs, h3, h4⟩ := g.ref r q2
      rw [h1]
      exact .inl ⟨xs, .inl (.inl h3), by rw [h4.isEmpty]⟩
    · cases e2
  | _ => cases e
/-- values as data -/
theorem dat_ok (g : Rg N ρ G H) : ∀ (n : Nat) (w : W) (v : V) (d : PyData), dat n G w = some d → Rw N ρ H w v → Dp N.K H v d
  | 0, _, _, _, e, _ => by cases e
  | n + 1, w, v, d, e, r => by
    have all : ∀ (ws : List W) (xs : List V) (ds : List PyData), optAll (dat n G) ws = some ds → Rws N ρ H ws xs → DpAll N.K H xs ds := by
      intro ws
      induction ws with
      | nil =>
        intro xs ds e1 r1
        cases e1
        rw [show xs = [] from r1]
        exact .nil
      | cons u us ih =>
        intro xs ds e1 r1
        obtain ⟨x, xs', h1, h2, h3⟩ := r1
        rw [h1]
        unfold optAll at e1
        split at e1
        · rename_i y ys q1 q2
          cases e1
          exact .cons (dat_ok g n u x y q1 h2) (ih xs' ys q2 h3)
        · cases e1
    cases w with
    | non => rw [show v = .non from r]; cases e; exact .non
    | bl b => rw [show v = .bl b from r]; cases e; exact .bl b
    | int i => rw [show v = .int i from r]; cases e; exact .int i
    | str s => rw [show v = .str s from r]; cases e; exact .str s
    | tup ws =>
      obtain ⟨a, xs, h1, h2, h3⟩ := r
      rw [h1]
      obtain ⟨ds, q1, q2⟩ := Option.map_eq_some_iff.mp (show (optAll (dat n G) ws).map PyData.tuple = some d from e)
      rw [← q2]
      exact .tup h2.t (all ws xs ds q1 h3)
    | rol ws =>
      obtain ⟨a, xs, h1, h2, h3⟩ := r
      rw [h1]
      obtain ⟨ds, q1, q2⟩ := Option.map_eq_some_iff.mp (show (optAll (dat n G) ws).map PyData.list = some d from e)
      rw [← q2]
      exact .lst h2.l (all ws xs ds q1 h3)
    | ref m =>
      have e2 : (match G.get m with
        | some (.lst ws) => (optAll (dat n G) ws).map PyData.list
        | _ => none) = some d := e
      split at e2
      · rename_i ws q0
        obtain ⟨ds, q1, q2⟩ := Option.map_eq_some_iff.mp e2
        obtain ⟨a, h1, _, xs, h3, h4⟩ := g.ref r q0
        rw [h1, ← q2]
        exact .lst (.inl (.inl h3)) (all ws xs ds q1 h4)
      · cases e2
    | _ => cases e
theorem flat_ok {w : W} {v : V} (r : Rw N ρ H w v) (f : flatW w = true) : flatV v = true := by
  cases w with
  | non => rw [show v = .non from r]; rfl
  | bl b => rw [show v = .bl b from r]; rfl
  | int i => rw [show v = .int i from r]; rfl
  | str s => rw [show v = .str s from r]; rfl
  | _ => cases f
theorem eqFl_ok {w u : W} {v x : V} (r : Rw N ρ H w v) (q : Rw N ρ H u x) (f : flatW w = true) (f2 : flatW u = true) : eqV v x = eqFl w u := by
  cases w with
  | non => rw [show v = .non from r]; cases u <;> first | (rw [show x = _ from q]; rfl) | cases f2
  | bl b => rw [show v = .bl b from r]; cases u <;> first | (rw [show x = _ from q]; rfl) | cases f2
  | int i => rw [show v = .int i from r]; cases u <;> first | (rw [show x = _ from q]; rfl) | cases f2
  | str s => rw [show v = .str s from r]; cases u <;> first | (rw [show x = _ from q]; rfl) | cases f2
  | _ => cases f
theorem flats_ok : ∀ {ws : List W} {xs : List V}, Rws N ρ H ws xs → ws.all flatW = true → xs.all flatV = true
  | [], _, h, _ => by
    have e : _ = [] := h
    rw [e]
    rfl
  | w :: ws, _, h, f => by
    obtain ⟨x, xs, h1, h2, h3⟩ := h
    rw [List.all_cons, Bool.and_eq_true] at f
    rw [h1, List.all_cons, flat_ok h2 f.1, flats_ok h3 f.2]
    rfl
theorem inFl_ok {w : W} {v : V} (r : Rw N ρ H w v) (f : flatW w = true) : ∀ {ws : List W} {xs : List V}, Rws N ρ H ws xs → ws.all flatW = true → inV v xs = inFl w ws
  | [], _, h, _ => by
    have e : _ = [] := h
    rw [e]
    rfl
  | u :: ws, _, h, f2 => by
    obtain ⟨x, xs, h1, h2, h3⟩ := h
    rw [List.all_cons, Bool.and_eq_true] at f2
    have ih := inFl_ok r f h3 f2.2
    rw [h1]
    unfold inV inFl at ih ⊢
    rw [List.any_cons, List.any_cons, eqFl_ok h2 r f2.1 f, ih]
theorem scal_ok {w u : W} {v x : V} (r : Rw N ρ H w v) (q : Rw N ρ H u x) (s : scalW w u = true) : scal v x = true ∧ decide (v = x) = eqScal w u := by
  cases w with
  | non => rw [show v = .non from r]; cases u <;> first | (rw [show x = _ from q]; exact ⟨rfl, by simp [eqScal]⟩) | cases s
  | bl b => rw [show v = .bl b from r]; cases u <;> first | (rw [show x = _ from q]; exact ⟨rfl, by simp [eqScal]⟩) | cases s
  | int i => rw [show v = .int i from r]; cases u <;> first | (rw [show x = _ from q]; exact ⟨rfl, by simp [eqScal]⟩) | cases s
  | str z => rw [show v = .str z from r]; cases u <;> first | (rw [show x = _ from q]; exact ⟨rfl, by simp [eqScal]⟩) | cases s
  | _ => cases s
end
end PM

set_option maxHeartbeats 4000000
/-! PmE: the operators, by values. -/
namespace PM
open PySem PySem.Spec PyProof.Rows L2

def unB : BO → Operator
  | .add => .Add | .sub => .Sub | .mul => .Mult | .div => .FloorDiv | .mod => .Mod | .pow => .Pow
def unC : CO → CmpOp
  | .eq => .Eq | .ne => .NotEq | .lt => .Lt | .le => .LtE | .gt => .Gt | .ge => .GtE | .isin => .In | .notin => .NotIn | .is => .Is | .isnot => .IsNot
theorem opB_un {op : Operator} {o : BO} (h : opB op = some o) : op = unB o := by
  cases op <;> cases h <;> rfl
theorem opC_un {op : CmpOp} {o : CO} (h : opC op = some o) : op = unC o := by
  cases op <;> cases h <;> rfl

/-- two values and what is wanted of an operation on them -/
def r2W (N : En) (f : W → W → GH → R W) : R2 := fun x y H Q => ∃ ρ G wx wy E, Rg N ρ G H ∧ Rw N ρ H wx x ∧ Rw N ρ H wy y ∧ QC N Q E (f wx wy G) ρ H
section
variable {X : Cx} {N : En}
theorem op_bin (hK : N.K = X.K) (o : BO) : OpR X (binaryOp (unB o)) (r2W N fun x y G => ofOG (binop o x y G)) := by
  intro pins s σ H x y v u Q I rx ry h
  obtain ⟨ρ, G, wx, wy, E, g, qx, qy, h0⟩ := h
  obtain ⟨w, G', e, h⟩ := h0.ofOG
  cases o with
  | add =>
    cases wx with
    | int i =>
      cases wy with
      | int j =>
        cases e
        exact op_add pins s σ H x y v u Q I rx ry ⟨i, j, qx, qy, h.done g rfl⟩
      | _ => cases e
    | str a =>
      cases wy with
      | str b =>
        have e2 : (if szOk (a.length + b.length) = true then some (W.str (a ++ b), G) else none) = some (w, G') := e
        split at e2
        · rename_i z
          cases e2
          exact op_add_str pins s σ H x y v u Q I rx ry ⟨a, b, qx, qy, szOk_le z, h.done g rfl⟩
        · cases e2
      | _ => cases e
    | tup ws =>
      cases wy with
      | tup us =>
        have e2 : (if (!ws.isEmpty && szOk (ws.length + us.length)) = true then some (W.tup (ws ++ us), G) else none) = some (w, G') := e
        split at e2
        · rename_i z
          cases e2
          obtain ⟨a, xs, rfl, h1, h2⟩ := qx
          obtain ⟨b, ys, rfl, h3, h4⟩ := qy
          rw [Bool.and_eq_true] at z
          have hz : xs.length + ys.length ≤ sizeLine := by rw [← h2.len, ← h4.len]; exact szOk_le z.2
          rw [hK] at h1 h3
          refine op_catA pins s σ H _ _ v u Q I rx ry ⟨a, b, xs, ys, rfl, rfl, h1.t, h3.t, hz, fun z1 => ?_, fun _ z1 => ?_, fun _ _ p hp => ?_⟩
          · have e3 : ws = [] := by
              cases ws with
              | nil => rfl
              | cons _ _ => obtain ⟨_, _, e4, _⟩ := h2; rw [e4] at z1; cases z1
            rw [e3] at h
            exact h.done g ⟨b, ys, rfl, by rw [hK]; exact h3, h4⟩
          · have e3 : us = [] := by
              cases us with
              | nil => rfl
              | cons _ _ => obtain ⟨_, _, e4, _⟩ := h4; rw [e4] at z1; cases z1
            rw [e3, List.append_nil] at h
            exact h.done g ⟨a, xs, rfl, by rw [hK]; exact h1, h2⟩
          · exact new_tup g h (h2.append h4) hp
        · cases e2
      | _ => cases e
    | ref n =>
      cases wy with
      | ref m =>
        have e2 : (match lstOf G (.ref n), lstOf G (.ref m) with
          | some xs, some ys => newL G (xs ++ ys)
          | _, _ => none) = some (w, G') := e
        split at e2
        · rename_i ws us z1 z2
          obtain ⟨a, xs, rfl, h1, h2⟩ := lstOf_ok g qx z1
          obtain ⟨b, ys, rfl, h3, h4⟩ := lstOf_ok g qy z2
          have hz : xs.length + ys.length ≤ sizeLine := by
            have := newL_sz e2
            rw [List.length_append, h2.len, h4.len] at this
            exact this
          refine op_cat pins s σ H _ _ v u Q I rx ry ⟨a, b, xs, ys, rfl, rfl, h1, h3, hz, fun p hp => ?_⟩
          refine new_lst (E := E) (ws := ws ++ us) g ?_ (h2.append h4) hp
          rw [e2]
          exact h
        · cases e2
      | _ => cases e
    | _ => cases e
  | sub =>
    cases wx with
    | int i =>
      cases wy with
      | int j =>
        cases e
        exact op_sub pins s σ H x y v u Q I rx ry ⟨i, j, qx, qy, h.done g rfl⟩
      | _ => cases e
    | _ => cases e
  | mul =>
    cases wx with
    | int i =>
      cases wy with
      | int j =>
        have e2 : (if (decide (i.natAbs < 18446744073709551616) || decide (j.natAbs < 18446744073709551616)) = true then some (W.int (i * j), G) else none) = some (w, G') := e
        split at e2
        · rename_i z
          cases e2
          have z : (-(2 ^ 64) < i ∧ i < 2 ^ 64) ∨ (-(2 ^ 64) < j ∧ j < 2 ^ 64) := by
            rcases Bool.or_eq_true .. ▸ z with z | z
            · have := of_decide_eq_true z
              exact .inl (by omega)
            · have := of_decide_eq_true z
              exact .inr (by omega)
          exact op_mul pins s σ H x y v u Q I rx ry ⟨i, j, qx, qy, z, h.done g rfl⟩
        · cases e2
      | _ => cases e
    | _ => cases e
  | div =>
    cases wx with
    | int i =>
      cases wy with
      | int j =>
        have e2 : (if (decide (j ≠ 0) && decide (j.natAbs < 1073741824)) = true then some (W.int (i.fdiv j), G) else none) = some (w, G') := e
        split at e2
        · rename_i z
          cases e2
          simp only [Bool.and_eq_true, decide_eq_true_eq] at z
          exact op_fdivN pins s σ H x y v u Q I rx ry ⟨i, j, qx, qy, z, h.done g rfl⟩
        · cases e2
      | _ => cases e
    | _ => cases e
  | mod =>
    cases wx with
    | int i =>
      cases wy with
      | int j =>
        have e2 : (if j ≠ 0 then some (W.int (i.fmod j), G) else none) = some (w, G') := e
        split at e2
        · rename_i z
          cases e2
          exact op_modN pins s σ H x y v u Q I rx ry ⟨i, j, qx, qy, z, h.done g rfl⟩
        · cases e2
      | _ => cases e
    | _ => cases e
  | pow =>
    cases wx with
    | int i =>
      cases wy with
      | int j =>
        have e2 : (if (decide (0 ≤ j) && (decide (j ≤ 1000000) && decide (i.natAbs < 2 ^ 64))) = true then some (W.int (i ^ j.toNat), G) else none) = some (w, G') := e
        split at e2
        · rename_i z
          cases e2
          simp only [Bool.and_eq_true, decide_eq_true_eq] at z
          exact op_pow pins s σ H x y v u Q I rx ry ⟨i, j, qx, qy, z, h.done g rfl⟩
        · cases e2
      | _ => cases e
    | _ => cases e

theorem eqW_op (hK : N.K = X.K) (hu : X.A.units + 64 < cLine) {pins : List (Addr × Obj)} {s : Shared} {σ : L2.St} {H : Hp} {x y : V} {v u : Value} {Q : VK} {ρ : List Addr} {G : GH} {wx wy : W} {b : Bool} (I : Inv X pins σ H s) (rx : RelV x v) (ry : RelV y u)
    (g : Rg N ρ G H) (qx : Rw N ρ H wx x) (qy : Rw N ρ H wy y) (e : eqW G wx wy = some b) :
    (Q (.bl b) H → wpAny (model X.prog X.w) X.A (compareOp .Eq v u) (EP X pins σ Q) X.xe s) ∧ (Q (.bl (!b)) H → wpAny (model X.prog X.w) X.A (compareOp .NotEq v u) (EP X pins σ Q) X.xe s) := by
  unfold eqW at e
  split at e
  · rename_i z
    cases e
    obtain ⟨h1, h2⟩ := scal_ok qx qy z
    exact ⟨fun h => op_eq pins s σ H x y v u Q I rx ry ⟨h1, by rw [h2]; exact h⟩, fun h => op_ne pins s σ H x y v u Q I rx ry ⟨h1, by rw [h2]; exact h⟩⟩
  · unfold eqD at e
    split at e
    · rename_i d d2 q1 q2
      split at e
      · rename_i z
        rw [Bool.and_eq_true] at z
        cases e
        have h1 := dat_ok g 60 wx x d q1 qx
        have h2 := dat_ok g 60 wy y d2 q2 qy
        rw [hK] at h1 h2
        exact ⟨fun h => op_eqD hu pins s σ H x y v u Q I rx ry ⟨d, d2, h1, h2, z.1, z.2, h⟩, fun h => op_neD hu pins s σ H x y v u Q I rx ry ⟨d, d2, h1, h2, z.1, z.2, h⟩⟩
      · cases e
    · cases e
theorem inW_op (hK : N.K = X.K) {pins : List (Addr × Obj)} {s : Shared} {σ : L2.St} {H : Hp} {x y : V} {v u : Value} {Q : VK} {ρ : List Addr} {G : GH} {wx wy : W} {b : Bool} (I : Inv X pins σ H s) (rx : RelV x v) (ry : RelV y u)
    (g : Rg N ρ G H) (qx : Rw N ρ H wx x) (qy : Rw N ρ H wy y) (e : inW G wx wy = some b) :
    (Q (.bl b) H → wpAny (model X.prog X.w) X.A (compareOp .In v u) (EP X pins σ Q) X.xe s) ∧ (Q (.bl (!b)) H → wpAny (model X.prog X.w) X.A (compareOp .NotIn v u) (EP X pins σ Q) X.xe s) := by
  unfold inW at e
  split at e
  · rename_i a c
    cases e
    exact ⟨fun h => op_in_str pins s σ H x y v u Q I rx ry ⟨a, c, qx, qy, h⟩, fun h => op_notin_str pins s σ H x y v u Q I rx ry ⟨a, c, qx, qy, h⟩⟩
  · split at e
    · rename_i ws q
      split at e
      · rename_i z
        rw [Bool.and_eq_true] at z
        cases e
        obtain ⟨p, xs, rfl, h1, h2⟩ := seqOf_ok g qy q
        rw [hK] at h1
        have f1 := flat_ok qx z.1
        have f2 := flats_ok h2 z.2
        have f3 := inFl_ok qx z.1 h2 z.2
        refine ⟨fun h => op_in_seq pins s σ H x _ v u Q I rx ry ⟨p, xs, rfl, h1, f1, f2, ?_⟩, fun h => op_notIn_seq pins s σ H x _ v u Q I rx ry ⟨p, xs, rfl, h1, f1, f2, ?_⟩⟩
        · rw [f3]; exact h
        · rw [f3]; exact h
      · cases e
    · cases e
theorem isN_op {w : W} {v : V} {ρ : List Addr} {H : Hp} (r : Rw N ρ H w v) : decide (v = .non) = isNon w := by
  cases w with
  | non => rw [show v = .non from r]; rfl
  | bl b => rw [show v = .bl b from r]; rfl
  | int i => rw [show v = .int i from r]; rfl
  | str s => rw [show v = .str s from r]; rfl
  | ty n => rw [show v = .ty n from r]; rfl
  | fn f => rw [show v = .ref _ from r]; rfl
  | cls f => rw [show v = .ref _ from r]; rfl
  | ref n => obtain ⟨a, _, h⟩ := r; rw [h]; rfl
  | tup ws => obtain ⟨a, _, h, _⟩ := r; rw [h]; rfl
  | rol ws => obtain ⟨a, _, h, _⟩ := r; rw [h]; rfl
theorem op_cmp (hK : N.K = X.K) (hu : X.A.units + 64 < cLine) (o : CO) : OpR X (compareOp (unC o)) (r2W N fun x y G => ofO ((cmpop o x y G).map .bl) G) := by
  intro pins s σ H x y v u Q I rx ry h
  obtain ⟨ρ, G, wx, wy, E, g, qx, qy, h0⟩ := h
  obtain ⟨w, e, h⟩ := h0.ofO
  obtain ⟨b, e1, ew⟩ := Option.map_eq_some_iff.mp e
  rw [← ew] at h
  clear ew
  have hq : Q (.bl b) H := h.done g rfl
  cases o with
  | eq => exact (eqW_op hK hu I rx ry g qx qy e1).1 hq
  | ne =>
    obtain ⟨c, e2, e3⟩ := Option.map_eq_some_iff.mp (show (eqW G wx wy).map (!·) = some b from e1)
    rw [← e3] at hq
    exact (eqW_op hK hu I rx ry g qx qy e2).2 hq
  | isin => exact (inW_op hK I rx ry g qx qy e1).1 hq
  | notin =>
    obtain ⟨c, e2, e3⟩ := Option.map_eq_some_iff.mp (show (inW G wx wy).map (!·) = some b from e1)
    rw [← e3] at hq
    exact (inW_op hK I rx ry g qx qy e2).2 hq
  | lt =>
    cases wx with
    | int i =>
      cases wy with
      | int j => cases e1; exact op_lt pins s σ H x y v u Q I rx ry ⟨i, j, qx, qy, hq⟩
      | _ => cases e1
    | str i =>
      cases wy with
      | str j => cases e1; exact op_lt_str pins s σ H x y v u Q I rx ry ⟨i, j, qx, qy, hq⟩
      | _ => cases e1
    | _ => cases e1
  | le =>
    cases wx with
    | int i =>
      cases wy with
      | int j => cases e1; exact op_le pins s σ H x y v u Q I rx ry ⟨i, j, qx, qy, hq⟩
      | _ => cases e1
    | _ => cases e1
  | gt =>
    cases wx with
    | int i =>
      cases wy with
      | int j => cases e1; exact op_gt pins s σ H x y v u Q I rx ry ⟨i, j, qx, qy, hq⟩
      | _ => cases e1
    | _ => cases e1
  | ge =>
    cases wx with
    | int i =>
      cases wy with
      | int j => cases e1; exact op_ge pins s σ H x y v u Q I rx ry ⟨i, j, qx, qy, hq⟩
      | _ => cases e1
    | _ => cases e1
  | is =>
    cases wy with
    | non =>
      cases e1
      refine op_isN pins s σ H x y v u Q I rx ry ⟨qy, ?_⟩
      rw [isN_op qx]
      exact hq
    | _ => cases e1
  | isnot =>
    cases wy with
    | non =>
      cases e1
      refine op_notN pins s σ H x y v u Q I rx ry ⟨qy, ?_⟩
      rw [isN_op qx]
      exact hq
    | _ => cases e1
theorem op_neg : UnR X (unaryOp .USub) (fun x H Q => ∃ ρ G w E, Rg N ρ G H ∧ Rw N ρ H w x ∧ QC N Q E (match w with | .int i => .ok (.int (-i)) G | _ => .bad) ρ H) := by
  intro pins s σ H x v Q I rx h
  obtain ⟨ρ, G, w, E, g, qx, h⟩ := h
  cases w with
  | int i => exact un_neg pins s σ H x v Q I rx ⟨i, qx, h.done g rfl⟩
  | _ => exact h.elim
/-- subscripts -/
theorem op_ix (hK : N.K = X.K) : IxR X (r2W N fun x y G => ofO (ixop G x y) G) := by
  intro value slice pins s σ H x y v u Q I rx ry h hs
  obtain ⟨ρ, G, wx, wy, E, g, qx, qy, h0⟩ := h
  obtain ⟨w, e, h⟩ := h0.ofO
  refine ix_seq value slice pins s σ H x y v u Q I rx ry ?_ hs
  cases wy with
  | int i =>
    cases wx with
    | str z =>
      have e2 : (if szOk z.length = true then (atI z.cps.toList i).map fun c => W.str ⟨#[c]⟩ else none) = some w := e
      split at e2
      · rename_i hz
        obtain ⟨c, e3, e4⟩ := Option.map_eq_some_iff.mp e2
        rw [← e4] at h
        exact .inr (.inr ⟨z, i, c, qx, qy, szOk_le hz, e3, h.done g rfl⟩)
      · cases e2
    | tup ws =>
      obtain ⟨a, xs, h1, h2, h3⟩ := qx
      obtain ⟨z, e3, e4⟩ := h3.at_ (show atI ws i = some w from e)
      rw [hK] at h2
      exact .inr (.inl ⟨a, xs, i, z, h1, qy, h2.t, e3, h.done g e4⟩)
    | rol ws =>
      obtain ⟨a, xs, h1, h2, h3⟩ := qx
      obtain ⟨z, e3, e4⟩ := h3.at_ (show atI ws i = some w from e)
      rw [hK] at h2
      exact .inl ⟨a, xs, i, z, h1, qy, h2.l, e3, h.done g e4⟩
    | ref n =>
      have e2 : (match seqOf G (.ref n) with
        | some ws => atI ws i
        | none => none) = some w := e
      split at e2
      · rename_i ws q
        obtain ⟨a, xs, h1, h2, h3⟩ := items_ok g qx q
        obtain ⟨z, e3, e4⟩ := h3.at_ e2
        rw [hK] at h2
        exact .inl ⟨a, xs, i, z, h1, qy, h2, e3, h.done g e4⟩
      · cases e2
    | _ => cases e
  | _ => cases wx <;> cases e
/-- slices -/
def r3W (N : En) : V → Option Int → Option Int → Hp → VK → Prop := fun x lo hi H Q => ∃ ρ G w E, Rg N ρ G H ∧ Rw N ρ H w x ∧ QC N Q E (ofOG (slop G w lo hi)) ρ H
theorem op_sl (hK : N.K = X.K) : SlR X (r3W N) := by
  intro pins s σ H x v vl vu lo hi sl Q I rx hs pl pu h
  obtain ⟨ρ, G, w, E, g, qx, h0⟩ := h
  obtain ⟨z, G', e, h⟩ := h0.ofOG
  cases w with
  | tup ws =>
    cases e
    obtain ⟨a, xs, rfl, h2, h3⟩ := qx
    rw [hK] at h2
    refine sl_tupA pins s σ H _ v vl vu lo hi sl Q I rx hs pl pu ⟨a, xs, rfl, h2.t, fun z => ?_, fun _ p hp => new_tup g h (h3.cut lo hi) hp⟩
    have e2 : cutW ws lo hi = ws := by
      unfold cutW
      rw [h3.len, z.1, z.2, List.drop_zero, Nat.sub_zero, ← h3.len, List.take_length]
    rw [e2] at h
    exact h.done g ⟨a, xs, rfl, by rw [hK]; exact h2, h3⟩
  | str y =>
    have e2 : (if szOk y.length = true then some (W.str (cutS y lo hi), G) else none) = some (z, G') := e
    split at e2
    · rename_i hz
      cases e2
      exact sl_str pins s σ H x v vl vu lo hi sl Q I rx hs pl pu ⟨y, qx, szOk_le hz, h.done g rfl⟩
    · cases e2
  | rol ws =>
    have e2 : newL G (cutW ws lo hi) = some (z, G') := e
    obtain ⟨a, xs, h1, h2, h3⟩ := qx
    rw [hK] at h2
    refine sl_list pins s σ H x v vl vu lo hi sl Q I rx hs pl pu ⟨a, xs, h1, h2.l, fun p hp => new_lst (E := E) (ws := cutW ws lo hi) g ?_ (h3.cut lo hi) hp⟩
    rw [e2]
    exact h
  | ref n =>
    have e2 : (match items G (.ref n) with
      | some ws => newL G (cutW ws lo hi)
      | none => none) = some (z, G') := e
    split at e2
    · rename_i ws q
      obtain ⟨a, xs, h1, h2, h3⟩ := items_ok g qx q
      rw [hK] at h2
      refine sl_list pins s σ H x v vl vu lo hi sl Q I rx hs pl pu ⟨a, xs, h1, h2, fun p hp => new_lst (E := E) (ws := cutW ws lo hi) g ?_ (h3.cut lo hi) hp⟩
      rw [e2]
      exact h
    · cases e2
  | _ => cases e
end
end PM

set_option maxHeartbeats 4000000
/-! PmF: built-in functions, methods, what is walked. -/
namespace PM
open PySem PySem.Spec PyProof.Rows L2

def tyV' (N : En) : Ty → Value
  | .b n => .type n
  | .c i => .ref (N.ca i)
/-- what is asked of the text's isinstance table -/
structure IsiOk (N : En) (T : Tb) : Prop where
  one : ∀ t u b, T.isi.lookup (t, u) = some b → PySem.W.kitOne N.K (tyV' N t) (tyV' N u) = some b
  cl : ∀ c u b, T.isi.lookup (.c c, u) = some b → Cls N.K (N.ca c) ∧ PySem.W.findIn N.K (.ref (N.ca c)) "__class__" = some (some (.builtin "object.__class__")) ∧
    PySem.W.specialIn N.K (.builtin "object.__class__") "__get__" = some (some (.builtin "getset_descriptor.__get__")) ∧ PySem.W.takesIn N.K (.builtin "object.__class__") = some true ∧ PySem.W.mroIn N.K (N.ca c) (.type "object") = some true
def bfV : Bf → Value
  | .len => .builtin "len" | .int => .type "int" | .list => .type "list" | .tuple => .type "tuple" | .isinst => .builtin "isinstance" | .all => .builtin "all"
section
variable {X : Cx} {N : En} {T : Tb} {ρ : List Addr} {H : Hp} {G : GH}
theorem Rws.inv1 {w : W} {vs : List V} (r : Rws N ρ H [w] vs) : ∃ v, vs = [v] ∧ Rw N ρ H w v := by
  obtain ⟨v, xs, h1, h2, h3⟩ := r
  rw [show xs = [] from h3] at h1
  exact ⟨v, h1, h2⟩
theorem Rws.inv2 {w u : W} {vs : List V} (r : Rws N ρ H [w, u] vs) : ∃ v x, vs = [v, x] ∧ Rw N ρ H w v ∧ Rw N ρ H u x := by
  obtain ⟨v, xs, h1, h2, h3⟩ := r
  obtain ⟨x, h4, h5⟩ := h3.inv1
  rw [h4] at h1
  exact ⟨v, x, h1, h2, h5⟩
theorem bools_ok : ∀ {ws : List W} {xs : List V} {bs : List Bool}, Rws N ρ H ws xs → bools ws = some bs → xs = bs.map V.bl
  | [], xs, bs, r, e => by
    cases e
    rw [show xs = [] from r]
    rfl
  | w :: ws, xs, bs, r, e => by
    obtain ⟨x, xs', h1, h2, h3⟩ := r
    cases w with
    | bl b =>
      obtain ⟨cs, e1, e2⟩ := Option.map_eq_some_iff.mp (show (bools ws).map (b :: ·) = some bs from e)
      rw [h1, ← e2, bools_ok h3 e1, show x = .bl b from h2]
      rfl
    | _ => cases e
theorem allStr_ok : ∀ {ws : List W} {xs : List V} {bs : List Str}, Rws N ρ H ws xs → allStr ws = some bs → xs = bs.map V.str
  | [], xs, bs, r, e => by
    cases e
    rw [show xs = [] from r]
    rfl
  | w :: ws, xs, bs, r, e => by
    obtain ⟨x, xs', h1, h2, h3⟩ := r
    cases w with
    | str b =>
      obtain ⟨cs, e1, e2⟩ := Option.map_eq_some_iff.mp (show (allStr ws).map (b :: ·) = some bs from e)
      rw [h1, ← e2, allStr_ok h3 e1, show x = .str b from h2]
      rfl
    | _ => cases e
theorem sqL_len {K : PySem.W.Frag} {H : Hp} {P : Program} {w : World} {h : Heap} {a : Addr} {xs : List V} (ok : HOk P w H h) (s : SqL K H a xs) : xs.length ≤ sizeLine := by
  rcases s with (s | ⟨o, s⟩) | ⟨o, its, n, h1, h2, h3, h4, h5, h6⟩
  · exact (ok a _ s).1
  · exact (ok a _ s).2.1
  · rw [h6.length, Array.length_toList]
    exact h5
theorem sqT_len {K : PySem.W.Frag} {H : Hp} {P : Program} {w : World} {h : Heap} {a : Addr} {xs : List V} (ok : HOk P w H h) (s : SqT K H a xs) : xs.length ≤ sizeLine := by
  rcases s with (s | ⟨o, s⟩) | ⟨o, its, n, h1, h2, h4, h5, h6⟩
  · exact (ok a _ s).1
  · exact (ok a _ s).2.1
  · rw [h6.length, Array.length_toList]
    exact h5
/-- a value's type -/
theorem tyOf_ok (iso : IsiOk N T) (g : Rg N ρ G H) {w : W} {v : V} {t : Ty} (r : Rw N ρ H w v) (e : tyOf G w = some t) (u : Ty) (b : Bool) (hb : T.isi.lookup (t, u) = some b) : TyX N.K H v (tyV' N t) := by
  cases w with
  | non => rw [show v = .non from r]; cases e; exact .base .non
  | bl x => rw [show v = .bl x from r]; cases e; exact .base (.bl x)
  | int i => rw [show v = .int i from r]; cases e; exact .base (.int i)
  | str x => rw [show v = .str x from r]; cases e; exact .base (.str x)
  | tup ws =>
    obtain ⟨a, xs, h1, h2, h3⟩ := r
    rw [h1]
    cases e
    rcases h2 with h2 | ⟨o, its, n, k1, k2, _⟩
    · exact .base (.tup h2)
    · exact .kTuple k1 k2
  | rol ws =>
    obtain ⟨a, xs, h1, h2, h3⟩ := r
    rw [h1]
    cases e
    rcases h2 with ⟨o, h2⟩ | ⟨o, its, n, k1, k2, _⟩
    · exact .base (.frz h2)
    · exact .kList k1 k2
  | ref n =>
    have e2 : (match G.get n with
      | some (.lst _) => some (Ty.b "list")
      | some (.ins c _) => some (.c c)
      | _ => none) = some t := e
    split at e2
    · rename_i us q2
      cases e2
      obtain ⟨a, h1, _, xs, h3, h4⟩ := g.ref r q2
      rw [h1]
      exact .base (.lst h3)
    · rename_i c fs q2
      cases e2
      obtain ⟨a, h1, _, dx, xs, h3, h4⟩ := g.ref r q2
      obtain ⟨c1, c2, c3, c4, c5⟩ := iso.cl c u b hb
      rw [h1]
      exact .base (.ins h3 c1 c2 c3 c4 c5)
    · cases e2
  | _ => cases e
theorem isiOne_ok (iso : IsiOk N T) {t : Ty} {c : W} {cv : V} {b : Bool} (r : Rw N ρ H c cv) (e : isiOne T t c = some b) : ∃ u : Ty, ClsV cv (tyV' N u) ∧ PySem.W.kitOne N.K (tyV' N t) (tyV' N u) = some b ∧ T.isi.lookup (t, u) = some b := by
  cases c with
  | ty n =>
    rw [show cv = .ty n from r]
    exact ⟨.b n, .ty n, iso.one t (.b n) b e, e⟩
  | cls c =>
    rw [show cv = .ref (N.ca c) from r]
    exact ⟨.c c, .own _, iso.one t (.c c) b e, e⟩
  | _ => cases e
theorem isiAny_ok (iso : IsiOk N T) {t : Ty} : ∀ {cs : List W} {cvs : List V} {b : Bool}, Rws N ρ H cs cvs → isiAny T t cs = some b → ∃ us, Paired ClsV cvs us ∧ PySem.W.kitAny N.K (tyV' N t) us = some b ∧ (cs ≠ [] → ∃ u b', T.isi.lookup (t, u) = some b')
  | [], cvs, b, r, e => by
    rw [show cvs = [] from r]
    cases e
    exact ⟨[], .nil, rfl, fun z => absurd rfl z⟩
  | c :: cs, cvs, b, r, e => by
    obtain ⟨x, xs, h1, h2, h3⟩ := r
    rw [h1]
    unfold isiAny at e
    split at e
    · rename_i z q1 q2
      cases e
      obtain ⟨u, k1, k2, k3⟩ := isiOne_ok iso h2 q1
      obtain ⟨us, k4, k5, _⟩ := isiAny_ok iso h3 q2
      exact ⟨_ :: us, .cons k1 k4, kitAny_cons k2 (fun z => nomatch z) (fun _ => rfl), fun _ => ⟨u, _, k3⟩⟩
    · rename_i z q1 q2
      cases e
      obtain ⟨u, k1, k2, k3⟩ := isiOne_ok iso h2 q1
      obtain ⟨us, k4, k5, _⟩ := isiAny_ok iso h3 q2
      exact ⟨_ :: us, .cons k1 k4, kitAny_cons k2 (fun _ => k5) (fun z => nomatch z), fun _ => ⟨u, _, k3⟩⟩
    · cases e
/-- a call on values and what is wanted of it -/
def rcW (N : En) (f : List W → GH → R W) : List V → Hp → VK → Prop := fun vs H Q => ∃ ρ G ws E, Rg N ρ G H ∧ Rws N ρ H ws vs ∧ QC N Q E (f ws G) ρ H
theorem call_bf (hK : N.K = X.K) (hc : X.calm = true) (iso : IsiOk N T) (b : Bf) : CallR X (bfV b) (rcW N fun ws G => ofOG (bfop T b ws G)) := by
  intro pins s σ H xs us Q I rx h0
  obtain ⟨ρ, G, ws, E, g, r, h1⟩ := h0
  obtain ⟨w, G', e, h⟩ := h1.ofOG
  unfold bfop at e
  split at e
  · rename_i z
    obtain ⟨v, rfl, q⟩ := r.inv1
    split at e
    · rename_i hz
      cases e
      exact call_len pins s σ H _ us Q I rx ⟨v, z.length, rfl, by rw [show v = .str z from q]; exact ⟨szOk_le hz, rfl⟩, h.done g rfl⟩
    · cases e
  · rename_i u _
    obtain ⟨v, rfl, q⟩ := r.inv1
    obtain ⟨ys, e1, e2⟩ := Option.map_eq_some_iff.mp e
    cases e2
    obtain ⟨a, vs, rfl, h2, h3⟩ := seqOf_ok g q e1
    rw [hK] at h2
    refine call_len_seq pins s σ H _ us Q I rx ⟨a, vs, rfl, h2, ?_⟩
    rw [h3.len] at h
    exact h.done g rfl
  · rename_i i
    obtain ⟨v, rfl, q⟩ := r.inv1
    cases e
    exact call_int1 pins s σ H _ us Q I rx (.inl ⟨i, by rw [show v = .int i from q], h.done g rfl⟩)
  · rename_i k
    obtain ⟨v, rfl, q⟩ := r.inv1
    cases e
    exact call_int1 pins s σ H _ us Q I rx (.inr ⟨k, by rw [show v = .bl k from q], h.done g rfl⟩)
  · rename_i u
    obtain ⟨v, rfl, q⟩ := r.inv1
    split at e
    · rename_i ys e1
      obtain ⟨a, vs, rfl, h2, h3⟩ := seqOf_ok g q e1
      rw [hK] at h2
      refine call_list_of pins s σ H _ us Q I rx ⟨a, vs, rfl, h2, fun p hp => new_lst (E := E) (ws := ys) g ?_ h3 hp⟩
      rw [e]
      exact h
    · cases e
  · rename_i ys
    obtain ⟨v, rfl, q⟩ := r.inv1
    cases e
    have q' := q
    obtain ⟨a, vs, rfl, h2, h3⟩ := q
    rw [hK] at h2
    exact call_tupleT pins s σ H _ us Q I rx ⟨a, vs, rfl, h2.t, h.done g q'⟩
  · rename_i u _
    obtain ⟨v, rfl, q⟩ := r.inv1
    obtain ⟨ys, e1, e2⟩ := Option.map_eq_some_iff.mp e
    cases e2
    obtain ⟨a, vs, rfl, h2, h3⟩ := items_ok g q e1
    rw [hK] at h2
    exact call_tuple_of pins s σ H _ us Q I rx ⟨a, vs, rfl, .inl ⟨h2, fun p hp => new_tup g h h3 hp⟩⟩
  · rename_i x c
    obtain ⟨v, cv, rfl, q1, q2⟩ := r.inv2
    obtain ⟨k, e1, e2⟩ := Option.map_eq_some_iff.mp e
    cases e2
    have hq : Q (.bl k) H := h.done g rfl
    unfold isinst at e1
    split at e1
    · rename_i t ht
      split at e1
      · rename_i cs
        split at e1
        · cases e1
        rename_i hne
        obtain ⟨a, cvs, rfl, h2, h3⟩ := q2
        obtain ⟨vs, k1, k2, k3⟩ := isiAny_ok iso h3 e1
        obtain ⟨u, b', k4⟩ := k3 (fun z => hne (by rw [z]; rfl))
        have ty := tyOf_ok iso g q1 ht u b' k4
        rw [hK] at ty k2 h2
        rcases h2 with h2 | ⟨⟨oc, od, dt, sl⟩, its, n, l1, l2, l3, l4, l5⟩
        · exact call_isiT pins s σ H _ us Q I rx ⟨v, a, cvs, _, vs, k, rfl, h2, k1, ty, k2, hq⟩
        · have e3 := ClsV.all k1 l5
          simp only at l2 l3
          refine call_isiK pins s σ H _ us Q I rx ⟨v, a, od, vs, n, sl, _, k, rfl, ?_, ty, k2, hq⟩
          rw [l1, l2, l3, ← e3, Array.toArray_toList]
      · obtain ⟨u, k1, k2, k3⟩ := isiOne_ok iso q2 e1
        have ty := tyOf_ok iso g q1 ht u k k3
        rw [hK] at ty k2
        exact call_isi pins s σ H _ us Q I rx ⟨v, cv, _, _, k, rfl, k1, ty, k2, hq⟩
    · cases e1
  · rename_i u
    obtain ⟨v, rfl, q⟩ := r.inv1
    split at e
    · rename_i ys e1
      obtain ⟨bs, e2, e3⟩ := Option.map_eq_some_iff.mp e
      cases e3
      obtain ⟨a, vs, rfl, h2, h3⟩ := items_ok g q e1
      rw [hK, bools_ok h3 e2] at h2
      exact cr_all hc pins s σ H _ us Q I rx ⟨a, bs, rfl, h2, h.done g rfl⟩
    · cases e
  · cases e
end
end PM

set_option maxHeartbeats 4000000
/-! PmG: methods of built-in types; what is walked. -/
namespace PM
open PySem PySem.Spec PyProof.Rows L2

def bmId : Bm → String
  | .append => "list.append"
  | .join => "str.join"
def btS : Bt → String
  | .lst => "list"
  | .str => "str"
section
variable {X : Cx} {N : En} {T : Tb}
def rmW (N : En) (f : W → List W → GH → R W) : V → List V → Hp → VK → Prop := fun x vs H Q => ∃ ρ G w ws E, Rg N ρ G H ∧ Rw N ρ H w x ∧ Rws N ρ H ws vs ∧ QC N Q E (f w ws G) ρ H
theorem mt_bm (hK : N.K = X.K) (m : Bm) : MtR X (bmId m) (rmW N fun w ws G => ofOG (bmop m w ws G)) := by
  intro pins s σ H x xs v us Q I rx rs h0
  obtain ⟨ρ, G, w, ws, E, g, r, rr, h1⟩ := h0
  obtain ⟨z, G', e, h⟩ := h1.ofOG
  unfold bmop at e
  split at e
  · rename_i n u
    split at e
    · rename_i ys q
      split at e
      · rename_i hz
        cases e
        obtain ⟨a, rfl, hn, vs, k1, k2⟩ := g.ref r q
        obtain ⟨y, rfl, ry⟩ := rr.inv1
        have hl : vs.length < sizeLine := by rw [← k2.len]; exact of_decide_eq_true hz
        have m := List.mem_of_getElem? hn
        have st : Stp ρ H ρ (upd H a (.lst (vs ++ [y]))) := Stp.set m
        refine mt_append pins s σ H _ _ v us Q I rx rs ⟨a, vs, y, rfl, rfl, k1, hl, h ρ _ _ st ?_ rfl⟩
        exact g.set hn (show okHO (.lst (vs ++ [y])) from True.intro) ⟨vs ++ [y], upd_same, (k2.append (Rws.one ry)).stp g st⟩
      · cases e
    · cases e
  · rename_i z u
    split at e
    · rename_i ys q
      split at e
      · rename_i bs q2
        split at e
        · rename_i hz
          cases e
          obtain ⟨y, rfl, ry⟩ := rr.inv1
          obtain ⟨a, vs, rfl, k1, k2⟩ := seqOf_ok g ry q
          rw [allStr_ok k2 q2, hK] at k1
          exact mt_join pins s σ H _ _ v us Q I rx rs ⟨z, a, bs, r, rfl, k1, of_decide_eq_true hz, h.done g rfl⟩
        · cases e
      · cases e
    · cases e
  · cases e
theorem btOf_ty (hK : N.K = X.K) {ρ : List Addr} {G : GH} {H : Hp} {w : W} {x : V} {t : Bt} (g : Rg N ρ G H) (r : Rw N ρ H w x) (e : btOf G w = some t) : tyV X.K (btS t) x H := by
  unfold btOf at e
  split at e
  · cases e
    rw [show x = _ from r]
    rfl
  · cases e
    obtain ⟨a, xs, rfl, h, _⟩ := r
    rw [hK] at h
    exact .inl ⟨rfl, xs, h.l⟩
  · split at e
    · rename_i q
      cases e
      obtain ⟨a, rfl, _, xs, k, _⟩ := g.ref r q
      exact .inl ⟨rfl, xs, .inl (.inl k)⟩
    · cases e
  · cases e
end

/-! ### zip -/
inductive Zc where
  | cl (a : Addr) | ct (a : Addr) | cs (x : Str) (t : Tok)
def chV (x : Str) : List V := x.cps.toList.map fun c => .str ⟨#[c]⟩
def Zc.v : Zc → Value
  | .cl a => .ref a
  | .ct a => .ref a
  | .cs x t => .str x t
def Zc.o : Zc → Obj
  | .cl a => { cls := .type "list_iterator", data := .fields #[.ref a, .int 0 0] }
  | .ct a => { cls := .type "tuple_iterator", data := .fields #[.ref a, .int 0 0] }
  | .cs x t => { cls := .type (strIterType x), data := .fields #[.str x t, .int 0 0] }
def Zc.q (K : PySem.W.Frag) (H : Hp) : Zc → List V → Prop
  | .cl a, xs => SqL K H a xs
  | .ct a, xs => SqT K H a xs
  | .cs x _, xs => xs = chV x
def Zc.no : Zc → Addr → Prop
  | .cl a, b => a ≠ b
  | .ct a, b => a ≠ b
  | .cs _ _, _ => True
def Zc.st (it : Addr) (i : Nat) (h : Heap) : Zc → Prop
  | .cl a => h.IsListIter it a i
  | .ct a => h.IsTupleIter it a i
  | .cs x t => h.IsStrIter it (strIterType x) x t i
theorem Zc.st_keep {it : Addr} {i : Nat} {h h' : Heap} {c : Zc} (st : c.st it i h) (k : ∀ o, h.get? it = some o → h'.get? it = some o) : c.st it i h' := by
  cases c with
  | cl a => exact PySem.Heap.IsListIter.at st fun o e => k o e
  | ct a => exact PySem.Heap.IsTupleIter.at st fun o e => k o e
  | cs x t =>
    obtain ⟨o, ho, r⟩ := (show h.IsStrIter it (strIterType x) x t i from st)
    exact (show h'.IsStrIter it (strIterType x) x t i from ⟨o, k o ho, r⟩)
theorem Zc.st_obj {it : Addr} {i : Nat} {h : Heap} {c : Zc} (st : c.st it i h) : ∃ o, h.get? it = some o ∧ ∀ v, o.data ≠ .cell v := by
  cases c with
  | cl a =>
    obtain ⟨o, e, c, d⟩ := (show h.IsListIter it a i from st)
    exact ⟨o, e, fun v z => by rw [d] at z; cases z⟩
  | ct a =>
    obtain ⟨o, e, c, d⟩ := (show h.IsTupleIter it a i from st)
    exact ⟨o, e, fun v z => by rw [d] at z; cases z⟩
  | cs x t =>
    obtain ⟨o, e, c, d⟩ := (show h.IsStrIter it (strIterType x) x t i from st)
    exact ⟨o, e, fun v z => by rw [d] at z; cases z⟩
theorem chV_get {x : Str} {i c : Nat} (h : x.cps[i]? = some c) : (chV x)[i]? = some (.str ⟨#[c]⟩) := by
  unfold chV
  rw [List.getElem?_map, Array.getElem?_toList, h]
  rfl
section
variable {X : Cx} {pins : List (Addr × Obj)} {σ : L2.St} {H : Hp} {s : Shared}
/-- what an iterator draws -/
structure ZD (X : Cx) (s : Shared) (A : Around) (c : Zc) (it : Addr) (i : Nat) (xs : List V) (fp : List Addr) (P : Nat → Value → Prop) (St : Nat → Heap → Prop) : Prop where
  D : Draws X.prog X.w A it fp xs.length P St
  now : St i s.heap
  val : ∀ j v, P j v → ∃ x, xs[j]? = some x ∧ RelV x v
  st : ∀ j h, St j h → c.st it j h
  mem : it ∈ fp
  no : ∀ b, b ≠ it → c.no b → b ∉ fp
theorem zc_draws (I : Inv X pins σ H s) (A : Around) (hh : A.handled = none) {c : Zc} {it : Addr} {i : Nat} {xs : List V} (hq : c.q X.K H xs) (hn : c.no it) (st : c.st it i s.heap) : ∃ fp P St, ZD X s A c it i xs fp P St := by
  cases c with
  | cl a =>
    obtain ⟨its, rv, p, hz⟩ := I.list hq
    have e : its.toArray.size = xs.length := by rw [List.size_toArray, rv.length]
    have D := Draws.list (prog := X.prog) (w := X.w) hh it a hn its.toArray
    rw [e] at D
    refine ⟨_, _, _, D, ⟨st, p.isList⟩, fun j v hv => ?_, fun j h q => q.1, by simp, fun b h1 h2 h3 => ?_⟩
    · have hv2 : its[j]? = some v := by simpa using hv
      have hj : j < xs.length := by rw [rv.length]; exact (List.getElem?_eq_some_iff.mp hv2).1
      obtain ⟨u, e1, e2⟩ := rv.get (List.getElem?_eq_getElem hj)
      rw [hv2] at e1
      cases e1
      exact ⟨_, List.getElem?_eq_getElem hj, e2⟩
    · have : b = it ∨ b = a := by simpa using h3
      rcases this with z | z
      · exact h1 z
      · exact h2 z.symm
  | ct a =>
    obtain ⟨its, rv, p, hz⟩ := I.tuple hq
    have e : its.toArray.size = xs.length := by rw [List.size_toArray, rv.length]
    have D := Draws.tuple (prog := X.prog) (w := X.w) hh it a hn its.toArray
    rw [e] at D
    refine ⟨_, _, _, D, ⟨st, p⟩, fun j v hv => ?_, fun j h q => q.1, by simp, fun b h1 h2 h3 => ?_⟩
    · have hv2 : its[j]? = some v := by simpa using hv
      have hj : j < xs.length := by rw [rv.length]; exact (List.getElem?_eq_some_iff.mp hv2).1
      obtain ⟨u, e1, e2⟩ := rv.get (List.getElem?_eq_getElem hj)
      rw [hv2] at e1
      cases e1
      exact ⟨_, List.getElem?_eq_getElem hj, e2⟩
    · have : b = it ∨ b = a := by simpa using h3
      rcases this with z | z
      · exact h1 z
      · exact h2 z.symm
  | cs x t =>
    have D := Draws.text (prog := X.prog) (w := X.w) hh it x t
    have e : x.cps.size = xs.length := by
      rw [show xs = chV x from hq]
      unfold chV
      rw [List.length_map, Array.length_toList]
    rw [e] at D
    refine ⟨_, _, _, D, st, fun j v hv => ?_, fun j h q => q, by simp, fun b h1 h2 h3 => h1 (by simpa using h3)⟩
    obtain ⟨c, u, h1, rfl⟩ := hv
    rw [show xs = chV x from hq]
    exact ⟨_, chV_get h1, u, rfl⟩
theorem zc_inj (I : Inv X pins σ H s) {c : Zc} {xs ys : List V} (h : c.q X.K H xs) (k : c.q X.K H ys) : xs = ys := by
  cases c with
  | cl a => exact I.list_inj h k
  | ct a => exact I.tuple_inj h k
  | cs x t => exact (show xs = chV x from h).trans (show ys = chV x from k).symm
theorem zc_begins (I : Inv X pins σ H s) {c : Zc} {xs : List V} (h : c.q X.K H xs) : (∃ R, Begins c.v c.o R ∧ R s.heap) ∧ ∀ b, s.heap.objs.size ≤ b → c.no b := by
  cases c with
  | cl a =>
    obtain ⟨its, rv, p, hz⟩ := I.list h
    refine ⟨⟨_, begins_list a its.toArray, p.isList⟩, fun b hb => ?_⟩
    exact Nat.ne_of_lt (Nat.lt_of_lt_of_le p.lt hb)
  | ct a =>
    obtain ⟨its, rv, p, hz⟩ := I.tuple h
    obtain ⟨o, ho, _⟩ := id p
    refine ⟨⟨_, begins_tuple a its.toArray, p⟩, fun b hb => ?_⟩
    exact Nat.ne_of_lt (Nat.lt_of_lt_of_le (Heap.lt_size ho) hb)
  | cs x t => exact ⟨⟨_, begins_text x t, trivial⟩, fun b _ => trivial⟩
theorem zc_first {c : Zc} {it : Addr} {h : Heap} (e : h.get? it = some c.o) : c.st it 0 h := by
  cases c with
  | cl a => exact (show h.IsListIter it a 0 from ⟨_, e, rfl, rfl⟩)
  | ct a => exact (show h.IsTupleIter it a 0 from ⟨_, e, rfl, rfl⟩)
  | cs x t => exact (show h.IsStrIter it (strIterType x) x t 0 from ⟨_, e, rfl, rfl⟩)
end
/-- the pairs -/
def Itz2 (K : PySem.W.Frag) (c1 c2 : Zc) : L2.It :=
  ⟨fun i H => ∃ (xs ys : List V) (x y : V), c1.q K H xs ∧ c2.q K H ys ∧ xs[i]? = some x ∧ ys[i]? = some y,
    fun i H v H' => ∃ T x y, v = .ref T ∧ H T = none ∧ H' = upd H T (.tup [x, y]) ∧ (∀ xs, c1.q K H xs → xs[i]? = some x) ∧ ∀ ys, c2.q K H ys → ys[i]? = some y,
    fun i H => ∃ xs ys : List V, c1.q K H xs ∧ c2.q K H ys ∧ i ≤ xs.length ∧ i ≤ ys.length ∧ (i = xs.length ∨ i = ys.length)⟩
/-- five cells apart -/
structure Zs (z TI TO i1 i2 : Addr) (c1 c2 : Zc) : Prop where
  TIz : TI ≠ z
  TOz : TO ≠ z
  TITO : TI ≠ TO
  TIi1 : TI ≠ i1
  TIi2 : TI ≠ i2
  zi1 : z ≠ i1
  zi2 : z ≠ i2
  Ti1 : TO ≠ i1
  Ti2 : TO ≠ i2
  i12 : i1 ≠ i2
  n1 : ∀ b, b = z ∨ b = TO ∨ b = i1 ∨ b = i2 → c1.no b
  n2 : ∀ b, b = z ∨ b = TO ∨ b = i1 ∨ b = i2 → c2.no b
theorem turn_zip2 {P : Program} {w : World} {K : PySem.W.Frag} {elts : List Expr} {kk : Nat} {tpos : Pos} {z TI TO i1 i2 : Addr} {c1 c2 : Zc} (D : Zs z TI TO i1 i2 c1 c2) :
    Turn P w K (.Tuple elts kk tpos) (Itz2 K c1 c2) [z, TI, TO, i1, i2] z (fun i h => IsZip h z TI TO .none ∧ IsTupOf2 h TI (.ref i1) (.ref i2) ∧ (∃ x y, IsTupOf2 h TO x y) ∧ c1.st i1 i h ∧ c2.st i2 i h) where
  mem := by simp
  obj := fun i h st c hc => by
    obtain ⟨hz, hTI, ⟨x, y, hTO⟩, h1, h2⟩ := st
    have e' : c = z ∨ c = TI ∨ c = TO ∨ c = i1 ∨ c = i2 := by simpa using hc
    rcases e' with q | q | q | q | q
    · rw [q]; exact ⟨_, hz, fun v q => nomatch q⟩
    · rw [q]; exact ⟨_, hTI, fun v q => nomatch q⟩
    · rw [q]; exact ⟨_, hTO, fun v q => nomatch q⟩
    · rw [q]; exact Zc.st_obj h1
    · rw [q]; exact Zc.st_obj h2
  keep := fun i h h' st k => by
    obtain ⟨hz, hTI, ⟨x, y, hTO⟩, h1, h2⟩ := st
    exact ⟨k z (by simp) _ hz, k TI (by simp) _ hTI, ⟨x, y, k TO (by simp) _ hTO⟩, Zc.st_keep (c := c1) h1 fun o q => k i1 (by simp) o q, Zc.st_keep (c := c2) h2 fun o q => k i2 (by simp) o q⟩
  item := by
    intro X hP hw hK hc i pins s σ H E I hf st hg
    subst hP hw hK
    obtain ⟨hz, hTI, ⟨x0, y0, hTO⟩, h1, h2⟩ := st
    obtain ⟨xs, ys, x, y, hqx, hqy, hx, hy⟩ := hg
    obtain ⟨fp1, P1, St1, Z1⟩ := zc_draws I X.A.in1 (I.ok.hd hc) hqx (D.n1 i1 (by simp)) h1
    obtain ⟨fp2, P2, St2, Z2⟩ := zc_draws I X.A.in1 (I.ok.hd hc) hqy (D.n2 i2 (by simp)) h2
    have S : ZipSep2 z TI TO i1 i2 fp1 fp2 := ⟨D.TIz, D.TOz, D.TITO, D.TIi1, Z1.mem, Z1.no z D.zi1 (D.n1 z (by simp)), Z1.no TO D.Ti1 (D.n1 TO (by simp)), D.TIi2, Z2.mem, Z2.no z D.zi2 (D.n2 z (by simp)), Z2.no TO D.Ti2 (D.n2 TO (by simp)), Z2.no i1 D.i12 (D.n2 i1 (by simp)), Z1.no i2 D.i12.symm (D.n1 i2 (by simp))⟩
    have l1 : i < xs.length := (List.getElem?_eq_some_iff.mp hx).1
    have l2 : i < ys.length := (List.getElem?_eq_some_iff.mp hy).1
    have hzl : z < s.heap.objs.size := Heap.lt_size hz
    refine wpAny_pyNext_zipD2_item S Z1.D Z2.D hz hTI hTO Z1.now Z2.now l1 l2 fun u u2 h' tk pu pu2 z' TO' st1 st2 hT hsz hk => ?_
    obtain ⟨x', ex, ru⟩ := Z1.val i u pu
    obtain ⟨y', ey, ru2⟩ := Z2.val i u2 pu2
    rw [hx] at ex
    rw [hy] at ey
    cases ex
    cases ey
    refine ⟨_, rfl, wpAny_letOwnedTupleGo_zip (s := { s with heap := h', toks := tk }) z' fun h'' z'' sb => ?_⟩
    have hT2 : h''.get? s.heap.objs.size = some { cls := .type "tuple", data := .seq #[u, u2] } := (sb.2 _ (Nat.ne_of_gt hzl)).trans hT
    have new : ObjOk X.prog X.w (upd H s.heap.objs.size (.tup [x, y])) h'' s.heap.objs.size (.tup [x, y]) :=
      ⟨by show 2 ≤ sizeLine; decide, [u, u2], .cons ru (.cons ru2 .nil), ⟨_, hT2, rfl, _, rfl⟩⟩
    have I1 : Inv X pins σ (upd H s.heap.objs.size (.tup [x, y])) { s with heap := h'', toks := tk } :=
      I.turnedNew (t' := tk) (ch := [z, TI, TO, i1, i2]) (fun c o hb q => (sb.2 c (fun q' => hb (by simp [q']))).trans (hk c o (fun q' => hb (by simp [q'])) (fun q' => hb (by simp [q'])) (fun q' => hb (by simp [q'])) (fun q' => hb (by simp [q'])) q)) hf (Nat.le_refl _) new
    refine ⟨.ref s.heap.objs.size, _, I1, rfl, ⟨_, x, y, rfl, I.hok.fresh (Nat.le_refl _), rfl, fun l hl => by rw [zc_inj I hl hqx]; exact hx, fun l hl => by rw [zc_inj I hl hqy]; exact hy⟩, ⟨z'', ?_, ⟨u, u2, ?_⟩, ?_, ?_⟩, fun c hcm => ?_⟩
    · exact (sb.2 _ D.TIz).trans (hk _ _ D.TIz D.TITO D.TIi1 D.TIi2 hTI)
    · exact (sb.2 _ D.TOz).trans TO'
    · exact Zc.st_keep (c := c1) (Z1.st _ _ st1) fun o q => (sb.2 _ D.zi1.symm).trans q
    · exact Zc.st_keep (c := c2) (Z2.st _ _ st2) fun o q => (sb.2 _ D.zi2.symm).trans q
    · have hlt : c < s.heap.objs.size := by
        have e' : c = z ∨ c = TI ∨ c = TO ∨ c = i1 ∨ c = i2 := by simpa using hcm
        rcases e' with q | q | q | q | q
        · rw [q]; exact hzl
        · rw [q]; exact Heap.lt_size hTI
        · rw [q]; exact Heap.lt_size hTO
        · rw [q]; obtain ⟨_, e1, _⟩ := Zc.st_obj h1; exact Heap.lt_size e1
        · rw [q]; obtain ⟨_, e2, _⟩ := Zc.st_obj h2; exact Heap.lt_size e2
      rw [upd_ne (Nat.ne_of_lt hlt)]
      exact (hf c hcm).1
  done := by
    intro X hP hw hK hc i pins s σ H E I hf st hg
    subst hP hw hK
    obtain ⟨hz, hTI, ⟨x0, y0, hTO⟩, h1, h2⟩ := st
    obtain ⟨xs, ys, hqx, hqy, l1, l2, hend⟩ := hg
    obtain ⟨fp1, P1, St1, Z1⟩ := zc_draws I X.A.in1 (I.ok.hd hc) hqx (D.n1 i1 (by simp)) h1
    obtain ⟨fp2, P2, St2, Z2⟩ := zc_draws I X.A.in1 (I.ok.hd hc) hqy (D.n2 i2 (by simp)) h2
    have S : ZipSep2 z TI TO i1 i2 fp1 fp2 := ⟨D.TIz, D.TOz, D.TITO, D.TIi1, Z1.mem, Z1.no z D.zi1 (D.n1 z (by simp)), Z1.no TO D.Ti1 (D.n1 TO (by simp)), D.TIi2, Z2.mem, Z2.no z D.zi2 (D.n2 z (by simp)), Z2.no TO D.Ti2 (D.n2 TO (by simp)), Z2.no i1 D.i12 (D.n2 i1 (by simp)), Z1.no i2 D.i12.symm (D.n1 i2 (by simp))⟩
    exact wpAny_pyNext_zipD2_end S Z1.D Z2.D hz hTI hTO Z1.now Z2.now l1 l2 hend fun h' tk hk => ⟨rfl, I.turnedL (t' := tk) (ch := [z, TI, TO, i1, i2]) (fun c o hb q =>
      hk c o (fun q' => hb (by simp [q'])) (fun q' => hb (by simp [q'])) (fun q' => hb (by simp [q'])) (fun q' => hb (by simp [q'])) q) hf⟩
  self := fun A i s Q E st h => wpAny_pyIter_zip st.1 h
theorem ne5 {n i j : Nat} (h : i ≠ j) : n + i ≠ n + j := by omega
/-- the reading of a value that zip walks -/
def Zc.of (x : V) (v : Value) (c : Zc) : Prop := RelV x v → c.v = v
def iZip2 (K : PySem.W.Frag) (ta : TA) : TI := fun σ H R => ta σ H fun vs H1 => ∃ x y, vs = [x, y] ∧ ∀ v u, RelV x v → RelV y u → ∃ c1 c2 xs ys, c1.v = v ∧ c2.v = u ∧ c1.q K H1 xs ∧ c2.q K H1 ys ∧ R (Itz2 K c1 c2) H1
theorem pi_zip2 {X : Cx} {e e2 : Expr} {ta : TA} {p pos tpos : Pos} {elts : List Expr} {kk : Nat} (hg : Gl X "zip") (hm : X.mg "zip" = none) (ha : PA X [e, e2] ta)
    (hs : starEach [e, e2] X.env = (false, eval e X.env) :: starEach [e2] X.env := by rfl) (hpl : (backTo pos (starEach [e2] X.env)).any (·.1) = false := by rfl) :
    PI X (.Tuple elts kk tpos) (.Call (.Name "zip" p) [e, e2] [] pos) (iZip2 X.K ta) := by
  refine ⟨fun pins s σ H R I h => ?_⟩
  refine Call_ (ld_blt I hg hm PyProof.Rows.boot_zip (PyProof.Rows.callWith_type1 (thn (ha.run pos pins s σ H _ I h) fun us s1 ⟨vs, H1, I1, r1, q1⟩ => ?_) hs hpl))
  obtain ⟨x, y, ex, q1⟩ := q1
  subst ex
  cases r1 with
  | cons r rr =>
    cases rr with
    | cons r' rr =>
      cases rr
      obtain ⟨c1, c2, xs, ys, e1, e2, k1, k2, q⟩ := q1 _ _ r r'
      rw [← e1, ← e2]
      obtain ⟨⟨R1, B1, b1⟩, n1⟩ := zc_begins I1 k1
      obtain ⟨⟨R2, B2, b2⟩, n2⟩ := zc_begins I1 k2
      refine zip_begins2 B1 B2 b1 b2 fun h' hz hTI hTO h1 h2 hsz hk => wpAny_pyIter_zip hz ?_
      have I2 : Inv X pins σ H1 { s1 with heap := h' } := I1.kept (t' := s1.toks) hk
      have le : ∀ c, c = s1.heap.objs.size + 4 ∨ c = s1.heap.objs.size + 2 ∨ c = s1.heap.objs.size + 3 ∨ c = s1.heap.objs.size ∨ c = s1.heap.objs.size + 1 → s1.heap.objs.size ≤ c := by
        intro c h; omega
      have D : Zs (s1.heap.objs.size + 4) (s1.heap.objs.size + 2) (s1.heap.objs.size + 3) s1.heap.objs.size (s1.heap.objs.size + 1) c1 c2 := by
        exact ⟨ne5 (by decide), ne5 (by decide), ne5 (by decide), ne5 (j := 0) (by decide), ne5 (by decide), ne5 (j := 0) (by decide), ne5 (by decide), ne5 (j := 0) (by decide), ne5 (by decide), ne5 (i := 0) (by decide), fun b hb => n1 b (le b (by rcases hb with h | h | h | h <;> simp [h])), fun b hb => n2 b (le b (by rcases hb with h | h | h | h <;> simp [h]))⟩
      refine ⟨s1.heap.objs.size + 4, [s1.heap.objs.size + 4, s1.heap.objs.size + 2, s1.heap.objs.size + 3, s1.heap.objs.size, s1.heap.objs.size + 1], _, _, H1, rfl, I2, turn_zip2 (c1 := c1) (c2 := c2) D,
        ⟨hz, hTI, ⟨_, _, hTO⟩, zc_first h1, zc_first h2⟩, fun c hcm => ?_, q⟩
      have hle := le c (by simpa using hcm)
      exact I1.fpOk hle (I1.hok.fresh hle)

/-! ### a value walked by itself -/
def iAny (K : PySem.W.Frag) (tl : TE) : TI := fun σ H R => tl σ H fun x H1 =>
  (∃ a, x = .ref a ∧ (∃ xs, SqL K H1 a xs) ∧ R (Itl K a) H1) ∨ (∃ a, x = .ref a ∧ (∃ xs, SqT K H1 a xs) ∧ R (Itt K a) H1) ∨ ∃ z, x = .str z ∧ R (Its z) H1
theorem pi_any {X : Cx} {tg l : Expr} {tl : TE} (hl : PE X l tl) : PI X tg l (iAny X.K tl) := by
  refine ⟨fun pins s σ H R I h => ?_⟩
  refine thn (hl.run pins s σ H _ I h) fun v s1 ⟨x, H1, I1, r1, q1⟩ => ?_
  rcases q1 with ⟨a, e, ⟨xs, hq⟩, q⟩ | ⟨a, e, ⟨xs, hq⟩, q⟩ | ⟨z, e, q⟩
  · subst e
    cases r1
    obtain ⟨its, rv, p, hz⟩ := I1.list hq
    refine wpAny_pyIter_list p.isList ?_
    refine ⟨s1.heap.objs.size, [s1.heap.objs.size], _, _, H1, rfl, I1.kept (t' := s1.toks) fun b o e => Heap.get?_push_of_some _ e, turn_list a _, ⟨_, Heap.get?_push_size _ rfl, rfl, rfl⟩, fun b hb => ?_, q⟩
    have e : b = s1.heap.objs.size := by simpa using hb
    subst e
    exact I1.fpOk (Nat.le_refl _) (I1.hok.fresh (Nat.le_refl _))
  · subst e
    cases r1
    obtain ⟨its, rv, p, hz⟩ := I1.tuple hq
    refine wpAny_pyIter_tuple (show s1.heap.IsTuple a its.toArray from p) ?_
    refine ⟨s1.heap.objs.size, [s1.heap.objs.size], _, _, H1, rfl, I1.kept (t' := s1.toks) fun b o e => Heap.get?_push_of_some _ e, turn_tuple a _, ⟨_, Heap.get?_push_size _ rfl, rfl, rfl⟩, fun b hb => ?_, q⟩
    have e : b = s1.heap.objs.size := by simpa using hb
    subst e
    exact I1.fpOk (Nat.le_refl _) (I1.hok.fresh (Nat.le_refl _))
  · subst e
    obtain ⟨t, rfl⟩ := r1
    cases ha : z.cps.all (· < 128)
    · exact wpAny_pyIter_wide ha (pi_one (tk := s1.toks) I1 _ (turn_str _ z t "str_iterator" (.inr rfl)) ⟨_, Heap.get?_push_size _ rfl, rfl, rfl⟩ q)
    · exact wpAny_pyIter_ascii ha (pi_one (tk := s1.toks) I1 _ (turn_str _ z t "str_ascii_iterator" (.inl rfl)) ⟨_, Heap.get?_push_size _ rfl, rfl, rfl⟩ q)
end PM

set_option maxHeartbeats 4000000
/-! PmH: the text's facts, a place's facts, readings; small rules. -/
namespace PM
open PySem PySem.Spec PyProof.Rows L2

/-- a def as it stands -/
structure Df where
  x : Str
  qual : Str
  params : Arguments
  body : List Stmt
  scope : Scope
  dvs : List V
  kws : List (Str × V)
  fd : FuncData
  ps : List Str
  N : List Str
/-- the text in its place -/
structure Pg where
  P : Program
  w : World
  mg : Str → Option Value
  base : Heap
  N : En
  T : Tb
  g : Gn
  df : Nat → Df
def bmNm : Bm → Str
  | .append => "append"
  | .join => "join"
/-- a reading: there are our state and what is wanted of our result -/
def tR {α β : Type} (N : En) (rel : List Addr → Hp → α → β → Prop) (W : WX) (ev : Nat → Sg → GH → R α) : L2.St → Hp → (β → Hp → Prop) → Prop := fun σ H Q =>
  ∃ n ρ σw G, Rg N ρ G H ∧ Rs N ρ H σw σ ∧ QG N rel Q (WE W σ) (ev n σw G) ρ H
def QF (N : En) (D : Ends) (W : WX) (r : F) (ρ : List Addr) (H : Hp) : Prop := match r with
  | .nx σw G' => ∀ ρ' σ' H', Stp ρ H ρ' H' → Rg N ρ' G' H' → Rs N ρ' H' σw σ' → D.nx σ' H'
  | .ret w G' => ∀ ρ' v H', Stp ρ H ρ' H' → Rg N ρ' G' H' → Rw N ρ' H' w v → D.rt v H'
  | .brk σw G' => ∀ ρ' σ' H', Stp ρ H ρ' H' → Rg N ρ' G' H' → Rs N ρ' H' σw σ' → D.bk σ' H'
  | .cnt σw G' => ∀ ρ' σ' H', Stp ρ H ρ' H' → Rg N ρ' G' H' → Rs N ρ' H' σw σ' → D.ct σ' H'
  | .exc c dd σw G' => ∀ ρ' σ' H' cls d, Stp ρ H ρ' H' → Rg N ρ' G' H' → Rs N ρ' H' σw σ' → Rx N c cls → Rd ρ' dd d → W cls d σ' H'
  | .bad => False
def tRS (N : En) (W : WX) (ev : Nat → Sg → GH → F) : TS := fun D σ H => ∃ n ρ σw G, Rg N ρ G H ∧ Rs N ρ H σw σ ∧ QF N D W (ev n σw G) ρ H
def Rb : List Addr → Hp → Bool → Bool → Prop := fun _ _ a b => a = b
def Ri : List Addr → Hp → Option Int → Option Int → Prop := fun _ _ a b => a = b
/-- an iterator against what is walked -/
def JR (N : En) : List Addr → Hp → IV → L2.It → Prop := fun ρ0 H0 iv J => ∀ ρ G H i, Stp ρ0 H0 ρ H → Rg N ρ G H → match iv.at G i with
  | none => True
  | some none => J.stop i H
  | some (some w) => J.go i H ∧ ∀ v H', J.yld i H v H' → Stp ρ H ρ H' ∧ Rg N ρ G H' ∧ Rw N ρ H' w v
section
variable (L : Pg)
abbrev tE (d : Nat) (W : WX) (e : E) : TE := tR L.N (Rw L.N) W fun n σ G => evE L.T n d e σ G
abbrev tT (d : Nat) (W : WX) (e : E) : TT := tR L.N Rb W fun n σ G => (evE L.T n d e σ G).bind fun x G1 => ofO (tru G1 x) G1
abbrev tO (d : Nat) (W : WX) (e : E) : TO := tR L.N Ri W fun n σ G => (evE L.T n d e σ G).bind fun x G1 => ofO (optI x) G1
abbrev tEs (d : Nat) (W : WX) (es : List E) : TA := tR L.N (Rws L.N) W fun n σ G => evEs L.T n d es σ G
abbrev tA (d : Nat) (W : WX) (es : List Ar) : TA := tR L.N (Rws L.N) W fun n σ G => evA L.T n d es σ G
abbrev tI (d : Nat) (W : WX) (it : PM.It) : TI := tR L.N (JR L.N) W fun n σ G => evI L.T n d it σ G
abbrev tS (d : Nat) (W : WX) (s : S) : TS := tRS L.N W fun n σ G => evS L.T n d s σ G
abbrev tSs (d : Nat) (W : WX) (ss : List S) : TS := tRS L.N W fun n σ G => evSs L.T n d ss σ G
def spF (d f : Nat) : Sp := fun vs H Q E => ∃ n ρ G ws, Rg L.N ρ G H ∧ Rws L.N ρ H ws vs ∧ QC L.N Q E (evC L.T n d f ws G) ρ H
/-- how our values are bound -/
def BdOk (bd : List Bd) (n m : Nat) (gV : List V → List V → List V) : Prop := ∀ ρ H ws us vs zs, vs.length = n → zs.length = m → Rws L.N ρ H ws (vs ++ zs) → bindA bd ws = some us → Rws L.N ρ H us (gV vs zs)
/-- what must be true of the text -/
structure Lk : Prop where
  nmI : ∀ i j, L.N.nm i = L.N.nm j → i = j
  nmE : ∀ x i, ixS L.g.nms x = some i → L.N.nm i = x
  fn : ∀ x f, L.g.fns.lookup x = some f → L.mg x = some (.ref (L.N.fa f)) ∧ PySem.W.keepIn L.N.K (.ref (L.N.fa f)) = true
  df : ∀ f fd, L.T.fns[f]? = some fd → FunD L.N.K (L.df f).x (L.df f).qual (L.df f).params (L.df f).body (L.df f).scope (L.df f).dvs (L.df f).kws (L.N.fa f) (L.df f).fd ∧
    FnScope (L.df f).N (L.df f).ps (L.df f).scope ∧ (∃ m, trSs L.g m ⟨(L.df f).N, (L.df f).scope, (L.df f).N⟩ (L.df f).body = some fd.body) ∧ fd.np = (L.df f).ps.length ∧ fd.ns = (L.df f).N.length
  sh : ∀ f n ks bd, L.g.sh.lookup (f, n, ks) = some bd → ∃ gg gV, KBn L.N.K (L.df f).fd (L.df f).ps n ks gg gV ∧ BdOk L bd n ks.length gV ∧ f < L.T.fns.length
  cl : ∀ x c, L.g.clss.lookup x = some c → L.mg x = some (.ref (L.N.ca c))
  mkc : ∀ c f, L.T.ini.lookup c = some f → L2.Mk L.N.K (L.N.ca c) (L.N.fa f) ∧ f < L.T.fns.length
  shc : ∀ c n ks bd f, L.g.shc.lookup (c, n, ks) = some bd → L.T.ini.lookup c = some f → ∃ gg gV, KBn L.N.K (L.df f).fd (L.df f).ps (n + 1) ks gg gV ∧ BdOk L bd (n + 1) ks.length gV
  ms : ∀ c m f, L.T.ms.lookup (c, m) = some f → Cls L.N.K (L.N.ca c) ∧ Meth L.N.K (L.N.ca c) (L.N.nm m) (L.N.fa f) ∧ Binds L.N.K (L.df f).fd (L.df f).ps [] ∧ f < L.T.fns.length
  fl : ∀ c f, L.T.fl.contains (c, f) = true → Cls L.N.K (L.N.ca c) ∧ NoAttr L.N.K (L.N.ca c) (L.N.nm f)
  cst : ∀ x w, L.g.csts.lookup x = some w → ∃ v u, L.mg x = some u ∧ RelV v u ∧ ∀ ρ H, Rw L.N ρ H w v
  free : ∀ x, L.g.free.contains x = true → L.mg x = none
  bm : ∀ t m k, L.T.bm.lookup (t, m) = some k → bmTy k = t ∧ L.N.nm m = bmNm k
  isi : IsiOk L.N L.T
/-- the defs keep their promises, d calls deep -/
def All1 (d : Nat) : Prop := ∀ f fd, L.T.fns[f]? = some fd → FnOk L.P L.w L.N.K L.mg L.base (L2.CX L.P L.w) d (L.N.fa f) (L.df f).fd (L.df f).ps (spF L d f)
/-- a place's facts -/
structure Bk (X : Cx) (C : Ct) (W : WX) (d : Nat) : Prop where
  k : X.K = L.N.K
  p : X.prog = L.P
  w : X.w = L.w
  mg : X.mg = L.mg
  base : X.base = L.base
  n : X.N = C.N
  nd : X.N.Nodup
  sc : X.env.scope = C.sc
  calm : X.calm = true
  kind : X.env.scope.kind = .function
  room : Room d X.A
  st : ∀ x ∈ C.st, X.fn x = true ∨ X.env.scope.names.lookup x = some .local
  tk : Takes X W
  all : ∀ j, j ≤ d → All1 L j
end

/-! ### readings weakened -/
section
variable {X : Cx} {e : Expr} {es : List Expr} {sts : List Stmt} {st : Stmt}
theorem peI {t t' : TE} (h : PE X e t) (k : ∀ σ H Q, t' σ H Q → t σ H Q) : PE X e t' := ⟨fun pins s σ H Q I q => h.run pins s σ H Q I (k σ H Q q)⟩
theorem ptI {t t' : TT} (h : PT X e t) (k : ∀ σ H Q, t' σ H Q → t σ H Q) : PT X e t' := ⟨fun pins s σ H Q I q => h.run pins s σ H Q I (k σ H Q q)⟩
theorem pwI {t t' : TT} (h : PW X e t) (k : ∀ σ H Q, t' σ H Q → t σ H Q) : PW X e t' := ⟨fun wh pins s σ H Q I q => h.run wh pins s σ H Q I (k σ H Q q)⟩
theorem paI {t t' : TA} (h : PA X es t) (k : ∀ σ H Q, t' σ H Q → t σ H Q) : PA X es t' := ⟨fun pos pins s σ H Q I q => h.run pos pins s σ H Q I (k σ H Q q)⟩
theorem pkI {kws : List Keyword} {t t' : TA} (h : PK X kws t) (k : ∀ σ H Q, t' σ H Q → t σ H Q) : PK X kws t' := ⟨fun pos pins s σ H Q I q => h.run pos pins s σ H Q I (k σ H Q q)⟩
theorem poI {e : Option Expr} {t t' : TO} (h : PO X e t) (k : ∀ σ H Q, t' σ H Q → t σ H Q) : PO X e t' := ⟨fun pins s σ H Q I q => h.run pins s σ H Q I (k σ H Q q)⟩
theorem piI {tg : Expr} {t t' : TI} (h : PI X tg e t) (k : ∀ σ H Q, t' σ H Q → t σ H Q) : PI X tg e t' := ⟨fun pins s σ H Q I q => h.run pins s σ H Q I (k σ H Q q)⟩
theorem psI {t t' : TS} (h : PS X st t) (k : ∀ D σ H, t' D σ H → t D σ H) : PS X st t' := ⟨fun pins s σ H D I q => h.run pins s σ H D I (k D σ H q)⟩
theorem pssI {t t' : TS} (h : PSs X sts t) (k : ∀ D σ H, t' D σ H → t D σ H) : PSs X sts t' := ⟨fun pins s σ H D I q => h.run pins s σ H D I (k D σ H q)⟩
def tPart2 (t : TE) : TO := fun σ H Q => t σ H fun x H1 => (x = .non ∧ Q none H1) ∨ ∃ i, x = .int i ∧ Q (some i) H1
theorem po_some2 {te : TE} (h : PE X e te) : PO X (some e) (tPart2 te) := by
  refine ⟨fun pins s σ H Q I hw => ?_⟩
  rw [evalPart_some]
  refine thn (h.run pins s σ H _ I hw) fun u s1 ⟨x, H1, I1, r1, q1⟩ => ?_
  rcases q1 with ⟨rfl, q⟩ | ⟨i, rfl, q⟩
  · cases r1
    exact ⟨none, H1, I1, .none, q⟩
  · obtain ⟨t, rfl⟩ := r1
    exact ⟨some i, H1, I1, .int i t, q⟩
end
section
variable {α β γ δ : Type} {N : En} {rel : List Addr → Hp → α → β → Prop} {rel2 : List Addr → Hp → γ → δ → Prop} {W : WX} {ev : Nat → Sg → GH → R α} {n : Nat} {ρ : List Addr} {H : Hp} {G : GH} {σw : Sg} {σ : L2.St}
theorem tR_bind {Q2 : δ → Hp → Prop} {Q : β → Hp → Prop} {f : α → GH → R γ} (g : Rg N ρ G H) (s : Rs N ρ H σw σ) (h : QG N rel2 Q2 (WE W σ) ((ev n σw G).bind f) ρ H)
    (k : ∀ ρ1 a G1 b H1, Stp ρ H ρ1 H1 → Rg N ρ1 G1 H1 → Rs N ρ1 H1 σw σ → rel ρ1 H1 a b → QG N rel2 Q2 (WE W σ) (f a G1) ρ1 H1 → Q b H1) : tR N rel W ev σ H Q :=
  ⟨n, ρ, σw, G, g, s, (QG.bind h).mono fun b H1 ⟨ρ1, a, G1, s1, g1, r1, h1⟩ => k ρ1 a G1 b H1 s1 g1 (s.stp g s1) r1 h1⟩
theorem QF.stp {D : Ends} {r : F} {ρ' : List Addr} {H' : Hp} (h : QF N D W r ρ H) (s : Stp ρ H ρ' H') : QF N D W r ρ' H' := by
  cases r with
  | nx _ _ => exact fun ρ2 b H2 s2 g2 x => h ρ2 b H2 (s.trans s2) g2 x
  | ret _ _ => exact fun ρ2 b H2 s2 g2 x => h ρ2 b H2 (s.trans s2) g2 x
  | brk _ _ => exact fun ρ2 b H2 s2 g2 x => h ρ2 b H2 (s.trans s2) g2 x
  | cnt _ _ => exact fun ρ2 b H2 s2 g2 x => h ρ2 b H2 (s.trans s2) g2 x
  | exc _ _ _ _ => exact fun ρ2 σ2 H2 cls d s2 g2 x y z => h ρ2 σ2 H2 cls d (s.trans s2) g2 x y z
  | bad => exact h
theorem tR_toF {D : Ends} {Q : β → Hp → Prop} {f : α → GH → F} (g : Rg N ρ G H) (s : Rs N ρ H σw σ) (h : QF N D W ((ev n σw G).toF σw f) ρ H)
    (k : ∀ ρ1 a G1 b H1, Stp ρ H ρ1 H1 → Rg N ρ1 G1 H1 → Rs N ρ1 H1 σw σ → rel ρ1 H1 a b → QF N D W (f a G1) ρ1 H1 → Q b H1) : tR N rel W ev σ H Q := by
  refine ⟨n, ρ, σw, G, g, s, ?_⟩
  cases q : ev n σw G with
  | ok a G' =>
    rw [q] at h
    exact fun ρ2 b H2 s2 g2 x => k ρ2 a G' b H2 s2 g2 (s.stp g s2) x (QF.stp h s2)
  | exc c dd G' =>
    rw [q] at h
    exact fun ρ2 H2 cls d s2 g2 x y => h ρ2 σ H2 cls d s2 g2 (s.stp g s2) x y
  | bad =>
    rw [q] at h
    exact h
end
/-! ### names -/
theorem star_cons {e : Expr} {es : List Expr} {env : Env} (h : isStar e = false) : starEach (e :: es) env = (false, eval e env) :: starEach es env := by
  cases e <;> first | rfl | cases h
theorem star_no {env : Env} {pos : Pos} : ∀ {es : List Expr}, es.any isStar = false → (backTo pos (starEach es env)).any (·.1) = false
  | [], _ => rfl
  | e :: es, h => by
    rw [List.any_cons, Bool.or_eq_false_iff] at h
    rw [star_cons h.1]
    show (false || (backTo pos (starEach es env)).any (·.1)) = false
    rw [star_no h.2] <;> rfl
theorem star_all {env : Env} {pos : Pos} : ∀ {es : List Expr}, es.any isStar = false → (backTo pos (starEach es env)).all (!·.1) = true
  | [], _ => rfl
  | e :: es, h => by
    rw [List.any_cons, Bool.or_eq_false_iff] at h
    rw [star_cons h.1]
    show (true && (backTo pos (starEach es env)).all (!·.1)) = true
    rw [star_all h.2] <;> rfl
theorem kw_some {env : Env} {pos : Pos} : ∀ {kws : List Keyword}, kwAll kws = true → (backToKw pos (keywordEach kws env)).all (·.1.isSome) = true ∧ (backToKw pos (keywordEach kws env)).filterMap (·.1) = kwNames kws ∧ (backToKw pos (keywordEach kws env)).any (·.1.isNone) = false
  | [], _ => ⟨rfl, rfl, rfl⟩
  | ⟨some x, _, _⟩ :: r, h => by
    obtain ⟨h1, h2, h3⟩ := kw_some (env := env) (pos := pos) (kws := r) h
    refine ⟨?_, ?_, ?_⟩
    · show (true && (backToKw pos (keywordEach r env)).all (·.1.isSome)) = true
      rw [h1] <;> rfl
    · show x :: (backToKw pos (keywordEach r env)).filterMap (·.1) = x :: kwNames r
      rw [h2]
    · show (false || (backToKw pos (keywordEach r env)).any (·.1.isNone)) = false
      rw [h3] <;> rfl
  | ⟨none, _, _⟩ :: r, h => by cases h
theorem okName_ok {x : Str} (h : okName x = true) : (x == ("__debug__" : Str)) = false ∧ (x == ("__classdict__" : Str)) = false ∧ x ≠ "__name__" := by
  unfold okName at h
  rw [Bool.and_eq_true, Bool.and_eq_true] at h
  refine ⟨by simpa using h.1, by simpa using h.2.1, by simpa using h.2.2⟩
theorem attrBase {o : Expr} {m : Str} {env : Env} {whole : Sem Value} (h : superCall o = false) : attributeBase o m env whole = whole := by
  unfold attributeBase
  split
  · rename_i id p pos
    have h2 : (id == ("super" : Str)) = false := h
    rw [if_pos (by rw [show (id != ("super" : Str)) = true from by unfold bne; rw [h2]; rfl]; rfl)]
  · rfl
section
variable {L : Pg} {X : Cx} {C : Ct} {W : WX} {d : Nat}
theorem Bk.gl (b : Bk L X C W d) {x : Str} (h : gloB C.sc x = true) : Gl X x := by
  unfold Gl Env.kindOf
  rw [b.sc]
  exact of_decide_eq_true h
theorem Bk.vis (b : Bk L X C W d) {x : Str} (h : visB C.sc x = true) : Vis X.env.scope x := by
  rw [b.sc]
  exact visB_ok h
theorem Bk.loc (b : Bk L X C W d) {x : Str} (h : locB C.sc x = true) : L2.Loc X.env.scope x := by
  rw [b.sc]
  exact locB_ok h
theorem Bk.ix (b : Bk L X C W d) {x : Str} {i : Nat} (h : ixS C.N x = some i) : X.N[i]? = some x := by
  rw [b.n]
  exact ixS_get h
theorem Bk.pass (b : Bk L X C W d) (σ : L2.St) : PassesAt (L2.CX L.P L.w) X σ (WE W σ) := by
  have := passAt b.tk σ
  rw [b.p, b.w] at this
  exact this
theorem Bk.fnOk (b : Bk L X C W d) {j f : Nat} (hj : j ≤ d) (hf : f < L.T.fns.length) : FnOk X.prog X.w X.K X.mg X.base (L2.CX L.P L.w) j (L.N.fa f) (L.df f).fd (L.df f).ps (spF L j f) := by
  rw [b.p, b.w, b.k, b.mg, b.base]
  exact b.all j hj f _ (List.getElem?_eq_getElem hf)
theorem Bk.blk (b : Bk L X C W d) {scope : Scope} (ok : blkC C.N C.sc scope (ownOf C.N scope) = true) (s : Shared) (H : Hp) (D : Addr) (cl : List (Str × Addr)) (fp : List Addr) :
    Bk L (X.blk s H scope (compEnvC scope cl D X.env) fp) (blkCt C scope) (fun _ _ _ _ => False) d := by
  have sc : (compEnvC scope cl D X.env).scope = relS scope C.sc := by rw [← b.sc]; rfl
  have bo := blkOk_by ok
  refine ⟨b.k, b.p, b.w, b.mg, b.base, b.n, b.nd, sc, b.calm, bo.kind, b.room, fun x hx => ?_, fun u s' ⟨a, B, sI, pins, σ, H, cls, d, e, I, nb, up, sky, na, os, ag, w⟩ => w, b.all⟩
  obtain ⟨p, hp, rfl⟩ := List.mem_map.mp hx
  obtain ⟨y, hy, e⟩ := List.mem_filterMap.mp hp
  split at e
  · rename_i hk
    obtain ⟨i, _, e2⟩ := Option.map_eq_some_iff.mp e
    have e3 := bo.uniq y hy
    rw [← e2]
    rcases Bool.or_eq_true .. ▸ hk with hk | hk
    · right
      show (compEnvC scope cl D X.env).scope.names.lookup y.1 = _
      rw [sc]
      have h1 : y.2 = .local := by simpa using hk
      rw [h1] at e3
      exact lookup_relS_keep (by decide) e3
    · left
      have h1 : y.2 = .cell := by simpa using hk
      rw [h1] at e3
      show (scope.names.lookup y.1 == some .cell) = true
      rw [e3]
      rfl
  · cases e
end
end PM

set_option maxHeartbeats 4000000
/-! PmI: calls; targets; tests. -/
namespace PM
open PySem PySem.Spec PyProof.Rows L2

theorem R.assoc {α β γ : Type} (r : R α) (f : α → GH → R β) (k : β → GH → R γ) : (r.bind f).bind k = r.bind fun a G => (f a G).bind k := by cases r <;> rfl
theorem R.bind_ok {α : Type} (r : R α) : (r.bind fun a G => .ok a G) = r := by cases r <;> rfl
theorem evEs_append (T : Tb) (d : Nat) (ks : List E) (σ : Sg) : ∀ (es : List E) (n : Nat) (G : GH), evEs T n d (es ++ ks) σ G = (evEs T n d es σ G).bind fun ws G1 => (evEs T (n - es.length) d ks σ G1).bind fun zs G2 => .ok (ws ++ zs) G2
  | [], 0, G => by
    show evEs T 0 d ks σ G = _
    simp only [evEs]
    rfl
  | [], n + 1, G => by
    show evEs T (n + 1) d ks σ G = R.bind (evEs T (n + 1) d [] σ G) _
    rw [show evEs T (n + 1) d [] σ G = .ok [] G from by simp only [evEs]]
    exact (R.bind_ok _).symm
  | e :: r, 0, G => by
    simp only [evEs]
    rfl
  | e :: r, n + 1, G => by
    have h1 : ∀ xs, evEs T (n + 1) d (e :: xs) σ G = (evE T n d e σ G).bind fun w G1 => (evEs T n d xs σ G1).bind fun ws G2 => .ok (w :: ws) G2 := fun xs => by simp only [evEs]
    rw [List.cons_append, h1, h1, R.assoc]
    congr 1
    funext w G1
    rw [evEs_append T d ks σ r n G1, R.assoc, R.assoc]
    congr 1
    funext ws G2
    show _ = R.bind (evEs T (n + 1 - (r.length + 1)) d ks σ G2) _
    rw [Nat.add_sub_add_right, R.assoc]
    rfl
section
variable {X : Cx} {CX : CXT} {k n : Nat} {f C : Addr} {fd : FuncData} {ps ks : List Str} {sp : Sp} {E : XK} {g : List Value → List Value → List Value} {gV : List V → List V → List V} {pins : List (Addr × Obj)} {σ : L2.St} {H : Hp} {s : Shared}
theorem run_own {Q : VK} {us ws : List Value} {vs zs : List V} (F : FnOk X.prog X.w X.K X.mg X.base CX k f fd ps sp) (hr : Room k X.A) (hb : KBn X.K fd ps n ks g gV) (hx : PassesAt CX X σ E)
    (I : Inv X pins σ H s) (r : Vals vs us) (rz : Vals zs ws) (l1 : vs.length = n) (l2 : zs.length = ks.length) (h : sp (gV vs zs) H Q E) : wpAny (model X.prog X.w) X.A (call (.ref f) us (ks.zip ws)) (EP X pins σ Q) X.xe s := by
  have r2 := hb.rel r rz
  refine wpAny_call (codeAny_mono (F.run X.A X.stack s H ⟨us, ks.zip ws⟩ (g us ws) (gV vs zs) Q E hr I.env0 (hb.to s us ws I.kIn (r.length.symm.trans l1) (rz.length.symm.trans l2)) r2 h) fun r s' hq => ?_)
  cases r with
  | error e => exact hx pins H s e s' I hq
  | ok fl =>
    cases fl with
    | ret u => exact I.after hq
    | next => exact False.elim hq
    | brk => exact False.elim hq
    | cont => exact False.elim hq
theorem run_mko {Q : VK} {us ws : List Value} {vs zs : List V} (M : L2.Mk X.K C f) (F : FnOk X.prog X.w X.K X.mg X.base CX k f fd ps sp) (hr : Room (k + 1) X.A) (hb : KBn X.K fd ps (n + 1) ks g gV)
    (hx : PassesAt CX X σ E) (I : Inv X pins σ H s) (r : Vals vs us) (rz : Vals zs ws) (l1 : vs.length = n) (l2 : zs.length = ks.length)
    (h : ∀ x dx, H x = none → H dx = none → dx ≠ x → sp (gV (.ref x :: vs) zs) (upd (upd H dx (.own x)) x (.ins C dx [])) (fun v H2 => v = .non ∧ Q (.ref x) H2) E) :
    wpAny (model X.prog X.w) X.A (call (.ref C) us (ks.zip ws)) (EP X pins σ Q) X.xe s := by
  have hq := h (s.heap.objs.size + 1) s.heap.objs.size (I.hok.fresh (Nat.le_succ _)) (I.hok.fresh (Nat.le_refl _)) (Nat.ne_of_lt (Nat.lt_succ_self _))
  have I2 := Inv.made (C := C) I
  have r1 : Vals (V.ref (s.heap.objs.size + 1) :: vs) (Value.ref (s.heap.objs.size + 1) :: us) := .cons rfl r
  have r2 := hb.rel r1 rz
  have e1 : (Value.ref (s.heap.objs.size + 1) :: us).length = n + 1 := r1.length.symm.trans (congrArg Nat.succ l1)
  have e2 : ws.length = ks.length := rz.length.symm.trans l2
  refine wpAny_call (make_map (f := f) I.kIn M.makes M.init (beq_iff_eq.mp M.fn) (codeAny_mono (F.run _ X.stack _ _ ⟨Value.ref (s.heap.objs.size + 1) :: us, ks.zip ws⟩ (g (Value.ref (s.heap.objs.size + 1) :: us) ws) _ _ E (hr.make C us (ks.zip ws))
    (I2.env0.make C us (ks.zip ws)) (hb.to _ (Value.ref (s.heap.objs.size + 1) :: us) ws I2.kIn e1 e2) r2 hq) fun r s' hq' => ?_))
  cases r with
  | error e => exact hx pins _ _ e s' I2 hq'
  | ok fl =>
    cases fl with
    | ret u =>
      obtain ⟨v, H', I3, rv, ev, q3⟩ := I2.after hq'
      subst ev
      exact ⟨rv, ⟨V.ref (s.heap.objs.size + 1), H', I3, rfl, q3⟩⟩
    | next => exact False.elim hq'
    | brk => exact False.elim hq'
    | cont => exact False.elim hq'
/-- all arguments -/
theorem cw_all {es : List Expr} {kws : List Keyword} {t tk : TA} {pos : Pos} {fv : Value} {first : List Value} {Qm : List V → List V → Hp → Prop} {Q : Value → Shared → Prop} (I : Inv X pins σ H s) (hk : PySem.W.keepIn X.K fv = true)
    (hes : es.any isStar = false) (hkw : kwAll kws = true) (ha : PA X es t) (hK : PK X kws tk) (h0 : es = [] → ∀ Qt, t σ H Qt → Qt [] H) (h : t σ H fun vs H1 => tk σ H1 fun zs H2 => Qm vs zs H2)
    (q : ∀ us ws vs zs s2 H2, Inv X pins σ H2 s2 → Vals vs us → Vals zs ws → Qm vs zs H2 → wpAny (model X.prog X.w) X.A (call fv (first ++ us) ((kwNames kws).zip ws)) Q X.xe s2) :
    wpAny (model X.prog X.w) X.A (callWith pos fv first (backTo pos (starEach es X.env)) (backToKw pos (keywordEach kws X.env))) Q X.xe s := by
  obtain ⟨k1, k2, k3⟩ := kw_some (env := X.env) (pos := pos) hkw
  cases es with
  | nil =>
    refine PySem.W.callWith_KW0 (h₀ := X.base) I.ok.mod.kin hk k1 (thn (hK.run pos pins s σ H _ I (h0 rfl _ h)) fun ws s2 ⟨zs, H2, I2, rz, q2⟩ => ⟨I2.kIn, ?_⟩) (by rw [k3] <;> rfl)
    rw [k2]
    exact q [] ws [] zs s2 H2 I2 .nil rz q2
  | cons e r =>
    have he : isStar e = false := by
      rw [List.any_cons, Bool.or_eq_false_iff] at hes
      exact hes.1
    refine PySem.W.callWith_KW (h₀ := X.base) I.ok.mod.kin hk k1 (thn (ha.run pos pins s σ H _ I h) fun us s1 ⟨vs, H1, I1, r1, q1⟩ => ?_) (by rw [star_no hes, k3] <;> rfl) (star_cons he)
    refine thn (hK.run pos pins s1 σ H1 _ I1 q1) fun ws s2 ⟨zs, H2, I2, rz, q2⟩ => ⟨I2.kIn, ?_⟩
    rw [k2]
    exact q us ws vs zs s2 H2 I2 r1 rz q2
end
/-! ### tests -/
def plainT : Expr → Bool
  | .UnaryOp .Not _ _ => false
  | .BoolOp _ _ _ => false
  | .IfExp _ _ _ _ => false
  | .Compare _ _ _ _ => false
  | _ => true
theorem isTrue_of {a : Expr} {env : Env} (h : plainT a = true) (whole : Sem Value) : isTrue a env whole = (do let v ← whole; standAt a.pos; holding [v] (truthy v)) := by
  cases a <;> first | rfl | cases h | (rename_i op _ _; cases op <;> first | rfl | cases h)
section
variable {L : Pg} {X : Cx} {C : Ct} {W : WX} {d : Nat}
theorem tE_zero {e : E} {σ : L2.St} {H : Hp} {Q : VK} {t : Prop} (h : tE L d W e σ H Q) (k : ∀ n ρ σw G, Rg L.N ρ G H → Rs L.N ρ H σw σ → QC L.N Q (WE W σ) (evE L.T (n + 1) d e σw G) ρ H → t) : t := by
  obtain ⟨n, ρ, σw, G, g, s, h⟩ := h
  cases n with
  | zero =>
    simp only [evE] at h
    exact (show False from h).elim
  | succ n => exact k n ρ σw G g s h
/-- an expression's test, by its truth -/
theorem pt_of (b : Bk L X C W d) {a : Expr} {e : E} (hp : plainT a = true) (h : PE X a (tE L d W e)) : PT X a (tT L d W e) := by
  refine ptI (pt_truth h (isTrue_of hp)) fun σ H Q ⟨n, ρ, σw, G, g, s, h1⟩ => ?_
  refine tR_bind (ev := fun n σ G => evE L.T n d e σ G) g s h1 fun ρ1 w G1 x H1 s1 g1 sl r h2 => ?_
  obtain ⟨k, e1, h2⟩ := QG.ofO h2
  refine ⟨k, ?_, h2.done g1 rfl⟩
  rw [b.k]
  exact tru_V g1 r e1
/-! ### targets -/
mutual
def gT (K : PySem.W.Frag) : Tg → TG
  | .v i => gName i
  | .t ts => gTup K ts.length (gTs K ts)
def gTs (K : PySem.W.Frag) : List Tg → TGs
  | [] => gNil
  | t :: ts => gCons (gT K t) (gTs K ts)
end
theorem optAll_cons {α β : Type} {f : α → Option β} {a : α} {r : List α} {ys : List β} (h : optAll f (a :: r) = some ys) : ∃ y ys', ys = y :: ys' ∧ f a = some y ∧ optAll f r = some ys' := by
  unfold optAll at h
  split at h
  · rename_i y ys' h1 h2
    cases h
    exact ⟨y, ys', rfl, h1, h2⟩
  · cases h
theorem optAll_len {α β : Type} {f : α → Option β} : ∀ {r : List α} {ys : List β}, optAll f r = some ys → ys.length = r.length
  | [], _, h => by cases h; rfl
  | a :: r, _, h => by
    obtain ⟨y, ys', rfl, _, h2⟩ := optAll_cons h
    rw [List.length_cons, List.length_cons, optAll_len h2]
theorem asg_map {env : Env} : ∀ {ts : List Expr}, ts.any isStar = false → (assignEach ts env).map (·.2) = ts.map (assign · env) ∧ (assignEach ts env).length = ts.length ∧ (assignEach ts env).findIdx? (·.1) = none
  | [], _ => ⟨rfl, rfl, rfl⟩
  | e :: r, h => by
    rw [List.any_cons, Bool.or_eq_false_iff] at h
    obtain ⟨h1, h2, h3⟩ := asg_map (env := env) h.2
    have e1 : assignEach (e :: r) env = (false, assign e env) :: assignEach r env := by
      have := h.1
      cases e <;> first | rfl | cases this
    rw [e1]
    refine ⟨by rw [List.map_cons, h1, List.map_cons], by rw [List.length_cons, h2, List.length_cons], ?_⟩
    rw [List.findIdx?_cons, h3]
    rfl
theorem trT_pg (b : Bk L X C W d) : ∀ (n : Nat) (e : Expr) (t : Tg), trT C n e = some t → PG X e (gT X.K t)
  | 0, _, _, h => by cases h
  | n + 1, e, t, h => by
    unfold trT at h
    split at h
    · rename_i x p
      split at h
      · rename_i hc
        obtain ⟨i, hi, rfl⟩ := Option.map_eq_some_iff.mp h
        rw [Bool.and_eq_true] at hc
        exact pg_name b.nd (b.ix hi) (b.loc hc.2) (b.st x (by simpa using hc.1))
      · cases h
    · rename_i ts k p
      split at h
      · cases h
      · rename_i hs
        obtain ⟨us, hu, rfl⟩ := Option.map_eq_some_iff.mp h
        have hs2 : ts.any isStar = false := by simpa using hs
        have all : ∀ (ts : List Expr) (us : List Tg), ts.any isStar = false → optAll (trT C n) ts = some us → PGs X ts (gTs X.K us) := by
          intro ts
          induction ts with
          | nil =>
            intro us _ hu
            cases hu
            exact pgs_nil
          | cons a r ih =>
            intro us hs hu
            obtain ⟨y, ys', rfl, h1, h2⟩ := optAll_cons hu
            have hs' := hs
            rw [List.any_cons, Bool.or_eq_false_iff] at hs'
            refine pgs_cons (trT_pg b n a y h1) (ih ys' hs'.2 h2) ?_
            rw [(asg_map hs).1, (asg_map hs'.2).1, List.map_cons]
        obtain ⟨_, h2, h3⟩ := asg_map (env := X.env) hs2
        exact pg_tup b.calm (all ts us hs2 hu) (by rw [h2, optAll_len hu]) h3
    · cases h
end
end PM

set_option maxHeartbeats 4000000
/-! PmJ: expressions keep to the small Python. -/
namespace PM
open PySem PySem.Spec PyProof.Rows L2

theorem Rfs.look {N : En} {ρ : List Addr} {H : Hp} (inj : ∀ i j, N.nm i = N.nm j → i = j) {f : Nat} : ∀ {fs : List (Nat × W)} {xs : List (Str × V)}, Rfs N ρ H fs xs → (∀ w, fs.lookup f = some w → ∃ v, xs.lookup (N.nm f) = some v ∧ Rw N ρ H w v) ∧ (fs.lookup f = none → xs.lookup (N.nm f) = none)
  | [], _, h => by
    have e : _ = [] := h
    rw [e]
    exact ⟨fun _ h => by (simp at h), fun _ => rfl⟩
  | (g, w) :: r, _, h => by
    obtain ⟨v, xs', rfl, h2, h3⟩ := h
    obtain ⟨i1, i2⟩ := h3.look inj (f := f)
    by_cases e : f = g
    · rw [e]
      simp only [List.lookup_cons, beq_self_eq_true]
      exact ⟨fun w' h => ⟨v, rfl, by cases h; exact h2⟩, fun h => by cases h⟩
    · have e1 : (f == g) = false := by simpa using e
      have e2 : (N.nm f == N.nm g) = false := by
        have : N.nm f ≠ N.nm g := fun z => e (inj _ _ z)
        simpa using this
      simp only [List.lookup_cons, e1, e2]
      exact ⟨i1, i2⟩
section
variable {α β γ δ : Type} {N : En} {rel : List Addr → Hp → α → β → Prop} {rel2 : List Addr → Hp → γ → δ → Prop} {Q2 : δ → Hp → Prop} {E E' : XK} {r : R α} {ρ ρ0 : List Addr} {H H0 : Hp}
theorem QG.bind0 {f : α → GH → R γ} (h : QG N rel2 Q2 E (r.bind f) ρ0 H0) (s : Stp ρ0 H0 ρ H) : QG N rel (fun b H1 => ∃ ρ1 a G1, Stp ρ H ρ1 H1 ∧ Rg N ρ1 G1 H1 ∧ rel ρ1 H1 a b ∧ QG N rel2 Q2 E (f a G1) ρ0 H0) E r ρ H := by
  cases r with
  | ok a G' => exact fun ρ2 b H2 s2 g2 x => ⟨ρ2, a, G', s2, g2, x, h⟩
  | exc c dd G' => exact fun ρ2 H2 cls d s2 g2 x y => h ρ2 H2 cls d (s.trans s2) g2 x y
  | bad => exact h
/-- nothing is raised behind nox -/
theorem QG.bindN {β' : Type} {f : α → GH → R β'} {k : β' → GH → R γ} (h : QG N rel2 Q2 E ((r.bind f).nox.bind k) ρ0 H0) (s : Stp ρ0 H0 ρ H) : QG N rel (fun b H1 => ∃ ρ1 a G1, Stp ρ H ρ1 H1 ∧ Rg N ρ1 G1 H1 ∧ rel ρ1 H1 a b ∧ QG N rel2 Q2 E ((f a G1).nox.bind k) ρ0 H0) E' r ρ H := by
  cases r with
  | ok a G' => exact fun ρ2 b H2 s2 g2 x => ⟨ρ2, a, G', s2, g2, x, h⟩
  | exc c dd G' => exact (show False from h).elim
  | bad => exact (show False from h).elim
end
/-! ### slots wiped -/
theorem wipe_at (σ : L2.St) (j : Nat) : ∀ vs : List Nat, (L2.wipe σ vs)[j]? = if j ∈ vs ∧ j < σ.length then some none else σ[j]?
  | [] => by
    rw [if_neg (by simp)]
    rfl
  | v :: vs => by
    unfold L2.wipe
    by_cases e : v = j
    · rw [e]
      by_cases hl : j < σ.length
      · rw [List.getElem?_set_self (by rw [wipe_length]; exact hl), if_pos ⟨List.mem_cons_self, hl⟩]
      · rw [if_neg (fun h => hl h.2), List.getElem?_eq_none (by rw [List.length_set, wipe_length]; omega), List.getElem?_eq_none (by omega)]
    · rw [List.getElem?_set_ne e, wipe_at σ j vs]
      have q : j ∈ v :: vs ↔ j ∈ vs := by
        rw [List.mem_cons]
        simp [Ne.symm e]
      by_cases c : j ∈ vs ∧ j < σ.length
      · rw [if_pos c, if_pos ⟨q.mpr c.1, c.2⟩]
      · rw [if_neg c, if_neg fun z => c ⟨q.mp z.1, z.2⟩]
theorem wipe_set {σ : L2.St} {i : Nat} {x : Option V} {vs : List Nat} (h : i ∈ vs) : L2.wipe (σ.set i x) vs = L2.wipe σ vs := by
  apply List.ext_getElem?
  intro j
  rw [wipe_at, wipe_at, List.length_set]
  by_cases c : j ∈ vs ∧ j < σ.length
  · rw [if_pos c, if_pos c]
  · rw [if_neg c, if_neg c]
    by_cases e : i = j
    · rw [← e] at c ⊢
      have : ¬ i < σ.length := fun z => c ⟨h, z⟩
      rw [List.getElem?_eq_none (by rw [List.length_set]; omega), List.getElem?_eq_none (by omega)]
    · rw [List.getElem?_set_ne e]
mutual
def tgIn (vs : List Nat) : Tg → Prop
  | .v i => i ∈ vs
  | .t ts => tgsIn vs ts
def tgsIn (vs : List Nat) : List Tg → Prop
  | [] => True
  | t :: ts => tgIn vs t ∧ tgsIn vs ts
end
mutual
/-- what a target does to slots -/
theorem gT_ok {N : En} {ρ : List Addr} {G : GH} {H : Hp} (g : Rg N ρ G H) : ∀ (t : Tg) {w : PM.W} {σw σ1 : Sg} {σ : L2.St} {x : V} {Q : L2.St → Hp → Prop}, Rs N ρ H σw σ → Rw N ρ H w x → asgT t w σw = some σ1 →
    (∀ σ', Rs N ρ H σ1 σ' → (∀ vs, tgIn vs t → L2.wipe σ' vs = L2.wipe σ vs) → Q σ' H) → gT N.K t x σ H Q
  | .v i, w, σw, σ1, σ, x, Q, s, r, h, q => by
    cases h
    exact q _ (s.set i r) fun vs hv => wipe_set hv
  | .t ts, w, σw, σ1, σ, x, Q, s, r, h, q => by
    cases w with
    | tup ws =>
      have h2 : asgTs ts ws σw = some σ1 := h
      obtain ⟨a, xs, h3, h4, h5⟩ := r
      refine ⟨a, xs, h3, h4.t, ?_, gTs_ok g ts s h5 h2 q⟩
      rw [← h5.len]
      clear h h3 h4 h5 s q
      induction ts generalizing ws σw with
      | nil =>
        cases ws with
        | nil => rfl
        | cons _ _ => cases h2
      | cons t ts ih =>
        cases ws with
        | nil => cases h2
        | cons w ws =>
          unfold asgTs at h2
          split at h2
          · rw [List.length_cons, List.length_cons, ih _ _ h2]
          · cases h2
    | _ => cases h
theorem gTs_ok {N : En} {ρ : List Addr} {G : GH} {H : Hp} (g : Rg N ρ G H) : ∀ (ts : List Tg) {ws : List PM.W} {σw σ1 : Sg} {σ : L2.St} {xs : List V} {Q : L2.St → Hp → Prop}, Rs N ρ H σw σ → Rws N ρ H ws xs → asgTs ts ws σw = some σ1 →
    (∀ σ', Rs N ρ H σ1 σ' → (∀ vs, tgsIn vs ts → L2.wipe σ' vs = L2.wipe σ vs) → Q σ' H) → gTs N.K ts xs σ H Q
  | [], ws, σw, σ1, σ, xs, Q, s, r, h, q => by
    cases ws with
    | nil =>
      cases h
      exact ⟨r, q _ s fun _ _ => rfl⟩
    | cons _ _ => cases h
  | t :: us, ws, σw, σ1, σ, xs, Q, s, r, h, q => by
    cases ws with
    | nil => cases h
    | cons w ws =>
      obtain ⟨x, xs', e1, e2, e3⟩ := r
      unfold asgTs at h
      split at h
      · rename_i σ2 h1
        exact ⟨x, xs', e1, gT_ok g t s e2 h1 fun σ' s' k => gTs_ok g us s' e3 h fun σ2 s2 k2 => q σ2 s2 fun vs hv => (k2 vs hv.2).trans (k vs hv.1)⟩
      · cases h
end
/-! ### what is walked -/
def Jc (N : En) (ρ : List Addr) (H : Hp) : I1 → Zc → Prop
  | .sq ws, c => ∃ xs, Rws N ρ H ws xs ∧ (match c with
    | .cl a => SqF N.K H a xs
    | .ct a => SqU N.K H a xs
    | .cs x _ => xs = chV x)
  | .live n, c => ∃ a, ρ[n]? = some a ∧ c = .cl a
section
variable {N : En} {ρ ρ' : List Addr} {G : GH} {H H' : Hp}
theorem Jc.stp (g : Rg N ρ G H) (s : Stp ρ H ρ' H') {u : I1} {c : Zc} (h : Jc N ρ H u c) : Jc N ρ' H' u c := by
  cases u with
  | sq ws =>
    obtain ⟨xs, h1, h2⟩ := h
    refine ⟨xs, h1.stp g s ws, ?_⟩
    cases c with
    | cl a =>
      rcases h2 with ⟨o, h2⟩ | h2
      · exact .inl ⟨o, s.keep _ _ h2 (g.ntup h2 fun z => z)⟩
      · exact .inr h2
    | ct a => exact sqU_stp g s h2
    | cs x t => exact h2
  | live n =>
    obtain ⟨a, h1, h2⟩ := h
    exact ⟨a, s.get h1, h2⟩
theorem Jc.at_ (g : Rg N ρ G H) {u : I1} {c : Zc} (h : Jc N ρ H u c) {i : Nat} {o : Option W} (e : u.at G i = some o) : ∃ xs ws, c.q N.K H xs ∧ Rws N ρ H ws xs ∧ o = ws[i]? ∧ u.len G = some ws.length := by
  cases u with
  | sq ws =>
    obtain ⟨xs, h1, h2⟩ := h
    cases e
    refine ⟨xs, ws, ?_, h1, rfl, rfl⟩
    cases c with
    | cl a => exact SqF.l h2
    | ct a => exact SqU.t h2
    | cs x t => exact h2
  | live n =>
    obtain ⟨a, h1, rfl⟩ := h
    have e2 : (match G.get n with
      | some (.lst ws) => some ws[i]?
      | _ => none) = some o := e
    split at e2
    · rename_i ws q
      cases e2
      obtain ⟨b, k1, xs, k2, k3⟩ := g.at_ n _ q
      rw [h1] at k1
      cases k1
      refine ⟨xs, ws, .inl (.inl k2), k3, rfl, ?_⟩
      show (match G.get n with
        | some (.lst ws) => some ws.length
        | _ => none) = _
      rw [q]
    · cases e2
theorem chW_ok (x : Str) : Rws N ρ H (x.cps.toList.map fun c => W.str ⟨#[c]⟩) (chV x) := by
  unfold chV
  induction x.cps.toList with
  | nil => rfl
  | cons c r ih => exact ⟨_, _, rfl, rfl, ih⟩
/-- an iterator over a value -/
theorem ivOf_ok (g : Rg N ρ G H) {w : W} {x : V} {u : I1} (r : Rw N ρ H w x) (e : ivOf G w = some u) :
    (∃ a, x = .ref a ∧ (∃ xs, SqL N.K H a xs) ∧ Jc N ρ H u (.cl a)) ∨ (∃ a, x = .ref a ∧ (∃ xs, SqT N.K H a xs) ∧ Jc N ρ H u (.ct a)) ∨ ∃ z, x = .str z ∧ ∀ t, Jc N ρ H u (.cs z t) := by
  cases w with
  | tup ws =>
    cases e
    obtain ⟨a, xs, h1, h2, h3⟩ := r
    exact .inr (.inl ⟨a, h1, ⟨xs, h2.t⟩, xs, h3, h2⟩)
  | rol ws =>
    cases e
    obtain ⟨a, xs, h1, h2, h3⟩ := r
    exact .inl ⟨a, h1, ⟨xs, h2.l⟩, xs, h3, h2⟩
  | str z =>
    cases e
    exact .inr (.inr ⟨z, r, fun t => ⟨chV z, chW_ok z, rfl⟩⟩)
  | ref n =>
    have e2 : (match G.get n with
      | some (.lst _) => some (I1.live n)
      | _ => none) = some u := e
    split at e2
    · rename_i ws q
      cases e2
      obtain ⟨a, h1, h0, xs, h2, h3⟩ := g.ref r q
      exact .inl ⟨a, h1, ⟨xs, .inl (.inl h2)⟩, a, h0, rfl⟩
    · cases e2
  | _ => cases e
/-- one iterator -/
theorem jr_one (g : Rg N ρ G H) {u : I1} {c : Zc} {J : L2.It} (h : Jc N ρ H u c)
    (hg : ∀ H i xs x, c.q N.K H xs → xs[i]? = some x → J.go i H) (hs : ∀ H i xs, c.q N.K H xs → xs[i]? = none → J.stop i H) (hy : ∀ H i xs v H', c.q N.K H xs → J.yld i H v H' → H' = H ∧ xs[i]? = some v) : JR N ρ H (.one u) J := by
  intro ρ' G' H' i s g'
  have h' := h.stp g s
  show (match u.at G' i with
    | none => True
    | some none => J.stop i H'
    | some (some w) => J.go i H' ∧ ∀ v H'', J.yld i H' v H'' → Stp ρ' H' ρ' H'' ∧ Rg N ρ' G' H'' ∧ Rw N ρ' H'' w v)
  cases e : u.at G' i with
  | none => trivial
  | some o =>
    obtain ⟨xs, ws, h1, h2, h3, _⟩ := h'.at_ g' e
    cases o with
    | none => exact hs _ _ xs h1 (h2.none h3.symm)
    | some w =>
      obtain ⟨x, k1, k2⟩ := h2.get h3.symm
      refine ⟨hg _ _ xs x h1 k1, fun v H'' y => ?_⟩
      obtain ⟨e1, e2⟩ := hy _ _ xs v H'' h1 y
      rw [e1]
      rw [k1] at e2
      cases e2
      exact ⟨Stp.refl _ _, g', k2⟩
theorem jr_list (g : Rg N ρ G H) {u : I1} {a : Addr} (h : Jc N ρ H u (.cl a)) : JR N ρ H (.one u) (Itl N.K a) :=
  jr_one g h (fun H i xs x q e => ⟨xs, x, q, e⟩) (fun H i xs q e => ⟨xs, q, List.getElem?_eq_none_iff.mp e⟩) fun H i xs v H' q y => ⟨y.1, y.2 xs q⟩
theorem jr_tup (g : Rg N ρ G H) {u : I1} {a : Addr} (h : Jc N ρ H u (.ct a)) : JR N ρ H (.one u) (Itt N.K a) :=
  jr_one g h (fun H i xs x q e => ⟨xs, x, q, e⟩) (fun H i xs q e => ⟨xs, q, List.getElem?_eq_none_iff.mp e⟩) fun H i xs v H' q y => ⟨y.1, y.2 xs q⟩
theorem jr_str (g : Rg N ρ G H) {u : I1} {z : Str} {t : Tok} (h : Jc N ρ H u (.cs z t)) : JR N ρ H (.one u) (Its z) := by
  have len : (chV z).length = z.cps.size := by
    unfold chV
    rw [List.length_map, Array.length_toList]
  refine jr_one g h (fun H i xs x q e => ?_) (fun H i xs q e => ?_) fun H i xs v H' q y => ?_
  · rw [show xs = chV z from q] at e
    show i < z.cps.size
    rw [← len]
    exact (List.getElem?_eq_some_iff.mp e).1
  · rw [show xs = chV z from q] at e
    show z.cps.size ≤ i
    rw [← len]
    exact List.getElem?_eq_none_iff.mp e
  · obtain ⟨e1, c, e2, e3⟩ := y
    rw [show xs = chV z from q, e3]
    exact ⟨e1, chV_get e2⟩
theorem jr_rng (lo : Int) (n : Nat) : JR N ρ H (.one (.sq (rngW lo n))) (Itr lo n) := by
  intro ρ' G' H' i s g'
  show (match some (rngW lo n)[i]? with
    | none => True
    | some none => (Itr lo n).stop i H'
    | some (some w) => (Itr lo n).go i H' ∧ ∀ v H'', (Itr lo n).yld i H' v H'' → Stp ρ' H' ρ' H'' ∧ Rg N ρ' G' H'' ∧ Rw N ρ' H'' w v)
  unfold rngW
  rw [List.getElem?_map]
  by_cases hi : i < n
  · rw [List.getElem?_range hi]
    refine ⟨hi, fun v H'' y => ?_⟩
    obtain ⟨e1, e2⟩ := y
    rw [e1, e2]
    exact ⟨Stp.refl _ _, g', rfl⟩
  · rw [List.getElem?_eq_none (by rw [List.length_range]; omega)]
    exact Nat.le_of_not_lt hi
theorem jr_zip (g : Rg N ρ G H) {u u2 : I1} {c c2 : Zc} (h : Jc N ρ H u c) (h2 : Jc N ρ H u2 c2) : JR N ρ H (.zip u u2) (Itz2 N.K c c2) := by
  intro ρ' G' H' i s g'
  have k1 := h.stp g s
  have k2 := h2.stp g s
  have hat : IV.at G' (.zip u u2) i = (match u.at G' i, u2.at G' i with
    | some (some u), some (some v) => some (some (.tup [u, v]))
    | some _, some _ => match u.len G', u2.len G' with
      | some n, some m => if decide (i ≤ n) && decide (i ≤ m) then some none else none
      | _, _ => none
    | _, _ => none) := rfl
  rw [hat]
  have stop : ∀ o1 o2 : Option W, u.at G' i = some o1 → u2.at G' i = some o2 → (o1 = none ∨ o2 = none) → match (match u.len G', u2.len G' with
      | some n, some m => if decide (i ≤ n) && decide (i ≤ m) then some (none : Option W) else none
      | _, _ => none) with
    | none => True
    | some none => (Itz2 N.K c c2).stop i H'
    | some (some w) => (Itz2 N.K c c2).go i H' ∧ ∀ v H'', (Itz2 N.K c c2).yld i H' v H'' → Stp ρ' H' ρ' H'' ∧ Rg N ρ' G' H'' ∧ Rw N ρ' H'' w v := by
    intro o1 o2 e1 e2 hne
    obtain ⟨xs, ws, a1, a2, a3, a4⟩ := k1.at_ g' e1
    obtain ⟨ys, us, b1, b2, b3, b4⟩ := k2.at_ g' e2
    rw [a4, b4]
    show match (if (decide (i ≤ ws.length) && decide (i ≤ us.length)) = true then some (none : Option W) else none) with
      | none => True
      | some none => (Itz2 N.K c c2).stop i H'
      | some (some w) => (Itz2 N.K c c2).go i H' ∧ ∀ v H'', (Itz2 N.K c c2).yld i H' v H'' → Stp ρ' H' ρ' H'' ∧ Rg N ρ' G' H'' ∧ Rw N ρ' H'' w v
    by_cases hle : (decide (i ≤ ws.length) && decide (i ≤ us.length)) = true
    · rw [if_pos hle]
      rw [Bool.and_eq_true] at hle
      have l1 : i ≤ ws.length := of_decide_eq_true hle.1
      have l2 : i ≤ us.length := of_decide_eq_true hle.2
      refine ⟨xs, ys, a1, b1, by rw [← a2.len]; exact l1, by rw [← b2.len]; exact l2, ?_⟩
      rw [← a2.len, ← b2.len]
      rcases hne with z | z
      · rw [z] at a3
        have := List.getElem?_eq_none_iff.mp a3.symm
        exact .inl (by omega)
      · rw [z] at b3
        have := List.getElem?_eq_none_iff.mp b3.symm
        exact .inr (by omega)
    · rw [if_neg hle]
      trivial
  cases e1 : u.at G' i with
  | none => trivial
  | some o1 =>
    cases e2 : u2.at G' i with
    | none => cases o1 <;> trivial
    | some o2 =>
      cases o1 with
      | none => exact stop none o2 e1 e2 (.inl rfl)
      | some x =>
        cases o2 with
        | none => exact stop (some x) none e1 e2 (.inr rfl)
        | some y =>
          obtain ⟨xs, ws, a1, a2, a3, _⟩ := k1.at_ g' e1
          obtain ⟨ys, us, b1, b2, b3, _⟩ := k2.at_ g' e2
          obtain ⟨v1, m1, m2⟩ := a2.get a3.symm
          obtain ⟨v2, m3, m4⟩ := b2.get b3.symm
          refine ⟨⟨xs, ys, v1, v2, a1, b1, m1, m3⟩, fun v H'' yy => ?_⟩
          obtain ⟨T, x', y', rfl, hT, rfl, q1, q2⟩ := yy
          have n1 := q1 xs a1
          have n2 := q2 ys b1
          rw [m1] at n1
          rw [m3] at n2
          cases n1
          cases n2
          have st : Stp ρ' H' ρ' (upd H' T (.tup [v1, v2])) := Stp.laid hT
          exact ⟨st, g'.laid hT, T, [v1, v2], rfl, .inl upd_same, v1, [v2], rfl, m2.stp g' st _, v2, [], rfl, m4.stp g' st _, rfl⟩
end
end PM

set_option maxHeartbeats 4000000
/-! PmK: expressions keep to the small Python: the cases. -/
namespace PM
open PySem PySem.Spec PyProof.Rows L2

theorem QG.bindE {α β γ δ : Type} {N : En} {rel : List Addr → Hp → α → β → Prop} {rel2 : List Addr → Hp → γ → δ → Prop} {Q2 : δ → Hp → Prop} {E : XK} {r : R α} {ρ : List Addr} {H : Hp} {f : α → GH → R γ} (h : QG N rel2 Q2 E (r.bind f) ρ H) :
    QG N rel (fun b H1 => ∃ ρ1 a G1, Stp ρ H ρ1 H1 ∧ Rg N ρ1 G1 H1 ∧ rel ρ1 H1 a b ∧ QG N rel2 Q2 E (f a G1) ρ1 H1 ∧ r = .ok a G1) E r ρ H := by
  cases r with
  | ok a G' => exact fun ρ2 b H2 s2 g2 x => ⟨ρ2, a, G', s2, g2, x, QG.stp h s2, rfl⟩
  | exc c dd G' => exact h
  | bad => exact h
theorem tR_bindE {α β γ δ : Type} {N : En} {rel : List Addr → Hp → α → β → Prop} {rel2 : List Addr → Hp → γ → δ → Prop} {W : WX} {ev : Nat → Sg → GH → R α} {n : Nat} {ρ : List Addr} {H : Hp} {G : GH} {σw : Sg} {σ : L2.St} {Q2 : δ → Hp → Prop} {Q : β → Hp → Prop} {f : α → GH → R γ}
    (g : Rg N ρ G H) (s : Rs N ρ H σw σ) (h : QG N rel2 Q2 (WE W σ) ((ev n σw G).bind f) ρ H)
    (k : ∀ ρ1 a G1 b H1, Stp ρ H ρ1 H1 → Rg N ρ1 G1 H1 → Rs N ρ1 H1 σw σ → rel ρ1 H1 a b → QG N rel2 Q2 (WE W σ) (f a G1) ρ1 H1 → ev n σw G = .ok a G1 → Q b H1) : tR N rel W ev σ H Q :=
  ⟨n, ρ, σw, G, g, s, (QG.bindE h).mono fun b H1 ⟨ρ1, a, G1, s1, g1, r1, h1, e⟩ => k ρ1 a G1 b H1 s1 g1 (s.stp g s1) r1 h1 e⟩
theorem R.bind_eq {α β : Type} {r : R α} {f : α → GH → R β} {b : β} {G' : GH} (h : r.bind f = .ok b G') : ∃ a G1, r = .ok a G1 ∧ f a G1 = .ok b G' := by
  cases r with
  | ok a G1 => exact ⟨a, G1, rfl, h⟩
  | exc _ _ _ => cases h
  | bad => cases h
theorem evEs_len {T : Tb} {d : Nat} {σ : Sg} : ∀ {n : Nat} {es : List E} {G G' : GH} {ws : List W}, evEs T n d es σ G = .ok ws G' → ws.length = es.length
  | 0, _, _, _, _, h => by simp only [evEs] at h; cases h
  | n + 1, [], _, _, _, h => by simp only [evEs] at h; cases h; rfl
  | n + 1, e :: r, G, G', ws, h => by
    simp only [evEs] at h
    obtain ⟨w, G1, h1, h2⟩ := R.bind_eq h
    obtain ⟨us, G2, h3, h4⟩ := R.bind_eq h2
    cases h4
    rw [List.length_cons, List.length_cons, evEs_len h3]
theorem trEs_len {g : Gn} {C : Ct} : ∀ {m : Nat} {es : List Expr} {es' : List E}, trEs g m C es = some es' → es'.length = es.length
  | 0, _, _, h => by simp only [trEs] at h; cases h
  | m + 1, [], _, h => by simp only [trEs] at h; cases h; rfl
  | m + 1, e :: r, es', h => by
    simp only [trEs] at h
    split at h
    · cases h
    · obtain ⟨a, h1, h2⟩ := Option.bind_eq_some_iff.mp h
      obtain ⟨as, h3, h4⟩ := Option.bind_eq_some_iff.mp h2
      cases h4
      rw [List.length_cons, List.length_cons, trEs_len h3]
theorem trK_len {g : Gn} {C : Ct} : ∀ {m : Nat} {es : List Keyword} {es' : List E}, kwAll es = true → trK g m C es = some es' → es'.length = (kwNames es).length
  | 0, _, _, _, h => by simp only [trK] at h; cases h
  | m + 1, [], _, _, h => by simp only [trK] at h; cases h; rfl
  | m + 1, ⟨some x, v, q⟩ :: r, es', hk, h => by
    simp only [trK] at h
    obtain ⟨a, h1, h2⟩ := Option.bind_eq_some_iff.mp h
    obtain ⟨as, h3, h4⟩ := Option.bind_eq_some_iff.mp h2
    cases h4
    show as.length + 1 = (kwNames r).length + 1
    rw [trK_len (es := r) hk h3]
  | m + 1, ⟨none, v, q⟩ :: r, es', hk, h => by cases hk
structure Sd (L : Pg) (m : Nat) : Prop where
  e : ∀ {X C W d e e'}, Bk L X C W d → trE L.g m C e = some e' → PE X e (tE L d W e')
  t : ∀ {X C W d e e'}, Bk L X C W d → isIfE e = false → trE L.g m C e = some e' → PT X e (tT L d W e')
  o : ∀ {X C W d e e'}, Bk L X C W d → trO L.g m C e = some e' → PO X e (tO L d W e')
  b : ∀ {X C W d op es e' pos}, Bk L X C W d → trB L.g m C op es = some e' → PE X (.BoolOp op es pos) (tE L d W e')
  w : ∀ {X C W d op es e' pos}, Bk L X C W d → trB L.g m C op es = some e' → PW X (.BoolOp op es pos) (tT L d W e')
  es : ∀ {X C W d es es'}, Bk L X C W d → trEs L.g m C es = some es' → PA X es (tEs L d W es') ∧ es.any isStar = false
  k : ∀ {X C W d kws es'}, Bk L X C W d → trK L.g m C kws = some es' → PK X kws (tEs L d W es')
  a : ∀ {X C W d es es'}, Bk L X C W d → trA L.g m C es = some es' → PA X es (tA L d W es')
  i : ∀ {X C W d tg it it'}, Bk L X C W d → trI L.g m C tg it = some it' → PI X tg it (tI L d W it')
theorem bd1 {α β : Type} {o : Option α} {f : α → Option β} {b : β} (h : o.bind f = some b) : ∃ a, o = some a ∧ f a = some b := Option.bind_eq_some_iff.mp h
section
variable {L : Pg} {X : Cx} {C : Ct} {W : WX} {d m : Nat}
/-- a fixed value -/
theorem cst_ok {w : PM.W} {v : V} {e : Expr} (h : PE X e (tC v)) (r : ∀ ρ H, Rw L.N ρ H w v) : PE X e (tE L d W (.cst w)) :=
  peI h fun σ H Q q => tE_zero q fun n ρ σw G g s h => by
    simp only [evE] at h
    exact h.done g (r ρ H)
theorem glob_ok (lk : Lk L) (b : Bk L X C W d) {x : Str} {p : Pos} {w : PM.W} (hn : okName x = true) (hg : gloB C.sc x = true) (h : glob L.g x = some w) : PE X (.Name x p) (tE L d W (.cst w)) := by
  obtain ⟨n1, n2, n3⟩ := okName_ok hn
  have gl := b.gl hg
  unfold glob at h
  split at h
  · rename_i f hf
    cases h
    refine cst_ok (v := .ref (L.N.fa f)) (pe_glob gl (by rw [b.mg]; exact (lk.fn x f hf).1) rfl n1) fun ρ H => rfl
  · split at h
    · rename_i c hc
      cases h
      exact cst_ok (v := .ref (L.N.ca c)) (pe_glob gl (by rw [b.mg]; exact lk.cl x c hc) rfl n1) fun ρ H => rfl
    · split at h
      · rename_i w' hc
        cases h
        obtain ⟨v, u, h1, h2, h3⟩ := lk.cst x _ hc
        exact cst_ok (pe_glob gl (by rw [b.mg]; exact h1) h2 n1) h3
      · split at h
        · rename_i hf
          obtain ⟨n, e, rfl⟩ := Option.map_eq_some_iff.mp h
          have hm : X.mg x = none := by rw [b.mg]; exact lk.free x hf
          refine cst_ok (v := .ty n) ⟨fun pins s σ H Q I h => ld_blt I gl hm ?_ ⟨.ty n, H, I, rfl, h⟩ n3 n1⟩ fun ρ H => rfl
          unfold tyName at e
          split at e
          · rename_i z
            cases e
            rw [z]
            decide +kernel
          · split at e
            · rename_i z
              cases e
              rw [z]
              decide +kernel
            · split at e
              · rename_i z
                cases e
                rw [z]
                decide +kernel
              · split at e
                · rename_i z
                  cases e
                  rw [z]
                  decide +kernel
                · split at e
                  · rename_i z
                    cases e
                    rw [z]
                    decide +kernel
                  · cases e
        · cases h
/-- a call of a def -/
theorem call_ok (lk : Lk L) (b : Bk L X C W d) (sd : Sd L m) {x : Str} {p pos : Pos} {es : List Expr} {kws : List Keyword} {f : Nat} {bd : List Bd} {es' ks' : List E} (hn : okName x = true) (hg : gloB C.sc x = true) (hf : L.g.fns.lookup x = some f) (hk : kwAll kws = true)
    (hs : L.g.sh.lookup (f, es.length, kwNames kws) = some bd) (h1 : trEs L.g m C es = some es') (h2 : trK L.g m C kws = some ks') : PE X (.Call (.Name x p) es kws pos) (tE L d W (.call f (es' ++ ks') bd)) := by
  obtain ⟨n1, n2, n3⟩ := okName_ok hn
  obtain ⟨pa, ns⟩ := sd.es b h1
  obtain ⟨gg, gV, kb, bo, hlt⟩ := lk.sh f _ _ bd hs
  refine ⟨fun pins s σ H Q I h => ?_⟩
  refine tE_zero h fun n ρ σw G g sl h => ?_
  simp only [evE] at h
  rw [evEs_append, R.assoc] at h
  refine wpAny_Call_Name_kw (ld_glob I (b.gl hg) (by rw [b.mg]; exact (lk.fn x f hf).1) ?_ n1)
  refine cw_all (t := tEs L d W es') (tk := tEs L d W ks') (Qm := fun vs zs H2 => vs.length = es.length ∧ zs.length = (kwNames kws).length ∧ spF L d f (gV vs zs) H2 Q (WE W σ)) I (by rw [b.k]; exact (lk.fn x f hf).2) ns hk pa (sd.k b h2) ?_ ?_ fun us ws vs zs s2 H2 I2 r1 r2 q => ?_
  · intro e Qt q
    subst e
    have e1 : es' = [] := by
      cases m with
      | zero => simp only [trEs] at h1; cases h1
      | succ m => simp only [trEs] at h1; cases h1; rfl
    subst e1
    obtain ⟨n, ρ, σw, G, g, s, h⟩ := q
    cases n with
    | zero => simp only [evEs] at h; exact h.elim
    | succ n => simp only [evEs] at h; exact h.done g rfl
  · refine tR_bindE (ev := fun n σ G => evEs L.T n d es' σ G) g sl h fun ρ1 ws G1 vs H1 s1 g1 sl1 r1 h3 q1 => ?_
    refine ⟨n - es'.length, ρ1, σw, G1, g1, sl1, ?_⟩
    rw [R.assoc] at h3
    refine (QG.bindE h3).mono fun zs H2 ⟨ρ2, us, G2, s2, g2, r2, h4, q2⟩ => ?_
    have r1' := r1.stp g1 s2 ws
    have h5 : QG L.N (Rw L.N) Q (WE W σ) (match bindA bd (ws ++ us) with
      | some us => evC L.T n d f us G2
      | none => .bad) ρ2 H2 := h4
    split at h5
    · rename_i ts hb
      have l1 : vs.length = es.length := by
        rw [← r1.len, evEs_len q1, trEs_len h1]
      have l2 : zs.length = (kwNames kws).length := by
        rw [← r2.len, evEs_len q2, trK_len hk h2]
      exact ⟨l1, l2, n, ρ2, G2, ts, g2, bo ρ2 H2 (ws ++ us) ts vs zs l1 l2 (r1'.append r2) hb, h5⟩
    · exact h5.elim
  · obtain ⟨l1, l2, q⟩ := q
    exact run_own (b.fnOk (Nat.le_refl _) hlt) b.room (by rw [b.k]; exact kb) (b.pass σ) I2 r1 r2 l1 l2 q

theorem evC_d0 {T : Tb} {n f : Nat} {us : List PM.W} {G : GH} : evC T n 0 f us G = .bad := by
  cases n <;> simp only [evC]
/-- an instance made -/
theorem mk_ok (lk : Lk L) (b : Bk L X C W d) (sd : Sd L m) {x : Str} {p pos : Pos} {es : List Expr} {kws : List Keyword} {c : Nat} {bd : List Bd} {es' ks' : List E} (hn : okName x = true) (hg : gloB C.sc x = true) (hf : L.g.clss.lookup x = some c) (hk : kwAll kws = true)
    (hs : L.g.shc.lookup (c, es.length, kwNames kws) = some bd) (h1 : trEs L.g m C es = some es') (h2 : trK L.g m C kws = some ks') : PE X (.Call (.Name x p) es kws pos) (tE L d W (.mk c (es' ++ ks') bd)) := by
  obtain ⟨n1, n2, n3⟩ := okName_ok hn
  obtain ⟨pa, ns⟩ := sd.es b h1
  refine ⟨fun pins s σ H Q I h => ?_⟩
  refine tE_zero h fun n ρ σw G g sl h => ?_
  simp only [evE] at h
  cases hi : L.T.ini.lookup c with
  | none => rw [hi] at h; exact h.elim
  | some f =>
    rw [hi] at h
    have h : QC L.N Q (WE W σ) ((evEs L.T n d (es' ++ ks') σw G).bind fun ws G1 => match bindA bd (PM.W.ref G1.sz :: ws) with
        | some us => (evC L.T n (d - 1) f us (G1.push (.ins c []))).bind fun w G2 => if isNon w then R.ok (PM.W.ref G1.sz) G2 else .bad
        | none => .bad) ρ H := h
    obtain ⟨gg, gV, kb, bo⟩ := lk.shc c _ _ bd f hs hi
    obtain ⟨mk, hlt⟩ := lk.mkc c f hi
    rw [evEs_append, R.assoc] at h
    refine wpAny_Call_Name_kw (ld_glob I (b.gl hg) (by rw [b.mg]; exact lk.cl x c hf) ?_ n1)
    refine cw_all (t := tEs L d W es') (tk := tEs L d W ks') (Qm := fun vs zs H2 => 0 < d ∧ vs.length = es.length ∧ zs.length = (kwNames kws).length ∧ ∀ x dx, H2 x = none → H2 dx = none → dx ≠ x →
      spF L (d - 1) f (gV (.ref x :: vs) zs) (upd (upd H2 dx (.own x)) x (.ins (L.N.ca c) dx [])) (fun v H3 => v = .non ∧ Q (.ref x) H3) (WE W σ)) I (by rw [b.k]; exact mk.kp) ns hk pa (sd.k b h2) ?_ ?_ fun us ws vs zs s2 H2 I2 r1 r2 q => ?_
    · intro e Qt q
      subst e
      have e1 : es' = [] := List.eq_nil_of_length_eq_zero (trEs_len h1)
      subst e1
      obtain ⟨n, ρ, σw, G, g, s, h⟩ := q
      cases n with
      | zero => simp only [evEs] at h; exact h.elim
      | succ n => simp only [evEs] at h; exact h.done g rfl
    · refine tR_bindE (ev := fun n σ G => evEs L.T n d es' σ G) g sl h fun ρ1 ws G1 vs H1 s1 g1 sl1 r1 h3 q1 => ?_
      refine ⟨n - es'.length, ρ1, σw, G1, g1, sl1, ?_⟩
      rw [R.assoc] at h3
      refine (QG.bindE h3).mono fun zs H2 ⟨ρ2, us, G2, s2, g2, r2, h4, q2⟩ => ?_
      have r1' := r1.stp g1 s2 ws
      have l1 : vs.length = es.length := by
        rw [← r1.len, evEs_len q1, trEs_len h1]
      have l2 : zs.length = (kwNames kws).length := by
        rw [← r2.len, evEs_len q2, trK_len hk h2]
      have h5 : QG L.N (Rw L.N) Q (WE W σ) (match bindA bd (.ref G2.sz :: (ws ++ us)) with
        | some us => (evC L.T n (d - 1) f us (G2.push (.ins c []))).bind fun w G2' => if isNon w then .ok (.ref G2.sz) G2' else .bad
        | none => .bad) ρ2 H2 := h4
      split at h5
      · rename_i ts hb
        have hd : 0 < d := by
          refine Nat.pos_of_ne_zero fun z => ?_
          rw [z] at h5
          have : ∀ us G', evC L.T n (0 - 1) f us G' = .bad := fun us G' => evC_d0
          rw [this] at h5
          exact h5
        refine ⟨hd, l1, l2, fun a dx ha hdx hne => ?_⟩
        have e1 : (upd H2 dx (.own a)) a = none := by rw [upd_ne (Ne.symm hne)]; exact ha
        have st1 : Stp ρ2 H2 ρ2 (upd H2 dx (.own a)) := Stp.laid hdx
        have g3 := g2.laid (o := .own a) hdx
        have st2 : Stp ρ2 (upd H2 dx (.own a)) (ρ2 ++ [a]) (upd (upd H2 dx (.own a)) a (.ins (L.N.ca c) dx [])) := Stp.push e1
        have st := st1.trans st2
        have g4 : Rg L.N (ρ2 ++ [a]) (G2.push (.ins c [])) (upd (upd H2 dx (.own a)) a (.ins (L.N.ca c) dx [])) := g3.push e1 (show okHO (.ins (L.N.ca c) dx []) from True.intro) ⟨dx, [], upd_same, rfl⟩
        have rr : Rw L.N (ρ2 ++ [a]) (upd (upd H2 dx (.own a)) a (.ins (L.N.ca c) dx [])) (.ref G2.sz) (.ref a) := by
          refine ⟨a, ?_, rfl⟩
          rw [← g2.sz, List.getElem?_append_right (Nat.le_refl _)]
          simp
        refine ⟨n, _, _, ts, g4, bo _ _ (.ref G2.sz :: (ws ++ us)) ts (.ref a :: vs) zs (by rw [List.length_cons, l1]) l2 ⟨_, _, rfl, rr, (r1'.append r2).stp g2 st _⟩ hb, ?_⟩
        refine (QG.bind0 h5 st).mono fun v H3 ⟨ρ3, w, G3, s3, g3', r3, h6⟩ => ?_
        split at h6
        · rename_i hw
          have ev : v = .non := by
            cases w <;> first | exact r3 | cases hw
          refine ⟨ev, h6 ρ3 (.ref a) H3 (st.trans s3) g3' ?_⟩
          obtain ⟨a', k1, k2⟩ := rr
          cases k2
          exact ⟨a, s3.get k1, rfl⟩
        · exact h6.elim
      · exact h5.elim
    · obtain ⟨hd, l1, l2, q⟩ := q
      refine run_mko (by rw [b.k]; exact mk) (b.fnOk (Nat.sub_le _ _) hlt) (by rw [Nat.sub_add_cancel hd]; exact b.room) (by rw [b.k]; exact kb) (b.pass σ) I2 r1 r2 l1 l2 q
/-- o.m(..) -/
theorem met_ok (lk : Lk L) (b : Bk L X C W d) (sd : Sd L m) {o : Expr} {nm : Str} {apos pos : Pos} {es : List Expr} {o' : E} {m' : Nat} {es' : List E} (hl : (apos.endLine == pos.line) = true) (hs : superCall o = false) (hlen : es.length < 20)
    (h1 : trE L.g m C o = some o') (h2 : ixS L.g.nms nm = some m') (h3 : trEs L.g m C es = some es') : PE X (.Call (.Attribute o nm apos) es [] pos) (tE L d W (.met o' m' es')) := by
  obtain ⟨pa, ns⟩ := sd.es b h3
  have po := sd.e b h1
  have hf : methodCallForm (es.length + ([] : List Keyword).length) (backTo pos (starEach es X.env)) (backToKw pos (keywordEach [] X.env)) = true := by
    unfold methodCallForm
    rw [star_all ns]
    show (true && true && decide (es.length + 0 + 0 < 30)) = true
    rw [decide_eq_true (by omega)]
    rfl
  refine ⟨fun pins s σ H Q I h => ?_⟩
  refine tE_zero h fun n ρ σw G g sl h => ?_
  simp only [evE] at h
  rw [mcall_of (attrBase hs) fun ov => mcall_line hf hl]
  have t1 : tE L d W o' σ H fun x H1 => ∃ ρ1 w G1, Stp ρ H ρ1 H1 ∧ Rg L.N ρ1 G1 H1 ∧ Rs L.N ρ1 H1 σw σ ∧ Rw L.N ρ1 H1 w x ∧ QC L.N Q (WE W σ) (match mkOf L.T G1 w m' with
      | some (.b k) => (evEs L.T n d es' σw G1).bind fun ws G2 => ofOG (bmop k w ws G2)
      | some (.f f) => (evEs L.T n d es' σw G1).bind fun ws G2 => evC L.T n d f (w :: ws) G2
      | none => .bad) ρ1 H1 :=
    tR_bind (ev := fun n σ G => evE L.T n d o' σ G) g sl h fun ρ1 w G1 x H1 s1 g1 sl1 r1 h4 => ⟨ρ1, w, G1, s1, g1, sl1, r1, h4⟩
  refine wpAny_bind (thn (po.run pins s σ H _ I t1) fun v s1 ⟨x, H1, I1, rx, ρ1, w, G1, s1', g1, sl1, r1, h4⟩ => ?_)
  refine wpAny_bind (wpAny_standAt ?_)
  split at h4
  · rename_i k hk
    unfold mkOf at hk
    split at hk
    · rename_i t ht
      obtain ⟨k', e1, e2⟩ := Option.map_eq_some_iff.mp hk
      cases e2
      obtain ⟨e2, e3⟩ := lk.bm t m' k e1
      obtain ⟨hT, hd⟩ := tyV_is I1 rx (btOf_ty b.k.symm g1 r1 ht)
      rw [lk.nmE nm m' h2] at e3
      have hcall : wpAny (model X.prog X.w) X.A (callWith pos (.builtin (bmId k)) [v] (backTo pos (starEach es X.env)) (backToKw pos (keywordEach [] X.env))) (EP X pins σ Q) X.xe s1 := by
        have h4' : tEs L d W es' σ H1 fun vs H2 => rmW L.N (fun w ws G => ofOG (bmop k w ws G)) x vs H2 Q :=
          tR_bind (ev := fun n σ G => evEs L.T n d es' σ G) g1 sl1 h4 fun ρ2 ws G2 vs H2 s2 g2 sl2 r2 h5 => ⟨ρ2, G2, w, ws, _, g2, r1.stp g1 s2 _, r2, h5⟩
        cases es with
        | nil =>
          have e1 : es' = [] := List.eq_nil_of_length_eq_zero (trEs_len h3)
          subst e1
          obtain ⟨n, ρ, σw, G, g, s, h⟩ := h4'
          have q : rmW L.N (fun w ws G => ofOG (bmop k w ws G)) x [] H1 Q := by
            cases n with
            | zero => simp only [evEs] at h; exact h.elim
            | succ n => simp only [evEs] at h; exact h.done g rfl
          exact Calls.callWith_builtin rfl (PySem.evalArgs_none (mt_bm b.k.symm k pins s1 σ H1 x [] v [] Q I1 rx .nil q))
        | cons e r =>
          have he : isStar e = false := by
            rw [List.any_cons, Bool.or_eq_false_iff] at ns
            exact ns.1
          have hA := pa.run pos pins s1 σ H1 _ I1 h4'
          have hp := star_no (env := X.env) (pos := pos) ns
          rw [star_cons he] at hA hp ⊢
          refine Calls.callWith_builtin hp (Calls.evalArgs_plain ?_)
          exact thn hA fun us s2 ⟨vs, H2, I2, rv, q⟩ => mt_bm b.k.symm k pins s2 σ H2 x vs v us Q I2 rx rv q
      rw [e3]
      cases k with
      | append =>
        cases e2
        exact wpAny_bind (wpAny_holding (getMethod_builtin hT PySem.F.plainAttrs_list PySem.F.slot_list_append PySem.F.type_list_append hd hcall))
      | join =>
        cases e2
        exact wpAny_bind (wpAny_holding (getMethod_builtin hT PySem.F.plainAttrs_str PySem.F.slot_str_join PySem.F.type_str_join hd hcall))
    · split at hk
      · split at hk
        · split at hk <;> cases hk
        · cases hk
      · cases hk
  · rename_i f hk
    unfold mkOf at hk
    split at hk
    · obtain ⟨k', e1, e2⟩ := Option.map_eq_some_iff.mp hk
      cases e2
    · split at hk
      · rename_i a
        split at hk
        · rename_i c fs hG
          split at hk
          · rename_i f' e1 e2
            cases hk
            obtain ⟨ad, rfl, k1, dx, xs, k2, k3⟩ := g1.ref r1 hG
            obtain ⟨c1, c2, c3, hlt⟩ := lk.ms c m' f e2
            rw [lk.nmE nm m' h2] at c2
            have hn : xs.lookup nm = none := by
              have := (k3.look lk.nmI (f := m')).2 e1
              rw [lk.nmE nm m' h2] at this
              exact this
            cases rx
            rw [← b.k] at c1 c2 c3
            refine wpAny_bind (wpAny_holding (getmeth_ok I1 k2 c1 c2 hn ?_))
            have h4' : tEs L d W es' σ H1 fun vs H2 => spF L d f (V.ref ad :: vs) H2 Q (WE W σ) :=
              tR_bind (ev := fun n σ G => evEs L.T n d es' σ G) g1 sl1 h4 fun ρ2 ws G2 vs H2 s2 g2 sl2 r2 h5 => ⟨n, ρ2, G2, (PM.W.ref _) :: ws, g2, ⟨_, _, rfl, r1.stp g1 s2 _, r2⟩, h5⟩
            have fin : ∀ us s2 vs H2, Inv X pins σ H2 s2 → Vals vs us → spF L d f (V.ref ad :: vs) H2 Q (WE W σ) → wpAny (model X.prog X.w) X.A (call (.ref (L.N.fa f)) (.ref ad :: us)) (EP X pins σ Q) X.xe s2 := fun us s2 vs H2 I2 rv q =>
              run_fnSD (us := .ref ad :: us) (vs := .ref ad :: vs) (ds := []) (dvs := []) (b.fnOk (Nat.le_refl _) hlt) b.room c3 .nil (b.pass σ) I2 (.cons rfl rv) (by rw [List.append_nil]; exact q)
            cases es with
            | nil =>
              have e1 : es' = [] := List.eq_nil_of_length_eq_zero (trEs_len h3)
              subst e1
              obtain ⟨n, ρ, σw, G, g, s, h⟩ := h4'
              have q : spF L d f [V.ref ad] H1 Q (WE W σ) := by
                cases n with
                | zero => simp only [evEs] at h; exact h.elim
                | succ n => simp only [evEs] at h; exact h.done g rfl
              exact PySem.W.callWith_K0 (first := [.ref ad]) I1.kIn c2.kp (fin [] s1 [] H1 I1 .nil q)
            | cons e r =>
              have he : isStar e = false := by
                rw [List.any_cons, Bool.or_eq_false_iff] at ns
                exact ns.1
              have hr : r.any isStar = false := by
                rw [List.any_cons, Bool.or_eq_false_iff] at ns
                exact ns.2
              exact PySem.W.callWith_K (first := [.ref ad]) (h₀ := X.base) I.ok.mod.kin c2.kp (thn (pa.run pos pins s1 σ H1 _ I1 h4') fun us s2 ⟨vs, H2, I2, rv, q⟩ => ⟨I2.kIn, fin us s2 vs H2 I2 rv q⟩) (star_cons he) (star_no hr)
          · cases hk
        · cases hk
      · cases hk
  · exact h4.elim
end
end PM

set_option maxHeartbeats 4000000
/-! PmL: expressions keep to the small Python: the rest and the induction. -/
namespace PM
open PySem PySem.Spec PyProof.Rows L2
section
variable {L : Pg} {X : Cx} {C : Ct} {W : WX} {d m : Nat}
theorem blt_ok (lk : Lk L) (b : Bk L X C W d) (sd : Sd L m) {x : Str} {p pos : Pos} {es : List Expr} {f : Bf} {es' : List E} (hn : okName x = true) (hg : gloB C.sc x = true) (hf : L.g.free.contains x = true) (hb : bfName x = some f)
    (h1 : trEs L.g m C es = some es') : PE X (.Call (.Name x p) es [] pos) (tE L d W (.blt f es')) := by
  obtain ⟨n1, n2, n3⟩ := okName_ok hn
  obtain ⟨pa, ns⟩ := sd.es b h1
  have hm : X.mg x = none := by rw [b.mg]; exact lk.free x hf
  cases es with
  | nil =>
    have e1 : es' = [] := List.eq_nil_of_length_eq_zero (trEs_len h1)
    subst e1
    refine ⟨fun pins s σ H Q I h => ?_⟩
    refine tE_zero h fun n ρ σw G g sl h => ?_
    simp only [evE] at h
    cases n with
    | zero => simp only [evEs] at h; exact h.elim
    | succ n =>
      simp only [evEs] at h
      cases f <;> exact (show False from h).elim
  | cons e r =>
    have he : isStar e = false := by
      rw [List.any_cons, Bool.or_eq_false_iff] at ns
      exact ns.1
    have hr : r.any isStar = false := by
      rw [List.any_cons, Bool.or_eq_false_iff] at ns
      exact ns.2
    have cb := call_bf (T := L.T) b.k.symm b.calm lk.isi f
    have imp : ∀ σ H Q, tE L d W (.blt f es') σ H Q → tEs L d W es' σ H fun vs H1 => rcW L.N (fun ws G => ofOG (bfop L.T f ws G)) vs H1 Q := fun σ H Q h =>
      tE_zero h fun n ρ σw G g sl h => by
        simp only [evE] at h
        exact tR_bind (ev := fun n σ G => evEs L.T n d es' σ G) g sl h fun ρ1 ws G1 vs H1 s1 g1 sl1 r1 h2 => ⟨ρ1, G1, ws, _, g1, r1, h2⟩
    have B : ∀ id, bfV f = .builtin id → bootBuiltins x = some (.builtin id) → PE X (.Call (.Name x p) (e :: r) [] pos) (tE L d W (.blt f es')) := fun id e1 e2 => by
      rw [e1] at cb
      exact peI (pe_callB cb (b.gl hg) hm e2 pa n3 n1 (star_cons he) (star_no hr)) imp
    have Ty : ∀ id, bfV f = .type id → bootBuiltins x = some (.type id) → PE X (.Call (.Name x p) (e :: r) [] pos) (tE L d W (.blt f es')) := fun id e1 e2 => by
      rw [e1] at cb
      exact peI (pe_callTy cb (b.gl hg) hm e2 pa n3 n1 (star_cons he) (star_no hr)) imp
    unfold bfName at hb
    split at hb
    · rename_i z; cases hb; exact B "len" rfl (by rw [z]; decide +kernel)
    · split at hb
      · rename_i z; cases hb; exact Ty "int" rfl (by rw [z]; decide +kernel)
      · split at hb
        · rename_i z; cases hb; exact Ty "list" rfl (by rw [z]; decide +kernel)
        · split at hb
          · rename_i z; cases hb; exact Ty "tuple" rfl (by rw [z]; decide +kernel)
          · split at hb
            · rename_i z; cases hb; exact B "isinstance" rfl (by rw [z]; decide +kernel)
            · split at hb
              · rename_i z; cases hb; exact B "all" rfl (by rw [z]; decide +kernel)
              · cases hb
/-- o.f -/
theorem att_ok (lk : Lk L) (b : Bk L X C W d) {o : Expr} {f : Str} {pos : Pos} {o' : E} {f' : Nat} (hs : superCall o = false) (po : PE X o (tE L d W o')) (h2 : ixS L.g.nms f = some f') : PE X (.Attribute o f pos) (tE L d W (.att o' f')) := by
  refine peI (pe_fld po (attrBase hs)) fun σ H Q h => tE_zero h fun n ρ σw G g sl h => ?_
  simp only [evE] at h
  refine tR_bind (ev := fun n σ G => evE L.T n d o' σ G) g sl h fun ρ1 w G1 x H1 s1 g1 sl1 r1 h3 => ?_
  split at h3
  · rename_i a
    split at h3
    · rename_i c fs hG
      split at h3
      · rename_i hfl
        obtain ⟨w, e, h4⟩ := QG.ofO h3
        obtain ⟨ad, rfl, k1, dx, xs, k2, k3⟩ := g1.ref r1 hG
        obtain ⟨c1, c2⟩ := lk.fl c f' hfl
        obtain ⟨v, k4, k5⟩ := (k3.look lk.nmI (f := f')).1 w e
        rw [lk.nmE f f' h2] at c2 k4
        rw [b.k]
        exact ⟨ad, _, dx, xs, v, rfl, k2, c1, c2, k4, h4.done g1 k5⟩
      · exact h3.elim
    · exact h3.elim
  · exact h3.elim
/-- an element outside of ours changed: ours stay -/
theorem Rg.other {N : En} {ρ : List Addr} {G : GH} {H : Hp} {D : Addr} {xs ys : List V} (g : Rg N ρ G H) (hD : D ∉ ρ) (e : H D = some (.lst xs)) : Rg N ρ G (upd H D (.lst ys)) ∧ ∀ ws vs, Rws N ρ H ws vs → Rws N ρ (upd H D (.lst ys)) ws vs := by
  have sq : ∀ a zs, SqU N.K H a zs → SqU N.K (upd H D (.lst ys)) a zs := fun a zs h => by
    rcases h with h | h
    · exact .inl (by rw [upd_ne (ne_of h e (fun z => nomatch z))]; exact h)
    · exact .inr h
  have sf : ∀ a zs, SqF N.K H a zs → SqF N.K (upd H D (.lst ys)) a zs := fun a zs h => by
    rcases h with ⟨o, h⟩ | h
    · exact .inl ⟨o, by rw [upd_ne (ne_of h e (fun z => nomatch z))]; exact h⟩
    · exact .inr h
  have all : ∀ n : Nat, (∀ (w : PM.W) (v : V), sizeOf w < n → Rw N ρ H w v → Rw N ρ (upd H D (.lst ys)) w v) ∧ (∀ (ws : List PM.W) (vs : List V), sizeOf ws < n → Rws N ρ H ws vs → Rws N ρ (upd H D (.lst ys)) ws vs) := by
    intro n
    induction n with
    | zero => exact ⟨fun _ _ h => absurd h (Nat.not_lt_zero _), fun _ _ h => absurd h (Nat.not_lt_zero _)⟩
    | succ n ih =>
      refine ⟨fun w v hs h => ?_, fun ws vs hs h => ?_⟩
      · cases w with
        | tup us =>
          obtain ⟨a, zs, h1, h2, h3⟩ := h
          exact ⟨a, zs, h1, sq a zs h2, ih.2 us zs (by simp at hs; omega) h3⟩
        | rol us =>
          obtain ⟨a, zs, h1, h2, h3⟩ := h
          exact ⟨a, zs, h1, sf a zs h2, ih.2 us zs (by simp at hs; omega) h3⟩
        | _ => exact h
      · cases ws with
        | nil => exact h
        | cons w us =>
          obtain ⟨x, zs, h1, h2, h3⟩ := h
          exact ⟨x, zs, h1, ih.1 w x (by simp at hs; omega) h2, ih.2 us zs (by simp at hs; omega) h3⟩
  have rws : ∀ ws vs, Rws N ρ H ws vs → Rws N ρ (upd H D (.lst ys)) ws vs := fun ws vs h => (all (sizeOf ws + 1)).2 ws vs (Nat.lt_succ_self _) h
  have rw1 : ∀ w v, Rw N ρ H w v → Rw N ρ (upd H D (.lst ys)) w v := fun w v h => (all (sizeOf w + 1)).1 w v (Nat.lt_succ_self _) h
  have rfs : ∀ (fs : List (Nat × PM.W)) (xs : List (Str × V)), Rfs N ρ H fs xs → Rfs N ρ (upd H D (.lst ys)) fs xs := by
    intro fs
    induction fs with
    | nil => exact fun _ h => h
    | cons p r ih =>
      intro xs h
      obtain ⟨v, xs', h1, h2, h3⟩ := h
      exact ⟨v, xs', h1, rw1 _ _ h2, ih _ h3⟩
  refine ⟨⟨g.nd, g.sz, fun a m => ?_, fun n o e1 => ?_⟩, rws⟩
  · obtain ⟨o, e2, k⟩ := g.ok a m
    exact ⟨o, by rw [upd_ne (fun z : a = D => hD (z ▸ m))]; exact e2, k⟩
  · obtain ⟨a, h1, h2⟩ := g.at_ n o e1
    have hne : a ≠ D := fun z => hD (z ▸ List.mem_of_getElem? h1)
    refine ⟨a, h1, ?_⟩
    cases o with
    | lst ws =>
      obtain ⟨xs, k1, k2⟩ := h2
      exact ⟨xs, by rw [upd_ne hne]; exact k1, rws _ _ k2⟩
    | ins c fs =>
      obtain ⟨dx, xs, k1, k2⟩ := h2
      exact ⟨dx, xs, by rw [upd_ne hne]; exact k1, rfs _ _ k2⟩
theorem Rws.inv {N : En} {ρ : List Addr} {H : Hp} {w : PM.W} {ws : List PM.W} {vs : List V} (h : Rws N ρ H (w :: ws) vs) : ∃ x xs, vs = x :: xs ∧ Rw N ρ H w x ∧ Rws N ρ H ws xs := h
theorem ownOf_ix {N : List Str} {sc : Scope} {x : Str} {i : Nat} (h : x ∈ (ownOf N sc).map (·.1)) (hi : ixS N x = some i) : i ∈ (ownOf N sc).map (·.2) := by
  obtain ⟨p, hp, rfl⟩ := List.mem_map.mp h
  refine List.mem_map.mpr ⟨p, hp, ?_⟩
  obtain ⟨y, hy, e⟩ := List.mem_filterMap.mp hp
  split at e
  · obtain ⟨j, e1, e2⟩ := Option.map_eq_some_iff.mp e
    rw [← e2] at hi ⊢
    rw [e1] at hi
    cases hi
    rfl
  · cases e
theorem trT_in {C : Ct} {vs : List Nat} (hv : ∀ x ∈ C.st, ∀ i, ixS C.N x = some i → i ∈ vs) : ∀ (n : Nat) (e : Expr) (t : Tg), trT C n e = some t → tgIn vs t
  | 0, _, _, h => by cases h
  | n + 1, e, t, h => by
    unfold trT at h
    split at h
    · rename_i x p
      split at h
      · rename_i hc
        obtain ⟨i, hi, rfl⟩ := Option.map_eq_some_iff.mp h
        rw [Bool.and_eq_true] at hc
        exact hv x (by simpa using hc.1) i hi
      · cases h
    · rename_i ts k p
      split at h
      · cases h
      · obtain ⟨us, hu, rfl⟩ := Option.map_eq_some_iff.mp h
        have all : ∀ (ts : List Expr) (us : List Tg), optAll (trT C n) ts = some us → tgsIn vs us := by
          intro ts
          induction ts with
          | nil =>
            intro us hu
            cases hu
            trivial
          | cons a r ih =>
            intro us hu
            obtain ⟨y, ys', rfl, h1, h2⟩ := optAll_cons hu
            exact ⟨trT_in hv n a y h1, ih ys' h2⟩
        exact all ts us hu
    · cases h
mutual
theorem Rw.grow {N : En} {ρ r : List Addr} {H : Hp} : ∀ (w : PM.W) {v : V}, Rw N ρ H w v → Rw N (ρ ++ r) H w v
  | .non, _, h => h
  | .bl _, _, h => h
  | .int _, _, h => h
  | .str _, _, h => h
  | .ty _, _, h => h
  | .fn _, _, h => h
  | .cls _, _, h => h
  | .ref n, _, h => by
    obtain ⟨a, h1, h2⟩ := h
    obtain ⟨hn, _⟩ := List.getElem?_eq_some_iff.mp h1
    exact ⟨a, by rw [List.getElem?_append_left hn]; exact h1, h2⟩
  | .tup ws, _, h => by
    obtain ⟨a, xs, h1, h2, h3⟩ := h
    exact ⟨a, xs, h1, h2, Rws.grow ws h3⟩
  | .rol ws, _, h => by
    obtain ⟨a, xs, h1, h2, h3⟩ := h
    exact ⟨a, xs, h1, h2, Rws.grow ws h3⟩
theorem Rws.grow {N : En} {ρ r : List Addr} {H : Hp} : ∀ (ws : List PM.W) {vs : List V}, Rws N ρ H ws vs → Rws N (ρ ++ r) H ws vs
  | [], _, h => h
  | w :: ws, _, h => by
    obtain ⟨x, xs, h1, h2, h3⟩ := h
    exact ⟨x, xs, h1, Rw.grow w h2, Rws.grow ws h3⟩
end
theorem Rfs.grow {N : En} {ρ r : List Addr} {H : Hp} : ∀ (fs : List (Nat × PM.W)) {xs : List (Str × V)}, Rfs N ρ H fs xs → Rfs N (ρ ++ r) H fs xs
  | [], _, h => h
  | (f, w) :: fs, _, h => by
    obtain ⟨v, xs', h1, h2, h3⟩ := h
    exact ⟨v, xs', h1, h2.grow w, h3.grow fs⟩
theorem Ro.grow {N : En} {ρ r : List Addr} {H : Hp} {a : Addr} {o : AO} (h : Ro N ρ H a o) : Ro N (ρ ++ r) H a o := by
  cases o with
  | lst ws =>
    obtain ⟨xs, h1, h2⟩ := h
    exact ⟨xs, h1, h2.grow ws⟩
  | ins c fs =>
    obtain ⟨dx, xs, h1, h2⟩ := h
    exact ⟨dx, xs, h1, h2.grow fs⟩
theorem Stp.over {ρ ρ' : List Addr} {H H' : Hp} {D : Addr} {o : HO} (s : Stp ρ H ρ' H') (hD : H D = none) : Stp ρ H ρ' (upd H' D o) := ⟨s.pre, s.new, fun a u e n => by
  rw [upd_ne (ne_of_none e hD)]
  exact s.keep a u e n⟩
section
variable {T : Tb} {n : Nat} {iv : IV} {i : Nat} {tg : Tg} {ifs : List E} {e : E} {σ σ1 : Sg} {vs : List Nat} {acc : List PM.W} {G : GH} {w : PM.W}
theorem evL_bad (h : iv.at G i = none) : evL T (n + 1) d iv i tg ifs e σ vs acc G = .bad := by simp only [evL, h]
theorem evL_end (h : iv.at G i = some none) : evL T (n + 1) d iv i tg ifs e σ vs acc G = .ok acc G := by simp only [evL, h]
theorem evL_asg (h : iv.at G i = some (some w)) (k : asgT tg w σ = none) : evL T (n + 1) d iv i tg ifs e σ vs acc G = .bad := by simp only [evL, h, k]
theorem evL_go0 (h : iv.at G i = some (some w)) (k : asgT tg w σ = some σ1) : evL T (n + 1) d iv i tg [] e σ vs acc G = (evE T n d e σ1 G).bind fun u G1 => if decide (acc.length < sizeLine) then evL T n d iv (i + 1) tg [] e σ vs (acc ++ [u]) G1 else .bad := by
  simp only [evL, h, k]
theorem evL_go1 {c : E} (h : iv.at G i = some (some w)) (k : asgT tg w σ = some σ1) : evL T (n + 1) d iv i tg [c] e σ vs acc G = ((evE T n d c σ1 G).bind fun x G1 => ofO (tru G1 x) G1).bind fun k G1 => if k then (evE T n d e σ1 G1).bind fun u G2 => (if decide (acc.length < sizeLine) then evL T n d iv (i + 1) tg [c] e σ vs (acc ++ [u]) G2 else .bad) else evL T n d iv (i + 1) tg [c] e σ vs acc G1 := by
  simp only [evL, h, k]
  rw [R.assoc]
theorem evL_go2 {c c' : E} {r : List E} (h : iv.at G i = some (some w)) (k : asgT tg w σ = some σ1) : evL T (n + 1) d iv i tg (c :: c' :: r) e σ vs acc G = .bad := by
  simp only [evL, h, k]
end
/-- a comprehension's conditions -/
def tIfs (L : Pg) (d : Nat) : List E → TT
  | [c] => tT L d (fun _ _ _ _ => False) c
  | _ => tYes
theorem lc_ok (b : Bk L X C W d) {tg : Expr} {scope : Scope} {it : PM.It} {tg' : Tg} {ifs' : List E} {e' : E} (h2 : trT (blkCt C scope) m tg = some tg') :
    (∀ σ H Q, tE L d W (.lc ((ownOf C.N scope).map (·.2)) tg' it ifs' e') σ H Q → tLc (tI L d W it) (gT X.K tg') (tIfs L d ifs') (tE L d (fun _ _ _ _ => False) e') ((ownOf C.N scope).map (·.2)) σ H Q) := by
  intro σ H Q h
  refine tE_zero h fun n ρ σw G g sl h => ?_
  simp only [evE] at h
  generalize hvs : (ownOf C.N scope).map (·.2) = vs at *
  have tin : tgIn vs tg' := trT_in (C := blkCt C scope) (vs := vs) (fun x hx i hi => by rw [← hvs]; exact ownOf_ix hx hi) m tg tg' h2
  refine tR_bind (ev := fun n σ G => evI L.T n d it σ G) g sl h fun ρ1 iv G1 J H1 s1 g1 sl1 jr h => ?_
  intro D hD
  have slv : Rs L.N ρ1 H1 (wipeW σw vs) (L2.wipe σ vs) := sl1.wipe vs
  refine ⟨fun i fuel H => ∃ ρ2 G2 acc xs, Stp ρ1 H1 ρ2 H ∧ Rg L.N ρ2 G2 H ∧ D ∉ ρ2 ∧ H D = some (.lst xs) ∧ Rws L.N ρ2 H acc xs ∧
    QG L.N (Rw L.N) Q (WE W σ) ((evL L.T fuel d iv i tg' ifs' e' (wipeW σw vs) vs acc G2).nox.bind fun ws G3 => ofOG (newL G3 ws)) ρ1 H1, ⟨n, ρ1, G1, [], [], Stp.laid hD, g1.laid hD, g1.fresh hD, upd_same, rfl, h⟩, ?_⟩
  rintro i fuel H2 ⟨ρ2, G2, acc, xs, s2, g2, nD, eD, ra, h⟩
  cases fuel with
  | zero => simp only [evL] at h; exact h.elim
  | succ fuel =>
    have jr2 := jr ρ2 G2 H2 i s2 g2
    cases hat : iv.at G2 i with
    | none => rw [evL_bad hat] at h; exact h.elim
    | some ow =>
      rw [hat] at jr2
      cases ow with
      | none =>
        refine .inl ⟨jr2, ?_⟩
        rw [evL_end hat] at h
        have h : QG L.N (Rw L.N) Q (WE W σ) (ofOG (newL G2 acc)) ρ1 H1 := h
        obtain ⟨w, G', e, h5⟩ := QG.ofOG h
        unfold newL at e
        split at e
        · cases e
          have st : Stp ρ1 H1 (ρ2 ++ [D]) H2 := by
            refine ⟨?_, fun a ma na => ?_, s2.keep⟩
            · obtain ⟨r, rfl⟩ := s2.pre
              exact ⟨r ++ [D], by rw [List.append_assoc]⟩
            · rcases List.mem_append.mp ma with ma | ma
              · exact s2.new a ma na
              · rw [List.mem_singleton.mp ma]
                exact hD
          refine h5 (ρ2 ++ [D]) (.ref D) H2 st ⟨?_, ?_, fun a ma => ?_, fun k o e => ?_⟩ ⟨D, ?_, rfl⟩
          · rw [List.nodup_append]
            refine ⟨g2.nd, by simp, fun x hx y hy e => ?_⟩
            rw [List.mem_singleton.mp hy] at e
            exact nD (e ▸ hx)
          · rw [List.length_append, g2.sz]
            rfl
          · rcases List.mem_append.mp ma with ma | ma
            · exact g2.ok a ma
            · rw [List.mem_singleton.mp ma]
              exact ⟨_, eD, (show okHO (.lst xs) from True.intro)⟩
          · rw [GH.get_push] at e
            by_cases hk : k = G2.sz
            · rw [if_pos hk] at e
              cases e
              refine ⟨D, ?_, xs, eD, Rws.grow _ ra⟩
              rw [hk, ← g2.sz, List.getElem?_append_right (Nat.le_refl _)]
              simp
            · rw [if_neg hk] at e
              obtain ⟨a, k1, k2⟩ := g2.at_ k o e
              obtain ⟨hn, _⟩ := List.getElem?_eq_some_iff.mp k1
              exact ⟨a, by rw [List.getElem?_append_left hn]; exact k1, Ro.grow k2⟩
          · rw [← g2.sz, List.getElem?_append_right (Nat.le_refl _)]
            simp
        · cases e
      | some w =>
        obtain ⟨hgo, hy⟩ := jr2
        refine .inr ⟨hgo, fun H' => ∃ ρ2 G2 acc xs, Stp ρ1 H1 ρ2 H' ∧ Rg L.N ρ2 G2 H' ∧ D ∉ ρ2 ∧ H' D = some (.lst xs) ∧ Rws L.N ρ2 H' acc xs ∧
          QG L.N (Rw L.N) Q (WE W σ) ((evL L.T fuel d iv (i + 1) tg' ifs' e' (wipeW σw vs) vs acc G2).nox.bind fun ws G3 => ofOG (newL G3 ws)) ρ1 H1, fun H' hn => ⟨fuel, Nat.lt_succ_self _, hn⟩, fun x H3 yy => ?_⟩
        obtain ⟨s3, g3, rx⟩ := hy x H3 yy
        have eD3 : H3 D = some (.lst xs) := s3.keep D _ eD nD
        have ra3 := ra.stp g2 s3 acc
        have slv3 := slv.stp g1 (s2.trans s3)
        cases hasg : asgT tg' w (wipeW σw vs) with
        | none =>
          rw [evL_asg hat hasg] at h
          exact h.elim
        | some σ1 =>
          rw [b.k]
          refine gT_ok g3 tg' slv3 rx hasg fun σ2 sl2 wip => ⟨?_, ?_⟩
          · rw [wip vs tin]
            apply List.ext_getElem?
            intro j
            rw [wipe_at, wipe_length]
            rw [wipe_at]
            by_cases c : j ∈ vs ∧ j < σ.length
            · rw [if_pos c, if_pos c]
            · rw [if_neg c, if_neg c]
          · have s13 := s2.trans s3
            have elem : ∀ (ρ4 : List Addr) (G4 : GH) (H4 : Hp), Stp ρ2 H3 ρ4 H4 → Rg L.N ρ4 G4 H4 →
                QG L.N (Rw L.N) Q (WE W σ) (((evE L.T fuel d e' σ1 G4).bind fun u G1 => if decide (acc.length < sizeLine) then evL L.T fuel d iv (i + 1) tg' ifs' e' (wipeW σw vs) vs (acc ++ [u]) G1 else .bad).nox.bind fun ws G3 => ofOG (newL G3 ws)) ρ1 H1 →
                tE L d (fun _ _ _ _ => False) e' σ2 H4 (fun y H5 => ∃ acc', H5 D = some (.lst acc') ∧ acc'.length < sizeLine ∧ ∃ ρ2 G2 acc xs, Stp ρ1 H1 ρ2 (upd H5 D (.lst (acc' ++ [y]))) ∧ Rg L.N ρ2 G2 (upd H5 D (.lst (acc' ++ [y]))) ∧ D ∉ ρ2 ∧ (upd H5 D (.lst (acc' ++ [y]))) D = some (.lst xs) ∧ Rws L.N ρ2 (upd H5 D (.lst (acc' ++ [y]))) acc xs ∧
                  QG L.N (Rw L.N) Q (WE W σ) ((evL L.T fuel d iv (i + 1) tg' ifs' e' (wipeW σw vs) vs acc G2).nox.bind fun ws G3 => ofOG (newL G3 ws)) ρ1 H1) := by
              intro ρ4 G4 H4 s4 g4 h
              refine ⟨fuel, ρ4, σ1, G4, g4, sl2.stp g3 s4, (QG.bindN h (s13.trans s4)).mono fun y H5 ⟨ρ5, u, G5, s5, g5, r5, h5⟩ => ?_⟩
              have nD4 := s4.out eD3 nD
              have eD4 := s4.keep D _ eD3 nD
              have nD5 := s5.out eD4 nD4
              have eD5 := s5.keep D _ eD4 nD4
              have ra5 := (ra3.stp g3 s4 acc).stp g4 s5 acc
              have st5 := (s13.trans s4).trans s5
              by_cases hlt : decide (acc.length < sizeLine) = true
              · rw [if_pos hlt] at h5
                obtain ⟨o1, o2⟩ := g5.other (ys := xs ++ [y]) nD5 eD5
                exact ⟨xs, eD5, by rw [← ra5.len]; exact of_decide_eq_true hlt, ρ5, G5, acc ++ [u], xs ++ [y], st5.over hD, o1, nD5, upd_same, o2 _ _ (ra5.append (Rws.one r5)), h5⟩
              · rw [if_neg hlt] at h5
                exact h5.elim
            cases ifs' with
            | nil =>
              rw [evL_go0 hat hasg] at h
              exact elem ρ2 G2 H3 (Stp.refl _ _) g3 h
            | cons c r =>
              cases r with
              | nil =>
                rw [evL_go1 hat hasg] at h
                refine ⟨fuel, ρ2, σ1, G2, g3, sl2, (QG.bindN h s13).mono fun k H4 ⟨ρ4, k', G4, s4, g4, r4, h4⟩ => ?_⟩
                rw [← show k' = k from r4]
                cases k' with
                | true => exact elem ρ4 G4 H4 s4 g4 h4
                | false =>
                  have nD4 := s4.out eD3 nD
                  have eD4 := s4.keep D _ eD3 nD
                  exact ⟨ρ4, G4, acc, xs, s13.trans s4, g4, nD4, eD4, ra3.stp g3 s4 acc, h4⟩
              | cons c' r =>
                rw [evL_go2 hat hasg] at h
                exact h.elim
end
end PM

set_option maxHeartbeats 4000000
/-! PmM: expressions keep to the small Python: the induction. -/
namespace PM
open PySem PySem.Spec PyProof.Rows L2
section
variable {L : Pg} {X : Cx} {C : Ct} {W : WX} {d m : Nat}
theorem sd_zero : Sd L 0 where
  e := fun _ h => by simp only [trE] at h; cases h
  t := fun _ _ h => by simp only [trE] at h; cases h
  o := fun _ h => by simp only [trO] at h; cases h
  b := fun _ h => by simp only [trB] at h; cases h
  w := fun _ h => by simp only [trB] at h; cases h
  es := fun _ h => by simp only [trEs] at h; cases h
  k := fun _ h => by simp only [trK] at h; cases h
  a := fun _ h => by simp only [trA] at h; cases h
  i := fun _ h => by simp only [trI] at h; cases h
theorem plainIx_of {b : Expr} (h : isSlice b = false) : PlainIx b := by
  intro o i
  cases b <;> first | rfl | cases h
theorem qg_bind_ofO {α γ δ : Type} {N : En} {rel2 : List Addr → Hp → γ → δ → Prop} {Q2 : δ → Hp → Prop} {E : XK} {ρ : List Addr} {H : Hp} {G : GH} {o : Option α} {f : α → GH → R γ} (h : QG N rel2 Q2 E ((PM.ofO o G).bind f) ρ H) : ∃ a, o = some a ∧ QG N rel2 Q2 E (f a G) ρ H := by
  cases o with
  | none => exact (show False from h).elim
  | some a => exact ⟨a, rfl, h⟩
theorem lc_pe (sd : Sd L m) (b : Bk L X C W d) {elt tg iter : Expr} {ifs : List Expr} {scope : Scope} {pos : Pos} {it : PM.It} {tg' : Tg} {ifs' : List E} {e' : E} (ok : blkC C.N C.sc scope (ownOf C.N scope) = true) (hset : isSet iter = false)
    (h1 : trI L.g m C tg iter = some it) (h2 : trT (blkCt C scope) m tg = some tg') (h3 : (ifs = [] ∧ ifs' = []) ∨ ∃ c c', ifs = [c] ∧ ifs' = [c'] ∧ isIfE c = false ∧ trE L.g m (blkCt C scope) c = some c') (h4 : trE L.g m (blkCt C scope) elt = some e') :
    (∀ (s : Shared) (H : Hp) (D : Addr) (cl : List (Str × Addr)) (fp : List Addr), PG (X.blk s H scope (compEnvC scope cl D X.env) fp) tg (gT X.K tg')) ∧
    (∀ (s : Shared) (H : Hp) (D : Addr) (cl : List (Str × Addr)) (fp : List Addr), PTs (X.blk s H scope (compEnvC scope cl D X.env) fp) ifs (tIfs L d ifs')) ∧
    (∀ (s : Shared) (H : Hp) (D : Addr) (cl : List (Str × Addr)) (fp : List Addr), PE (X.blk s H scope (compEnvC scope cl D X.env) fp) elt (tE L d (fun _ _ _ _ => False) e')) ∧ (∀ x, foldedSetIterable iter X.env x = pure x) ∧ BlkOk X.N X.env.scope scope (ownOf C.N scope) := by
  refine ⟨fun s H D cl fp => trT_pg (b.blk ok s H D cl fp) m tg tg' h2, fun s H D cl fp => ?_, fun s H D cl fp => sd.e (b.blk ok s H D cl fp) h4, fun x => ?_, ?_⟩
  · rcases h3 with ⟨rfl, rfl⟩ | ⟨c, c', rfl, rfl, hi, h3⟩
    · exact pts_nil
    · exact pts_one (sd.t (b.blk ok s H D cl fp) hi h3)
  · cases iter <;> first | rfl | cases hset
  · rw [b.n, b.sc]
    exact blkOk_by ok
/-- expressions -/
theorem step_e (lk : Lk L) (sd : Sd L m) (b : Bk L X C W d) {e : Expr} {e' : E} (h : trE L.g (m + 1) C e = some e') : PE X e (tE L d W e') := by
  cases e with
  | Constant c k pos =>
    cases c with
    | none => simp only [trE] at h; cases h; exact cst_ok pe_non fun _ _ => rfl
    | bool x => simp only [trE] at h; cases h; exact cst_ok pe_bl fun _ _ => rfl
    | int x => simp only [trE] at h; cases h; exact cst_ok pe_int fun _ _ => rfl
    | str x => simp only [trE] at h; cases h; exact cst_ok pe_str fun _ _ => rfl
    | _ => simp only [trE] at h; cases h
  | Name x pos =>
    simp only [trE] at h
    split at h
    · rename_i hn
      obtain ⟨n1, n2, n3⟩ := okName_ok hn
      split at h
      · rename_i hv
        obtain ⟨i, hi, rfl⟩ := Option.map_eq_some_iff.mp h
        refine peI (pe_var (b.ix hi) (b.vis hv) n1 n2) fun σ H Q h => tE_zero h fun n ρ σw G g s h => ?_
        simp only [evE] at h
        split at h
        · rename_i w e
          obtain ⟨v, e1, r⟩ := s.2 i w e
          exact ⟨v, e1, h.done g r⟩
        · exact h.elim
      · split at h
        · rename_i hg
          obtain ⟨w, hw, rfl⟩ := Option.map_eq_some_iff.mp h
          exact glob_ok lk b hn hg hw
        · cases h
    · cases h
  | BinOp a op c pos =>
    simp only [trE] at h
    obtain ⟨o, ho, h⟩ := bd1 h
    obtain ⟨a', ha, h⟩ := bd1 h
    obtain ⟨c', hc, h⟩ := bd1 h
    cases h
    rw [opB_un ho]
    refine peI (pe_op (op_bin b.k.symm o) (sd.e b ha) (sd.e b hc)) fun σ H Q h => tE_zero h fun n ρ σw G g s h => ?_
    simp only [evE] at h
    refine tR_bind (ev := fun n σ G => evE L.T n d a' σ G) g s h fun ρ1 wx G1 x H1 s1 g1 sl1 r1 h1 => ?_
    refine tR_bind (ev := fun n σ G => evE L.T n d c' σ G) g1 sl1 h1 fun ρ2 wy G2 y H2 s2 g2 sl2 r2 h2 => ?_
    exact ⟨ρ2, G2, wx, wy, _, g2, r1.stp g1 s2 _, r2, h2⟩
  | UnaryOp op a pos =>
    simp only [trE] at h
    cases op with
    | Not =>
      have h : (if isIfE a = true then none else (trE L.g m C a).bind fun a' => some (.not a')) = some e' := h
      split at h
      · cases h
      obtain ⟨a', ha, h⟩ := bd1 h
      cases h
      refine peI (pe_notT (sd.e b ha)) fun σ H Q h => tE_zero h fun n ρ σw G g s h => ?_
      simp only [evE] at h
      refine tR_bind (ev := fun n σ G => evE L.T n d a' σ G) g s h fun ρ1 wx G1 x H1 s1 g1 sl1 r1 h1 => ?_
      obtain ⟨k, e, h2⟩ := qg_bind_ofO h1
      refine ⟨k, ?_, h2.done g1 rfl⟩
      rw [b.k]
      exact tru_V g1 r1 e
    | USub =>
      obtain ⟨a', ha, h⟩ := bd1 h
      cases h
      refine peI (pe_un (op_neg (N := L.N)) (sd.e b ha)) fun σ H Q h => tE_zero h fun n ρ σw G g s h => ?_
      simp only [evE] at h
      refine tR_bind (ev := fun n σ G => evE L.T n d a' σ G) g s h fun ρ1 wx G1 x H1 s1 g1 sl1 r1 h1 => ?_
      exact ⟨ρ1, G1, wx, _, g1, r1, h1⟩
    | _ => cases h
  | BoolOp op vs pos =>
    simp only [trE] at h
    exact sd.b b h
  | IfExp c x y pos =>
    simp only [trE] at h
    split at h
    · cases h
    · rename_i hi
      obtain ⟨c', hc, h⟩ := bd1 h
      obtain ⟨x', hx, h⟩ := bd1 h
      obtain ⟨y', hy, h⟩ := bd1 h
      cases h
      refine peI (pe_ifExp (sd.t b (by simpa using hi) hc) (sd.e b hx) (sd.e b hy)) fun σ H Q h => tE_zero h fun n ρ σw G g s h => ?_
      simp only [evE] at h
      rw [← R.assoc] at h
      refine tR_bind (ev := fun n σ G => (evE L.T n d c' σ G).bind fun x G1 => ofO (tru G1 x) G1) g s h fun ρ1 k G1 k' H1 s1 g1 sl1 r1 h1 => ?_
      rw [← show k = k' from r1]
      cases k with
      | true => exact ⟨n, ρ1, σw, G1, g1, sl1, h1⟩
      | false => exact ⟨n, ρ1, σw, G1, g1, sl1, h1⟩
  | Compare a ops bs pos =>
    simp only [trE] at h
    split at h
    · rename_i op c
      split at h
      · cases h
      · rename_i hset
        obtain ⟨o, ho, h⟩ := bd1 h
        obtain ⟨a', ha, h⟩ := bd1 h
        obtain ⟨c', hc, h⟩ := bd1 h
        cases h
        rw [opC_un ho]
        have hm : behindInMarks (unC o) c = false := by
          cases c <;> first | rfl | (exact absurd rfl hset)
        refine peI (pe_cmpR (op_cmp b.k.symm b.room.units o) (sd.e b ha) (sd.e b hc) hm) fun σ H Q h => tE_zero h fun n ρ σw G g s h => ?_
        simp only [evE] at h
        refine tR_bind (ev := fun n σ G => evE L.T n d a' σ G) g s h fun ρ1 wx G1 x H1 s1 g1 sl1 r1 h1 => ?_
        refine tR_bind (ev := fun n σ G => evE L.T n d c' σ G) g1 sl1 h1 fun ρ2 wy G2 y H2 s2 g2 sl2 r2 h2 => ?_
        exact ⟨ρ2, G2, wx, wy, _, g2, r1.stp g1 s2 _, r2, h2⟩
    · cases h
  | Tuple es k pos =>
    simp only [trE] at h
    obtain ⟨es', h1, h⟩ := bd1 h
    cases h
    refine peI (pe_tup (sd.a b h1)) fun σ H Q h => tE_zero h fun n ρ σw G g s h => ?_
    simp only [evE] at h
    refine tR_bind (ev := fun n σ G => evA L.T n d es' σ G) g s h fun ρ1 ws G1 vs H1 s1 g1 sl1 r1 h2 => ?_
    split at h2
    · rename_i hz
      exact ⟨by rw [← r1.len]; exact szOk_le hz, fun p hp => new_tup g1 h2 r1 hp⟩
    · exact h2.elim
  | List es pos =>
    simp only [trE] at h
    obtain ⟨es', h1, h⟩ := bd1 h
    cases h
    refine peI (pe_lst (sd.a b h1)) fun σ H Q h => tE_zero h fun n ρ σw G g s h => ?_
    simp only [evE] at h
    refine tR_bind (ev := fun n σ G => evA L.T n d es' σ G) g s h fun ρ1 ws G1 vs H1 s1 g1 sl1 r1 h2 => ?_
    obtain ⟨w, G', e, _⟩ := QG.ofOG h2
    exact ⟨by rw [← r1.len]; exact newL_sz e, fun p hp => new_lst g1 h2 r1 hp⟩
  | Subscript a i pos =>
    have two : isSlice i = false → (trE L.g m C a).bind (fun a' => (trE L.g m C i).bind fun i' => some (.ix a' i')) = some e' → PE X (.Subscript a i pos) (tE L d W e') := by
      intro hi h
      obtain ⟨a', ha, h⟩ := bd1 h
      obtain ⟨i', hi', h⟩ := bd1 h
      cases h
      refine peI (pe_ix (op_ix b.k.symm) (sd.e b ha) (sd.e b hi') (plainIx_of hi)) fun σ H Q h => tE_zero h fun n ρ σw G g s h => ?_
      simp only [evE] at h
      refine tR_bind (ev := fun n σ G => evE L.T n d a' σ G) g s h fun ρ1 wx G1 x H1 s1 g1 sl1 r1 h1 => ?_
      refine tR_bind (ev := fun n σ G => evE L.T n d i' σ G) g1 sl1 h1 fun ρ2 wy G2 y H2 s2 g2 sl2 r2 h2 => ?_
      exact ⟨ρ2, G2, wx, wy, _, g2, r1.stp g1 s2 _, r2, h2⟩
    cases i with
    | Slice lo hi st p2 =>
      cases st with
      | none =>
        simp only [trE] at h
        obtain ⟨a', ha, h⟩ := bd1 h
        obtain ⟨lo', hlo, h⟩ := bd1 h
        obtain ⟨hi', hhi, h⟩ := bd1 h
        cases h
        refine peI (pe_slice (op_sl b.k.symm) (sd.e b ha) (sd.o b hlo) (sd.o b hhi)) fun σ H Q h => tE_zero h fun n ρ σw G g s h => ?_
        simp only [evE] at h
        refine tR_bind (ev := fun n σ G => evE L.T n d a' σ G) g s h fun ρ1 wx G1 x H1 s1 g1 sl1 r1 h1 => ?_
        refine tR_bind (ev := fun n σ G => (evE L.T n d lo' σ G).bind fun x G1 => ofO (optI x) G1) g1 sl1 h1 fun ρ2 l G2 l' H2 s2 g2 sl2 r2 h2 => ?_
        refine tR_bind (ev := fun n σ G => (evE L.T n d hi' σ G).bind fun x G1 => ofO (optI x) G1) g2 sl2 h2 fun ρ3 u G3 u' H3 s3 g3 sl3 r3 h3 => ?_
        rw [← show l = l' from r2, ← show u = u' from r3]
        exact ⟨ρ3, G3, wx, _, g3, (r1.stp g1 s2 _).stp g2 s3 _, h3⟩
      | some st => simp [trE, isSlice] at h
    | _ =>
      simp only [trE, isSlice, Bool.false_eq_true, if_false] at h
      exact two rfl h
  | Attribute o f pos =>
    simp only [trE] at h
    split at h
    · cases h
    · rename_i hs
      obtain ⟨o', ho, h⟩ := bd1 h
      obtain ⟨f', hf, h⟩ := bd1 h
      cases h
      exact att_ok lk b (by simpa using hs) (sd.e b ho) hf
  | Call fe es kws pos =>
    cases fe with
    | Name x p =>
      simp only [trE] at h
      split at h
      · rename_i hng
        rw [Bool.and_eq_true] at hng
        split at h
        · rename_i f hf
          split at h
          · rename_i hk
            obtain ⟨bd, hs, h⟩ := bd1 h
            obtain ⟨es', h1, h⟩ := bd1 h
            obtain ⟨ks', h2, h⟩ := bd1 h
            cases h
            exact call_ok lk b sd hng.1 hng.2 hf hk hs h1 h2
          · cases h
        · split at h
          · rename_i c hc
            split at h
            · rename_i hk
              obtain ⟨bd, hs, h⟩ := bd1 h
              obtain ⟨es', h1, h⟩ := bd1 h
              obtain ⟨ks', h2, h⟩ := bd1 h
              cases h
              exact mk_ok lk b sd hng.1 hng.2 hc hk hs h1 h2
            · cases h
          · split at h
            · rename_i hf
              rw [Bool.and_eq_true] at hf
              obtain ⟨f, hb, h⟩ := bd1 h
              obtain ⟨es', h1, h⟩ := bd1 h
              cases h
              have : kws = [] := List.isEmpty_iff.mp hf.2
              subst this
              exact blt_ok lk b sd hng.1 hng.2 hf.1 hb h1
            · cases h
      · cases h
    | Attribute o nm apos =>
      simp only [trE] at h
      split at h
      · rename_i hc
        rw [Bool.and_eq_true, Bool.and_eq_true, Bool.and_eq_true] at hc
        obtain ⟨o', ho, h⟩ := bd1 h
        obtain ⟨m', hm, h⟩ := bd1 h
        obtain ⟨es', h1, h⟩ := bd1 h
        cases h
        have : kws = [] := List.isEmpty_iff.mp hc.1
        subst this
        exact met_ok lk b sd hc.2.1 (by simpa using hc.2.2.1) (of_decide_eq_true hc.2.2.2) ho hm h1
      · cases h
    | _ => simp only [trE] at h; cases h
  | ListComp elt gens scope pos =>
    simp only [trE] at h
    split at h
    · rename_i tg iter ifs
      split at h
      · rename_i hc
        rw [Bool.and_eq_true] at hc
        obtain ⟨it, h1, h⟩ := bd1 h
        obtain ⟨tg', h2, h⟩ := bd1 h
        obtain ⟨ifs', h3, h⟩ := bd1 h
        obtain ⟨e1, h4, h⟩ := bd1 h
        cases h
        have hset : isSet iter = false := by simpa using hc.2
        have h3' : (ifs = [] ∧ ifs' = []) ∨ ∃ c c', ifs = [c] ∧ ifs' = [c'] ∧ isIfE c = false ∧ trE L.g m (blkCt C scope) c = some c' := by
          clear h h1 h2 h4
          cases ifs with
          | nil =>
            cases h3
            exact .inl ⟨rfl, rfl⟩
          | cons c r =>
            cases r with
            | nil =>
              have h3 : (if isIfE c = true then none else (trE L.g m (blkCt C scope) c).map fun x => [x]) = some ifs' := h3
              split at h3
              · cases h3
              · rename_i hi
                obtain ⟨c', e1, rfl⟩ := Option.map_eq_some_iff.mp h3
                exact .inr ⟨c, c', rfl, rfl, by simpa using hi, e1⟩
            | cons _ _ => cases h3
        obtain ⟨p1, p2, p3, p4, p5⟩ := lc_pe (pos := pos) sd b hc.1 hset h1 h2 h3' h4
        exact peI (pe_lc b.calm b.nd (sd.i b h1) p5 p1 p2 p3 p4) (lc_ok b h2)
      · cases h
    · cases h
  | _ => simp only [trE] at h; cases h

/-- tests -/
theorem step_t (lk : Lk L) (sd : Sd L m) (b : Bk L X C W d) {e : Expr} {e' : E} (hi : isIfE e = false) (h : trE L.g (m + 1) C e = some e') : PT X e (tT L d W e') := by
  by_cases hp : plainT e = true
  · exact pt_of b hp (step_e lk sd b h)
  · cases e with
    | UnaryOp op a pos =>
      cases op with
      | Not =>
        simp only [trE] at h
        have h : (if isIfE a = true then none else (trE L.g m C a).bind fun a' => some (.not a')) = some e' := h
        split at h
        · cases h
        rename_i hia
        obtain ⟨a', ha, h⟩ := bd1 h
        cases h
        refine ptI (pt_not (sd.t b (by simpa using hia) ha)) fun σ H Q ⟨n, ρ, σw, G, g, s, h⟩ => ?_
        cases n with
        | zero => simp only [evE] at h; exact (show False from h).elim
        | succ n =>
          simp only [evE] at h
          rw [R.assoc] at h
          have h' : QG L.N Rb Q (WE W σ) (((evE L.T n d a' σw G).bind fun x G1 => PM.ofO (tru G1 x) G1).bind fun k G1 => .ok (!k) G1) ρ H := by
            rw [R.assoc]
            have e : ∀ (x : PM.W) (G1 : GH), ((PM.ofO (tru G1 x) G1).bind fun k G1 => (R.ok (PM.W.bl (!k)) G1)).bind (fun x G1 => PM.ofO (tru G1 x) G1) = (PM.ofO (tru G1 x) G1).bind fun k G1 => .ok (!k) G1 := fun x G1 => by
              cases tru G1 x <;> rfl
            simp only [e] at h
            exact h
          refine tR_bind (ev := fun n σ G => (evE L.T n d a' σ G).bind fun x G1 => ofO (tru G1 x) G1) g s h' fun ρ1 k G1 k' H1 s1 g1 sl1 r1 h1 => ?_
          rw [← show k = k' from r1]
          exact h1.done g1 rfl
      | _ => exact absurd rfl hp
    | BoolOp op vs pos =>
      simp only [trE] at h
      exact (sd.w b h).pt
    | IfExp _ _ _ _ => cases hi
    | Compare a ops bs pos =>
      simp only [trE] at h
      split at h
      · rename_i op c
        split at h
        · cases h
        · rename_i hset
          obtain ⟨o, ho, h⟩ := bd1 h
          obtain ⟨a', ha, h⟩ := bd1 h
          obtain ⟨c', hc, h⟩ := bd1 h
          cases h
          rw [opC_un ho]
          have hm : behindInMarks (unC o) c = false := by
            cases c <;> first | rfl | (exact absurd rfl hset)
          refine ptI (pt_cmpR (op_cmp b.k.symm b.room.units o) (sd.e b ha) (sd.e b hc) hm) fun σ H Q ⟨n, ρ, σw, G, g, s, h⟩ => ?_
          cases n with
          | zero => simp only [evE] at h; exact (show False from h).elim
          | succ n =>
            simp only [evE] at h
            rw [R.assoc] at h
            refine tR_bind (ev := fun n σ G => evE L.T n d a' σ G) g s h fun ρ1 wx G1 x H1 s1 g1 sl1 r1 h1 => ?_
            rw [R.assoc] at h1
            refine tR_bind (ev := fun n σ G => evE L.T n d c' σ G) g1 sl1 h1 fun ρ2 wy G2 y H2 s2 g2 sl2 r2 h2 => ?_
            refine ⟨ρ2, G2, wx, wy, WE W σ, g2, r1.stp g1 s2 _, r2, ?_⟩
            have h2 : QG L.N Rb Q (WE W σ) ((PM.ofO ((cmpop o wx wy G2).map PM.W.bl) G2).bind fun x G1 => PM.ofO (tru G1 x) G1) ρ2 H2 := h2
            cases e : cmpop o wx wy G2 with
            | none =>
              rw [e] at h2
              exact (show False from h2).elim
            | some k =>
              rw [e] at h2
              have h2 : QG L.N Rb Q (WE W σ) (.ok k G2) ρ2 H2 := h2
              show QC L.N (fun x H' => ∃ k, x = V.bl k ∧ Q k H') (WE W σ) (PM.ofO ((cmpop o wx wy G2).map PM.W.bl) G2) ρ2 H2
              rw [e]
              show ∀ ρ' b H', Stp ρ2 H2 ρ' H' → Rg L.N ρ' G2 H' → Rw L.N ρ' H' (.bl k) b → ∃ k, b = V.bl k ∧ Q k H'
              exact fun ρ3 v H3 s3 g3 r3 => ⟨k, r3, h2 ρ3 k H3 s3 g3 rfl⟩
      · cases h
    | _ => exact absurd rfl hp
theorem step_o (sd : Sd L m) (b : Bk L X C W d) {e : Option Expr} {e' : E} (h : trO L.g (m + 1) C e = some e') : PO X e (tO L d W e') := by
  cases e with
  | none =>
    simp only [trO] at h
    cases h
    refine poI po_none fun σ H Q ⟨n, ρ, σw, G, g, s, h⟩ => ?_
    cases n with
    | zero => simp only [evE] at h; exact (show False from h).elim
    | succ n => simp only [evE] at h; exact QG.done h g rfl
  | some e =>
    simp only [trO] at h
    refine poI (po_some2 (sd.e b h)) fun σ H Q ⟨n, ρ, σw, G, g, s, h⟩ => ?_
    refine tR_bind (ev := fun n σ G => evE L.T n d e' σ G) g s h fun ρ1 w G1 x H1 s1 g1 sl1 r1 h1 => ?_
    obtain ⟨k, e, h2⟩ := QG.ofO h1
    cases w with
    | non =>
      cases e
      exact .inl ⟨r1, h2.done g1 rfl⟩
    | int i =>
      cases e
      exact .inr ⟨i, r1, h2.done g1 rfl⟩
    | _ => cases e
theorem step_b (sd : Sd L m) (b : Bk L X C W d) {op : BoolOp} {es : List Expr} {e' : E} {pos : Pos} (h : trB L.g (m + 1) C op es = some e') : PE X (.BoolOp op es pos) (tE L d W e') := by
  cases es with
  | nil => simp only [trB] at h; cases h
  | cons a r =>
    cases r with
    | nil =>
      simp only [trB] at h
      split at h
      · cases h
      · exact pe_one (sd.e b h)
    | cons a2 r =>
      simp only [trB] at h
      split at h
      · cases h
      · obtain ⟨a', ha, h⟩ := bd1 h
        obtain ⟨r', hr, h⟩ := bd1 h
        cases op with
        | And =>
          cases h
          refine peI (pe_andT (sd.e b ha) (sd.b b hr)) fun σ H Q h => tE_zero h fun n ρ σw G g s h => ?_
          simp only [evE] at h
          refine tR_bind (ev := fun n σ G => evE L.T n d a' σ G) g s h fun ρ1 wx G1 x H1 s1 g1 sl1 r1 h1 => ?_
          obtain ⟨k, e, h2⟩ := qg_bind_ofO h1
          refine ⟨k, by rw [b.k]; exact tru_V g1 r1 e, ?_⟩
          cases k with
          | true => exact ⟨n, ρ1, σw, G1, g1, sl1, h2⟩
          | false => exact QG.done h2 g1 r1
        | Or =>
          cases h
          refine peI (pe_orT (sd.e b ha) (sd.b b hr)) fun σ H Q h => tE_zero h fun n ρ σw G g s h => ?_
          simp only [evE] at h
          refine tR_bind (ev := fun n σ G => evE L.T n d a' σ G) g s h fun ρ1 wx G1 x H1 s1 g1 sl1 r1 h1 => ?_
          obtain ⟨k, e, h2⟩ := qg_bind_ofO h1
          refine ⟨k, by rw [b.k]; exact tru_V g1 r1 e, ?_⟩
          cases k with
          | true => exact QG.done h2 g1 r1
          | false => exact ⟨n, ρ1, σw, G1, g1, sl1, h2⟩
theorem step_w (sd : Sd L m) (b : Bk L X C W d) {op : BoolOp} {es : List Expr} {e' : E} {pos : Pos} (h : trB L.g (m + 1) C op es = some e') : PW X (.BoolOp op es pos) (tT L d W e') := by
  cases es with
  | nil => simp only [trB] at h; cases h
  | cons a r =>
    cases r with
    | nil =>
      simp only [trB] at h
      split at h
      · cases h
      · rename_i hi
        cases op with
        | And => exact pw_and1 (sd.t b (by simpa using hi) h)
        | Or => exact pw_or1 (sd.t b (by simpa using hi) h)
    | cons a2 r =>
      simp only [trB] at h
      split at h
      · cases h
      · rename_i hi
        obtain ⟨a', ha, h⟩ := bd1 h
        obtain ⟨r', hr, h⟩ := bd1 h
        have key : ∀ (n : Nat) (σw : Sg) (G : GH) (F : Bool → PM.W → GH → R PM.W), (((evE L.T n d a' σw G).bind fun x G1 => (PM.ofO (tru G1 x) G1).bind fun k G1 => F k x G1).bind fun x G1 => PM.ofO (tru G1 x) G1) = (evE L.T n d a' σw G).bind fun x G1 => (PM.ofO (tru G1 x) G1).bind fun k G1 => (F k x G1).bind fun x G1 => PM.ofO (tru G1 x) G1 := fun n σw G F => by
          rw [R.assoc]
          congr 1
          funext x G1
          rw [R.assoc]
        cases op with
        | And =>
          cases h
          refine pwI (pw_and (sd.t b (by simpa using hi) ha) (sd.w b hr)) fun σ H Q ⟨n, ρ, σw, G, g, s, h⟩ => ?_
          cases n with
          | zero => simp only [evE] at h; exact (show False from h).elim
          | succ n =>
            simp only [evE] at h
            rw [key n σw G fun k x G1 => if k then evE L.T n d r' σw G1 else .ok x G1] at h
            have h' : QG L.N Rb Q (WE W σ) (((evE L.T n d a' σw G).bind fun x G1 => PM.ofO (tru G1 x) G1).bind fun k G1 => if k then (evE L.T n d r' σw G1).bind fun x G1 => PM.ofO (tru G1 x) G1 else .ok false G1) ρ H := by
              rw [R.assoc]
              have e : ∀ (x : PM.W) (G1 : GH), ((PM.ofO (tru G1 x) G1).bind fun k G1 => (if k then evE L.T n d r' σw G1 else R.ok x G1).bind fun x G1 => PM.ofO (tru G1 x) G1) = (PM.ofO (tru G1 x) G1).bind fun k G1 => if k then (evE L.T n d r' σw G1).bind fun x G1 => PM.ofO (tru G1 x) G1 else .ok false G1 := fun x G1 => by
                cases e : tru G1 x with
                | none => rfl
                | some k =>
                  cases k with
                  | true => rfl
                  | false =>
                    show PM.ofO (tru G1 x) G1 = R.ok false G1
                    rw [e]
                    rfl
              simp only [e] at h
              exact h
            refine tR_bind (ev := fun n σ G => (evE L.T n d a' σ G).bind fun x G1 => ofO (tru G1 x) G1) g s h' fun ρ1 k G1 k' H1 s1 g1 sl1 r1 h1 => ?_
            · rw [← show k = k' from r1]
              cases k with
              | true => exact ⟨n, ρ1, σw, G1, g1, sl1, h1⟩
              | false => exact QG.done h1 g1 rfl
        | Or =>
          cases h
          refine pwI (pw_or (sd.t b (by simpa using hi) ha) (sd.w b hr)) fun σ H Q ⟨n, ρ, σw, G, g, s, h⟩ => ?_
          cases n with
          | zero => simp only [evE] at h; exact (show False from h).elim
          | succ n =>
            simp only [evE] at h
            rw [key n σw G fun k x G1 => if k then .ok x G1 else evE L.T n d r' σw G1] at h
            have h' : QG L.N Rb Q (WE W σ) (((evE L.T n d a' σw G).bind fun x G1 => PM.ofO (tru G1 x) G1).bind fun k G1 => if k then .ok true G1 else (evE L.T n d r' σw G1).bind fun x G1 => PM.ofO (tru G1 x) G1) ρ H := by
              rw [R.assoc]
              have e : ∀ (x : PM.W) (G1 : GH), ((PM.ofO (tru G1 x) G1).bind fun k G1 => (if k then R.ok x G1 else evE L.T n d r' σw G1).bind fun x G1 => PM.ofO (tru G1 x) G1) = (PM.ofO (tru G1 x) G1).bind fun k G1 => if k then .ok true G1 else (evE L.T n d r' σw G1).bind fun x G1 => PM.ofO (tru G1 x) G1 := fun x G1 => by
                cases e : tru G1 x with
                | none => rfl
                | some k =>
                  cases k with
                  | false => rfl
                  | true =>
                    show PM.ofO (tru G1 x) G1 = R.ok true G1
                    rw [e]
                    rfl
              simp only [e] at h
              exact h
            refine tR_bind (ev := fun n σ G => (evE L.T n d a' σ G).bind fun x G1 => ofO (tru G1 x) G1) g s h' fun ρ1 k G1 k' H1 s1 g1 sl1 r1 h1 => ?_
            · rw [← show k = k' from r1]
              cases k with
              | false => exact ⟨n, ρ1, σw, G1, g1, sl1, h1⟩
              | true => exact QG.done h1 g1 rfl
theorem step_es (sd : Sd L m) (b : Bk L X C W d) {es : List Expr} {es' : List E} (h : trEs L.g (m + 1) C es = some es') : PA X es (tEs L d W es') ∧ es.any isStar = false := by
  cases es with
  | nil =>
    simp only [trEs] at h
    cases h
    refine ⟨paI pa_nil fun σ H Q ⟨n, ρ, σw, G, g, s, h⟩ => ?_, rfl⟩
    cases n with
    | zero => simp only [evEs] at h; exact (show False from h).elim
    | succ n => simp only [evEs] at h; exact QG.done h g rfl
  | cons e r =>
    simp only [trEs] at h
    split at h
    · cases h
    · rename_i hs
      obtain ⟨e1, he, h⟩ := bd1 h
      obtain ⟨r1, hr, h⟩ := bd1 h
      cases h
      obtain ⟨p1, p2⟩ := sd.es b hr
      have hs2 : isStar e = false := by simpa using hs
      refine ⟨paI (pa_cons (sd.e b he) p1 (star_cons hs2)) fun σ H Q ⟨n, ρ, σw, G, g, s, h⟩ => ?_, by rw [List.any_cons, hs2, p2]; rfl⟩
      cases n with
      | zero => simp only [evEs] at h; exact (show False from h).elim
      | succ n =>
        simp only [evEs] at h
        refine tR_bind (ev := fun n σ G => evE L.T n d e1 σ G) g s h fun ρ1 w G1 x H1 s1 g1 sl1 rw1 h1 => ?_
        refine tR_bind (ev := fun n σ G => evEs L.T n d r1 σ G) g1 sl1 h1 fun ρ2 ws G2 xs H2 s2 g2 sl2 rws h2 => ?_
        exact QG.done h2 g2 ⟨x, xs, rfl, rw1.stp g1 s2 _, rws⟩
theorem step_k (sd : Sd L m) (b : Bk L X C W d) {kws : List Keyword} {es' : List E} (h : trK L.g (m + 1) C kws = some es') : PK X kws (tEs L d W es') := by
  cases kws with
  | nil =>
    simp only [trK] at h
    cases h
    refine pkI pk_nil fun σ H Q ⟨n, ρ, σw, G, g, s, h⟩ => ?_
    cases n with
    | zero => simp only [evEs] at h; exact (show False from h).elim
    | succ n => simp only [evEs] at h; exact QG.done h g rfl
  | cons e r =>
    obtain ⟨nm, e, kp⟩ := e
    simp only [trK] at h
    obtain ⟨e1, he, h⟩ := bd1 h
    obtain ⟨r1, hr, h⟩ := bd1 h
    cases h
    refine pkI (pk_cons (sd.e b he) (sd.k b hr)) fun σ H Q ⟨n, ρ, σw, G, g, s, h⟩ => ?_
    cases n with
    | zero => simp only [evEs] at h; exact (show False from h).elim
    | succ n =>
      simp only [evEs] at h
      refine tR_bind (ev := fun n σ G => evE L.T n d e1 σ G) g s h fun ρ1 w G1 x H1 s1 g1 sl1 rw1 h1 => ?_
      refine tR_bind (ev := fun n σ G => evEs L.T n d r1 σ G) g1 sl1 h1 fun ρ2 ws G2 xs H2 s2 g2 sl2 rws h2 => ?_
      exact QG.done h2 g2 ⟨x, xs, rfl, rw1.stp g1 s2 _, rws⟩
theorem step_a (sd : Sd L m) (b : Bk L X C W d) {es : List Expr} {es' : List Ar} (h : trA L.g (m + 1) C es = some es') : PA X es (tA L d W es') := by
  cases es with
  | nil =>
    simp only [trA] at h
    cases h
    refine paI pa_nil fun σ H Q ⟨n, ρ, σw, G, g, s, h⟩ => ?_
    cases n with
    | zero => simp only [evA] at h; exact (show False from h).elim
    | succ n => simp only [evA] at h; exact QG.done h g rfl
  | cons e r =>
    have one : isStar e = false → ((trE L.g m C e).bind fun e' => (trA L.g m C r).bind fun r' => some (Ar.e e' :: r')) = some es' → PA X (e :: r) (tA L d W es') := by
      intro hs h
      obtain ⟨e1, he, h⟩ := bd1 h
      obtain ⟨r1, hr, h⟩ := bd1 h
      cases h
      refine paI (pa_cons (sd.e b he) (sd.a b hr) (star_cons hs)) fun σ H Q ⟨n, ρ, σw, G, g, s, h⟩ => ?_
      cases n with
      | zero => simp only [evA] at h; exact (show False from h).elim
      | succ n =>
        simp only [evA] at h
        refine tR_bind (ev := fun n σ G => evE L.T n d e1 σ G) g s h fun ρ1 w G1 x H1 s1 g1 sl1 rw1 h1 => ?_
        refine tR_bind (ev := fun n σ G => evA L.T n d r1 σ G) g1 sl1 h1 fun ρ2 ws G2 xs H2 s2 g2 sl2 rws h2 => ?_
        exact QG.done h2 g2 ⟨x, xs, rfl, rw1.stp g1 s2 _, rws⟩
    cases e with
    | Starred x sp =>
      simp only [trA] at h
      obtain ⟨e1, he, h⟩ := bd1 h
      obtain ⟨r1, hr, h⟩ := bd1 h
      cases h
      refine paI (StX.pa_star (sd.e b he) (sd.a b hr)) fun σ H Q ⟨n, ρ, σw, G, g, s, h⟩ => ?_
      cases n with
      | zero => simp only [evA] at h; exact (show False from h).elim
      | succ n =>
        simp only [evA] at h
        refine tR_bind (ev := fun n σ G => evE L.T n d e1 σ G) g s h fun ρ1 w G1 y H1 s1 g1 sl1 rw1 h1 => ?_
        obtain ⟨us, e, h2⟩ := qg_bind_ofO h1
        obtain ⟨a, xs, rfl, k1, k2⟩ := seqOf_ok g1 rw1 e
        rw [b.k]
        refine ⟨a, xs, rfl, k1.symm, ?_⟩
        refine tR_bind (ev := fun n σ G => evA L.T n d r1 σ G) g1 sl1 h2 fun ρ2 ws G2 zs H2 s2 g2 sl2 rws h3 => ?_
        exact QG.done h3 g2 ((k2.stp g1 s2 _).append rws)
    | _ =>
      simp only [trA] at h
      exact one rfl h
theorem step_i (lk : Lk L) (sd : Sd L m) (b : Bk L X C W d) {tg it : Expr} {it' : PM.It} (h : trI L.g (m + 1) C tg it = some it') : PI X tg it (tI L d W it') := by
  have gen : ∀ {e : Expr} {e' : E}, PE X e (tE L d W e') → PI X tg e (tI L d W (.e e')) := fun {e e'} he => by
    refine piI (pi_any he) fun σ H R ⟨n, ρ, σw, G, g, s, h⟩ => ?_
    cases n with
    | zero => simp only [evI] at h; exact (show False from h).elim
    | succ n =>
      simp only [evI] at h
      refine tR_bind (ev := fun n σ G => evE L.T n d e' σ G) g s h fun ρ1 w G1 x H1 s1 g1 sl1 r1 h1 => ?_
      obtain ⟨iv, e, h2⟩ := QG.ofO h1
      obtain ⟨u, e2, rfl⟩ := Option.map_eq_some_iff.mp e
      rw [b.k]
      rcases ivOf_ok g1 r1 e2 with ⟨a, e3, hx, j⟩ | ⟨a, e3, hx, j⟩ | ⟨z, e3, j⟩
      · exact .inl ⟨a, e3, hx, QG.done h2 g1 (jr_list g1 j)⟩
      · exact .inr (.inl ⟨a, e3, hx, QG.done h2 g1 (jr_tup g1 j)⟩)
      · exact .inr (.inr ⟨z, e3, QG.done h2 g1 (jr_str g1 (j 0))⟩)
  have dflt : (trE L.g m C it).bind (fun e' => some (PM.It.e e')) = some it' → PI X tg it (tI L d W it') := fun h => by
    obtain ⟨e', he, h⟩ := bd1 h
    cases h
    exact gen (sd.e b he)
  unfold trI at h
  split at h
  · rename_i x p es pos
    split at h
    · rename_i hc
      rw [Bool.and_eq_true, Bool.and_eq_true] at hc
      obtain ⟨n1, n2, n3⟩ := okName_ok hc.1.1
      have gl := b.gl hc.1.2
      have hm : X.mg x = none := by rw [b.mg]; exact lk.free x hc.2
      split at h
      · rename_i hx
        subst hx
        split at h
        · rename_i hl
          obtain ⟨es', he, h⟩ := bd1 h
          cases h
          obtain ⟨p1, p2⟩ := sd.es b he
          cases es with
          | nil => simp at hl
          | cons a r =>
            rw [List.any_cons, Bool.or_eq_false_iff] at p2
            cases r with
            | nil =>
              refine piI (pi_range1 gl hm p1 (star_cons p2.1)) fun σ H R ⟨n, ρ, σw, G, g, s, h⟩ => ?_
              cases n with
              | zero => simp only [evI] at h; exact (show False from h).elim
              | succ n =>
                simp only [evI] at h
                refine tR_bindE (ev := fun n σ G => evEs L.T n d es' σ G) g s h fun ρ1 ws G1 vs H1 s1 g1 sl1 r1 h1 q1 => ?_
                obtain ⟨iv, e, h2⟩ := QG.ofO h1
                obtain ⟨l, e2, rfl⟩ := Option.map_eq_some_iff.mp e
                have hlen := (evEs_len q1).trans (trEs_len he)
                unfold rngOf at e2
                split at e2
                · rename_i j
                  split at e2
                  · rename_i hj
                    cases e2
                    obtain ⟨v, rfl, rv⟩ := r1.inv1
                    exact ⟨j, by rw [show v = .int j from rv], (in62_ok hj).1, (in62_ok hj).2, QG.done h2 g1 (jr_rng 0 j.toNat)⟩
                  · cases e2
                · simp at hlen
                · cases e2
            | cons a2 r =>
              cases r with
              | nil =>
                have p3 := p2.2
                rw [List.any_cons, Bool.or_eq_false_iff] at p3
                refine piI (pi_range2 gl hm p1 (by rw [star_cons p2.1, star_cons p3.1]; rfl) (by rw [star_cons p3.1]; rfl)) fun σ H R ⟨n, ρ, σw, G, g, s, h⟩ => ?_
                cases n with
                | zero => simp only [evI] at h; exact (show False from h).elim
                | succ n =>
                  simp only [evI] at h
                  refine tR_bindE (ev := fun n σ G => evEs L.T n d es' σ G) g s h fun ρ1 ws G1 vs H1 s1 g1 sl1 r1 h1 q1 => ?_
                  obtain ⟨iv, e, h2⟩ := QG.ofO h1
                  obtain ⟨l, e2, rfl⟩ := Option.map_eq_some_iff.mp e
                  have hlen := (evEs_len q1).trans (trEs_len he)
                  unfold rngOf at e2
                  split at e2
                  · simp at hlen
                  · rename_i i j
                    split at e2
                    · rename_i hj
                      cases e2
                      obtain ⟨v, u, rfl, rv, ru⟩ := r1.inv2
                      rw [Bool.and_eq_true] at hj
                      exact ⟨i, j, by rw [show v = .int i from rv, show u = .int j from ru], ⟨(in62_ok hj.1).1, (in62_ok hj.1).2, (in62_ok hj.2).1, (in62_ok hj.2).2⟩, QG.done h2 g1 (jr_rng i (j - i).toNat)⟩
                    · cases e2
                  · cases e2
              | cons _ _ => simp at hl
        · cases h
      · split at h
        · rename_i hx
          subst hx
          split at h
          · rename_i a c elts k tp
            split at h
            · cases h
            · rename_i hst
              obtain ⟨a', ha, h⟩ := bd1 h
              obtain ⟨c', hc', h⟩ := bd1 h
              cases h
              have hs1 : isStar a = false := by
                cases q : isStar a with
                | false => rfl
                | true => rw [q] at hst; exact absurd rfl hst
              have hs2 : isStar c = false := by
                cases q : isStar c with
                | false => rfl
                | true => rw [q, Bool.or_true] at hst; exact absurd rfl hst
              refine piI (pi_zip2 gl hm (pa_cons (sd.e b ha) (pa_cons (sd.e b hc') pa_nil (star_cons hs2)) (star_cons hs1)) (star_cons hs1) (by rw [star_cons hs2]; rfl)) fun σ H R ⟨n, ρ, σw, G, g, s, h⟩ => ?_
              cases n with
              | zero => simp only [evI] at h; exact (show False from h).elim
              | succ n =>
                simp only [evI] at h
                refine tR_bind (ev := fun n σ G => evE L.T n d a' σ G) g s h fun ρ1 wx G1 x H1 s1 g1 sl1 r1 h1 => ?_
                refine tR_bind (ev := fun n σ G => evE L.T n d c' σ G) g1 sl1 h1 fun ρ2 wy G2 y H2 s2 g2 sl2 r2 h2 => ?_
                have r1' := r1.stp g1 s2 _
                refine ⟨x, y, rfl, fun v u rv ru => ?_⟩
                split at h2
                · rename_i u1 u2 e1 e2
                  have one : ∀ {w : PM.W} {x : V} {v : Value} {u : I1}, Rw L.N ρ2 H2 w x → ivOf G2 w = some u → RelV x v → ∃ c xs, c.v = v ∧ c.q X.K H2 xs ∧ Jc L.N ρ2 H2 u c := fun {w x v u} r e rv => by
                    rw [b.k]
                    rcases ivOf_ok g2 r e with ⟨a, e3, ⟨xs, hx⟩, j⟩ | ⟨a, e3, ⟨xs, hx⟩, j⟩ | ⟨z, e3, j⟩
                    · rw [e3] at rv
                      exact ⟨.cl a, xs, (show v = .ref a from rv).symm, hx, j⟩
                    · rw [e3] at rv
                      exact ⟨.ct a, xs, (show v = .ref a from rv).symm, hx, j⟩
                    · rw [e3] at rv
                      obtain ⟨t, rfl⟩ := rv
                      exact ⟨.cs z t, chV z, rfl, rfl, j t⟩
                  obtain ⟨c1, xs, k1, k2, k3⟩ := one r1' e1 rv
                  obtain ⟨c2, ys, k4, k5, k6⟩ := one r2 e2 ru
                  refine ⟨c1, c2, xs, ys, k1, k4, k2, k5, ?_⟩
                  rw [b.k]
                  exact QG.done h2 g2 (jr_zip g2 k3 k6)
                · exact (show False from h2).elim
          · cases h
        · cases h
    · exact dflt h
  · exact dflt h
end
end PM

set_option maxHeartbeats 4000000
/-! PmN: statements and defs keep to the small Python. -/
namespace PM
open PySem PySem.Spec PyProof.Rows L2

theorem sd_all {L : Pg} (lk : Lk L) : ∀ m, Sd L m
  | 0 => sd_zero
  | m + 1 => ⟨fun b h => step_e lk (sd_all lk m) b h, fun b hi h => step_t lk (sd_all lk m) b hi h, fun b h => step_o (sd_all lk m) b h, fun b h => step_b (sd_all lk m) b h, fun b h => step_w (sd_all lk m) b h,
      fun b h => step_es (sd_all lk m) b h, fun b h => step_k (sd_all lk m) b h, fun b h => step_a (sd_all lk m) b h, fun b h => step_i lk (sd_all lk m) b h⟩
theorem sw_no {e : Expr} {t : Option Expr} {n : Nat} {env : Env} (h : isComp e = false) : swapsWith e t n env = pure false := by
  cases e <;> first | rfl | cases h
theorem sws_no {tg e : Expr} {n : Nat} {env : Env} (h : isComp e = false) : swapsWithSole [tg] e n env = pure false := sw_no h
structure Sq (L : Pg) (m : Nat) : Prop where
  s : ∀ {X C W d st s'}, Bk L X C W d → PassesOwn (model X.prog X.w) X.A X.env X.xe → trS L.g m C st = some s' → PS X st (tS L d W s')
  ss : ∀ {X C W d st s'}, Bk L X C W d → PassesOwn (model X.prog X.w) X.A X.env X.xe → trSs L.g m C st = some s' → PSs X st (tSs L d W s')
section
variable {L : Pg} {X : Cx} {C : Ct} {W : WX} {d m : Nat}
theorem tS_zero {s : S} {D : Ends} {σ : L2.St} {H : Hp} {t : Prop} (h : tS L d W s D σ H) (k : ∀ n ρ σw G, Rg L.N ρ G H → Rs L.N ρ H σw σ → QF L.N D W (evS L.T (n + 1) d s σw G) ρ H → t) : t := by
  obtain ⟨n, ρ, σw, G, g, s, h⟩ := h
  cases n with
  | zero => simp only [evS] at h; exact (show False from h).elim
  | succ n => exact k n ρ σw G g s h
theorem QF.nx {N : En} {D : Ends} {σw : Sg} {σ : L2.St} {G : GH} {ρ : List Addr} {H : Hp} (h : QF N D W (.nx σw G) ρ H) (g : Rg N ρ G H) (s : Rs N ρ H σw σ) : D.nx σ H := h ρ σ H (Stp.refl _ _) g s
/-- t = e -/
theorem asg_ok {e : E} {t : Tg} {K : PySem.W.Frag} (hK : K = L.N.K) {D : Ends} {σ : L2.St} {H : Hp} (h : tS L d W (.asg t e) D σ H) : tE L d W e σ H fun x H1 => gT K t x σ H1 D.nx := by
  refine tS_zero h fun n ρ σw G g s h => ?_
  simp only [evS] at h
  refine tR_toF (ev := fun n σ G => evE L.T n d e σ G) g s h fun ρ1 w G1 x H1 s1 g1 sl1 r1 h1 => ?_
  split at h1
  · rename_i σ' ha
    rw [hK]
    exact gT_ok g1 t sl1 r1 ha fun σ2 sl2 _ => QF.nx h1 g1 sl2
  · exact (show False from h1).elim
theorem inv_lc {g : Gn} {elt : Expr} {gens : List Comprehension} {scope : Scope} {pos : Pos} {e' : E} (h : trE g m C (.ListComp elt gens scope pos) = some e') :
    ∃ m' tg iter ifs it tg' ifs' e1, gens = [⟨tg, iter, ifs, 0⟩] ∧ e' = .lc ((ownOf C.N scope).map (·.2)) tg' it ifs' e1 ∧ blkC C.N C.sc scope (ownOf C.N scope) = true ∧ isSet iter = false ∧ trI g m' C tg iter = some it ∧ trT (blkCt C scope) m' tg = some tg' ∧
      ((ifs = [] ∧ ifs' = []) ∨ ∃ c c', ifs = [c] ∧ ifs' = [c'] ∧ isIfE c = false ∧ trE g m' (blkCt C scope) c = some c') ∧ trE g m' (blkCt C scope) elt = some e1 := by
  cases m with
  | zero => simp only [trE] at h; cases h
  | succ m =>
    simp only [trE] at h
    split at h
    · rename_i tg iter ifs
      split at h
      · rename_i hc
        rw [Bool.and_eq_true] at hc
        obtain ⟨it, h1, h⟩ := bd1 h
        obtain ⟨tg', h2, h⟩ := bd1 h
        obtain ⟨ifs', h3, h⟩ := bd1 h
        obtain ⟨e1, h4, h⟩ := bd1 h
        cases h
        have hset : isSet iter = false := by simpa using hc.2
        refine ⟨m, tg, iter, ifs, it, tg', ifs', e1, rfl, rfl, hc.1, hset, h1, h2, ?_, h4⟩
        clear h h1 h2 h4
        cases ifs with
        | nil =>
          cases h3
          exact .inl ⟨rfl, rfl⟩
        | cons c r =>
          cases r with
          | nil =>
            have h3 : (if isIfE c = true then none else (trE g m (blkCt C scope) c).map fun x => [x]) = some ifs' := h3
            split at h3
            · cases h3
            · rename_i hi
              obtain ⟨c', e1, rfl⟩ := Option.map_eq_some_iff.mp h3
              exact .inr ⟨c, c', rfl, rfl, by simpa using hi, e1⟩
          | cons _ _ => cases h3
      · cases h
    · cases h
/-- name = e -/
theorem set_ok (lk : Lk L) (b : Bk L X C W d) {x : Str} {p pos : Pos} {e : Expr} {i : Nat} {e' : E} (hst : C.st.contains x = true) (hl : locB C.sc x = true) (hi : ixS C.N x = some i) (he : trE L.g m C e = some e') (hc : isComp e = false ∨ ∃ elt gens scope cp, e = .ListComp elt gens scope cp) :
    PS X (.Assign [.Name x p] e pos) (tS L d W (.asg (.v i) e')) := by
  have imp : ∀ D σ H, tS L d W (.asg (.v i) e') D σ H → tAsg (tE L d W e') (gName i) D σ H := fun D σ H h => asg_ok (K := L.N.K) rfl h
  have hf := b.st x (by simpa using hst)
  rcases hc with hc | ⟨elt, gens, scope, cp, rfl⟩
  · exact psI (ps_set b.nd (b.ix hi) (b.loc hl) ((sd_all lk m).e b he) (sw_no hc) hf) imp
  · obtain ⟨m', tg, iter, ifs, it, tg', ifs', e1, rfl, rfl, c1, c2, c3, c4, c5, c6⟩ := inv_lc he
    obtain ⟨p1, p2, p3, p4, p5⟩ := lc_pe (pos := cp) (sd_all lk m') b c1 c2 c3 c4 c5 c6
    have hsw : swapsWith (.ListComp elt [⟨tg, iter, ifs, 0⟩] scope cp) (some (.Name x p)) pos.line X.env = pure (X.env.blockKind == .function && X.env.kindOf x == some .local && p.line == cp.line && !(scope.names.any fun (n, k) => n == x && (k == .local || k == .cell))) := rfl
    cases q : (X.env.blockKind == .function && X.env.kindOf x == some .local && p.line == cp.line && !(scope.names.any fun (n, k) => n == x && (k == .local || k == .cell))) with
    | false =>
      rw [q] at hsw
      exact psI (ps_set b.nd (b.ix hi) (b.loc hl) ((sd_all lk m).e b he) hsw hf) imp
    | true =>
      rw [q] at hsw
      rw [Bool.and_eq_true, Bool.and_eq_true, Bool.and_eq_true] at q
      have hloc : X.env.scope.names.lookup x = some .local := by simpa [Env.kindOf] using q.1.1.2
      refine psI (ps_setLc b.calm b.nd (b.ix hi) hloc hsw ((sd_all lk m').i b c3) p5 p1 p2 p3 p4) fun D σ H h => ?_
      exact lc_ok b c4 σ H _ (imp D σ H h)
theorem Rfs.put {N : En} {ρ : List Addr} {H : Hp} (inj : ∀ i j, N.nm i = N.nm j → i = j) {f : Nat} {w : PM.W} {v : V} (r : Rw N ρ H w v) : ∀ {fs : List (Nat × PM.W)} {xs : List (Str × V)}, Rfs N ρ H fs xs → Rfs N ρ H (putFW f w fs) (putF (N.nm f) v xs)
  | [], _, h => by
    have e : _ = [] := h
    rw [e]
    exact ⟨v, [], rfl, r, rfl⟩
  | (g, u) :: fs, _, h => by
    obtain ⟨x, xs', rfl, h2, h3⟩ := h
    unfold putFW putF
    by_cases e : g = f
    · rw [if_pos e, if_pos (by rw [e])]
      exact ⟨v, xs', rfl, r, h3⟩
    · rw [if_neg e, if_neg (fun z => e (inj _ _ z))]
      exact ⟨x, _, rfl, h2, Rfs.put inj r h3⟩
theorem Rfs.len {N : En} {ρ : List Addr} {H : Hp} : ∀ {fs : List (Nat × PM.W)} {xs : List (Str × V)}, Rfs N ρ H fs xs → fs.length = xs.length
  | [], _, h => by
    have e : _ = [] := h
    rw [e]
    rfl
  | (g, u) :: fs, _, h => by
    obtain ⟨x, xs', rfl, h2, h3⟩ := h
    rw [List.length_cons, List.length_cons, h3.len]
/-- a loop's body -/
theorem QF.loop {N : En} {D : Ends} {r : F} {f : Sg → GH → F} {ρ : List Addr} {H : Hp} {Nx : L2.St → Hp → Prop} (h : QF N D W (match r with
      | .nx σ2 G2 => f σ2 G2
      | .cnt σ2 G2 => f σ2 G2
      | .brk σ2 G2 => .nx σ2 G2
      | r => r) ρ H) (k : ∀ ρ4 σ4 H4 σw' G', Stp ρ H ρ4 H4 → Rg N ρ4 G' H4 → Rs N ρ4 H4 σw' σ4 → QF N D W (f σw' G') ρ4 H4 → Nx σ4 H4) : QF N { D with nx := Nx, ct := Nx, bk := D.nx } W r ρ H := by
  cases r with
  | nx σ' G' => exact fun ρ4 σ4 H4 s4 g4 sl4 => k ρ4 σ4 H4 σ' G' s4 g4 sl4 (QF.stp h s4)
  | cnt σ' G' => exact fun ρ4 σ4 H4 s4 g4 sl4 => k ρ4 σ4 H4 σ' G' s4 g4 sl4 (QF.stp h s4)
  | brk σ' G' => exact h
  | ret w' G' => exact h
  | exc c dd σ' G' => exact h
  | bad => exact h
/-- a loop's turns -/
theorem for_ok {iv : IV} {J : L2.It} {t : Tg} {body : List S} {D : Ends} {ρ1 : List Addr} {H1 : Hp} {G1 : GH} {σw : Sg} {σ : L2.St} {n : Nat} (g1 : Rg L.N ρ1 G1 H1) (sl : Rs L.N ρ1 H1 σw σ) (jr : JR L.N ρ1 H1 iv J) (h : QF L.N D W (evF L.T n d iv 0 t body σw G1) ρ1 H1) :
    ∃ Iv : Nat → Nat → L2.St → Hp → Prop, (∃ m, Iv 0 m σ H1) ∧ ∀ i m σ H, Iv i m σ H →
      (J.stop i H ∧ D.nx σ H) ∨ (J.go i H ∧ ∃ N : L2.St → Hp → Prop, (∀ σ' H', N σ' H' → ∃ m', m' < m ∧ Iv (i + 1) m' σ' H') ∧ ∀ x H', J.yld i H x H' → gT L.N.K t x σ H' fun σ2 H2 => tSs L d W body { D with nx := N, ct := N, bk := D.nx } σ2 H2) := by
  refine ⟨fun i m σ H => ∃ ρ G σw, Stp ρ1 H1 ρ H ∧ Rg L.N ρ G H ∧ Rs L.N ρ H σw σ ∧ QF L.N D W (evF L.T m d iv i t body σw G) ρ H, ⟨n, ρ1, G1, σw, Stp.refl _ _, g1, sl, h⟩, ?_⟩
  clear h sl
  rintro i m σ H ⟨ρ, G, σw, s, g, sl, h⟩
  cases m with
  | zero => simp only [evF] at h; exact (show False from h).elim
  | succ m =>
    have jr2 := jr ρ G H i s g
    cases hat : iv.at G i with
    | none => simp only [evF, hat] at h; exact (show False from h).elim
    | some ow =>
      rw [hat] at jr2
      cases ow with
      | none =>
        simp only [evF, hat] at h
        exact .inl ⟨jr2, QF.nx h g sl⟩
      | some w =>
        obtain ⟨hgo, hy⟩ := jr2
        refine .inr ⟨hgo, fun σ' H' => ∃ ρ G σw, Stp ρ1 H1 ρ H' ∧ Rg L.N ρ G H' ∧ Rs L.N ρ H' σw σ' ∧ QF L.N D W (evF L.T m d iv (i + 1) t body σw G) ρ H', fun σ' H' hn => ⟨m, Nat.lt_succ_self _, hn⟩, fun x H3 yy => ?_⟩
        obtain ⟨s3, g3, rx⟩ := hy x H3 yy
        cases hasg : asgT t w σw with
        | none => simp only [evF, hat, hasg] at h; exact (show False from h).elim
        | some σ1 =>
          simp only [evF, hat, hasg] at h
          refine gT_ok g3 t (sl.stp g s3) rx hasg fun σ2 sl2 _ => ⟨m, ρ, σ1, G, g3, sl2, ?_⟩
          have h := QF.stp h s3
          have s13 := s.trans s3
          exact QF.loop h fun ρ4 σ4 H4 σ' G' s4 g4 sl4 h4 => ⟨ρ4, G', σ', s13.trans s4, g4, sl4, h4⟩
theorem while_ok {c : E} {body : List S} {D : Ends} {ρ1 : List Addr} {H1 : Hp} {G1 : GH} {σw : Sg} {σ : L2.St} {n : Nat} (g1 : Rg L.N ρ1 G1 H1) (sl : Rs L.N ρ1 H1 σw σ) (h : QF L.N D W (evW L.T n d c body σw G1) ρ1 H1) : tWhile (tT L d W c) (tSs L d W body) D σ H1 := by
  refine ⟨fun m σ H => ∃ ρ G σw, Rg L.N ρ G H ∧ Rs L.N ρ H σw σ ∧ QF L.N D W (evW L.T m d c body σw G) ρ H, ⟨n, ρ1, G1, σw, g1, sl, h⟩, ?_⟩
  clear h sl
  rintro m σ H ⟨ρ, G, σw, g, sl, h⟩
  cases m with
  | zero => simp only [evW] at h; exact (show False from h).elim
  | succ m =>
    simp only [evW] at h
    have h' : QF L.N D W (((evE L.T m d c σw G).bind fun x G1 => PM.ofO (tru G1 x) G1).toF σw fun k G1 => if k then (match evSs L.T m d body σw G1 with
      | .nx σ2 G2 => evW L.T m d c body σ2 G2
      | .cnt σ2 G2 => evW L.T m d c body σ2 G2
      | .brk σ2 G2 => .nx σ2 G2
      | r => r) else .nx σw G1) ρ H := by
      cases q : evE L.T m d c σw G with
      | ok x G' =>
        rw [q] at h
        have h : QF L.N D W (match tru G' x with
          | some true => match evSs L.T m d body σw G' with
            | .nx σ2 G2 => evW L.T m d c body σ2 G2
            | .cnt σ2 G2 => evW L.T m d c body σ2 G2
            | .brk σ2 G2 => .nx σ2 G2
            | r => r
          | some false => .nx σw G'
          | none => .bad) ρ H := h
        show QF L.N D W ((PM.ofO (tru G' x) G').toF σw _) ρ H
        cases q2 : tru G' x with
        | none => rw [q2] at h; exact h
        | some k =>
          rw [q2] at h
          cases k with
          | true => exact h
          | false => exact h
      | exc c dd G' => rw [q] at h; exact h
      | bad => rw [q] at h; exact h
    refine tR_toF (ev := fun n σ G => (evE L.T n d c σ G).bind fun x G1 => ofO (tru G1 x) G1) g sl h' fun ρ2 k G2 k' H2 s2 g2 sl2 r2 h2 => ?_
    rw [← show k = k' from r2]
    cases k with
    | false => exact QF.nx h2 g2 sl2
    | true =>
      refine ⟨fun σ' H' => ∃ ρ G σw, Rg L.N ρ G H' ∧ Rs L.N ρ H' σw σ' ∧ QF L.N D W (evW L.T m d c body σw G) ρ H', fun σ' H' hn => ⟨m, Nat.lt_succ_self _, hn⟩, m, ρ2, σw, G2, g2, sl2, ?_⟩
      exact QF.loop h2 fun ρ4 σ4 H4 σ' G' s4 g4 sl4 h4 => ⟨ρ4, G', σ', g4, sl4, h4⟩
end
end PM

set_option maxHeartbeats 4000000
/-! PmO: statements' induction; every def keeps its promise. -/
namespace PM
open PySem PySem.Spec PyProof.Rows L2
section
variable {L : Pg} {X : Cx} {C : Ct} {W : WX} {d m : Nat}
theorem sq_zero : Sq L 0 where
  s := fun _ _ h => by simp only [trS] at h; cases h
  ss := fun _ _ h => by simp only [trSs] at h; cases h
theorem comp_cases {e : Expr} : isComp e = false ∨ isComp e = true := by cases isComp e <;> simp
theorem par_stores {X : Cx} {x y : Str} {px py p pt : Pos} {k k2 : Nat} {a c : Expr} (kx : X.env.kindOf x = some .local) (ky : X.env.kindOf y = some .local) (hxy : x ≠ y) (hl : (py.line == px.line) = true) (hk : X.env.scope.kind = .function) (hs1 : isStar a = false) (hs2 : isStar c = false)
    (f1 : (foldedForSure 8 a && (foldedForSure 8 c && true)) = false) (f2 : (constantsAlone 8 a && (constantsAlone 8 c && true)) = false) : swappedStores [.Tuple [.Name x px, .Name y py] k p] (.Tuple [a, c] k2 pt) X.env = pure (some [x, y]) := by
  have hbk : X.env.blockKind = .function := by
    unfold Env.blockKind
    rw [hk]
    rfl
  have e1 : (x == y) = false := by simpa using hxy
  have e2 : (y == x) = false := by simpa using Ne.symm hxy
  have kx' : (X.env.kindOf x == some NameKind.local) = true := by rw [kx]; rfl
  have ky' : (X.env.kindOf y == some NameKind.local) = true := by rw [ky]; rfl
  have hd : [x, y].eraseDups.length = 2 := by
    simp [List.eraseDups, List.eraseDupsBy, List.eraseDupsBy.loop, e1, e2]
  have hstar : ∀ (p : Expr → Bool), (∀ e, p e = isStar e) → [a, c].any p = false := fun p hp => by
    rw [List.any_cons, List.any_cons, hp, hp, hs1, hs2]
    rfl
  unfold swappedStores
  simp only [hbk]
  refine Eq.trans (if_neg ?_) ?_
  · exact fun h => Bool.false_ne_true h
  refine Eq.trans (if_neg ?_) ?_
  · rw [hstar _ (fun e => by cases e <;> rfl)]
    exact Bool.false_ne_true
  simp only [List.filterMap_cons, List.filterMap_nil, List.head?_cons, Option.map_some, Option.getD_some, Expr.pos, kx', ky', hl, beq_self_eq_true, Bool.and_self, if_true, hd, List.length_cons, List.length_nil, List.all_cons, List.all_nil, f1, f2]
  rfl
/-- x, y = a, c -/
theorem toF_bind {α β : Type} (r : R α) (f : α → GH → R β) (σ : Sg) (k : β → GH → F) : (r.bind f).toF σ k = r.toF σ fun a G => (f a G).toF σ k := by cases r <;> rfl
theorem par_ok {a c : E} {i j : Nat} {D : Ends} {σ : L2.St} {σw : Sg} {ρ : List Addr} {H : Hp} {G : GH} {n : Nat} (g : Rg L.N ρ G H) (s : Rs L.N ρ H σw σ)
    (h : QF L.N D W ((evEs L.T n d [a, c] σw G).toF σw fun ws G1 => match parS [i, j] ws σw with
      | some σ' => .nx σ' G1
      | none => .bad) ρ H) : tPar i j (tCons (tE L d W a) (tCons (tE L d W c) tNil)) D σ H := by
  cases n with
  | zero => simp only [evEs] at h; exact (show False from h).elim
  | succ n =>
    simp only [evEs] at h
    rw [toF_bind] at h
    refine tR_toF (ev := fun n σ G => evE L.T n d a σ G) g s h fun ρ1 w G1 v H1 s1 g1 sl1 r1 h1 => ?_
    cases n with
    | zero => simp only [evEs] at h1; exact (show False from h1).elim
    | succ n =>
      simp only [evEs] at h1
      rw [toF_bind, toF_bind] at h1
      refine tR_toF (ev := fun n σ G => evE L.T n d c σ G) g1 sl1 h1 fun ρ2 w2 G2 v2 H2 s2 g2 sl2 r2 h2 => ?_
      cases n with
      | zero => simp only [evEs] at h2; exact (show False from h2).elim
      | succ n =>
        simp only [evEs] at h2
        refine ⟨v, v2, rfl, ?_⟩
        have h2 : QF L.N D W (.nx ((σw.set i (some w)).set j (some w2)) G2) ρ2 H2 := h2
        exact QF.nx h2 g2 ((sl2.set i (r1.stp g1 s2 _)).set j r2)
theorem step_s (lk : Lk L) (sq : Sq L m) (b : Bk L X C W d) (hp : PassesOwn (model X.prog X.w) X.A X.env X.xe) {st : Stmt} {s' : S} (h : trS L.g (m + 1) C st = some s') : PS X st (tS L d W s') := by
  have sd := sd_all lk m
  cases st with
  | Assign ts e pos =>
    have name : ∀ (x : Str) (p : Pos), (if (C.st.contains x && locB C.sc x) = true then (ixS C.N x).bind fun i => (trE L.g m C e).bind fun e' => some (.asg (.v i) e') else none) = some s' → (isComp e = false ∨ ∃ elt gens scope cp, e = .ListComp elt gens scope cp) → PS X (.Assign [.Name x p] e pos) (tS L d W s') := by
      intro x p h hc
      split at h
      · rename_i hs
        rw [Bool.and_eq_true] at hs
        obtain ⟨i, hi, h⟩ := bd1 h
        obtain ⟨e', he, h⟩ := bd1 h
        cases h
        exact set_ok lk b hs.1 hs.2 hi he hc
      · cases h
    have tup : ∀ (us : List Expr) (k : Nat) (p : Pos), (∀ es k2 p2, e ≠ .Tuple es k2 p2) → (if isComp e = true then none else (trT C m (.Tuple us k p)).bind fun t => (trE L.g m C e).bind fun e' => some (.asg t e')) = some s' → PS X (.Assign [.Tuple us k p] e pos) (tS L d W s') := by
      intro us k p hne h
      split at h
      · cases h
      · rename_i hc
        obtain ⟨t, ht, h⟩ := bd1 h
        obtain ⟨e', he, h⟩ := bd1 h
        cases h
        have hc2 : isComp e = false := by simpa using hc
        have hw : swappedStores [.Tuple us k p] e X.env = pure none := by
          cases e <;> first | rfl | exact absurd rfl (hne _ _ _)
        exact psI (ps_asg (sd.e b he) (trT_pg b m _ t ht) (sws_no hc2) hw) fun D σ H h => asg_ok (K := X.K) b.k h
    simp only [trS] at h
    · split at h
      · rename_i x p
        split at h
        · exact name x p h (.inr ⟨_, _, _, _, rfl⟩)
        · split at h
          · cases h
          · rename_i hc
            exact name x p h (.inl (by simpa using hc))
      · rename_i us k p
        split at h
        · rename_i es k2 p2
          split at h
          · rename_i x px y py a c
            split at h
            · cases h
            · rename_i hc
              split at h
              · rename_i hl
                rw [Bool.and_eq_true, Bool.and_eq_true] at hl
                obtain ⟨i, hi, h⟩ := bd1 h
                obtain ⟨j, hj, h⟩ := bd1 h
                obtain ⟨a', ha, h⟩ := bd1 h
                obtain ⟨c', hc', h⟩ := bd1 h
                cases h
                have hs1 : isStar a = false := by
                  cases q : isStar a with
                  | false => rfl
                  | true => rw [q] at hc; exact absurd rfl hc
                have hs2 : isStar c = false := by
                  cases q : isStar c with
                  | false => rfl
                  | true => rw [q] at hc; simp at hc
                have hxy : x ≠ y := fun z => by
                  rw [hs1, hs2] at hc
                  simp [z] at hc
                have hlx : C.sc.names.lookup x = some .local := of_decide_eq_true hl.1
                have hly : C.sc.names.lookup y = some .local := of_decide_eq_true hl.2.1
                have hx : X.env.scope.names.lookup x = some .local := by rw [b.sc]; exact hlx
                have hy : X.env.scope.names.lookup y = some .local := by rw [b.sc]; exact hly
                have hij : i ≠ j := fun z => by
                  have e1 := ixS_get hi
                  have e2 := ixS_get hj
                  rw [z, e2] at e1
                  cases e1
                  exact hxy rfl
                have hfold : (foldedForSure 8 a && foldedForSure 8 c) = false ∧ (constantsAlone 8 a && constantsAlone 8 c) = false := by
                  rw [hs1, hs2] at hc
                  simp only [Bool.false_or, Bool.or_eq_true, not_or] at hc
                  exact ⟨by simpa using hc.2.1, by simpa using hc.2.2⟩
                have hline : (py.line == px.line) = true := hl.2.2
                refine psI (ps_par (ta := tCons (tE L d W a') (tCons (tE L d W c') tNil)) b.calm b.nd (b.ix hi) (b.ix hj) hij hx hy (pa_cons (sd.e b ha) (pa_cons (sd.e b hc') pa_nil (star_cons hs2)) (star_cons hs1)) ?_) fun D σ H h => ?_
                · have f1 : (foldedForSure 8 a && (foldedForSure 8 c && true)) = false := by rw [Bool.and_true]; exact hfold.1
                  have f2 : (constantsAlone 8 a && (constantsAlone 8 c && true)) = false := by rw [Bool.and_true]; exact hfold.2
                  have kx : X.env.kindOf x = some .local := hx
                  have ky : X.env.kindOf y = some .local := hy
                  exact par_stores kx ky hxy hline b.kind hs1 hs2 f1 f2
                · refine tS_zero h fun n ρ σw G g s h => ?_
                  simp only [evS] at h
                  exact par_ok g s h
              · cases h
          · cases h
        · rename_i hne
          exact tup us k p (fun es k2 p2 z => hne es k2 p2 z) h
      · rename_i o i p
        split at h
        · cases h
        · rename_i hc
          have hc2 : isComp e = false := by
            cases q : isComp e with
            | false => rfl
            | true => rw [q] at hc; exact absurd rfl hc
          have hsl : ¬ isSlice i = true := fun z => by rw [z, Bool.or_true] at hc; exact hc rfl
          obtain ⟨e', he, h⟩ := bd1 h
          obtain ⟨o', ho, h⟩ := bd1 h
          obtain ⟨i', hi, h⟩ := bd1 h
          cases h
          refine psI (ps_asg (sd.e b he) (pg_sub (sd.e b ho) (sd.e b hi) set_list (fun v => by cases i <;> first | rfl | (exact absurd rfl hsl))) (sws_no hc2) (by cases e <;> rfl)) fun D σ H h => ?_
          refine tS_zero h fun n ρ σw G g s h => ?_
          simp only [evS] at h
          refine tR_toF (ev := fun n σ G => evE L.T n d e' σ G) g s h fun ρ1 w G1 v H1 s1 g1 sl1 r1 h1 => ?_
          refine tR_toF (ev := fun n σ G => evE L.T n d o' σ G) g1 sl1 h1 fun ρ2 x G2 ov H2 s2 g2 sl2 r2 h2 => ?_
          refine tR_toF (ev := fun n σ G => evE L.T n d i' σ G) g2 sl2 h2 fun ρ3 y G3 iv H3 s3 g3 sl3 r3 h3 => ?_
          have r1' := (r1.stp g1 s2 _).stp g2 s3 _
          have r2' := r2.stp g2 s3 _
          split at h3
          · rename_i a kk
            split at h3
            · rename_i ws hG
              split at h3
              · rename_i jj hj
                obtain ⟨ad, rfl, k1, xs, k2, k3⟩ := g3.ref r2' hG
                have mem := List.mem_of_getElem? k1
                have st : Stp ρ3 H3 ρ3 (upd H3 ad (.lst (xs.set jj v))) := Stp.set mem
                refine ⟨ad, xs, kk, jj, rfl, r3, k2, by rw [← k3.len]; exact hj, ?_⟩
                refine QF.nx (QF.stp h3 st) (g3.set k1 (show okHO (.lst (xs.set jj v)) from True.intro) ⟨xs.set jj v, upd_same, (k3.set jj r1').stp g3 st _⟩) (sl3.stp g3 st)
              · exact (show False from h3).elim
            · exact (show False from h3).elim
          · exact (show False from h3).elim
      · rename_i o f p
        split at h
        · cases h
        · rename_i hc
          obtain ⟨e', he, h⟩ := bd1 h
          obtain ⟨o', ho, h⟩ := bd1 h
          obtain ⟨f', hf, h⟩ := bd1 h
          cases h
          refine psI (ps_fld (sd.e b ho) (sd.e b he) (sw_no (by simpa using hc))) fun D σ H h => ?_
          refine tS_zero h fun n ρ σw G g s h => ?_
          simp only [evS] at h
          refine tR_toF (ev := fun n σ G => evE L.T n d e' σ G) g s h fun ρ1 w G1 v H1 s1 g1 sl1 r1 h1 => ?_
          refine tR_toF (ev := fun n σ G => evE L.T n d o' σ G) g1 sl1 h1 fun ρ2 x G2 ov H2 s2 g2 sl2 r2 h2 => ?_
          have r1' := r1.stp g1 s2 _
          split at h2
          · rename_i a
            split at h2
            · rename_i c fs hG
              split at h2
              · rename_i hcond
                rw [Bool.and_eq_true] at hcond
                obtain ⟨ad, rfl, k1, dx, xs, k2, k3⟩ := g2.ref r2 hG
                obtain ⟨c1, c2⟩ := lk.fl c f' hcond.2
                have mem := List.mem_of_getElem? k1
                have put := k3.put lk.nmI (f := f') r1'
                rw [lk.nmE f f' hf] at put c2
                have st : Stp ρ2 H2 ρ2 (upd H2 ad (.ins (L.N.ca c) dx (putF f v xs))) := Stp.set mem
                rw [b.k]
                refine ⟨ad, _, dx, xs, rfl, k2, c1, c2, by rw [← k3.len]; exact of_decide_eq_true hcond.1, ?_⟩
                refine QF.nx (QF.stp h2 st) (g2.set k1 (show okHO (.ins (L.N.ca c) dx (putF f v xs)) from True.intro) ⟨dx, _, upd_same, put.stp g2 st _⟩) (sl2.stp g2 st)
              · exact (show False from h2).elim
            · exact (show False from h2).elim
          · exact (show False from h2).elim
      · cases h
  | Expr e pos =>
    simp only [trS] at h
    split at h
    · cases h
    · rename_i hc
      obtain ⟨e', he, h⟩ := bd1 h
      cases h
      refine psI (ps_expr (sd.e b he) (sw_no (by simpa using hc))) fun D σ H h => ?_
      refine tS_zero h fun n ρ σw G g s h => ?_
      simp only [evS] at h
      exact tR_toF (ev := fun n σ G => evE L.T n d e' σ G) g s h fun ρ1 w G1 v H1 s1 g1 sl1 r1 h1 => QF.nx h1 g1 sl1
  | If c x y pos =>
    simp only [trS] at h
    split at h
    · cases h
    · rename_i hi
      obtain ⟨c', hc, h⟩ := bd1 h
      obtain ⟨x', hx, h⟩ := bd1 h
      obtain ⟨y', hy, h⟩ := bd1 h
      cases h
      refine psI (ps_if (sd.t b (by simpa using hi) hc) (sq.ss b hp hx) (sq.ss b hp hy)) fun D σ H h => ?_
      refine tS_zero h fun n ρ σw G g s h => ?_
      simp only [evS] at h
      have h' : QF L.N D W (((evE L.T n d c' σw G).bind fun x G1 => PM.ofO (tru G1 x) G1).toF σw fun k G1 => if k then evSs L.T n d x' σw G1 else evSs L.T n d y' σw G1) ρ H := by
        cases q : evE L.T n d c' σw G with
        | ok v G' =>
          rw [q] at h
          have h : QF L.N D W (match tru G' v with
            | some true => evSs L.T n d x' σw G'
            | some false => evSs L.T n d y' σw G'
            | none => .bad) ρ H := h
          show QF L.N D W ((PM.ofO (tru G' v) G').toF σw _) ρ H
          cases q2 : tru G' v with
          | none => rw [q2] at h; exact h
          | some k =>
            rw [q2] at h
            cases k with
            | true => exact h
            | false => exact h
        | exc c dd G' => rw [q] at h; exact h
        | bad => rw [q] at h; exact h
      refine tR_toF (ev := fun n σ G => (evE L.T n d c' σ G).bind fun x G1 => ofO (tru G1 x) G1) g s h' fun ρ2 k G2 k' H2 s2 g2 sl2 r2 h2 => ?_
      rw [← show k = k' from r2]
      cases k with
      | true => exact ⟨n, ρ2, σw, G2, g2, sl2, h2⟩
      | false => exact ⟨n, ρ2, σw, G2, g2, sl2, h2⟩
  | For tg it body els pos =>
    simp only [trS] at h
    split at h
    · split at h
      · cases h
      · rename_i hset
        obtain ⟨it', hi, h⟩ := bd1 h
        obtain ⟨tg', ht, h⟩ := bd1 h
        obtain ⟨b', hb, h⟩ := bd1 h
        cases h
        refine psI (ps_for hp b.calm (sd.i b hi) (trT_pg b m tg tg' ht) (sq.ss b hp hb) (fun x => by cases it <;> first | rfl | (exact absurd rfl hset))) fun D σ H h => ?_
        refine tS_zero h fun n ρ σw G g s h => ?_
        simp only [evS] at h
        refine tR_toF (ev := fun n σ G => evI L.T n d it' σ G) g s h fun ρ1 iv G1 J H1 s1 g1 sl1 jr h1 => ?_
        have := for_ok g1 sl1 jr h1
        rw [← b.k] at this
        exact this
    · cases h
  | While c body els pos =>
    simp only [trS] at h
    split at h
    · split at h
      · cases h
      · rename_i hi
        obtain ⟨c', hc, h⟩ := bd1 h
        obtain ⟨b', hb, h⟩ := bd1 h
        cases h
        refine psI (ps_while hp (sd.t b (by simpa using hi) hc) (sq.ss b hp hb)) fun D σ H h => ?_
        refine tS_zero h fun n ρ σw G g s h => ?_
        simp only [evS] at h
        exact while_ok g s h
    · cases h
  | Return e pos =>
    cases e with
    | none =>
      simp only [trS] at h
      cases h
      refine psI ps_retN fun D σ H h => ?_
      refine tS_zero h fun n ρ σw G g s h => ?_
      simp only [evS] at h
      cases n with
      | zero => simp only [evE] at h; exact (show False from h).elim
      | succ n =>
        simp only [evE] at h
        exact (show QF L.N D W (.ret .non G) ρ H from h) ρ .non H (Stp.refl _ _) g rfl
    | some e =>
      simp only [trS] at h
      obtain ⟨e', he, h⟩ := bd1 h
      cases h
      refine psI (ps_ret (sd.e b he)) fun D σ H h => ?_
      refine tS_zero h fun n ρ σw G g s h => ?_
      simp only [evS] at h
      exact tR_toF (ev := fun n σ G => evE L.T n d e' σ G) g s h fun ρ1 w G1 v H1 s1 g1 sl1 r1 h1 => (show QF L.N D W (.ret w G1) ρ1 H1 from h1) ρ1 v H1 (Stp.refl _ _) g1 r1
  | Pass pos =>
    simp only [trS] at h
    cases h
    refine psI ps_pass fun D σ H h => ?_
    refine tS_zero h fun n ρ σw G g s h => ?_
    simp only [evS] at h
    exact QF.nx h g s
  | _ => simp only [trS] at h; cases h
theorem QF.imp {D : Ends} {r : F} {ρ : List Addr} {H : Hp} {Nx : L2.St → Hp → Prop} {D2 : Ends} (h : QF L.N { D with nx := Nx } W r ρ H) (k : ∀ σ H', Nx σ H' → D2.nx σ H') (e1 : D2.rt = D.rt := by rfl) (e2 : D2.bk = D.bk := by rfl) (e3 : D2.ct = D.ct := by rfl) : QF L.N D2 W r ρ H := by
  cases r with
  | nx σ' G' => exact fun ρ4 σ4 H4 s4 g4 sl4 => k _ _ (h ρ4 σ4 H4 s4 g4 sl4)
  | cnt σ' G' => exact fun ρ4 σ4 H4 s4 g4 sl4 => by rw [e3]; exact h ρ4 σ4 H4 s4 g4 sl4
  | brk σ' G' => exact fun ρ4 σ4 H4 s4 g4 sl4 => by rw [e2]; exact h ρ4 σ4 H4 s4 g4 sl4
  | ret w' G' => exact fun ρ4 σ4 H4 s4 g4 sl4 => by rw [e1]; exact h ρ4 σ4 H4 s4 g4 sl4
  | exc c dd σ' G' => exact h
  | bad => exact h
theorem toF_then {r : F} {k : Sg → GH → F} {D : Ends} {ρ : List Addr} {H : Hp} (h : QF L.N D W (r.then k) ρ H) : QF L.N { D with nx := fun σ H' => ∃ ρ1 G1 σw, Rg L.N ρ1 G1 H' ∧ Rs L.N ρ1 H' σw σ ∧ QF L.N D W (k σw G1) ρ1 H' } W r ρ H := by
  cases r with
  | nx σ' G' => exact fun ρ4 σ4 H4 s4 g4 sl4 => ⟨ρ4, G', σ', g4, sl4, QF.stp h s4⟩
  | cnt σ' G' => exact h
  | brk σ' G' => exact h
  | ret w' G' => exact h
  | exc c dd σ' G' => exact h
  | bad => exact h
theorem step_ss (sq : Sq L m) (b : Bk L X C W d) (hp : PassesOwn (model X.prog X.w) X.A X.env X.xe) {st : List Stmt} {s' : List S} (h : trSs L.g (m + 1) C st = some s') : PSs X st (tSs L d W s') := by
  cases st with
  | nil =>
    simp only [trSs] at h
    cases h
    refine pssI pss_nil fun D σ H ⟨n, ρ, σw, G, g, s, h⟩ => ?_
    cases n with
    | zero => simp only [evSs] at h; exact (show False from h).elim
    | succ n => simp only [evSs] at h; exact QF.nx h g s
  | cons a r =>
    simp only [trSs] at h
    obtain ⟨a', ha, h⟩ := bd1 h
    obtain ⟨r', hr, h⟩ := bd1 h
    cases h
    refine pssI (pss_cons (sq.s b hp ha) (sq.ss b hp hr)) fun D σ H ⟨n, ρ, σw, G, g, s, h⟩ => ?_
    cases n with
    | zero => simp only [evSs] at h; exact (show False from h).elim
    | succ n =>
      simp only [evSs] at h
      refine ⟨n, ρ, σw, G, g, s, ?_⟩
      have h2 := toF_then h
      exact QF.imp h2 fun σ' H' ⟨ρ1, G1, σw1, g1, sl1, h3⟩ => ⟨n, ρ1, σw1, G1, g1, sl1, h3⟩
theorem sq_all (lk : Lk L) : ∀ m, Sq L m
  | 0 => sq_zero
  | m + 1 => ⟨fun b hp h => step_s lk (sq_all lk m) b hp h, fun b hp h => step_ss (sq_all lk m) b hp h⟩
end
theorem Rs.start {N : En} {ρ : List Addr} {H : Hp} {k : Nat} : ∀ {ws : List W} {vs : List V}, Rws N ρ H ws vs → Rs N ρ H (ws.map some ++ List.replicate k none) (vs.map some ++ List.replicate k none)
  | ws, vs, h => by
    refine ⟨by rw [List.length_append, List.length_append, List.length_map, List.length_map, h.len, List.length_replicate, List.length_replicate], fun i w e => ?_⟩
    by_cases hi : i < ws.length
    · rw [List.getElem?_append_left (by rw [List.length_map]; exact hi), List.getElem?_map] at e
      rw [List.getElem?_append_left (by rw [List.length_map, ← h.len]; exact hi), List.getElem?_map]
      cases q : ws[i]? with
      | none => rw [q] at e; cases e
      | some u =>
        rw [q] at e
        cases e
        obtain ⟨v, h1, h2⟩ := h.get q
        exact ⟨v, by rw [h1]; rfl, h2⟩
    · rw [List.getElem?_append_right (by rw [List.length_map]; omega), List.getElem?_replicate] at e
      split at e <;> cases e
theorem out_QF {N : En} {Q : VK} {E : XK} {r : F} {ρ : List Addr} {H : Hp} (h : QC N Q E r.out ρ H) : QF N { nx := fun _ H' => Q .non H', rt := Q } (fun c dd _ H' => E c dd H') r ρ H := by
  cases r with
  | nx σ' G' => exact fun ρ4 σ4 H4 s4 g4 sl4 => h ρ4 .non H4 s4 g4 rfl
  | cnt σ' G' => exact (show False from h).elim
  | brk σ' G' => exact (show False from h).elim
  | ret w' G' => exact fun ρ4 v H4 s4 g4 r4 => h ρ4 v H4 s4 g4 r4
  | exc c dd σ' G' => exact fun ρ4 σ4 H4 cls dd' s4 g4 sl4 x y => h ρ4 H4 cls dd' s4 g4 x y
  | bad => exact (show False from h).elim
theorem all_zero (L : Pg) : All1 L 0 := by
  intro f fd hf
  have no : ∀ vs H Q E, spF L 0 f vs H Q E → False := by
    rintro vs H Q E ⟨n, ρ, G, ws, g, r, h⟩
    rw [evC_d0] at h
    exact h
  exact ⟨fun vs H Q E h => (no vs H Q E h).elim, fun A outer s H args us vs Q E hr e0 hb hv h => (no vs H Q E h).elim⟩
theorem all_succ {L : Pg} (lk : Lk L) {d : Nat} (ih : ∀ j, j ≤ d → All1 L j) : All1 L (d + 1) := by
  intro f fd hf
  obtain ⟨F, S, ⟨m, hm⟩, hnp, hns⟩ := lk.df f fd hf
  have len : ∀ vs H Q E, spF L (d + 1) f vs H Q E → ∃ n ρ G ws, Rg L.N ρ G H ∧ Rws L.N ρ H ws vs ∧ ws.length = fd.np ∧ QC L.N Q E (evSs L.T n d fd.body (ws.map some ++ List.replicate (fd.ns - fd.np) none) G).out ρ H := by
    rintro vs H Q E ⟨n, ρ, G, ws, g, r, h⟩
    cases n with
    | zero => simp only [evC] at h; exact (show False from h).elim
    | succ n =>
      simp only [evC, hf] at h
      split at h
      · rename_i hl
        exact ⟨n, ρ, G, ws, g, r, hl, h⟩
      · exact (show False from h).elim
  refine F.ok S (fun vs H Q E h => ?_) fun cdv A outer s H vs Q E hr h => ?_
  · obtain ⟨n, ρ, G, ws, g, r, hl, _⟩ := len vs H Q E h
    rw [← r.len, hl, hnp]
  · obtain ⟨n, ρ, G, ws, g, r, hl, h⟩ := len vs H Q E h
    have b : Bk L (cxOf (L2.CX L.P L.w) L.P L.w L.N.K L.mg L.base (L.df f).N (L.df f).qual (L.df f).scope (L.N.fa f) cdv A outer s H E) ⟨(L.df f).N, (L.df f).scope, (L.df f).N⟩ (fun c dd _ H' => E c dd H') d :=
      ⟨rfl, rfl, rfl, rfl, rfl, rfl, S.nd, rfl, rfl, S.kind, hr, fun _ _ => .inl rfl, takes_of rfl rfl rfl rfl, ih⟩
    refine ⟨_, (sq_all lk m).ss b (passes_of rfl) hm, n, ρ, ws.map some ++ List.replicate (fd.ns - fd.np) none, G, g, ?_, ?_⟩
    · have := Rs.start (k := fd.ns - fd.np) r
      have e : L2.start (L.df f).N vs = vs.map some ++ List.replicate (fd.ns - fd.np) none := by
        unfold L2.start
        rw [hns, ← hl, r.len]
      rw [e]
      exact this
    · exact out_QF h
theorem all_ok {L : Pg} (lk : Lk L) : ∀ d, All1 L d := by
  intro d
  have : ∀ j, j ≤ d → All1 L j := by
    induction d with
    | zero =>
      intro j hj
      rw [Nat.le_zero.mp hj]
      exact all_zero L
    | succ d ih =>
      intro j hj
      rcases Nat.lt_or_ge j (d + 1) with h | h
      · exact ih j (Nat.le_of_lt_succ h)
      · rw [Nat.le_antisymm hj h]
        exact all_succ lk ih
  exact this d (Nat.le_refl _)
end PM

set_option maxHeartbeats 4000000
/-! PmP: more fuel changes no answer; the answer without fuel. -/
namespace PM
open PySem L2

def R.le {α : Type} (r r' : R α) : Prop := r = .bad ∨ r = r'
def F.le (r r' : F) : Prop := r = .bad ∨ r = r'
theorem R.le.rfl {α : Type} {r : R α} : R.le r r := .inr (Eq.refl r)
theorem F.le.rfl {r : F} : F.le r r := .inr (Eq.refl r)
theorem R.bot {α : Type} {r : R α} : R.le .bad r := .inl (Eq.refl _)
theorem F.bot {r : F} : F.le .bad r := .inl (Eq.refl _)
theorem R.le.bind {α β : Type} {r r' : R α} {f f' : α → GH → R β} (h : R.le r r') (k : ∀ a G, R.le (f a G) (f' a G)) : R.le (r.bind f) (r'.bind f') := by
  rcases h with rfl | rfl
  · exact .inl (Eq.refl _)
  · cases r with
    | ok a G => exact k a G
    | exc _ _ _ => exact .inr (Eq.refl _)
    | bad => exact .inl (Eq.refl _)
theorem R.le.nox {α : Type} {r r' : R α} (h : R.le r r') : R.le r.nox r'.nox := by
  rcases h with rfl | rfl
  · exact .inl (Eq.refl _)
  · exact .inr (Eq.refl _)
theorem R.le.toF {α : Type} {r r' : R α} {σ : Sg} {f f' : α → GH → F} (h : R.le r r') (k : ∀ a G, F.le (f a G) (f' a G)) : F.le (r.toF σ f) (r'.toF σ f') := by
  rcases h with rfl | rfl
  · exact .inl (Eq.refl _)
  · cases r with
    | ok a G => exact k a G
    | exc _ _ _ => exact .inr (Eq.refl _)
    | bad => exact .inl (Eq.refl _)
theorem F.le.then {r r' : F} {f f' : Sg → GH → F} (h : F.le r r') (k : ∀ a G, F.le (f a G) (f' a G)) : F.le (r.then f) (r'.then f') := by
  rcases h with rfl | rfl
  · exact .inl (Eq.refl _)
  · cases r with
    | nx a G => exact k a G
    | bad => exact .inl (Eq.refl _)
    | _ => exact .inr (Eq.refl _)
theorem F.le.out {r r' : F} (h : F.le r r') : R.le r.out r'.out := by
  rcases h with rfl | rfl
  · exact .inl (Eq.refl _)
  · exact .inr (Eq.refl _)
def F.loop (r : F) (f : Sg → GH → F) : F := match r with
  | .nx σ2 G2 => f σ2 G2
  | .cnt σ2 G2 => f σ2 G2
  | .brk σ2 G2 => .nx σ2 G2
  | r => r
theorem F.le.loop {r r' : F} {f f' : Sg → GH → F} (h : F.le r r') (k : ∀ a G, F.le (f a G) (f' a G)) : F.le (r.loop f) (r'.loop f') := by
  rcases h with rfl | rfl
  · exact .inl (Eq.refl _)
  · cases r with
    | nx a G => exact k a G
    | cnt a G => exact k a G
    | bad => exact .inl (Eq.refl _)
    | _ => exact .inr (Eq.refl _)
section
variable {T : Tb} {n d : Nat} {iv : IV} {i : Nat} {tg : Tg} {b : List S} {c : E} {σ σ1 : Sg} {G : GH} {w : W}
theorem evF_bad (h : iv.at G i = none) : evF T (n + 1) d iv i tg b σ G = .bad := by simp only [evF, h]
theorem evF_end (h : iv.at G i = some none) : evF T (n + 1) d iv i tg b σ G = .nx σ G := by simp only [evF, h]
theorem evF_asg (h : iv.at G i = some (some w)) (k : asgT tg w σ = none) : evF T (n + 1) d iv i tg b σ G = .bad := by simp only [evF, h, k]
theorem evF_go (h : iv.at G i = some (some w)) (k : asgT tg w σ = some σ1) : evF T (n + 1) d iv i tg b σ G = (evSs T n d b σ1 G).loop fun σ2 G2 => evF T n d iv (i + 1) tg b σ2 G2 := by
  simp only [evF, h, k]
  rfl
theorem evW_go : evW T (n + 1) d c b σ G = (evE T n d c σ G).toF σ fun x G1 => match tru G1 x with
    | some true => (evSs T n d b σ G1).loop fun σ2 G2 => evW T n d c b σ2 G2
    | some false => .nx σ G1
    | none => .bad := by
  simp only [evW]
  rfl
end
structure Mn (T : Tb) (n : Nat) : Prop where
  e : ∀ d e σ G, R.le (evE T n d e σ G) (evE T (n + 1) d e σ G)
  es : ∀ d e σ G, R.le (evEs T n d e σ G) (evEs T (n + 1) d e σ G)
  a : ∀ d e σ G, R.le (evA T n d e σ G) (evA T (n + 1) d e σ G)
  i : ∀ d e σ G, R.le (evI T n d e σ G) (evI T (n + 1) d e σ G)
  l : ∀ d iv i tg ifs e σ vs acc G, R.le (evL T n d iv i tg ifs e σ vs acc G) (evL T (n + 1) d iv i tg ifs e σ vs acc G)
  c : ∀ d f ws G, R.le (evC T n d f ws G) (evC T (n + 1) d f ws G)
  s : ∀ d s σ G, F.le (evS T n d s σ G) (evS T (n + 1) d s σ G)
  ss : ∀ d s σ G, F.le (evSs T n d s σ G) (evSs T (n + 1) d s σ G)
  f : ∀ d iv i tg b σ G, F.le (evF T n d iv i tg b σ G) (evF T (n + 1) d iv i tg b σ G)
  w : ∀ d c b σ G, F.le (evW T n d c b σ G) (evW T (n + 1) d c b σ G)
section
variable {T : Tb} {n : Nat}
theorem mn_zero : Mn T 0 where
  e := fun d e σ G => by rw [show evE T 0 d e σ G = .bad from by simp only [evE]]; exact R.bot
  es := fun d e σ G => by rw [show evEs T 0 d e σ G = .bad from by simp only [evEs]]; exact R.bot
  a := fun d e σ G => by rw [show evA T 0 d e σ G = .bad from by simp only [evA]]; exact R.bot
  i := fun d e σ G => by rw [show evI T 0 d e σ G = .bad from by simp only [evI]]; exact R.bot
  l := fun d iv i tg ifs e σ vs acc G => by rw [show evL T 0 d iv i tg ifs e σ vs acc G = .bad from by simp only [evL]]; exact R.bot
  c := fun d f ws G => by rw [show evC T 0 d f ws G = .bad from by simp only [evC]]; exact R.bot
  s := fun d s σ G => by rw [show evS T 0 d s σ G = .bad from by simp only [evS]]; exact F.bot
  ss := fun d s σ G => by rw [show evSs T 0 d s σ G = .bad from by simp only [evSs]]; exact F.bot
  f := fun d iv i tg b σ G => by rw [show evF T 0 d iv i tg b σ G = .bad from by simp only [evF]]; exact F.bot
  w := fun d c b σ G => by rw [show evW T 0 d c b σ G = .bad from by simp only [evW]]; exact F.bot
theorem mn_e (h : Mn T n) (d : Nat) (e : E) (σ : Sg) (G : GH) : R.le (evE T (n + 1) d e σ G) (evE T (n + 1 + 1) d e σ G) := by
  cases e with
  | cst w => simp only [evE]; exact R.le.rfl
  | var i => simp only [evE]; exact R.le.rfl
  | bin o a b => simp only [evE]; exact (h.e ..).bind fun _ _ => (h.e ..).bind fun _ _ => R.le.rfl
  | cmp o a b => simp only [evE]; exact (h.e ..).bind fun _ _ => (h.e ..).bind fun _ _ => R.le.rfl
  | and a b =>
    simp only [evE]
    exact (h.e ..).bind fun _ _ => R.le.bind R.le.rfl fun k _ => by
      cases k with
      | true => exact h.e ..
      | false => exact R.le.rfl
  | or a b =>
    simp only [evE]
    exact (h.e ..).bind fun _ _ => R.le.bind R.le.rfl fun k _ => by
      cases k with
      | false => exact h.e ..
      | true => exact R.le.rfl
  | not a => simp only [evE]; exact (h.e ..).bind fun _ _ => R.le.rfl
  | neg a => simp only [evE]; exact (h.e ..).bind fun _ _ => R.le.rfl
  | ife c a b =>
    simp only [evE]
    exact (h.e ..).bind fun _ _ => R.le.bind R.le.rfl fun k _ => by
      cases k with
      | true => exact h.e ..
      | false => exact h.e ..
  | tup es => simp only [evE]; exact (h.a ..).bind fun _ _ => R.le.rfl
  | lst es => simp only [evE]; exact (h.a ..).bind fun _ _ => R.le.rfl
  | ix a i => simp only [evE]; exact (h.e ..).bind fun _ _ => (h.e ..).bind fun _ _ => R.le.rfl
  | sl a lo hi => simp only [evE]; exact (h.e ..).bind fun _ _ => R.le.bind ((h.e ..).bind fun _ _ => R.le.rfl) fun _ _ => R.le.bind ((h.e ..).bind fun _ _ => R.le.rfl) fun _ _ => R.le.rfl
  | call f es bd =>
    simp only [evE]
    refine (h.es ..).bind fun ws G1 => ?_
    cases bindA bd ws with
    | none => exact R.le.rfl
    | some us => exact h.c ..
  | mk c es bd =>
    simp only [evE]
    cases T.ini.lookup c with
    | none => exact R.le.rfl
    | some f =>
      refine (h.es ..).bind fun ws G1 => ?_
      cases bindA bd (.ref G1.sz :: ws) with
      | none => exact R.le.rfl
      | some us => exact (h.c ..).bind fun _ _ => R.le.rfl
  | met o m es =>
    simp only [evE]
    refine (h.e ..).bind fun x G1 => ?_
    cases mkOf T G1 x m with
    | none => exact R.le.rfl
    | some k =>
      cases k with
      | b k => exact (h.es ..).bind fun _ _ => R.le.rfl
      | f f => exact (h.es ..).bind fun _ _ => h.c ..
  | att o f => simp only [evE]; exact (h.e ..).bind fun _ _ => R.le.rfl
  | blt b es => simp only [evE]; exact (h.es ..).bind fun _ _ => R.le.rfl
  | lc vs tg it ifs e => simp only [evE]; exact (h.i ..).bind fun _ _ => R.le.bind (h.l ..).nox fun _ _ => R.le.rfl
theorem mn_s (h : Mn T n) (d : Nat) (s : S) (σ : Sg) (G : GH) : F.le (evS T (n + 1) d s σ G) (evS T (n + 1 + 1) d s σ G) := by
  cases s with
  | asg t e => simp only [evS]; exact (h.e ..).toF fun _ _ => F.le.rfl
  | sub o i e => simp only [evS]; exact (h.e ..).toF fun _ _ => (h.e ..).toF fun _ _ => (h.e ..).toF fun _ _ => F.le.rfl
  | att o f e => simp only [evS]; exact (h.e ..).toF fun _ _ => (h.e ..).toF fun _ _ => F.le.rfl
  | par is es => simp only [evS]; exact (h.es ..).toF fun _ _ => F.le.rfl
  | exp e => simp only [evS]; exact (h.e ..).toF fun _ _ => F.le.rfl
  | ife c a b =>
    simp only [evS]
    refine (h.e ..).toF fun x G1 => ?_
    cases tru G1 x with
    | none => exact F.le.rfl
    | some k =>
      cases k with
      | true => exact h.ss ..
      | false => exact h.ss ..
  | «for» t it b => simp only [evS]; exact (h.i ..).toF fun _ _ => h.f ..
  | whl c b => simp only [evS]; exact h.w ..
  | ret e => simp only [evS]; exact (h.e ..).toF fun _ _ => F.le.rfl
  | pass => simp only [evS]; exact F.le.rfl
theorem mn_succ (h : Mn T n) : Mn T (n + 1) where
  e := mn_e h
  es := fun d e σ G => by
    cases e with
    | nil => simp only [evEs]; exact R.le.rfl
    | cons a r => simp only [evEs]; exact (h.e ..).bind fun _ _ => (h.es ..).bind fun _ _ => R.le.rfl
  a := fun d e σ G => by
    cases e with
    | nil => simp only [evA]; exact R.le.rfl
    | cons a r =>
      cases a with
      | e x => simp only [evA]; exact (h.e ..).bind fun _ _ => (h.a ..).bind fun _ _ => R.le.rfl
      | s x => simp only [evA]; exact (h.e ..).bind fun _ _ => R.le.bind R.le.rfl fun _ _ => (h.a ..).bind fun _ _ => R.le.rfl
  i := fun d it σ G => by
    cases it with
    | e x => simp only [evI]; exact (h.e ..).bind fun _ _ => R.le.rfl
    | rng es => simp only [evI]; exact (h.es ..).bind fun _ _ => R.le.rfl
    | zip a b => simp only [evI]; exact (h.e ..).bind fun _ _ => (h.e ..).bind fun _ _ => R.le.rfl
  l := fun d iv i tg ifs e σ vs acc G => by
    cases hat : iv.at G i with
    | none => rw [evL_bad hat]; exact R.bot
    | some ow =>
      cases ow with
      | none => rw [evL_end hat, evL_end hat]; exact R.le.rfl
      | some w =>
        cases hasg : asgT tg w σ with
        | none => rw [evL_asg hat hasg]; exact R.bot
        | some σ1 =>
          cases ifs with
          | nil =>
            rw [evL_go0 hat hasg, evL_go0 hat hasg]
            refine (h.e ..).bind fun u G1 => ?_
            split
            · exact h.l ..
            · exact R.le.rfl
          | cons c r =>
            cases r with
            | nil =>
              rw [evL_go1 hat hasg, evL_go1 hat hasg]
              refine R.le.bind ((h.e ..).bind fun x G1 => R.le.rfl) fun k G1 => ?_
              cases k with
              | true =>
                refine (h.e ..).bind fun u G2 => ?_
                split
                · exact h.l ..
                · exact R.le.rfl
              | false => exact h.l ..
            | cons _ _ => rw [evL_go2 hat hasg]; exact R.bot
  c := fun d f ws G => by
    cases d with
    | zero => simp only [evC]; exact R.le.rfl
    | succ d =>
      simp only [evC]
      cases T.fns[f]? with
      | none => exact R.le.rfl
      | some fd =>
        show R.le (if ws.length = fd.np then _ else _) (if ws.length = fd.np then _ else _)
        split
        · exact (h.ss ..).out
        · exact R.le.rfl
  s := mn_s h
  ss := fun d s σ G => by
    cases s with
    | nil => simp only [evSs]; exact F.le.rfl
    | cons a r => simp only [evSs]; exact (h.s ..).then fun _ _ => h.ss ..
  f := fun d iv i tg b σ G => by
    cases hat : iv.at G i with
    | none => rw [evF_bad hat]; exact F.bot
    | some ow =>
      cases ow with
      | none => rw [evF_end hat, evF_end hat]; exact F.le.rfl
      | some w =>
        cases hasg : asgT tg w σ with
        | none => rw [evF_asg hat hasg]; exact F.bot
        | some σ1 =>
          rw [evF_go hat hasg, evF_go hat hasg]
          exact (h.ss d b σ1 G).loop fun σ2 G2 => h.f d iv (i + 1) tg b σ2 G2
  w := fun d c b σ G => by
    rw [evW_go, evW_go]
    refine (h.e ..).toF fun x G1 => ?_
    cases tru G1 x with
    | none => exact F.le.rfl
    | some k =>
      cases k with
      | true => exact (h.ss d b σ G1).loop fun σ2 G2 => h.w d c b σ2 G2
      | false => exact F.le.rfl
theorem mn (T : Tb) : ∀ n, Mn T n
  | 0 => mn_zero
  | n + 1 => mn_succ (mn T n)
end

/-! ### the answer without fuel -/
open Classical in
noncomputable def limR {α : Type} (f : Nat → R α) : R α := if h : ∃ n, f n ≠ .bad then f h.choose else .bad
open Classical in
noncomputable def limF (f : Nat → F) : F := if h : ∃ n, f n ≠ .bad then f h.choose else .bad
def MonR {α : Type} (f : Nat → R α) : Prop := ∀ n, R.le (f n) (f (n + 1))
def MonF (f : Nat → F) : Prop := ∀ n, F.le (f n) (f (n + 1))
section
variable {α β : Type} {f : Nat → R α} {g : Nat → F}
theorem MonR.up (m : MonR f) {n : Nat} (h : f n ≠ .bad) : ∀ k, f (n + k) = f n
  | 0 => rfl
  | k + 1 => by
    have ih := m.up h k
    rcases m (n + k) with e | e
    · rw [ih] at e; exact absurd e h
    · rw [← ih, e]; rfl
theorem MonR.eq (m : MonR f) {n k : Nat} (h : f n ≠ .bad) (h2 : f k ≠ .bad) : f n = f k := by
  rcases Nat.le_total n k with l | l
  · rw [← m.up h (k - n), Nat.add_sub_cancel' l]
  · rw [← m.up h2 (n - k), Nat.add_sub_cancel' l]
theorem MonR.lim (m : MonR f) {n : Nat} (h : f n ≠ .bad) : limR f = f n := by
  unfold limR
  have ex : ∃ n, f n ≠ .bad := ⟨n, h⟩
  rw [dif_pos ex]
  exact m.eq ex.choose_spec h
theorem lim_bad (h : ∀ n, f n = .bad) : limR f = .bad := by
  unfold limR
  rw [dif_neg (fun ⟨n, k⟩ => k (h n))]
theorem lim_ex {r : R α} (h : limR f = r) (hr : r ≠ .bad) : ∃ n, f n = r := by
  unfold limR at h
  by_cases ex : ∃ n, f n ≠ .bad
  · rw [dif_pos ex] at h
    exact ⟨_, h⟩
  · rw [dif_neg ex] at h
    exact absurd h.symm hr
theorem MonF.up (m : MonF g) {n : Nat} (h : g n ≠ .bad) : ∀ k, g (n + k) = g n
  | 0 => rfl
  | k + 1 => by
    have ih := m.up h k
    rcases m (n + k) with e | e
    · rw [ih] at e; exact absurd e h
    · rw [← ih, e]; rfl
theorem MonF.eq (m : MonF g) {n k : Nat} (h : g n ≠ .bad) (h2 : g k ≠ .bad) : g n = g k := by
  rcases Nat.le_total n k with l | l
  · rw [← m.up h (k - n), Nat.add_sub_cancel' l]
  · rw [← m.up h2 (n - k), Nat.add_sub_cancel' l]
theorem MonF.lim (m : MonF g) {n : Nat} (h : g n ≠ .bad) : limF g = g n := by
  unfold limF
  have ex : ∃ n, g n ≠ .bad := ⟨n, h⟩
  rw [dif_pos ex]
  exact m.eq ex.choose_spec h
theorem limF_bad (h : ∀ n, g n = .bad) : limF g = .bad := by
  unfold limF
  rw [dif_neg (fun ⟨n, k⟩ => k (h n))]
theorem limF_ex {r : F} (h : limF g = r) (hr : r ≠ .bad) : ∃ n, g n = r := by
  unfold limF at h
  by_cases ex : ∃ n, g n ≠ .bad
  · rw [dif_pos ex] at h
    exact ⟨_, h⟩
  · rw [dif_neg ex] at h
    exact absurd h.symm hr
theorem lim_succ (m : MonR f) (h0 : f 0 = .bad) : limR f = limR fun n => f (n + 1) := by
  by_cases ex : ∃ n, f n ≠ .bad
  · obtain ⟨n, h⟩ := ex
    cases n with
    | zero => exact absurd h0 h
    | succ n =>
      rw [m.lim h]
      exact (MonR.lim (f := fun n => f (n + 1)) (fun n => m (n + 1)) (n := n) h).symm
  · have all : ∀ n, f n = .bad := fun n => Classical.not_not.mp fun h => ex ⟨n, h⟩
    rw [lim_bad all, lim_bad fun n => all (n + 1)]
theorem limF_succ (m : MonF g) (h0 : g 0 = .bad) : limF g = limF fun n => g (n + 1) := by
  by_cases ex : ∃ n, g n ≠ .bad
  · obtain ⟨n, h⟩ := ex
    cases n with
    | zero => exact absurd h0 h
    | succ n =>
      rw [m.lim h]
      exact (MonF.lim (g := fun n => g (n + 1)) (fun n => m (n + 1)) (n := n) h).symm
  · have all : ∀ n, g n = .bad := fun n => Classical.not_not.mp fun h => ex ⟨n, h⟩
    rw [limF_bad all, limF_bad fun n => all (n + 1)]
theorem lim_const {r : R α} : (limR fun _ => r) = r := by
  by_cases h : r = .bad
  · rw [h]
    exact lim_bad fun _ => rfl
  · exact MonR.lim (f := fun _ => r) (fun _ => R.le.rfl) (n := 0) h
theorem limF_const {r : F} : (limF fun _ => r) = r := by
  by_cases h : r = .bad
  · rw [h]
    exact limF_bad fun _ => rfl
  · exact MonF.lim (g := fun _ => r) (fun _ => F.le.rfl) (n := 0) h
theorem R.bind_bad {r : R α} {k : α → GH → R β} (h : r = .bad) : r.bind k = .bad := by rw [h]; rfl
theorem lim_bind {k : Nat → α → GH → R β} (m : MonR f) (mk : ∀ a G, MonR fun n => k n a G) : (limR fun n => (f n).bind (k n)) = (limR f).bind fun a G => limR fun n => k n a G := by
  have mb : MonR fun n => (f n).bind (k n) := fun n => (m n).bind fun a G => mk a G n
  by_cases ex : ∃ n, f n ≠ .bad
  · obtain ⟨n, h⟩ := ex
    rw [m.lim h]
    cases q : f n with
    | ok a G =>
      show _ = limR fun n => k n a G
      have up : ∀ j, f (n + j) = .ok a G := fun j => (m.up h j).trans q
      by_cases ex2 : ∃ j, k j a G ≠ .bad
      · obtain ⟨j, h2⟩ := ex2
        have h3 : k (n + j) a G ≠ .bad := by
          rw [Nat.add_comm, (mk a G).up h2 n]
          exact h2
        have e : (f (n + j)).bind (k (n + j)) = k (n + j) a G := by rw [up]; rfl
        rw [MonR.lim mb (n := n + j) (by show (f (n + j)).bind (k (n + j)) ≠ .bad; rw [e]; exact h3), MonR.lim (mk a G) h3]
        exact e
      · have all : ∀ j, k j a G = .bad := fun j => Classical.not_not.mp fun h => ex2 ⟨j, h⟩
        rw [lim_bad all]
        refine lim_bad fun j => ?_
        by_cases hj : f j = .bad
        · exact R.bind_bad hj
        · rw [m.eq hj h, q]
          exact all j
    | exc c dd G =>
      show _ = R.exc c dd G
      have e : (f n).bind (k n) = .exc c dd G := by rw [q]; rfl
      rw [MonR.lim mb (n := n) (by show (f n).bind (k n) ≠ .bad; rw [e]; exact fun z => nomatch z)]
      exact e
    | bad => exact absurd q h
  · have all : ∀ n, f n = .bad := fun n => Classical.not_not.mp fun h => ex ⟨n, h⟩
    rw [lim_bad all]
    exact lim_bad fun n => R.bind_bad (all n)
theorem lim_toF {σ : Sg} {k : Nat → α → GH → F} (m : MonR f) (mk : ∀ a G, MonF fun n => k n a G) : (limF fun n => (f n).toF σ (k n)) = (limR f).toF σ fun a G => limF fun n => k n a G := by
  have mb : MonF fun n => (f n).toF σ (k n) := fun n => (m n).toF fun a G => mk a G n
  by_cases ex : ∃ n, f n ≠ .bad
  · obtain ⟨n, h⟩ := ex
    rw [m.lim h]
    cases q : f n with
    | ok a G =>
      show _ = limF fun n => k n a G
      have up : ∀ j, f (n + j) = .ok a G := fun j => (m.up h j).trans q
      by_cases ex2 : ∃ j, k j a G ≠ .bad
      · obtain ⟨j, h2⟩ := ex2
        have h3 : k (n + j) a G ≠ .bad := by
          rw [Nat.add_comm, (mk a G).up h2 n]
          exact h2
        have e : (f (n + j)).toF σ (k (n + j)) = k (n + j) a G := by rw [up]; rfl
        rw [MonF.lim mb (n := n + j) (by show (f (n + j)).toF σ (k (n + j)) ≠ .bad; rw [e]; exact h3), MonF.lim (mk a G) h3]
        exact e
      · have all : ∀ j, k j a G = .bad := fun j => Classical.not_not.mp fun h => ex2 ⟨j, h⟩
        rw [limF_bad all]
        refine limF_bad fun j => ?_
        by_cases hj : f j = .bad
        · show (f j).toF σ (k j) = .bad
          rw [hj]
          rfl
        · show (f j).toF σ (k j) = .bad
          rw [m.eq hj h, q]
          exact all j
    | exc c dd G =>
      show _ = F.exc c dd σ G
      have e : (f n).toF σ (k n) = .exc c dd σ G := by rw [q]; rfl
      rw [MonF.lim mb (n := n) (by show (f n).toF σ (k n) ≠ .bad; rw [e]; exact fun z => nomatch z)]
      exact e
    | bad => exact absurd q h
  · have all : ∀ n, f n = .bad := fun n => Classical.not_not.mp fun h => ex ⟨n, h⟩
    rw [lim_bad all]
    exact limF_bad fun n => by show (f n).toF σ (k n) = .bad; rw [all n]; rfl
theorem lim_nox (m : MonR f) : (limR fun n => (f n).nox) = (limR f).nox := by
  by_cases ex : ∃ n, f n ≠ .bad
  · obtain ⟨n, h⟩ := ex
    rw [m.lim h]
    by_cases h2 : (f n).nox = .bad
    · rw [h2]
      refine lim_bad fun j => ?_
      by_cases hj : f j = .bad
      · rw [hj]; rfl
      · rw [m.eq hj h, h2]
    · exact MonR.lim (f := fun n => (f n).nox) (fun n => (m n).nox) h2
  · have all : ∀ n, f n = .bad := fun n => Classical.not_not.mp fun h => ex ⟨n, h⟩
    rw [lim_bad all]
    exact lim_bad fun n => by rw [all n]; rfl
theorem lim_out (m : MonF g) : (limR fun n => (g n).out) = (limF g).out := by
  by_cases ex : ∃ n, g n ≠ .bad
  · obtain ⟨n, h⟩ := ex
    rw [m.lim h]
    by_cases h2 : (g n).out = .bad
    · rw [h2]
      refine lim_bad fun j => ?_
      by_cases hj : g j = .bad
      · rw [hj]; rfl
      · rw [m.eq hj h, h2]
    · exact MonR.lim (f := fun n => (g n).out) (fun n => (m n).out) h2
  · have all : ∀ n, g n = .bad := fun n => Classical.not_not.mp fun h => ex ⟨n, h⟩
    rw [limF_bad all]
    exact lim_bad fun n => by rw [all n]; rfl
theorem lim_gen {op : F → (Sg → GH → F) → F} (hop : ∀ r : F, r ≠ .bad → (∃ σ G, ∀ f : Sg → GH → F, op r f = f σ G) ∨ ∃ r' : F, r' ≠ .bad ∧ ∀ f : Sg → GH → F, op r f = r') (hb : ∀ f, op .bad f = .bad) {k : Nat → Sg → GH → F} (m : MonF g) (mk : ∀ a G, MonF fun n => k n a G)
    (mb : MonF fun n => op (g n) (k n)) : (limF fun n => op (g n) (k n)) = op (limF g) fun a G => limF fun n => k n a G := by
  by_cases ex : ∃ n, g n ≠ .bad
  · obtain ⟨n, h⟩ := ex
    rw [m.lim h]
    have up : ∀ j, g (n + j) = g n := fun j => m.up h j
    rcases hop (g n) h with ⟨a, G, q⟩ | ⟨r', hr, q⟩
    · rw [q]
      by_cases ex2 : ∃ j, k j a G ≠ .bad
      · obtain ⟨j, h2⟩ := ex2
        have h3 : k (n + j) a G ≠ .bad := by
          rw [Nat.add_comm, (mk a G).up h2 n]
          exact h2
        have e : op (g (n + j)) (k (n + j)) = k (n + j) a G := by rw [up, q]
        rw [MonF.lim mb (n := n + j) (by show op (g (n + j)) (k (n + j)) ≠ .bad; rw [e]; exact h3), MonF.lim (mk a G) h3]
        exact e
      · have all : ∀ j, k j a G = .bad := fun j => Classical.not_not.mp fun h => ex2 ⟨j, h⟩
        rw [limF_bad all]
        refine limF_bad fun j => ?_
        by_cases hj : g j = .bad
        · rw [hj, hb]
        · rw [m.eq hj h, q]
          exact all j
    · rw [q]
      have e : op (g n) (k n) = r' := q _
      rw [MonF.lim mb (n := n) (by show op (g n) (k n) ≠ .bad; rw [e]; exact hr)]
      exact e
  · have all : ∀ n, g n = .bad := fun n => Classical.not_not.mp fun h => ex ⟨n, h⟩
    rw [limF_bad all, hb]
    exact limF_bad fun n => by rw [all n, hb]
theorem lim_then {k : Nat → Sg → GH → F} (m : MonF g) (mk : ∀ a G, MonF fun n => k n a G) : (limF fun n => (g n).then (k n)) = (limF g).then fun a G => limF fun n => k n a G :=
  lim_gen (op := F.then) (fun r hr => by
    cases r with
    | nx a G => exact .inl ⟨a, G, fun _ => rfl⟩
    | bad => exact absurd rfl hr
    | _ => exact .inr ⟨_, hr, fun _ => rfl⟩) (fun _ => rfl) m mk fun n => (m n).then fun a G => mk a G n
theorem lim_loop {k : Nat → Sg → GH → F} (m : MonF g) (mk : ∀ a G, MonF fun n => k n a G) : (limF fun n => (g n).loop (k n)) = (limF g).loop fun a G => limF fun n => k n a G :=
  lim_gen (op := F.loop) (fun r hr => by
    cases r with
    | nx a G => exact .inl ⟨a, G, fun _ => rfl⟩
    | cnt a G => exact .inl ⟨a, G, fun _ => rfl⟩
    | brk a G => exact .inr ⟨.nx a G, (fun z => nomatch z : (F.nx a G) ≠ .bad), fun _ => rfl⟩
    | bad => exact absurd rfl hr
    | _ => exact .inr ⟨_, hr, fun _ => rfl⟩) (fun _ => rfl) m mk fun n => (m n).loop fun a G => mk a G n
end
end PM

set_option maxHeartbeats 4000000
/-! PmQ: the answers without fuel, by equations. -/
namespace PM
open PySem L2
section
variable (T : Tb)
noncomputable def xE (d : Nat) (e : E) (σ : Sg) (G : GH) : R W := limR fun n => evE T n d e σ G
noncomputable def xEs (d : Nat) (e : List E) (σ : Sg) (G : GH) : R (List W) := limR fun n => evEs T n d e σ G
noncomputable def xA (d : Nat) (e : List Ar) (σ : Sg) (G : GH) : R (List W) := limR fun n => evA T n d e σ G
noncomputable def xI (d : Nat) (e : It) (σ : Sg) (G : GH) : R IV := limR fun n => evI T n d e σ G
noncomputable def xL (d : Nat) (iv : IV) (i : Nat) (tg : Tg) (ifs : List E) (e : E) (σ : Sg) (vs : List Nat) (acc : List W) (G : GH) : R (List W) := limR fun n => evL T n d iv i tg ifs e σ vs acc G
noncomputable def xC (d f : Nat) (ws : List W) (G : GH) : R W := limR fun n => evC T n d f ws G
noncomputable def xS (d : Nat) (s : S) (σ : Sg) (G : GH) : F := limF fun n => evS T n d s σ G
noncomputable def xSs (d : Nat) (s : List S) (σ : Sg) (G : GH) : F := limF fun n => evSs T n d s σ G
noncomputable def xF (d : Nat) (iv : IV) (i : Nat) (tg : Tg) (b : List S) (σ : Sg) (G : GH) : F := limF fun n => evF T n d iv i tg b σ G
noncomputable def xW (d : Nat) (c : E) (b : List S) (σ : Sg) (G : GH) : F := limF fun n => evW T n d c b σ G
end
section
variable {T : Tb} {d : Nat} {σ : Sg} {G : GH}
theorem mE {e : E} {σ : Sg} {G : GH} : MonR fun n => evE T n d e σ G := fun n => (mn T n).e ..
theorem mEs {e : List E} {σ : Sg} {G : GH} : MonR fun n => evEs T n d e σ G := fun n => (mn T n).es ..
theorem mA {e : List Ar} {σ : Sg} {G : GH} : MonR fun n => evA T n d e σ G := fun n => (mn T n).a ..
theorem mI {e : It} {σ : Sg} {G : GH} : MonR fun n => evI T n d e σ G := fun n => (mn T n).i ..
theorem mL {iv : IV} {i : Nat} {tg : Tg} {ifs : List E} {e : E} {σ : Sg} {vs : List Nat} {acc : List W} {G : GH} : MonR fun n => evL T n d iv i tg ifs e σ vs acc G := fun n => (mn T n).l ..
theorem mC {f : Nat} {ws : List W} {G : GH} : MonR fun n => evC T n d f ws G := fun n => (mn T n).c ..
theorem mS {s : S} {σ : Sg} {G : GH} : MonF fun n => evS T n d s σ G := fun n => (mn T n).s ..
theorem mSs {s : List S} {σ : Sg} {G : GH} : MonF fun n => evSs T n d s σ G := fun n => (mn T n).ss ..
theorem mF {iv : IV} {i : Nat} {tg : Tg} {b : List S} {σ : Sg} {G : GH} : MonF fun n => evF T n d iv i tg b σ G := fun n => (mn T n).f ..
theorem mW {c : E} {b : List S} {σ : Sg} {G : GH} : MonF fun n => evW T n d c b σ G := fun n => (mn T n).w ..
theorem mK {α : Type} (r : R α) : MonR fun _ => r := fun _ => R.le.rfl
theorem mKF (r : F) : MonF fun _ => r := fun _ => F.le.rfl
theorem mB {α β : Type} {f : Nat → R α} {k : Nat → α → GH → R β} (m : MonR f) (mk : ∀ a G, MonR fun n => k n a G) : MonR fun n => (f n).bind (k n) := fun n => (m n).bind fun a G => mk a G n
theorem mT {α : Type} {σ : Sg} {f : Nat → R α} {k : Nat → α → GH → F} (m : MonR f) (mk : ∀ a G, MonF fun n => k n a G) : MonF fun n => (f n).toF σ (k n) := fun n => (m n).toF fun a G => mk a G n
theorem mIte {α : Type} {c : Bool} {f g : Nat → R α} (m : MonR f) (k : MonR g) : MonR fun n => if c = true then f n else g n := by
  cases c
  · exact k
  · exact m
theorem lIte {α : Type} {c : Bool} {f g : Nat → R α} : (limR fun n => if c = true then f n else g n) = if c = true then limR f else limR g := by
  cases c <;> rfl
theorem lim_bindK {α β : Type} {f : Nat → R α} {k : α → GH → R β} (m : MonR f) : (limR fun n => (f n).bind k) = (limR f).bind k := by
  refine Eq.trans (lim_bind m fun _ _ => mK _) ?_
  congr 1; funext a G
  exact lim_const
/-! expressions -/
theorem xE_cst {w : W} : xE T d (.cst w) σ G = .ok w G := by
  unfold xE; rw [lim_succ mE (by simp only [evE])]; simp only [evE]; exact lim_const
theorem xE_var {i : Nat} : xE T d (.var i) σ G = match σ[i]? with
    | some (some w) => .ok w G
    | _ => .bad := by
  unfold xE; rw [lim_succ mE (by simp only [evE])]; simp only [evE]; exact lim_const
theorem xE_bin {o : BO} {a b : E} : xE T d (.bin o a b) σ G = (xE T d a σ G).bind fun x G1 => (xE T d b σ G1).bind fun y G2 => ofOG (binop o x y G2) := by
  unfold xE; rw [lim_succ mE (by simp only [evE])]; simp only [evE]
  refine Eq.trans (lim_bind (by repeat first | exact mE | exact mEs | exact mA | exact mI | exact mL | exact mC | exact mS | exact mSs | exact mF | exact mW | exact mK _ | exact mKF _ | exact (fun n => ((mn _ n).l ..).nox) | refine mB ?_ (fun _ _ => ?_) | refine mT ?_ (fun _ _ => ?_) | refine mIte ?_ ?_) (fun _ _ => by repeat first | exact mE | exact mEs | exact mA | exact mI | exact mL | exact mC | exact mS | exact mSs | exact mF | exact mW | exact mK _ | exact mKF _ | exact (fun n => ((mn _ n).l ..).nox) | refine mB ?_ (fun _ _ => ?_) | refine mT ?_ (fun _ _ => ?_) | refine mIte ?_ ?_)) ?_
  congr 1; funext x G1
  refine Eq.trans (lim_bind (by repeat first | exact mE | exact mEs | exact mA | exact mI | exact mL | exact mC | exact mS | exact mSs | exact mF | exact mW | exact mK _ | exact mKF _ | exact (fun n => ((mn _ n).l ..).nox) | refine mB ?_ (fun _ _ => ?_) | refine mT ?_ (fun _ _ => ?_) | refine mIte ?_ ?_) (fun _ _ => by repeat first | exact mE | exact mEs | exact mA | exact mI | exact mL | exact mC | exact mS | exact mSs | exact mF | exact mW | exact mK _ | exact mKF _ | exact (fun n => ((mn _ n).l ..).nox) | refine mB ?_ (fun _ _ => ?_) | refine mT ?_ (fun _ _ => ?_) | refine mIte ?_ ?_)) ?_
  congr 1; funext y G2
  exact lim_const
theorem xE_cmp {o : CO} {a b : E} : xE T d (.cmp o a b) σ G = (xE T d a σ G).bind fun x G1 => (xE T d b σ G1).bind fun y G2 => ofO ((cmpop o x y G2).map .bl) G2 := by
  unfold xE; rw [lim_succ mE (by simp only [evE])]; simp only [evE]
  refine Eq.trans (lim_bind (by repeat first | exact mE | exact mEs | exact mA | exact mI | exact mL | exact mC | exact mS | exact mSs | exact mF | exact mW | exact mK _ | exact mKF _ | exact (fun n => ((mn _ n).l ..).nox) | refine mB ?_ (fun _ _ => ?_) | refine mT ?_ (fun _ _ => ?_) | refine mIte ?_ ?_) (fun _ _ => by repeat first | exact mE | exact mEs | exact mA | exact mI | exact mL | exact mC | exact mS | exact mSs | exact mF | exact mW | exact mK _ | exact mKF _ | exact (fun n => ((mn _ n).l ..).nox) | refine mB ?_ (fun _ _ => ?_) | refine mT ?_ (fun _ _ => ?_) | refine mIte ?_ ?_)) ?_
  congr 1; funext x G1
  refine Eq.trans (lim_bind (by repeat first | exact mE | exact mEs | exact mA | exact mI | exact mL | exact mC | exact mS | exact mSs | exact mF | exact mW | exact mK _ | exact mKF _ | exact (fun n => ((mn _ n).l ..).nox) | refine mB ?_ (fun _ _ => ?_) | refine mT ?_ (fun _ _ => ?_) | refine mIte ?_ ?_) (fun _ _ => by repeat first | exact mE | exact mEs | exact mA | exact mI | exact mL | exact mC | exact mS | exact mSs | exact mF | exact mW | exact mK _ | exact mKF _ | exact (fun n => ((mn _ n).l ..).nox) | refine mB ?_ (fun _ _ => ?_) | refine mT ?_ (fun _ _ => ?_) | refine mIte ?_ ?_)) ?_
  congr 1; funext y G2
  exact lim_const
theorem xE_and {a b : E} : xE T d (.and a b) σ G = (xE T d a σ G).bind fun x G1 => (ofO (tru G1 x) G1).bind fun k G1 => if k then xE T d b σ G1 else .ok x G1 := by
  unfold xE; rw [lim_succ mE (by simp only [evE])]; simp only [evE]
  refine Eq.trans (lim_bind (by repeat first | exact mE | exact mEs | exact mA | exact mI | exact mL | exact mC | exact mS | exact mSs | exact mF | exact mW | exact mK _ | exact mKF _ | exact (fun n => ((mn _ n).l ..).nox) | refine mB ?_ (fun _ _ => ?_) | refine mT ?_ (fun _ _ => ?_) | refine mIte ?_ ?_) (fun _ _ => by repeat first | exact mE | exact mEs | exact mA | exact mI | exact mL | exact mC | exact mS | exact mSs | exact mF | exact mW | exact mK _ | exact mKF _ | exact (fun n => ((mn _ n).l ..).nox) | refine mB ?_ (fun _ _ => ?_) | refine mT ?_ (fun _ _ => ?_) | refine mIte ?_ ?_)) ?_
  congr 1; funext x G1
  refine Eq.trans (lim_bind (by repeat first | exact mE | exact mEs | exact mA | exact mI | exact mL | exact mC | exact mS | exact mSs | exact mF | exact mW | exact mK _ | exact mKF _ | exact (fun n => ((mn _ n).l ..).nox) | refine mB ?_ (fun _ _ => ?_) | refine mT ?_ (fun _ _ => ?_) | refine mIte ?_ ?_) (fun _ _ => by repeat first | exact mE | exact mEs | exact mA | exact mI | exact mL | exact mC | exact mS | exact mSs | exact mF | exact mW | exact mK _ | exact mKF _ | exact (fun n => ((mn _ n).l ..).nox) | refine mB ?_ (fun _ _ => ?_) | refine mT ?_ (fun _ _ => ?_) | refine mIte ?_ ?_)) ?_
  rw [lim_const]
  congr 1; funext k G2
  rw [lIte, lim_const]
theorem xE_or {a b : E} : xE T d (.or a b) σ G = (xE T d a σ G).bind fun x G1 => (ofO (tru G1 x) G1).bind fun k G1 => if k then .ok x G1 else xE T d b σ G1 := by
  unfold xE; rw [lim_succ mE (by simp only [evE])]; simp only [evE]
  refine Eq.trans (lim_bind (by repeat first | exact mE | exact mEs | exact mA | exact mI | exact mL | exact mC | exact mS | exact mSs | exact mF | exact mW | exact mK _ | exact mKF _ | exact (fun n => ((mn _ n).l ..).nox) | refine mB ?_ (fun _ _ => ?_) | refine mT ?_ (fun _ _ => ?_) | refine mIte ?_ ?_) (fun _ _ => by repeat first | exact mE | exact mEs | exact mA | exact mI | exact mL | exact mC | exact mS | exact mSs | exact mF | exact mW | exact mK _ | exact mKF _ | exact (fun n => ((mn _ n).l ..).nox) | refine mB ?_ (fun _ _ => ?_) | refine mT ?_ (fun _ _ => ?_) | refine mIte ?_ ?_)) ?_
  congr 1; funext x G1
  refine Eq.trans (lim_bind (by repeat first | exact mE | exact mEs | exact mA | exact mI | exact mL | exact mC | exact mS | exact mSs | exact mF | exact mW | exact mK _ | exact mKF _ | exact (fun n => ((mn _ n).l ..).nox) | refine mB ?_ (fun _ _ => ?_) | refine mT ?_ (fun _ _ => ?_) | refine mIte ?_ ?_) (fun _ _ => by repeat first | exact mE | exact mEs | exact mA | exact mI | exact mL | exact mC | exact mS | exact mSs | exact mF | exact mW | exact mK _ | exact mKF _ | exact (fun n => ((mn _ n).l ..).nox) | refine mB ?_ (fun _ _ => ?_) | refine mT ?_ (fun _ _ => ?_) | refine mIte ?_ ?_)) ?_
  rw [lim_const]
  congr 1; funext k G2
  rw [lIte, lim_const]
theorem xE_not {a : E} : xE T d (.not a) σ G = (xE T d a σ G).bind fun x G1 => (ofO (tru G1 x) G1).bind fun k G1 => .ok (.bl (!k)) G1 := by
  unfold xE; rw [lim_succ mE (by simp only [evE])]; simp only [evE]
  refine Eq.trans (lim_bind (by repeat first | exact mE | exact mEs | exact mA | exact mI | exact mL | exact mC | exact mS | exact mSs | exact mF | exact mW | exact mK _ | exact mKF _ | exact (fun n => ((mn _ n).l ..).nox) | refine mB ?_ (fun _ _ => ?_) | refine mT ?_ (fun _ _ => ?_) | refine mIte ?_ ?_) (fun _ _ => by repeat first | exact mE | exact mEs | exact mA | exact mI | exact mL | exact mC | exact mS | exact mSs | exact mF | exact mW | exact mK _ | exact mKF _ | exact (fun n => ((mn _ n).l ..).nox) | refine mB ?_ (fun _ _ => ?_) | refine mT ?_ (fun _ _ => ?_) | refine mIte ?_ ?_)) ?_
  congr 1; funext x G1
  exact lim_const
theorem xE_neg {a : E} : xE T d (.neg a) σ G = (xE T d a σ G).bind fun x G1 => match x with
      | .int i => .ok (.int (-i)) G1
      | _ => .bad := by
  unfold xE; rw [lim_succ mE (by simp only [evE])]; simp only [evE]
  refine Eq.trans (lim_bind (by repeat first | exact mE | exact mEs | exact mA | exact mI | exact mL | exact mC | exact mS | exact mSs | exact mF | exact mW | exact mK _ | exact mKF _ | exact (fun n => ((mn _ n).l ..).nox) | refine mB ?_ (fun _ _ => ?_) | refine mT ?_ (fun _ _ => ?_) | refine mIte ?_ ?_) (fun _ _ => by repeat first | exact mE | exact mEs | exact mA | exact mI | exact mL | exact mC | exact mS | exact mSs | exact mF | exact mW | exact mK _ | exact mKF _ | exact (fun n => ((mn _ n).l ..).nox) | refine mB ?_ (fun _ _ => ?_) | refine mT ?_ (fun _ _ => ?_) | refine mIte ?_ ?_)) ?_
  congr 1; funext x G1
  exact lim_const
theorem xE_ife {c a b : E} : xE T d (.ife c a b) σ G = (xE T d c σ G).bind fun x G1 => (ofO (tru G1 x) G1).bind fun k G1 => if k then xE T d a σ G1 else xE T d b σ G1 := by
  unfold xE; rw [lim_succ mE (by simp only [evE])]; simp only [evE]
  refine Eq.trans (lim_bind (by repeat first | exact mE | exact mEs | exact mA | exact mI | exact mL | exact mC | exact mS | exact mSs | exact mF | exact mW | exact mK _ | exact mKF _ | exact (fun n => ((mn _ n).l ..).nox) | refine mB ?_ (fun _ _ => ?_) | refine mT ?_ (fun _ _ => ?_) | refine mIte ?_ ?_) (fun _ _ => by repeat first | exact mE | exact mEs | exact mA | exact mI | exact mL | exact mC | exact mS | exact mSs | exact mF | exact mW | exact mK _ | exact mKF _ | exact (fun n => ((mn _ n).l ..).nox) | refine mB ?_ (fun _ _ => ?_) | refine mT ?_ (fun _ _ => ?_) | refine mIte ?_ ?_)) ?_
  congr 1; funext x G1
  refine Eq.trans (lim_bind (by repeat first | exact mE | exact mEs | exact mA | exact mI | exact mL | exact mC | exact mS | exact mSs | exact mF | exact mW | exact mK _ | exact mKF _ | exact (fun n => ((mn _ n).l ..).nox) | refine mB ?_ (fun _ _ => ?_) | refine mT ?_ (fun _ _ => ?_) | refine mIte ?_ ?_) (fun _ _ => by repeat first | exact mE | exact mEs | exact mA | exact mI | exact mL | exact mC | exact mS | exact mSs | exact mF | exact mW | exact mK _ | exact mKF _ | exact (fun n => ((mn _ n).l ..).nox) | refine mB ?_ (fun _ _ => ?_) | refine mT ?_ (fun _ _ => ?_) | refine mIte ?_ ?_)) ?_
  rw [lim_const]
  congr 1; funext k G2
  rw [lIte]
theorem xE_tup {es : List Ar} : xE T d (.tup es) σ G = (xA T d es σ G).bind fun ws G1 => if szOk ws.length then .ok (.tup ws) G1 else .bad := by
  unfold xE xA; rw [lim_succ mE (by simp only [evE])]; simp only [evE]
  refine Eq.trans (lim_bind (by repeat first | exact mE | exact mEs | exact mA | exact mI | exact mL | exact mC | exact mS | exact mSs | exact mF | exact mW | exact mK _ | exact mKF _ | exact (fun n => ((mn _ n).l ..).nox) | refine mB ?_ (fun _ _ => ?_) | refine mT ?_ (fun _ _ => ?_) | refine mIte ?_ ?_) (fun _ _ => by repeat first | exact mE | exact mEs | exact mA | exact mI | exact mL | exact mC | exact mS | exact mSs | exact mF | exact mW | exact mK _ | exact mKF _ | exact (fun n => ((mn _ n).l ..).nox) | refine mB ?_ (fun _ _ => ?_) | refine mT ?_ (fun _ _ => ?_) | refine mIte ?_ ?_)) ?_
  congr 1; funext x G1
  exact lim_const
theorem xE_lst {es : List Ar} : xE T d (.lst es) σ G = (xA T d es σ G).bind fun ws G1 => ofOG (newL G1 ws) := by
  unfold xE xA; rw [lim_succ mE (by simp only [evE])]; simp only [evE]
  refine Eq.trans (lim_bind (by repeat first | exact mE | exact mEs | exact mA | exact mI | exact mL | exact mC | exact mS | exact mSs | exact mF | exact mW | exact mK _ | exact mKF _ | exact (fun n => ((mn _ n).l ..).nox) | refine mB ?_ (fun _ _ => ?_) | refine mT ?_ (fun _ _ => ?_) | refine mIte ?_ ?_) (fun _ _ => by repeat first | exact mE | exact mEs | exact mA | exact mI | exact mL | exact mC | exact mS | exact mSs | exact mF | exact mW | exact mK _ | exact mKF _ | exact (fun n => ((mn _ n).l ..).nox) | refine mB ?_ (fun _ _ => ?_) | refine mT ?_ (fun _ _ => ?_) | refine mIte ?_ ?_)) ?_
  congr 1; funext x G1
  exact lim_const
theorem xE_ix {a i : E} : xE T d (.ix a i) σ G = (xE T d a σ G).bind fun x G1 => (xE T d i σ G1).bind fun y G2 => ofO (ixop G2 x y) G2 := by
  unfold xE; rw [lim_succ mE (by simp only [evE])]; simp only [evE]
  refine Eq.trans (lim_bind (by repeat first | exact mE | exact mEs | exact mA | exact mI | exact mL | exact mC | exact mS | exact mSs | exact mF | exact mW | exact mK _ | exact mKF _ | exact (fun n => ((mn _ n).l ..).nox) | refine mB ?_ (fun _ _ => ?_) | refine mT ?_ (fun _ _ => ?_) | refine mIte ?_ ?_) (fun _ _ => by repeat first | exact mE | exact mEs | exact mA | exact mI | exact mL | exact mC | exact mS | exact mSs | exact mF | exact mW | exact mK _ | exact mKF _ | exact (fun n => ((mn _ n).l ..).nox) | refine mB ?_ (fun _ _ => ?_) | refine mT ?_ (fun _ _ => ?_) | refine mIte ?_ ?_)) ?_
  congr 1; funext x G1
  refine Eq.trans (lim_bind (by repeat first | exact mE | exact mEs | exact mA | exact mI | exact mL | exact mC | exact mS | exact mSs | exact mF | exact mW | exact mK _ | exact mKF _ | exact (fun n => ((mn _ n).l ..).nox) | refine mB ?_ (fun _ _ => ?_) | refine mT ?_ (fun _ _ => ?_) | refine mIte ?_ ?_) (fun _ _ => by repeat first | exact mE | exact mEs | exact mA | exact mI | exact mL | exact mC | exact mS | exact mSs | exact mF | exact mW | exact mK _ | exact mKF _ | exact (fun n => ((mn _ n).l ..).nox) | refine mB ?_ (fun _ _ => ?_) | refine mT ?_ (fun _ _ => ?_) | refine mIte ?_ ?_)) ?_
  congr 1; funext y G2
  exact lim_const
theorem xE_sl {a lo hi : E} : xE T d (.sl a lo hi) σ G = (xE T d a σ G).bind fun x G1 => ((xE T d lo σ G1).bind fun v G2 => ofO (optI v) G2).bind fun l G2 => ((xE T d hi σ G2).bind fun v G3 => ofO (optI v) G3).bind fun h G3 => ofOG (slop G3 x l h) := by
  unfold xE; rw [lim_succ mE (by simp only [evE])]; simp only [evE]
  refine Eq.trans (lim_bind (by repeat first | exact mE | exact mEs | exact mA | exact mI | exact mL | exact mC | exact mS | exact mSs | exact mF | exact mW | exact mK _ | exact mKF _ | exact (fun n => ((mn _ n).l ..).nox) | refine mB ?_ (fun _ _ => ?_) | refine mT ?_ (fun _ _ => ?_) | refine mIte ?_ ?_) (fun _ _ => by repeat first | exact mE | exact mEs | exact mA | exact mI | exact mL | exact mC | exact mS | exact mSs | exact mF | exact mW | exact mK _ | exact mKF _ | exact (fun n => ((mn _ n).l ..).nox) | refine mB ?_ (fun _ _ => ?_) | refine mT ?_ (fun _ _ => ?_) | refine mIte ?_ ?_)) ?_
  congr 1; funext x G1
  refine Eq.trans (lim_bind (by repeat first | exact mE | exact mEs | exact mA | exact mI | exact mL | exact mC | exact mS | exact mSs | exact mF | exact mW | exact mK _ | exact mKF _ | exact (fun n => ((mn _ n).l ..).nox) | refine mB ?_ (fun _ _ => ?_) | refine mT ?_ (fun _ _ => ?_) | refine mIte ?_ ?_) (fun _ _ => by repeat first | exact mE | exact mEs | exact mA | exact mI | exact mL | exact mC | exact mS | exact mSs | exact mF | exact mW | exact mK _ | exact mKF _ | exact (fun n => ((mn _ n).l ..).nox) | refine mB ?_ (fun _ _ => ?_) | refine mT ?_ (fun _ _ => ?_) | refine mIte ?_ ?_)) ?_
  rw [lim_bindK mE]
  congr 1; funext l G2
  refine Eq.trans (lim_bind (by repeat first | exact mE | exact mEs | exact mA | exact mI | exact mL | exact mC | exact mS | exact mSs | exact mF | exact mW | exact mK _ | exact mKF _ | exact (fun n => ((mn _ n).l ..).nox) | refine mB ?_ (fun _ _ => ?_) | refine mT ?_ (fun _ _ => ?_) | refine mIte ?_ ?_) (fun _ _ => by repeat first | exact mE | exact mEs | exact mA | exact mI | exact mL | exact mC | exact mS | exact mSs | exact mF | exact mW | exact mK _ | exact mKF _ | exact (fun n => ((mn _ n).l ..).nox) | refine mB ?_ (fun _ _ => ?_) | refine mT ?_ (fun _ _ => ?_) | refine mIte ?_ ?_)) ?_
  rw [lim_bindK mE]
  simp only [lim_const]
theorem xE_call {f : Nat} {es : List E} {bd : List Bd} : xE T d (.call f es bd) σ G = (xEs T d es σ G).bind fun ws G1 => match bindA bd ws with
      | some us => xC T d f us G1
      | none => .bad := by
  unfold xE xEs; rw [lim_succ mE (by simp only [evE])]; simp only [evE]
  refine Eq.trans (lim_bind mEs fun ws G1 => by cases bindA bd ws with | none => exact mK _ | some us => exact mC) ?_
  congr 1; funext ws G1
  cases bindA bd ws with
  | none => exact lim_const
  | some us => rfl
theorem xE_mk {c : Nat} {es : List E} {bd : List Bd} : xE T d (.mk c es bd) σ G = match T.ini.lookup c with
      | some f => (xEs T d es σ G).bind fun ws G1 => match bindA bd (.ref G1.sz :: ws) with
        | some us => (xC T (d - 1) f us (G1.push (.ins c []))).bind fun w G2 => if isNon w then .ok (.ref G1.sz) G2 else .bad
        | none => .bad
      | none => .bad := by
  unfold xE xEs; rw [lim_succ mE (by simp only [evE])]; simp only [evE]
  cases T.ini.lookup c with
  | none => exact lim_const
  | some f =>
    show (limR fun n => (evEs T n d es σ G).bind _) = _
    refine Eq.trans (lim_bind mEs fun ws G1 => by cases bindA bd (.ref G1.sz :: ws) with | none => exact mK _ | some us => exact mB mC fun _ _ => mK _) ?_
    congr 1; funext ws G1
    cases bindA bd (.ref G1.sz :: ws) with
    | none => exact lim_const
    | some us =>
      show (limR fun n => (evC T n (d - 1) f us (G1.push (.ins c []))).bind _) = _
      refine Eq.trans (lim_bind (by repeat first | exact mE | exact mEs | exact mA | exact mI | exact mL | exact mC | exact mS | exact mSs | exact mF | exact mW | exact mK _ | exact mKF _ | exact (fun n => ((mn _ n).l ..).nox) | refine mB ?_ (fun _ _ => ?_) | refine mT ?_ (fun _ _ => ?_) | refine mIte ?_ ?_) (fun _ _ => by repeat first | exact mE | exact mEs | exact mA | exact mI | exact mL | exact mC | exact mS | exact mSs | exact mF | exact mW | exact mK _ | exact mKF _ | exact (fun n => ((mn _ n).l ..).nox) | refine mB ?_ (fun _ _ => ?_) | refine mT ?_ (fun _ _ => ?_) | refine mIte ?_ ?_)) ?_
      congr 1; funext w G2
      exact lim_const
theorem xE_met {o : E} {m : Nat} {es : List E} : xE T d (.met o m es) σ G = (xE T d o σ G).bind fun x G1 => match mkOf T G1 x m with
      | some (.b k) => (xEs T d es σ G1).bind fun ws G2 => ofOG (bmop k x ws G2)
      | some (.f f) => (xEs T d es σ G1).bind fun ws G2 => xC T d f (x :: ws) G2
      | none => .bad := by
  unfold xE; rw [lim_succ mE (by simp only [evE])]; simp only [evE]
  rw [lim_bind mE fun x G1 => by
    cases mkOf T G1 x m with
    | none => exact mK _
    | some k =>
      cases k with
      | b k => exact mB mEs fun _ _ => mK _
      | f f => exact mB mEs fun _ _ => mC]
  congr 1; funext x G1
  cases mkOf T G1 x m with
  | none => exact lim_const
  | some k =>
    cases k with
    | b k =>
      show (limR fun n => (evEs T n d es σ G1).bind _) = _
      refine Eq.trans (lim_bind (by repeat first | exact mE | exact mEs | exact mA | exact mI | exact mL | exact mC | exact mS | exact mSs | exact mF | exact mW | exact mK _ | exact mKF _ | exact (fun n => ((mn _ n).l ..).nox) | refine mB ?_ (fun _ _ => ?_) | refine mT ?_ (fun _ _ => ?_) | refine mIte ?_ ?_) (fun _ _ => by repeat first | exact mE | exact mEs | exact mA | exact mI | exact mL | exact mC | exact mS | exact mSs | exact mF | exact mW | exact mK _ | exact mKF _ | exact (fun n => ((mn _ n).l ..).nox) | refine mB ?_ (fun _ _ => ?_) | refine mT ?_ (fun _ _ => ?_) | refine mIte ?_ ?_)) ?_
      unfold xEs
      congr 1; funext ws G2
      exact lim_const
    | f f =>
      show (limR fun n => (evEs T n d es σ G1).bind _) = _
      refine Eq.trans (lim_bind (by repeat first | exact mE | exact mEs | exact mA | exact mI | exact mL | exact mC | exact mS | exact mSs | exact mF | exact mW | exact mK _ | exact mKF _ | exact (fun n => ((mn _ n).l ..).nox) | refine mB ?_ (fun _ _ => ?_) | refine mT ?_ (fun _ _ => ?_) | refine mIte ?_ ?_) (fun _ _ => by repeat first | exact mE | exact mEs | exact mA | exact mI | exact mL | exact mC | exact mS | exact mSs | exact mF | exact mW | exact mK _ | exact mKF _ | exact (fun n => ((mn _ n).l ..).nox) | refine mB ?_ (fun _ _ => ?_) | refine mT ?_ (fun _ _ => ?_) | refine mIte ?_ ?_)) ?_
      rfl
theorem xE_att {o : E} {f : Nat} : xE T d (.att o f) σ G = (xE T d o σ G).bind fun x G1 => match x with
      | .ref a => match G1.get a with
        | some (.ins c fs) => if T.fl.contains (c, f) then ofO (fs.lookup f) G1 else .bad
        | _ => .bad
      | _ => .bad := by
  unfold xE; rw [lim_succ mE (by simp only [evE])]; simp only [evE]
  refine Eq.trans (lim_bind (by repeat first | exact mE | exact mEs | exact mA | exact mI | exact mL | exact mC | exact mS | exact mSs | exact mF | exact mW | exact mK _ | exact mKF _ | exact (fun n => ((mn _ n).l ..).nox) | refine mB ?_ (fun _ _ => ?_) | refine mT ?_ (fun _ _ => ?_) | refine mIte ?_ ?_) (fun _ _ => by repeat first | exact mE | exact mEs | exact mA | exact mI | exact mL | exact mC | exact mS | exact mSs | exact mF | exact mW | exact mK _ | exact mKF _ | exact (fun n => ((mn _ n).l ..).nox) | refine mB ?_ (fun _ _ => ?_) | refine mT ?_ (fun _ _ => ?_) | refine mIte ?_ ?_)) ?_
  congr 1; funext x G1
  exact lim_const
theorem xE_blt {b : Bf} {es : List E} : xE T d (.blt b es) σ G = (xEs T d es σ G).bind fun ws G1 => ofOG (bfop T b ws G1) := by
  unfold xE xEs; rw [lim_succ mE (by simp only [evE])]; simp only [evE]
  refine Eq.trans (lim_bind (by repeat first | exact mE | exact mEs | exact mA | exact mI | exact mL | exact mC | exact mS | exact mSs | exact mF | exact mW | exact mK _ | exact mKF _ | exact (fun n => ((mn _ n).l ..).nox) | refine mB ?_ (fun _ _ => ?_) | refine mT ?_ (fun _ _ => ?_) | refine mIte ?_ ?_) (fun _ _ => by repeat first | exact mE | exact mEs | exact mA | exact mI | exact mL | exact mC | exact mS | exact mSs | exact mF | exact mW | exact mK _ | exact mKF _ | exact (fun n => ((mn _ n).l ..).nox) | refine mB ?_ (fun _ _ => ?_) | refine mT ?_ (fun _ _ => ?_) | refine mIte ?_ ?_)) ?_
  congr 1; funext x G1
  exact lim_const
theorem xE_lc {vs : List Nat} {tg : Tg} {it : It} {ifs : List E} {e : E} : xE T d (.lc vs tg it ifs e) σ G = (xI T d it σ G).bind fun iv G1 => (xL T d iv 0 tg ifs e (wipeW σ vs) vs [] G1).nox.bind fun ws G2 => ofOG (newL G2 ws) := by
  unfold xE xI; rw [lim_succ mE (by simp only [evE])]; simp only [evE]
  refine Eq.trans (lim_bind (by repeat first | exact mE | exact mEs | exact mA | exact mI | exact mL | exact mC | exact mS | exact mSs | exact mF | exact mW | exact mK _ | exact mKF _ | exact (fun n => ((mn _ n).l ..).nox) | refine mB ?_ (fun _ _ => ?_) | refine mT ?_ (fun _ _ => ?_) | refine mIte ?_ ?_) (fun _ _ => by repeat first | exact mE | exact mEs | exact mA | exact mI | exact mL | exact mC | exact mS | exact mSs | exact mF | exact mW | exact mK _ | exact mKF _ | exact (fun n => ((mn _ n).l ..).nox) | refine mB ?_ (fun _ _ => ?_) | refine mT ?_ (fun _ _ => ?_) | refine mIte ?_ ?_)) ?_
  congr 1; funext iv G1
  refine Eq.trans (lim_bind (by repeat first | exact mE | exact mEs | exact mA | exact mI | exact mL | exact mC | exact mS | exact mSs | exact mF | exact mW | exact mK _ | exact mKF _ | exact (fun n => ((mn _ n).l ..).nox) | refine mB ?_ (fun _ _ => ?_) | refine mT ?_ (fun _ _ => ?_) | refine mIte ?_ ?_) (fun _ _ => by repeat first | exact mE | exact mEs | exact mA | exact mI | exact mL | exact mC | exact mS | exact mSs | exact mF | exact mW | exact mK _ | exact mKF _ | exact (fun n => ((mn _ n).l ..).nox) | refine mB ?_ (fun _ _ => ?_) | refine mT ?_ (fun _ _ => ?_) | refine mIte ?_ ?_)) ?_
  rw [lim_nox mL]
  unfold xL
  congr 1; funext ws G2
  exact lim_const
theorem xEs_nil : xEs T d [] σ G = .ok [] G := by
  unfold xEs; rw [lim_succ mEs (by simp only [evEs])]; simp only [evEs]; exact lim_const
theorem xEs_cons {e : E} {r : List E} : xEs T d (e :: r) σ G = (xE T d e σ G).bind fun w G1 => (xEs T d r σ G1).bind fun ws G2 => .ok (w :: ws) G2 := by
  unfold xEs xE; rw [lim_succ mEs (by simp only [evEs])]; simp only [evEs]
  refine Eq.trans (lim_bind (by repeat first | exact mE | exact mEs | exact mA | exact mI | exact mL | exact mC | exact mS | exact mSs | exact mF | exact mW | exact mK _ | exact mKF _ | exact (fun n => ((mn _ n).l ..).nox) | refine mB ?_ (fun _ _ => ?_) | refine mT ?_ (fun _ _ => ?_) | refine mIte ?_ ?_) (fun _ _ => by repeat first | exact mE | exact mEs | exact mA | exact mI | exact mL | exact mC | exact mS | exact mSs | exact mF | exact mW | exact mK _ | exact mKF _ | exact (fun n => ((mn _ n).l ..).nox) | refine mB ?_ (fun _ _ => ?_) | refine mT ?_ (fun _ _ => ?_) | refine mIte ?_ ?_)) ?_
  congr 1; funext w G1
  refine Eq.trans (lim_bind (by repeat first | exact mE | exact mEs | exact mA | exact mI | exact mL | exact mC | exact mS | exact mSs | exact mF | exact mW | exact mK _ | exact mKF _ | exact (fun n => ((mn _ n).l ..).nox) | refine mB ?_ (fun _ _ => ?_) | refine mT ?_ (fun _ _ => ?_) | refine mIte ?_ ?_) (fun _ _ => by repeat first | exact mE | exact mEs | exact mA | exact mI | exact mL | exact mC | exact mS | exact mSs | exact mF | exact mW | exact mK _ | exact mKF _ | exact (fun n => ((mn _ n).l ..).nox) | refine mB ?_ (fun _ _ => ?_) | refine mT ?_ (fun _ _ => ?_) | refine mIte ?_ ?_)) ?_
  congr 1; funext ws G2
  exact lim_const
theorem xA_nil : xA T d [] σ G = .ok [] G := by
  unfold xA; rw [lim_succ mA (by simp only [evA])]; simp only [evA]; exact lim_const
theorem xA_e {e : E} {r : List Ar} : xA T d (.e e :: r) σ G = (xE T d e σ G).bind fun w G1 => (xA T d r σ G1).bind fun ws G2 => .ok (w :: ws) G2 := by
  unfold xA xE; rw [lim_succ mA (by simp only [evA])]; simp only [evA]
  refine Eq.trans (lim_bind (by repeat first | exact mE | exact mEs | exact mA | exact mI | exact mL | exact mC | exact mS | exact mSs | exact mF | exact mW | exact mK _ | exact mKF _ | exact (fun n => ((mn _ n).l ..).nox) | refine mB ?_ (fun _ _ => ?_) | refine mT ?_ (fun _ _ => ?_) | refine mIte ?_ ?_) (fun _ _ => by repeat first | exact mE | exact mEs | exact mA | exact mI | exact mL | exact mC | exact mS | exact mSs | exact mF | exact mW | exact mK _ | exact mKF _ | exact (fun n => ((mn _ n).l ..).nox) | refine mB ?_ (fun _ _ => ?_) | refine mT ?_ (fun _ _ => ?_) | refine mIte ?_ ?_)) ?_
  congr 1; funext w G1
  refine Eq.trans (lim_bind (by repeat first | exact mE | exact mEs | exact mA | exact mI | exact mL | exact mC | exact mS | exact mSs | exact mF | exact mW | exact mK _ | exact mKF _ | exact (fun n => ((mn _ n).l ..).nox) | refine mB ?_ (fun _ _ => ?_) | refine mT ?_ (fun _ _ => ?_) | refine mIte ?_ ?_) (fun _ _ => by repeat first | exact mE | exact mEs | exact mA | exact mI | exact mL | exact mC | exact mS | exact mSs | exact mF | exact mW | exact mK _ | exact mKF _ | exact (fun n => ((mn _ n).l ..).nox) | refine mB ?_ (fun _ _ => ?_) | refine mT ?_ (fun _ _ => ?_) | refine mIte ?_ ?_)) ?_
  congr 1; funext ws G2
  exact lim_const
theorem xA_s {e : E} {r : List Ar} : xA T d (.s e :: r) σ G = (xE T d e σ G).bind fun w G1 => (ofO (seqOf G1 w) G1).bind fun us G1 => (xA T d r σ G1).bind fun ws G2 => .ok (us ++ ws) G2 := by
  unfold xA xE; rw [lim_succ mA (by simp only [evA])]; simp only [evA]
  refine Eq.trans (lim_bind (by repeat first | exact mE | exact mEs | exact mA | exact mI | exact mL | exact mC | exact mS | exact mSs | exact mF | exact mW | exact mK _ | exact mKF _ | exact (fun n => ((mn _ n).l ..).nox) | refine mB ?_ (fun _ _ => ?_) | refine mT ?_ (fun _ _ => ?_) | refine mIte ?_ ?_) (fun _ _ => by repeat first | exact mE | exact mEs | exact mA | exact mI | exact mL | exact mC | exact mS | exact mSs | exact mF | exact mW | exact mK _ | exact mKF _ | exact (fun n => ((mn _ n).l ..).nox) | refine mB ?_ (fun _ _ => ?_) | refine mT ?_ (fun _ _ => ?_) | refine mIte ?_ ?_)) ?_
  congr 1; funext w G1
  refine Eq.trans (lim_bind (by repeat first | exact mE | exact mEs | exact mA | exact mI | exact mL | exact mC | exact mS | exact mSs | exact mF | exact mW | exact mK _ | exact mKF _ | exact (fun n => ((mn _ n).l ..).nox) | refine mB ?_ (fun _ _ => ?_) | refine mT ?_ (fun _ _ => ?_) | refine mIte ?_ ?_) (fun _ _ => by repeat first | exact mE | exact mEs | exact mA | exact mI | exact mL | exact mC | exact mS | exact mSs | exact mF | exact mW | exact mK _ | exact mKF _ | exact (fun n => ((mn _ n).l ..).nox) | refine mB ?_ (fun _ _ => ?_) | refine mT ?_ (fun _ _ => ?_) | refine mIte ?_ ?_)) ?_
  rw [lim_const]
  congr 1; funext us G2
  refine Eq.trans (lim_bind (by repeat first | exact mE | exact mEs | exact mA | exact mI | exact mL | exact mC | exact mS | exact mSs | exact mF | exact mW | exact mK _ | exact mKF _ | exact (fun n => ((mn _ n).l ..).nox) | refine mB ?_ (fun _ _ => ?_) | refine mT ?_ (fun _ _ => ?_) | refine mIte ?_ ?_) (fun _ _ => by repeat first | exact mE | exact mEs | exact mA | exact mI | exact mL | exact mC | exact mS | exact mSs | exact mF | exact mW | exact mK _ | exact mKF _ | exact (fun n => ((mn _ n).l ..).nox) | refine mB ?_ (fun _ _ => ?_) | refine mT ?_ (fun _ _ => ?_) | refine mIte ?_ ?_)) ?_
  congr 1; funext ws G2
  exact lim_const
theorem xI_e {e : E} : xI T d (.e e) σ G = (xE T d e σ G).bind fun w G1 => ofO ((ivOf G1 w).map .one) G1 := by
  unfold xI xE; rw [lim_succ mI (by simp only [evI])]; simp only [evI]
  refine Eq.trans (lim_bind (by repeat first | exact mE | exact mEs | exact mA | exact mI | exact mL | exact mC | exact mS | exact mSs | exact mF | exact mW | exact mK _ | exact mKF _ | exact (fun n => ((mn _ n).l ..).nox) | refine mB ?_ (fun _ _ => ?_) | refine mT ?_ (fun _ _ => ?_) | refine mIte ?_ ?_) (fun _ _ => by repeat first | exact mE | exact mEs | exact mA | exact mI | exact mL | exact mC | exact mS | exact mSs | exact mF | exact mW | exact mK _ | exact mKF _ | exact (fun n => ((mn _ n).l ..).nox) | refine mB ?_ (fun _ _ => ?_) | refine mT ?_ (fun _ _ => ?_) | refine mIte ?_ ?_)) ?_
  congr 1; funext w G1
  exact lim_const
theorem xI_rng {es : List E} : xI T d (.rng es) σ G = (xEs T d es σ G).bind fun ws G1 => ofO ((rngOf ws).map fun l => .one (.sq l)) G1 := by
  unfold xI xEs; rw [lim_succ mI (by simp only [evI])]; simp only [evI]
  refine Eq.trans (lim_bind (by repeat first | exact mE | exact mEs | exact mA | exact mI | exact mL | exact mC | exact mS | exact mSs | exact mF | exact mW | exact mK _ | exact mKF _ | exact (fun n => ((mn _ n).l ..).nox) | refine mB ?_ (fun _ _ => ?_) | refine mT ?_ (fun _ _ => ?_) | refine mIte ?_ ?_) (fun _ _ => by repeat first | exact mE | exact mEs | exact mA | exact mI | exact mL | exact mC | exact mS | exact mSs | exact mF | exact mW | exact mK _ | exact mKF _ | exact (fun n => ((mn _ n).l ..).nox) | refine mB ?_ (fun _ _ => ?_) | refine mT ?_ (fun _ _ => ?_) | refine mIte ?_ ?_)) ?_
  congr 1; funext w G1
  exact lim_const
theorem xI_zip {a b : E} : xI T d (.zip a b) σ G = (xE T d a σ G).bind fun x G1 => (xE T d b σ G1).bind fun y G2 => match ivOf G2 x, ivOf G2 y with
      | some u, some v => .ok (.zip u v) G2
      | _, _ => .bad := by
  unfold xI xE; rw [lim_succ mI (by simp only [evI])]; simp only [evI]
  refine Eq.trans (lim_bind (by repeat first | exact mE | exact mEs | exact mA | exact mI | exact mL | exact mC | exact mS | exact mSs | exact mF | exact mW | exact mK _ | exact mKF _ | exact (fun n => ((mn _ n).l ..).nox) | refine mB ?_ (fun _ _ => ?_) | refine mT ?_ (fun _ _ => ?_) | refine mIte ?_ ?_) (fun _ _ => by repeat first | exact mE | exact mEs | exact mA | exact mI | exact mL | exact mC | exact mS | exact mSs | exact mF | exact mW | exact mK _ | exact mKF _ | exact (fun n => ((mn _ n).l ..).nox) | refine mB ?_ (fun _ _ => ?_) | refine mT ?_ (fun _ _ => ?_) | refine mIte ?_ ?_)) ?_
  congr 1; funext x G1
  refine Eq.trans (lim_bind (by repeat first | exact mE | exact mEs | exact mA | exact mI | exact mL | exact mC | exact mS | exact mSs | exact mF | exact mW | exact mK _ | exact mKF _ | exact (fun n => ((mn _ n).l ..).nox) | refine mB ?_ (fun _ _ => ?_) | refine mT ?_ (fun _ _ => ?_) | refine mIte ?_ ?_) (fun _ _ => by repeat first | exact mE | exact mEs | exact mA | exact mI | exact mL | exact mC | exact mS | exact mSs | exact mF | exact mW | exact mK _ | exact mKF _ | exact (fun n => ((mn _ n).l ..).nox) | refine mB ?_ (fun _ _ => ?_) | refine mT ?_ (fun _ _ => ?_) | refine mIte ?_ ?_)) ?_
  congr 1; funext y G2
  exact lim_const
section
variable {iv : IV} {i : Nat} {tg : Tg} {e : E} {vs : List Nat} {acc : List W} {w : W} {σ1 : Sg} {ifs : List E} {b : List S}
theorem xL_end (h : iv.at G i = some none) : xL T d iv i tg ifs e σ vs acc G = .ok acc G := by
  unfold xL; rw [lim_succ mL (by simp only [evL])]; simp only [evL_end h]; exact lim_const
theorem xL_go0 (h : iv.at G i = some (some w)) (k : asgT tg w σ = some σ1) : xL T d iv i tg [] e σ vs acc G = (xE T d e σ1 G).bind fun u G1 => if decide (acc.length < sizeLine) then xL T d iv (i + 1) tg [] e σ vs (acc ++ [u]) G1 else .bad := by
  unfold xL xE; rw [lim_succ mL (by simp only [evL])]; simp only [evL_go0 h k]
  refine Eq.trans (lim_bind (by repeat first | exact mE | exact mEs | exact mA | exact mI | exact mL | exact mC | exact mS | exact mSs | exact mF | exact mW | exact mK _ | exact mKF _ | exact (fun n => ((mn _ n).l ..).nox) | refine mB ?_ (fun _ _ => ?_) | refine mT ?_ (fun _ _ => ?_) | refine mIte ?_ ?_) (fun _ _ => by repeat first | exact mE | exact mEs | exact mA | exact mI | exact mL | exact mC | exact mS | exact mSs | exact mF | exact mW | exact mK _ | exact mKF _ | exact (fun n => ((mn _ n).l ..).nox) | refine mB ?_ (fun _ _ => ?_) | refine mT ?_ (fun _ _ => ?_) | refine mIte ?_ ?_)) ?_
  congr 1; funext u G1
  rw [lIte, lim_const]
theorem xL_go1 {c : E} (h : iv.at G i = some (some w)) (k : asgT tg w σ = some σ1) : xL T d iv i tg [c] e σ vs acc G = (xE T d c σ1 G).bind fun x G1 => (ofO (tru G1 x) G1).bind fun k G1 => if k then (xE T d e σ1 G1).bind fun u G2 => (if decide (acc.length < sizeLine) then xL T d iv (i + 1) tg [c] e σ vs (acc ++ [u]) G2 else .bad) else xL T d iv (i + 1) tg [c] e σ vs acc G1 := by
  unfold xL xE; rw [lim_succ mL (by simp only [evL])]; simp only [evL_go1 h k]
  refine Eq.trans (lim_bind (by repeat first | exact mE | exact mEs | exact mA | exact mI | exact mL | exact mC | exact mS | exact mSs | exact mF | exact mW | exact mK _ | exact mKF _ | exact (fun n => ((mn _ n).l ..).nox) | refine mB ?_ (fun _ _ => ?_) | refine mT ?_ (fun _ _ => ?_) | refine mIte ?_ ?_) (fun _ _ => by repeat first | exact mE | exact mEs | exact mA | exact mI | exact mL | exact mC | exact mS | exact mSs | exact mF | exact mW | exact mK _ | exact mKF _ | exact (fun n => ((mn _ n).l ..).nox) | refine mB ?_ (fun _ _ => ?_) | refine mT ?_ (fun _ _ => ?_) | refine mIte ?_ ?_)) ?_
  rw [lim_bindK mE]
  rw [R.assoc]
  congr 1; funext x G1
  congr 1; funext k G2
  rw [lIte]
  congr 1
  refine Eq.trans (lim_bind (by repeat first | exact mE | exact mEs | exact mA | exact mI | exact mL | exact mC | exact mS | exact mSs | exact mF | exact mW | exact mK _ | exact mKF _ | exact (fun n => ((mn _ n).l ..).nox) | refine mB ?_ (fun _ _ => ?_) | refine mT ?_ (fun _ _ => ?_) | refine mIte ?_ ?_) (fun _ _ => by repeat first | exact mE | exact mEs | exact mA | exact mI | exact mL | exact mC | exact mS | exact mSs | exact mF | exact mW | exact mK _ | exact mKF _ | exact (fun n => ((mn _ n).l ..).nox) | refine mB ?_ (fun _ _ => ?_) | refine mT ?_ (fun _ _ => ?_) | refine mIte ?_ ?_)) ?_
  congr 1; funext u G3
  rw [lIte, lim_const]
theorem xF_end (h : iv.at G i = some none) : xF T d iv i tg b σ G = .nx σ G := by
  unfold xF; rw [limF_succ mF (by simp only [evF])]; simp only [evF_end h]; exact limF_const
theorem xF_go (h : iv.at G i = some (some w)) (k : asgT tg w σ = some σ1) : xF T d iv i tg b σ G = (xSs T d b σ1 G).loop fun σ2 G2 => xF T d iv (i + 1) tg b σ2 G2 := by
  unfold xF xSs; rw [limF_succ mF (by simp only [evF])]; simp only [evF_go h k]
  refine Eq.trans (lim_loop (by repeat first | exact mE | exact mEs | exact mA | exact mI | exact mL | exact mC | exact mS | exact mSs | exact mF | exact mW | exact mK _ | exact mKF _ | exact (fun n => ((mn _ n).l ..).nox) | refine mB ?_ (fun _ _ => ?_) | refine mT ?_ (fun _ _ => ?_) | refine mIte ?_ ?_) (fun _ _ => by repeat first | exact mE | exact mEs | exact mA | exact mI | exact mL | exact mC | exact mS | exact mSs | exact mF | exact mW | exact mK _ | exact mKF _ | exact (fun n => ((mn _ n).l ..).nox) | refine mB ?_ (fun _ _ => ?_) | refine mT ?_ (fun _ _ => ?_) | refine mIte ?_ ?_)) ?_
  rfl
end
theorem xW_eq {c : E} {b : List S} : xW T d c b σ G = (xE T d c σ G).toF σ fun x G1 => match tru G1 x with
    | some true => (xSs T d b σ G1).loop fun σ2 G2 => xW T d c b σ2 G2
    | some false => .nx σ G1
    | none => .bad := by
  unfold xW xE; rw [limF_succ mW (by simp only [evW])]; simp only [evW_go]
  rw [lim_toF mE fun x G1 => by
    cases tru G1 x with
    | none => exact mKF _
    | some k =>
      cases k with
      | true => exact fun n => ((mn T n).ss ..).loop fun _ _ => (mn T n).w ..
      | false => exact mKF _]
  congr 1; funext x G1
  cases tru G1 x with
  | none => exact limF_const
  | some k =>
    cases k with
    | true =>
      show (limF fun n => (evSs T n d b σ G1).loop _) = _
      refine Eq.trans (lim_loop (by repeat first | exact mE | exact mEs | exact mA | exact mI | exact mL | exact mC | exact mS | exact mSs | exact mF | exact mW | exact mK _ | exact mKF _ | exact (fun n => ((mn _ n).l ..).nox) | refine mB ?_ (fun _ _ => ?_) | refine mT ?_ (fun _ _ => ?_) | refine mIte ?_ ?_) (fun _ _ => by repeat first | exact mE | exact mEs | exact mA | exact mI | exact mL | exact mC | exact mS | exact mSs | exact mF | exact mW | exact mK _ | exact mKF _ | exact (fun n => ((mn _ n).l ..).nox) | refine mB ?_ (fun _ _ => ?_) | refine mT ?_ (fun _ _ => ?_) | refine mIte ?_ ?_)) ?_
      rfl
    | false => exact limF_const
theorem xC_eq {f : Nat} {fd : FnD} {ws : List W} (h : T.fns[f]? = some fd) (hl : ws.length = fd.np) : xC T (d + 1) f ws G = (xSs T d fd.body (ws.map some ++ List.replicate (fd.ns - fd.np) none) G).out := by
  unfold xC xSs; rw [lim_succ mC (by simp only [evC])]; simp only [evC, h]
  simp only [if_pos hl]
  exact lim_out mSs
theorem xSs_nil : xSs T d [] σ G = .nx σ G := by
  unfold xSs; rw [limF_succ mSs (by simp only [evSs])]; simp only [evSs]; exact limF_const
theorem xSs_cons {s : S} {r : List S} : xSs T d (s :: r) σ G = (xS T d s σ G).then fun σ1 G1 => xSs T d r σ1 G1 := by
  unfold xSs xS; rw [limF_succ mSs (by simp only [evSs])]; simp only [evSs]
  refine Eq.trans (lim_then (by repeat first | exact mE | exact mEs | exact mA | exact mI | exact mL | exact mC | exact mS | exact mSs | exact mF | exact mW | exact mK _ | exact mKF _ | exact (fun n => ((mn _ n).l ..).nox) | refine mB ?_ (fun _ _ => ?_) | refine mT ?_ (fun _ _ => ?_) | refine mIte ?_ ?_) (fun _ _ => by repeat first | exact mE | exact mEs | exact mA | exact mI | exact mL | exact mC | exact mS | exact mSs | exact mF | exact mW | exact mK _ | exact mKF _ | exact (fun n => ((mn _ n).l ..).nox) | refine mB ?_ (fun _ _ => ?_) | refine mT ?_ (fun _ _ => ?_) | refine mIte ?_ ?_)) ?_
  rfl
theorem xS_asg {t : Tg} {e : E} : xS T d (.asg t e) σ G = (xE T d e σ G).toF σ fun w G1 => match asgT t w σ with
      | some σ' => .nx σ' G1
      | none => .bad := by
  unfold xS xE; rw [limF_succ mS (by simp only [evS])]; simp only [evS]
  refine Eq.trans (lim_toF (by repeat first | exact mE | exact mEs | exact mA | exact mI | exact mL | exact mC | exact mS | exact mSs | exact mF | exact mW | exact mK _ | exact mKF _ | exact (fun n => ((mn _ n).l ..).nox) | refine mB ?_ (fun _ _ => ?_) | refine mT ?_ (fun _ _ => ?_) | refine mIte ?_ ?_) (fun _ _ => by repeat first | exact mE | exact mEs | exact mA | exact mI | exact mL | exact mC | exact mS | exact mSs | exact mF | exact mW | exact mK _ | exact mKF _ | exact (fun n => ((mn _ n).l ..).nox) | refine mB ?_ (fun _ _ => ?_) | refine mT ?_ (fun _ _ => ?_) | refine mIte ?_ ?_)) ?_
  congr 1; funext w G1
  exact limF_const
theorem xS_sub {o i e : E} : xS T d (.sub o i e) σ G = (xE T d e σ G).toF σ fun w G1 => (xE T d o σ G1).toF σ fun x G2 => (xE T d i σ G2).toF σ fun y G3 => match x, y with
      | .ref a, .int k => match G3.get a with
        | some (.lst ws) => match ixN ws.length k with
          | some j => .nx σ (G3.set a (.lst (ws.set j w)))
          | none => .bad
        | _ => .bad
      | _, _ => .bad := by
  unfold xS xE; rw [limF_succ mS (by simp only [evS])]; simp only [evS]
  refine Eq.trans (lim_toF (by repeat first | exact mE | exact mEs | exact mA | exact mI | exact mL | exact mC | exact mS | exact mSs | exact mF | exact mW | exact mK _ | exact mKF _ | exact (fun n => ((mn _ n).l ..).nox) | refine mB ?_ (fun _ _ => ?_) | refine mT ?_ (fun _ _ => ?_) | refine mIte ?_ ?_) (fun _ _ => by repeat first | exact mE | exact mEs | exact mA | exact mI | exact mL | exact mC | exact mS | exact mSs | exact mF | exact mW | exact mK _ | exact mKF _ | exact (fun n => ((mn _ n).l ..).nox) | refine mB ?_ (fun _ _ => ?_) | refine mT ?_ (fun _ _ => ?_) | refine mIte ?_ ?_)) ?_
  congr 1; funext w G1
  refine Eq.trans (lim_toF (by repeat first | exact mE | exact mEs | exact mA | exact mI | exact mL | exact mC | exact mS | exact mSs | exact mF | exact mW | exact mK _ | exact mKF _ | exact (fun n => ((mn _ n).l ..).nox) | refine mB ?_ (fun _ _ => ?_) | refine mT ?_ (fun _ _ => ?_) | refine mIte ?_ ?_) (fun _ _ => by repeat first | exact mE | exact mEs | exact mA | exact mI | exact mL | exact mC | exact mS | exact mSs | exact mF | exact mW | exact mK _ | exact mKF _ | exact (fun n => ((mn _ n).l ..).nox) | refine mB ?_ (fun _ _ => ?_) | refine mT ?_ (fun _ _ => ?_) | refine mIte ?_ ?_)) ?_
  congr 1; funext x G2
  refine Eq.trans (lim_toF (by repeat first | exact mE | exact mEs | exact mA | exact mI | exact mL | exact mC | exact mS | exact mSs | exact mF | exact mW | exact mK _ | exact mKF _ | exact (fun n => ((mn _ n).l ..).nox) | refine mB ?_ (fun _ _ => ?_) | refine mT ?_ (fun _ _ => ?_) | refine mIte ?_ ?_) (fun _ _ => by repeat first | exact mE | exact mEs | exact mA | exact mI | exact mL | exact mC | exact mS | exact mSs | exact mF | exact mW | exact mK _ | exact mKF _ | exact (fun n => ((mn _ n).l ..).nox) | refine mB ?_ (fun _ _ => ?_) | refine mT ?_ (fun _ _ => ?_) | refine mIte ?_ ?_)) ?_
  congr 1; funext y G3
  exact limF_const
theorem xS_att {o : E} {f : Nat} {e : E} : xS T d (.att o f e) σ G = (xE T d e σ G).toF σ fun w G1 => (xE T d o σ G1).toF σ fun x G2 => match x with
      | .ref a => match G2.get a with
        | some (.ins c fs) => if decide (fs.length < 1000) && T.fl.contains (c, f) then .nx σ (G2.set a (.ins c (putFW f w fs))) else .bad
        | _ => .bad
      | _ => .bad := by
  unfold xS xE; rw [limF_succ mS (by simp only [evS])]; simp only [evS]
  refine Eq.trans (lim_toF (by repeat first | exact mE | exact mEs | exact mA | exact mI | exact mL | exact mC | exact mS | exact mSs | exact mF | exact mW | exact mK _ | exact mKF _ | exact (fun n => ((mn _ n).l ..).nox) | refine mB ?_ (fun _ _ => ?_) | refine mT ?_ (fun _ _ => ?_) | refine mIte ?_ ?_) (fun _ _ => by repeat first | exact mE | exact mEs | exact mA | exact mI | exact mL | exact mC | exact mS | exact mSs | exact mF | exact mW | exact mK _ | exact mKF _ | exact (fun n => ((mn _ n).l ..).nox) | refine mB ?_ (fun _ _ => ?_) | refine mT ?_ (fun _ _ => ?_) | refine mIte ?_ ?_)) ?_
  congr 1; funext w G1
  refine Eq.trans (lim_toF (by repeat first | exact mE | exact mEs | exact mA | exact mI | exact mL | exact mC | exact mS | exact mSs | exact mF | exact mW | exact mK _ | exact mKF _ | exact (fun n => ((mn _ n).l ..).nox) | refine mB ?_ (fun _ _ => ?_) | refine mT ?_ (fun _ _ => ?_) | refine mIte ?_ ?_) (fun _ _ => by repeat first | exact mE | exact mEs | exact mA | exact mI | exact mL | exact mC | exact mS | exact mSs | exact mF | exact mW | exact mK _ | exact mKF _ | exact (fun n => ((mn _ n).l ..).nox) | refine mB ?_ (fun _ _ => ?_) | refine mT ?_ (fun _ _ => ?_) | refine mIte ?_ ?_)) ?_
  congr 1; funext x G2
  exact limF_const
theorem xS_par {is : List Nat} {es : List E} : xS T d (.par is es) σ G = (xEs T d es σ G).toF σ fun ws G1 => match parS is ws σ with
      | some σ' => .nx σ' G1
      | none => .bad := by
  unfold xS xEs; rw [limF_succ mS (by simp only [evS])]; simp only [evS]
  refine Eq.trans (lim_toF (by repeat first | exact mE | exact mEs | exact mA | exact mI | exact mL | exact mC | exact mS | exact mSs | exact mF | exact mW | exact mK _ | exact mKF _ | exact (fun n => ((mn _ n).l ..).nox) | refine mB ?_ (fun _ _ => ?_) | refine mT ?_ (fun _ _ => ?_) | refine mIte ?_ ?_) (fun _ _ => by repeat first | exact mE | exact mEs | exact mA | exact mI | exact mL | exact mC | exact mS | exact mSs | exact mF | exact mW | exact mK _ | exact mKF _ | exact (fun n => ((mn _ n).l ..).nox) | refine mB ?_ (fun _ _ => ?_) | refine mT ?_ (fun _ _ => ?_) | refine mIte ?_ ?_)) ?_
  congr 1; funext w G1
  exact limF_const
theorem xS_exp {e : E} : xS T d (.exp e) σ G = (xE T d e σ G).toF σ fun _ G1 => .nx σ G1 := by
  unfold xS xE; rw [limF_succ mS (by simp only [evS])]; simp only [evS]
  refine Eq.trans (lim_toF (by repeat first | exact mE | exact mEs | exact mA | exact mI | exact mL | exact mC | exact mS | exact mSs | exact mF | exact mW | exact mK _ | exact mKF _ | exact (fun n => ((mn _ n).l ..).nox) | refine mB ?_ (fun _ _ => ?_) | refine mT ?_ (fun _ _ => ?_) | refine mIte ?_ ?_) (fun _ _ => by repeat first | exact mE | exact mEs | exact mA | exact mI | exact mL | exact mC | exact mS | exact mSs | exact mF | exact mW | exact mK _ | exact mKF _ | exact (fun n => ((mn _ n).l ..).nox) | refine mB ?_ (fun _ _ => ?_) | refine mT ?_ (fun _ _ => ?_) | refine mIte ?_ ?_)) ?_
  congr 1; funext w G1
  exact limF_const
theorem xS_ife {c : E} {a b : List S} : xS T d (.ife c a b) σ G = (xE T d c σ G).toF σ fun x G1 => match tru G1 x with
      | some true => xSs T d a σ G1
      | some false => xSs T d b σ G1
      | none => .bad := by
  unfold xS xE; rw [limF_succ mS (by simp only [evS])]; simp only [evS]
  rw [lim_toF mE fun x G1 => by
    cases tru G1 x with
    | none => exact mKF _
    | some k =>
      cases k with
      | true => exact mSs
      | false => exact mSs]
  congr 1; funext x G1
  cases tru G1 x with
  | none => exact limF_const
  | some k => cases k <;> rfl
theorem xS_for {t : Tg} {it : It} {b : List S} : xS T d (.for t it b) σ G = (xI T d it σ G).toF σ fun iv G1 => xF T d iv 0 t b σ G1 := by
  unfold xS xI; rw [limF_succ mS (by simp only [evS])]; simp only [evS]
  refine Eq.trans (lim_toF (by repeat first | exact mE | exact mEs | exact mA | exact mI | exact mL | exact mC | exact mS | exact mSs | exact mF | exact mW | exact mK _ | exact mKF _ | exact (fun n => ((mn _ n).l ..).nox) | refine mB ?_ (fun _ _ => ?_) | refine mT ?_ (fun _ _ => ?_) | refine mIte ?_ ?_) (fun _ _ => by repeat first | exact mE | exact mEs | exact mA | exact mI | exact mL | exact mC | exact mS | exact mSs | exact mF | exact mW | exact mK _ | exact mKF _ | exact (fun n => ((mn _ n).l ..).nox) | refine mB ?_ (fun _ _ => ?_) | refine mT ?_ (fun _ _ => ?_) | refine mIte ?_ ?_)) ?_
  rfl
theorem xS_whl {c : E} {b : List S} : xS T d (.whl c b) σ G = xW T d c b σ G := by
  unfold xS xW; rw [limF_succ mS (by simp only [evS])]; simp only [evS]
theorem xS_ret {e : E} : xS T d (.ret e) σ G = (xE T d e σ G).toF σ fun w G1 => .ret w G1 := by
  unfold xS xE; rw [limF_succ mS (by simp only [evS])]; simp only [evS]
  refine Eq.trans (lim_toF (by repeat first | exact mE | exact mEs | exact mA | exact mI | exact mL | exact mC | exact mS | exact mSs | exact mF | exact mW | exact mK _ | exact mKF _ | exact (fun n => ((mn _ n).l ..).nox) | refine mB ?_ (fun _ _ => ?_) | refine mT ?_ (fun _ _ => ?_) | refine mIte ?_ ?_) (fun _ _ => by repeat first | exact mE | exact mEs | exact mA | exact mI | exact mL | exact mC | exact mS | exact mSs | exact mF | exact mW | exact mK _ | exact mKF _ | exact (fun n => ((mn _ n).l ..).nox) | refine mB ?_ (fun _ _ => ?_) | refine mT ?_ (fun _ _ => ?_) | refine mIte ?_ ?_)) ?_
  congr 1; funext w G1
  exact limF_const
theorem xS_pass : xS T d .pass σ G = .nx σ G := by
  unfold xS; rw [limF_succ mS (by simp only [evS])]; simp only [evS]; exact limF_const
end
end PM

set_option maxHeartbeats 4000000
/-! PmR: a text joined to the small Python. -/
namespace PM
open PySem PySem.Spec PyProof.Rows L2

theorem al_nil {α : Type} {P : α → Prop} : ∀ p ∈ ([] : List α), P p := fun _ h => nomatch h
theorem al_cons {α : Type} {P : α → Prop} {a : α} {l : List α} (h : P a) (t : ∀ p ∈ l, P p) : ∀ p ∈ a :: l, P p := fun p hp => by
  rcases List.mem_cons.mp hp with e | e
  · rw [e]; exact h
  · exact t p e
theorem look_all {α β : Type} [BEq α] [LawfulBEq α] {P : α × β → Prop} : ∀ {l : List (α × β)} {x : α} {v : β}, (∀ p ∈ l, P p) → l.lookup x = some v → P (x, v)
  | [], _, _, _, h => by cases h
  | (k, u) :: r, x, v, al, h => by
    rw [List.lookup_cons] at h
    cases e : x == k with
    | true =>
      rw [e] at h
      cases h
      rw [eq_of_beq e]
      exact al _ List.mem_cons_self
    | false =>
      rw [e] at h
      exact look_all (fun p hp => al p (List.mem_cons_of_mem _ hp)) h
theorem contains_all {α : Type} [BEq α] [LawfulBEq α] {P : α → Prop} {l : List α} {x : α} (al : ∀ p ∈ l, P p) (h : l.contains x = true) : P x := al x (List.contains_iff_mem.mp h)
/-- names by number -/
def nmOf (nms : List Str) (i : Nat) : Str := match nms[i]? with
  | some x => x
  | none => ⟨Array.replicate (1000 + i) 0⟩
theorem nmOf_inj {nms : List Str} (nd : nms.Nodup) (sm : nms.all (fun x : Str => decide (x.cps.size < 1000)) = true) : ∀ i j, nmOf nms i = nmOf nms j → i = j := by
  intro i j h
  have small : ∀ (k : Nat) (x : Str), nms[k]? = some x → x.cps.size < 1000 := fun k x e => by
    have q := List.all_eq_true.mp sm x (List.mem_of_getElem? e)
    exact of_decide_eq_true q
  unfold nmOf at h
  cases ei : nms[i]? with
  | some x =>
    cases ej : nms[j]? with
    | some y =>
      rw [ei, ej] at h
      have h : x = y := h
      rw [h] at ei
      exact nodup_ix nd ei ej
    | none =>
      rw [ei, ej] at h
      have h : x = ⟨Array.replicate (1000 + j) 0⟩ := h
      have := small i x ei
      rw [h] at this
      simp at this
      omega
  | none =>
    cases ej : nms[j]? with
    | some y =>
      rw [ei, ej] at h
      have h : (⟨Array.replicate (1000 + i) 0⟩ : Str) = y := h
      have := small j y ej
      rw [← h] at this
      simp at this
      omega
    | none =>
      rw [ei, ej] at h
      have h : (⟨Array.replicate (1000 + i) 0⟩ : Str) = ⟨Array.replicate (1000 + j) 0⟩ := h
      have e := congrArg (fun x : Str => x.cps.size) h
      simp at e
      exact e
theorem nmOf_ix {nms : List Str} {x : Str} {i : Nat} (h : ixS nms x = some i) : nmOf nms i = x := by
  unfold nmOf
  rw [ixS_get h]
/-- three lists in step -/
inductive All3 {α β γ : Type} (P : α → β → γ → Prop) : List α → List β → List γ → Prop
  | nil : All3 P [] [] []
  | cons {a b c l m n} : P a b c → All3 P l m n → All3 P (a :: l) (b :: m) (c :: n)
theorem All3.at_ {α β γ : Type} {P : α → β → γ → Prop} {b0 : β} {c0 : γ} : ∀ {l : List α} {m : List β} {n : List γ} {i : Nat} {a : α}, All3 P l m n → l[i]? = some a → P a (m.getD i b0) (n.getD i c0)
  | _, _, _, _, _, .nil, h => by simp at h
  | _, _, _, 0, _, .cons p _, h => by
    simp at h
    rw [← h]
    exact p
  | _, _, _, i + 1, _, .cons _ t, h => by
    have := t.at_ (i := i) (b0 := b0) (c0 := c0) (by simpa using h)
    simpa using this
/-- a def, as the text has it -/
def DefOk (K : PySem.W.Frag) (g : Gn) (fd : FnD) (D : Df) (a : Addr) : Prop :=
  FunD K D.x D.qual D.params D.body D.scope D.dvs D.kws a D.fd ∧ FnScope D.N D.ps D.scope ∧ (∃ m, trSs g m ⟨D.N, D.scope, D.N⟩ D.body = some fd.body) ∧ fd.np = D.ps.length ∧ fd.ns = D.N.length
/-! ### binding -/
def pick {α : Type} (is : List Nat) (l : List α) : List α := is.filterMap (l[·]?)
theorem pick_vals {is : List Nat} {vs : List V} {us : List Value} (h : Vals vs us) : Vals (pick is vs) (pick is us) := by
  unfold pick
  induction is with
  | nil => exact .nil
  | cons i r ih =>
    rw [List.filterMap_cons, List.filterMap_cons]
    cases e : vs[i]? with
    | none =>
      rw [h.none_of e]
      exact ih
    | some v =>
      obtain ⟨u, h1, h2⟩ := h.get e
      rw [h1]
      exact .cons h2 ih
theorem kbn_same {K : PySem.W.Frag} {x qual : Str} {params : Arguments} {body : List Stmt} {scope : Scope} {kws : List (Str × V)} {f : Addr} {fd : FuncData} {ps : List Str} (F : FunD K x qual params body scope [] kws f fd)
    (h : ∀ (kV doc pm : Value) (an : Option Addr) (cdv ct : Value) (us : List Value), us.length = ps.length → bindArgs (PySem.W.fnOf x qual params body scope .none kV doc pm an cdv ct) ⟨us, []⟩ = pure (ps.zip us)) :
    KBn K fd ps ps.length [] (fun us _ => us) (fun vs _ => vs) := by
  have b := FunD.bindsN F h
  refine ⟨fun s us ws X l1 l2 => ?_, fun r _ => r⟩
  have := b s us X (by rw [List.append_nil]; exact l1)
  rw [List.append_nil] at this
  exact this
theorem bd_same (L : Pg) (n : Nat) : BdOk L [] n 0 (fun vs _ => vs) := by
  intro ρ H ws us vs zs l1 l2 r h
  cases h
  have : zs = [] := List.eq_nil_of_length_eq_zero l2
  subst this
  rw [List.append_nil] at r
  exact r
theorem kbn_pick {K : PySem.W.Frag} {x qual : Str} {params : Arguments} {body : List Stmt} {scope : Scope} {kws : List (Str × V)} {f : Addr} {fd : FuncData} {ps : List Str} (F : FunD K x qual params body scope [] kws f fd) (n : Nat) (ks : List Str) (is : List Nat)
    (h : ∀ (kV doc pm : Value) (an : Option Addr) (cdv ct : Value) (us ws : List Value), us.length = n → ws.length = ks.length → bindArgs (PySem.W.fnOf x qual params body scope .none kV doc pm an cdv ct) ⟨us, ks.zip ws⟩ = pure (ps.zip (pick is (us ++ ws)))) :
    KBn K fd ps n ks (fun us ws => pick is (us ++ ws)) (fun vs zs => pick is (vs ++ zs)) := by
  obtain ⟨oc, od, dV, kV, doc, pm, an, cdv, ct, osl, rfl, lk, hcd, hD, hK⟩ := F.ex
  rcases hD with ⟨_, rfl⟩ | ⟨e, _⟩
  · exact ⟨fun s us ws X l1 l2 => BindsTo.of_eq (h kV doc pm an cdv ct us ws l1 l2), fun r1 r2 => pick_vals (r1.append r2)⟩
  · exact absurd rfl e
theorem bd_pick (L : Pg) (n m : Nat) (is : List Nat) (hne : is ≠ []) : BdOk L (is.map .a) n m (fun vs zs => pick is (vs ++ zs)) := by
  intro ρ H ws us vs zs l1 l2 r h
  have e : bindA (is.map Bd.a) ws = optAll (fun b => match b with | .a i => ws[i]? | .d w => some w) (is.map Bd.a) := by
    cases is with
    | nil => exact absurd rfl hne
    | cons _ _ => rfl
  rw [e] at h
  clear e hne
  unfold pick
  induction is generalizing us with
  | nil => cases h; rfl
  | cons i t ih =>
    rw [List.map_cons] at h
    obtain ⟨y, ys, rfl, h1, h2⟩ := optAll_cons h
    obtain ⟨v, k1, k2⟩ := r.get (show ws[i]? = some y from h1)
    show Rws L.N ρ H (y :: ys) (List.filterMap (fun x => (vs ++ zs)[x]?) (i :: t))
    rw [List.filterMap_cons, k1]
    exact ⟨v, _, rfl, k2, ih ys h2⟩
/-! ### the law -/
theorem fnok_cx {P : Program} {w : World} {K : PySem.W.Frag} {mg : Str → Option Value} {base : Heap} {CX CX' : CXT} {k : Nat} {f : Addr} {fd : FuncData} {ps : List Str} {sp : Sp} (F : FnOk P w K mg base CX k f fd ps sp)
    (h : ∀ o H s E u s', CX o H s E u s' → CX' o H s E u s') : FnOk P w K mg base CX' k f fd ps sp :=
  ⟨F.len, fun A outer s H args us vs Q E hr he hb hv hs => codeAny_mono (F.run A outer s H args us vs Q E hr he hb hv hs) fun r s' hq => by
    cases r with
    | error e => exact h _ _ _ _ _ _ hq
    | ok fl => cases fl <;> exact hq⟩
def CXa (P : Program) : CXT := fun o H s E u s' => ∃ w, L2.CX P w o H s E u s'
theorem nil_rg (N : En) (H : Hp) : Rg N [] ⟨0, .e⟩ H := ⟨by simp, rfl, (fun _ h => nomatch h), fun n o e => by cases (show (none : Option AO) = some o from e)⟩
theorem law_pm {l : PySem.W.OpenLaw} {k : Nat} {q : Program} {loose : List Str} {XP : (Str → Option Value) → Heap → Prop} {YP : World → Heap → Prop} {d : DefRec} {x : Str} {T : Tb} {i : Nat}
    (hn : l.most = some 63) (hdf : d.params.defaults = []) (hr : Room k callerA) (hi : i < T.fns.length)
    (hev : ∀ ns : List Int, ns.length ≤ 63 → ∃ G', xC T k i [.rol (ns.map .int)] ⟨0, .e⟩ = .ok (.bl true) G')
    (F : ∀ (w : World) (mg : Str → Option Value) (fa : Addr) (h : Heap), YP w h → h.Ns mainGlobals mg → mg d.name = some (.ref fa) →
      ∃ (N : En) (g : Gn) (df : Nat → Df), N.K.In h ∧ N.fa i = fa ∧ (df i).ps = [x] ∧ (∀ (s : Shared) (u : Value), BindsTo s (df i).fd ⟨[u], []⟩ [(x, u)]) ∧ ∀ base, Lk ⟨l.prog, w, mg, base, N, T, g, df⟩) :
    PySem.W.WalkO q loose XP YP l.row.toRowW d [] (fun f vs => PySem.call f vs) := by
  refine L2.walk_ofE (l := l) (n := 63) (k := k) (x := x) (CX := CXa l.prog) hn (by decide) hdf hr ?_ ?_
  · intro w mg fa h Y G hmg
    obtain ⟨N, g, df, KX, ha, hps, hb, lk⟩ := F w mg fa h Y G hmg
    refine ⟨N.K, (df i).fd, spF ⟨l.prog, w, mg, h, N, T, g, df⟩ k i, KX, hb, fun H a ns hl hO hS => ?_, fun base hK hG => ?_⟩
    · obtain ⟨G', e⟩ := hev ns hl
      obtain ⟨n, e⟩ := lim_ex e (fun z => nomatch z)
      have sq : SqF N.K H a (ns.map V.int) := by
        rcases hS with (hS | ⟨o, hS⟩) | hS
        · rcases hO a with z | ⟨o, xs, z⟩
          · rw [z] at hS; cases hS
          · rw [z] at hS; cases hS
        · exact .inl ⟨o, hS⟩
        · exact .inr hS
      have hints : ∀ ns : List Int, Rws N [] H (ns.map .int) (ns.map V.int) := by
        intro ns
        induction ns with
        | nil => rfl
        | cons n r ih => exact ⟨_, _, rfl, rfl, ih⟩
      refine ⟨n, [], ⟨0, .e⟩, [.rol (ns.map .int)], nil_rg N H, ⟨_, _, rfl, ⟨a, _, rfl, sq, hints ns⟩, rfl⟩, ?_⟩
      show QC N (fun v _ => v = .bl true) (fun _ _ _ => False) (evC T n k i [.rol (ns.map .int)] ⟨0, .e⟩) [] H
      rw [e]
      exact fun ρ' b H' s g r => r
    · have := fnok_cx (CX' := CXa l.prog) (all_ok (lk base) k i _ (List.getElem?_eq_getElem hi)) fun o H s E u s' z => ⟨w, z⟩
      rw [← ha, ← hps]
      exact this
  · rintro H s e s' ⟨w, a, B, H', cls, dd, _, _, _, _, _, _, _, z⟩
    exact z
end PM

set_option maxHeartbeats 4000000
/-! PmX: small rules for the plain side. on G: a heap that has come (a rule fires there alone, not below a binder). -/
namespace PM
open PySem
@[irreducible] def on (G : GH) : GH := G
theorem on_eq (G : GH) : on G = G := by unfold on; rfl
theorem oE_cst {T : Tb} {d : Nat} {σ : Sg} {G : GH} {w : W} : type_of% (xE_cst (T := T) (d := d) (σ := σ) (w := w) (G := on G)) := xE_cst
theorem oE_var {T : Tb} {d : Nat} {σ : Sg} {G : GH} {i : Nat} : type_of% (xE_var (T := T) (d := d) (σ := σ) (i := i) (G := on G)) := xE_var
theorem oE_bin {T : Tb} {d : Nat} {σ : Sg} {G : GH} {o : BO} {a b : E} : type_of% (xE_bin (T := T) (d := d) (σ := σ) (o := o) (a := a) (b := b) (G := on G)) := xE_bin
theorem oE_cmp {T : Tb} {d : Nat} {σ : Sg} {G : GH} {o : CO} {a b : E} : type_of% (xE_cmp (T := T) (d := d) (σ := σ) (o := o) (a := a) (b := b) (G := on G)) := xE_cmp
theorem oE_and {T : Tb} {d : Nat} {σ : Sg} {G : GH} {a b : E} : type_of% (xE_and (T := T) (d := d) (σ := σ) (a := a) (b := b) (G := on G)) := xE_and
theorem oE_or {T : Tb} {d : Nat} {σ : Sg} {G : GH} {a b : E} : type_of% (xE_or (T := T) (d := d) (σ := σ) (a := a) (b := b) (G := on G)) := xE_or
theorem oE_not {T : Tb} {d : Nat} {σ : Sg} {G : GH} {a : E} : type_of% (xE_not (T := T) (d := d) (σ := σ) (a := a) (G := on G)) := xE_not
theorem oE_neg {T : Tb} {d : Nat} {σ : Sg} {G : GH} {a : E} : type_of% (xE_neg (T := T) (d := d) (σ := σ) (a := a) (G := on G)) := xE_neg
theorem oE_ife {T : Tb} {d : Nat} {σ : Sg} {G : GH} {c a b : E} : type_of% (xE_ife (T := T) (d := d) (σ := σ) (c := c) (a := a) (b := b) (G := on G)) := xE_ife
theorem oE_tup {T : Tb} {d : Nat} {σ : Sg} {G : GH} {es : List Ar} : type_of% (xE_tup (T := T) (d := d) (σ := σ) (es := es) (G := on G)) := xE_tup
theorem oE_lst {T : Tb} {d : Nat} {σ : Sg} {G : GH} {es : List Ar} : type_of% (xE_lst (T := T) (d := d) (σ := σ) (es := es) (G := on G)) := xE_lst
theorem oE_ix {T : Tb} {d : Nat} {σ : Sg} {G : GH} {a i : E} : type_of% (xE_ix (T := T) (d := d) (σ := σ) (a := a) (i := i) (G := on G)) := xE_ix
theorem oE_sl {T : Tb} {d : Nat} {σ : Sg} {G : GH} {a lo hi : E} : type_of% (xE_sl (T := T) (d := d) (σ := σ) (a := a) (lo := lo) (hi := hi) (G := on G)) := xE_sl
theorem oE_call {T : Tb} {d : Nat} {σ : Sg} {G : GH} {f : Nat} {es : List E} {bd : List Bd} : type_of% (xE_call (T := T) (d := d) (σ := σ) (f := f) (es := es) (bd := bd) (G := on G)) := xE_call
theorem oE_mk {T : Tb} {d : Nat} {σ : Sg} {G : GH} {c : Nat} {es : List E} {bd : List Bd} : type_of% (xE_mk (T := T) (d := d) (σ := σ) (c := c) (es := es) (bd := bd) (G := on G)) := xE_mk
theorem oE_met {T : Tb} {d : Nat} {σ : Sg} {G : GH} {o : E} {m : Nat} {es : List E} : type_of% (xE_met (T := T) (d := d) (σ := σ) (o := o) (m := m) (es := es) (G := on G)) := xE_met
theorem oE_att {T : Tb} {d : Nat} {σ : Sg} {G : GH} {o : E} {f : Nat} : type_of% (xE_att (T := T) (d := d) (σ := σ) (o := o) (f := f) (G := on G)) := xE_att
theorem oE_blt {T : Tb} {d : Nat} {σ : Sg} {G : GH} {b : Bf} {es : List E} : type_of% (xE_blt (T := T) (d := d) (σ := σ) (b := b) (es := es) (G := on G)) := xE_blt
theorem oE_lc {T : Tb} {d : Nat} {σ : Sg} {G : GH} {vs : List Nat} {tg : Tg} {it : It} {ifs : List E} {e : E} : type_of% (xE_lc (T := T) (d := d) (σ := σ) (vs := vs) (tg := tg) (it := it) (ifs := ifs) (e := e) (G := on G)) := xE_lc
theorem oEs_nil {T : Tb} {d : Nat} {σ : Sg} {G : GH} : type_of% (xEs_nil (T := T) (d := d) (σ := σ) (G := on G)) := xEs_nil
theorem oEs_cons {T : Tb} {d : Nat} {σ : Sg} {G : GH} {e : E} {r : List E} : type_of% (xEs_cons (T := T) (d := d) (σ := σ) (e := e) (r := r) (G := on G)) := xEs_cons
theorem oA_nil {T : Tb} {d : Nat} {σ : Sg} {G : GH} : type_of% (xA_nil (T := T) (d := d) (σ := σ) (G := on G)) := xA_nil
theorem oA_e {T : Tb} {d : Nat} {σ : Sg} {G : GH} {e : E} {r : List Ar} : type_of% (xA_e (T := T) (d := d) (σ := σ) (e := e) (r := r) (G := on G)) := xA_e
theorem oA_s {T : Tb} {d : Nat} {σ : Sg} {G : GH} {e : E} {r : List Ar} : type_of% (xA_s (T := T) (d := d) (σ := σ) (e := e) (r := r) (G := on G)) := xA_s
theorem oI_e {T : Tb} {d : Nat} {σ : Sg} {G : GH} {e : E} : type_of% (xI_e (T := T) (d := d) (σ := σ) (e := e) (G := on G)) := xI_e
theorem oI_rng {T : Tb} {d : Nat} {σ : Sg} {G : GH} {es : List E} : type_of% (xI_rng (T := T) (d := d) (σ := σ) (es := es) (G := on G)) := xI_rng
theorem oI_zip {T : Tb} {d : Nat} {σ : Sg} {G : GH} {a b : E} : type_of% (xI_zip (T := T) (d := d) (σ := σ) (a := a) (b := b) (G := on G)) := xI_zip
theorem oW_eq {T : Tb} {d : Nat} {σ : Sg} {G : GH} {c : E} {b : List S} : type_of% (xW_eq (T := T) (d := d) (σ := σ) (c := c) (b := b) (G := on G)) := xW_eq
theorem oSs_nil {T : Tb} {d : Nat} {σ : Sg} {G : GH} : type_of% (xSs_nil (T := T) (d := d) (σ := σ) (G := on G)) := xSs_nil
theorem oSs_cons {T : Tb} {d : Nat} {σ : Sg} {G : GH} {s : S} {r : List S} : type_of% (xSs_cons (T := T) (d := d) (σ := σ) (s := s) (r := r) (G := on G)) := xSs_cons
theorem oS_asg {T : Tb} {d : Nat} {σ : Sg} {G : GH} {t : Tg} {e : E} : type_of% (xS_asg (T := T) (d := d) (σ := σ) (t := t) (e := e) (G := on G)) := xS_asg
theorem oS_sub {T : Tb} {d : Nat} {σ : Sg} {G : GH} {o i e : E} : type_of% (xS_sub (T := T) (d := d) (σ := σ) (o := o) (i := i) (e := e) (G := on G)) := xS_sub
theorem oS_att {T : Tb} {d : Nat} {σ : Sg} {G : GH} {o : E} {f : Nat} {e : E} : type_of% (xS_att (T := T) (d := d) (σ := σ) (o := o) (f := f) (e := e) (G := on G)) := xS_att
theorem oS_par {T : Tb} {d : Nat} {σ : Sg} {G : GH} {is : List Nat} {es : List E} : type_of% (xS_par (T := T) (d := d) (σ := σ) (is := is) (es := es) (G := on G)) := xS_par
theorem oS_exp {T : Tb} {d : Nat} {σ : Sg} {G : GH} {e : E} : type_of% (xS_exp (T := T) (d := d) (σ := σ) (e := e) (G := on G)) := xS_exp
theorem oS_ife {T : Tb} {d : Nat} {σ : Sg} {G : GH} {c : E} {a b : List S} : type_of% (xS_ife (T := T) (d := d) (σ := σ) (c := c) (a := a) (b := b) (G := on G)) := xS_ife
theorem oS_for {T : Tb} {d : Nat} {σ : Sg} {G : GH} {t : Tg} {it : It} {b : List S} : type_of% (xS_for (T := T) (d := d) (σ := σ) (t := t) (it := it) (b := b) (G := on G)) := xS_for
theorem oS_whl {T : Tb} {d : Nat} {σ : Sg} {G : GH} {c : E} {b : List S} : type_of% (xS_whl (T := T) (d := d) (σ := σ) (c := c) (b := b) (G := on G)) := xS_whl
theorem oS_ret {T : Tb} {d : Nat} {σ : Sg} {G : GH} {e : E} : type_of% (xS_ret (T := T) (d := d) (σ := σ) (e := e) (G := on G)) := xS_ret
theorem oS_pass {T : Tb} {d : Nat} {σ : Sg} {G : GH} : type_of% (xS_pass (T := T) (d := d) (σ := σ) (G := on G)) := xS_pass
theorem rb_ok {α β : Type} {a : α} {G : GH} {f : α → GH → R β} : (R.ok a (on G)).bind f = f a (on G) := rfl
theorem rt_ok {α : Type} {a : α} {G : GH} {σ : Sg} {f : α → GH → F} : (R.ok a (on G)).toF σ f = f a (on G) := rfl
theorem ft_nx {σ : Sg} {G : GH} {f : Sg → GH → F} : (F.nx σ (on G)).then f = f σ (on G) := rfl
theorem ft_ret {w : W} {G : GH} {f : Sg → GH → F} : (F.ret w (on G)).then f = .ret w (on G) := rfl
theorem fl_nx {σ : Sg} {G : GH} {f : Sg → GH → F} : (F.nx σ (on G)).loop f = f σ (on G) := rfl
theorem fl_ret {w : W} {G : GH} {f : Sg → GH → F} : (F.ret w (on G)).loop f = .ret w (on G) := rfl
theorem fo_nx {σ : Sg} {G : GH} : (F.nx σ (on G)).out = .ok .non (on G) := rfl
theorem fo_ret {w : W} {G : GH} : (F.ret w (on G)).out = .ok w (on G) := rfl
theorem oo_some {α : Type} {a : α} {G : GH} : ofO (some a) (on G) = .ok a (on G) := rfl
theorem og_some {α : Type} {a : α} {G : GH} : ofOG (some (a, G)) = .ok a (on G) := by rw [on_eq]; rfl
theorem nox_ok {α : Type} {a : α} {G : GH} : (R.ok a (on G)).nox = .ok a (on G) := rfl
theorem tru_bl {b : Bool} {G : GH} : tru G (.bl b) = some b := rfl
theorem tru_int {i : Int} {G : GH} : tru G (.int i) = some (i != 0) := rfl
theorem bA_nil {ws : List W} : bindA [] ws = some ws := rfl
theorem asg_v {i : Nat} {w : W} {σ : Sg} : asgT (.v i) w σ = some (σ.set i (some w)) := rfl
theorem on_get {G : GH} {a : Nat} : (on G).get a = G.get a := by rw [on_eq]
theorem on_sz {G : GH} : (on G).sz = G.sz := by rw [on_eq]
theorem on_push {G : GH} {o : AO} : (on G).push o = G.push o := by rw [on_eq]
theorem on_set {G : GH} {n : Nat} {o : AO} : (on G).set n o = G.set n o := by rw [on_eq]
/-! comparisons -/
theorem c_eq {x y : W} {G : GH} : cmpop .eq x y G = eqW G x y := rfl
theorem c_ne {x y : W} {G : GH} : cmpop .ne x y G = (eqW G x y).map (!·) := rfl
theorem c_in {x y : W} {G : GH} : cmpop .isin x y G = inW G x y := rfl
theorem c_nin {x y : W} {G : GH} : cmpop .notin x y G = (inW G x y).map (!·) := rfl
theorem c_lt {i j : Int} {G : GH} : cmpop .lt (.int i) (.int j) G = some (decide (i < j)) := rfl
theorem c_le {i j : Int} {G : GH} : cmpop .le (.int i) (.int j) G = some (decide (i ≤ j)) := rfl
theorem c_gt {i j : Int} {G : GH} : cmpop .gt (.int i) (.int j) G = some (decide (j < i)) := rfl
theorem c_ge {i j : Int} {G : GH} : cmpop .ge (.int i) (.int j) G = some (decide (j ≤ i)) := rfl
theorem c_is {x : W} {G : GH} : cmpop .is x .non G = some (isNon x) := rfl
theorem c_isn {x : W} {G : GH} : cmpop .isnot x .non G = some (!isNon x) := rfl
theorem eq_ss {a b : Str} {G : GH} : eqW G (.str a) (.str b) = some (decide (a = b)) := rfl
theorem eq_ii {a b : Int} {G : GH} : eqW G (.int a) (.int b) = some (decide (a = b)) := rfl
theorem eq_bb {a b : Bool} {G : GH} : eqW G (.bl a) (.bl b) = some (decide (a = b)) := rfl
theorem in_ss {a b : Str} {G : GH} : inW G (.str a) (.str b) = some (!(Builtin.Str.occurrences b a 0 b.length 1).isEmpty) := rfl
theorem ix_t {G : GH} {ws : List W} {i : Int} : ixop G (.tup ws) (.int i) = L2.atI ws i := rfl
theorem ix_r {G : GH} {ws : List W} {i : Int} : ixop G (.rol ws) (.int i) = L2.atI ws i := rfl
theorem ix_l {G : GH} {ws : List W} {n : Nat} {i : Int} (h : G.get n = some (.lst ws)) : ixop G (.ref n) (.int i) = L2.atI ws i := by
  show (match seqOf G (.ref n) with | some ws => L2.atI ws i | none => none) = _
  have : seqOf G (.ref n) = some ws := by
    show (match G.get n with | some (.lst ws) => some ws | _ => none) = _
    rw [h]
  rw [this]
theorem at_nat {α : Type} {xs : List α} {n : Nat} : L2.atI xs (n : Int) = xs[n]? := by
  unfold L2.atI L2.ixN
  by_cases h : n < xs.length
  · rw [if_pos (Int.natCast_nonneg n), if_pos (by simpa using h)]
    simp
  · rw [if_pos (Int.natCast_nonneg n), if_neg (by simpa using h)]
    exact (List.getElem?_eq_none (by omega)).symm
theorem at_0 {α : Type} {xs : List α} : L2.atI xs 0 = xs[0]? := at_nat (n := 0)
theorem at_1 {α : Type} {xs : List α} : L2.atI xs 1 = xs[1]? := at_nat (n := 1)
theorem at_2 {α : Type} {xs : List α} : L2.atI xs 2 = xs[2]? := at_nat (n := 2)
theorem at_3 {α : Type} {xs : List α} : L2.atI xs 3 = xs[3]? := at_nat (n := 3)
theorem at_4 {α : Type} {xs : List α} : L2.atI xs 4 = xs[4]? := at_nat (n := 4)
/-- the heap grows; what S names may change -/
structure Fr (S : Nat → Prop) (G G' : GH) : Prop where
  le : G.sz ≤ G'.sz
  keep : ∀ a o, G.get a = some o → ¬ S a → G'.get a = some o
abbrev Ext (G G' : GH) : Prop := Fr (fun _ => False) G G'
theorem Fr.refl {S : Nat → Prop} {G : GH} : Fr S G G := ⟨Nat.le_refl _, fun _ _ h _ => h⟩
theorem Fr.trans {S : Nat → Prop} {G G1 G2 : GH} (a : Fr S G G1) (b : Fr S G1 G2) : Fr S G G2 := ⟨Nat.le_trans a.le b.le, fun x o h n => b.keep x o (a.keep x o h n) n⟩
theorem Fr.mono {S S' : Nat → Prop} {G G1 : GH} (a : Fr S G G1) (h : ∀ x, S x → S' x) : Fr S' G G1 := ⟨a.le, fun x o e n => a.keep x o e fun z => n (h x z)⟩
/-- below the size alone things stand -/
def Wf (G : GH) : Prop := ∀ a o, G.get a = some o → a < G.sz
theorem Wf.push {G : GH} (h : Wf G) (o : AO) : Wf (G.push o) := fun a u e => by
  rw [GH.get_push] at e
  rw [GH.sz_push]
  by_cases c : a = G.sz
  · omega
  · rw [if_neg c] at e
    exact Nat.lt_succ_of_lt (h a u e)
theorem Wf.set {G : GH} (h : Wf G) {n : Nat} (hn : n < G.sz) (o : AO) : Wf (G.set n o) := fun a u e => by
  rw [GH.get_set] at e
  rw [GH.sz_set]
  by_cases c : a = n
  · omega
  · rw [if_neg c] at e
    exact h a u e
theorem Wf.nil : Wf ⟨0, .e⟩ := fun a o e => by cases (show (none : Option AO) = some o from e)
theorem Fr.push {S : Nat → Prop} {G : GH} (h : Wf G) (o : AO) : Fr S G (G.push o) := ⟨Nat.le_succ _, fun a u e _ => by
  rw [GH.get_push, if_neg (Nat.ne_of_lt (h a u e))]
  exact e⟩
theorem Fr.set {S : Nat → Prop} {G : GH} {n : Nat} (h : S n) (o : AO) : Fr S G (G.set n o) := ⟨Nat.le_refl _, fun a u e ne => by
  rw [GH.get_set, if_neg (fun z : a = n => ne (z ▸ h))]
  exact e⟩
theorem get_push_self (G : GH) (o : AO) : (G.push o).get G.sz = some o := by rw [GH.get_push, if_pos rfl]
theorem get_set_self (G : GH) (n : Nat) (o : AO) : (G.set n o).get n = some o := by rw [GH.get_set, if_pos rfl]
theorem newL_ok {G : GH} {ws : List W} (h : ws.length ≤ sizeLine) : newL G ws = some (.ref G.sz, G.push (.lst ws)) := by
  unfold newL szOk
  rw [decide_eq_true h]
  rfl
end PM

set_option maxHeartbeats 4000000
/-! PmY: more small rules: methods, fields, lists, numbers, loops. -/
namespace PM
open PySem
theorem on_on {G : GH} : on (on G) = on G := on_eq _
theorem on_setw {G : GH} {n : Nat} {o : AO} : (on G).set n o = on (G.set n o) := by rw [on_eq, on_eq]
theorem on_pushw {G : GH} {o : AO} : (on G).push o = on (G.push o) := by rw [on_eq, on_eq]
theorem in_t {x : W} {ws : List W} {G : GH} {k : Bool} (h : (flatW x && ws.all flatW) = true) (e : inFl x ws = k) : inW G x (.tup ws) = some k := by
  have : inW G x (.tup ws) = (if (flatW x && ws.all flatW) = true then some (inFl x ws) else none) := by cases x <;> rfl
  rw [this, if_pos h, e]
theorem sz_ok {n : Nat} (h : n ≤ 1000) : szOk n = true := decide_eq_true (Nat.le_trans h (by decide))
theorem mk_ins {T : Tb} {G : GH} {a m c f : Nat} {fs : List (Nat × W)} (h : G.get a = some (.ins c fs)) (h1 : fs.lookup m = none) (h2 : T.ms.lookup (c, m) = some f) : mkOf T (on G) (.ref a) m = some (.f f) := by
  have e : btOf (on G) (.ref a) = none := by
    show (match (on G).get a with | some (.lst _) => some Bt.lst | _ => none) = none
    rw [on_get, h]
  unfold mkOf
  rw [e]
  simp only [on_get, h, h1, h2]
theorem mk_lst {T : Tb} {G : GH} {a m : Nat} {ws : List W} {k : Bm} (h : G.get a = some (.lst ws)) (h2 : T.bm.lookup (.lst, m) = some k) : mkOf T (on G) (.ref a) m = some (.b k) := by
  have e : btOf (on G) (.ref a) = some .lst := by
    show (match (on G).get a with | some (.lst _) => some Bt.lst | _ => none) = _
    rw [on_get, h]
  unfold mkOf
  rw [e]
  simp only [h2]
  rfl
theorem mk_str {T : Tb} {G : GH} {s : Str} {m : Nat} {k : Bm} (h2 : T.bm.lookup (.str, m) = some k) : mkOf T (on G) (.str s) m = some (.b k) := by
  unfold mkOf
  have e : btOf (on G) (.str s) = some .str := rfl
  rw [e]
  simp only [h2]
  rfl
theorem att_ok2 {T : Tb} {G : GH} {a c f : Nat} {fs : List (Nat × W)} {w : W} (h : G.get a = some (.ins c fs)) (h1 : T.fl.contains (c, f) = true) (h2 : fs.lookup f = some w) : (match W.ref a with
      | .ref a => match (on G).get a with
        | some (.ins c fs) => if T.fl.contains (c, f) then ofO (fs.lookup f) (on G) else .bad
        | _ => .bad
      | _ => .bad : R W) = .ok w (on G) := by
  simp only [on_get, h, h1, h2, if_true]
  rfl
theorem seq_l {G : GH} {n : Nat} {ws : List W} (h : G.get n = some (.lst ws)) : seqOf (on G) (.ref n) = some ws := by
  show (match (on G).get n with | some (.lst ws) => some ws | _ => none) = _
  rw [on_get, h]
theorem lst_l {G : GH} {n : Nat} {ws : List W} (h : G.get n = some (.lst ws)) : lstOf (on G) (.ref n) = some ws := by
  show (match (on G).get n with | some (.lst ws) => some ws | _ => none) = _
  rw [on_get, h]
theorem its_l {G : GH} {n : Nat} {ws : List W} (h : G.get n = some (.lst ws)) : items (on G) (.ref n) = some ws := by
  show (match (on G).get n with | some (.lst ws) => some ws | _ => none) = _
  rw [on_get, h]
theorem ix_lst {G : GH} {ws : List W} {n : Nat} {i : Int} (h : G.get n = some (.lst ws)) : ixop (on G) (.ref n) (.int i) = L2.atI ws i := by
  rw [ix_l (by rw [on_get]; exact h)]
theorem len_l {T : Tb} {G : GH} {n : Nat} {ws : List W} (h : G.get n = some (.lst ws)) : bfop T .len [.ref n] (on G) = some (.int ws.length, on G) := by
  show ((seqOf (on G) (.ref n)).map fun xs => (W.int xs.length, on G)) = _
  rw [seq_l h]
  rfl
theorem len_t {T : Tb} {G : GH} {ws : List W} : bfop T .len [.tup ws] G = some (.int ws.length, G) := rfl
theorem len_r {T : Tb} {G : GH} {ws : List W} : bfop T .len [.rol ws] G = some (.int ws.length, G) := rfl
theorem len_s {T : Tb} {G : GH} {s : Str} (h : szOk s.length = true) : bfop T .len [.str s] G = some (.int s.length, G) := by
  show (if szOk s.length = true then some (W.int s.length, G) else none) = _
  rw [if_pos h]
theorem int_i {T : Tb} {G : GH} {i : Int} : bfop T .int [.int i] G = some (.int i, G) := rfl
theorem int_b {T : Tb} {G : GH} {k : Bool} : bfop T .int [.bl k] G = some (.int (if k then 1 else 0), G) := rfl
theorem b_add {i j : Int} {G : GH} : binop .add (.int i) (.int j) G = some (.int (i + j), G) := rfl
theorem b_sub {i j : Int} {G : GH} : binop .sub (.int i) (.int j) G = some (.int (i - j), G) := rfl
theorem b_mul {i j : Int} {G : GH} (h : (decide (i.natAbs < 18446744073709551616) || decide (j.natAbs < 18446744073709551616)) = true) : binop .mul (.int i) (.int j) G = some (.int (i * j), G) := by
  show (if _ then _ else _) = _
  rw [if_pos h]
theorem b_mulr {i j : Int} {G : GH} (h : -(2 ^ 64) < j ∧ j < 2 ^ 64) : binop .mul (.int i) (.int j) G = some (.int (i * j), G) := by
  refine b_mul ?_
  rw [decide_eq_true (show j.natAbs < 18446744073709551616 by omega), Bool.or_true]
theorem b_mod {i j : Int} {G : GH} (h : j ≠ 0) : binop .mod (.int i) (.int j) G = some (.int (i.fmod j), G) := by
  show (if j ≠ 0 then _ else _) = _
  rw [if_pos h]
theorem b_div {i j : Int} {G : GH} (h : j ≠ 0) (h2 : j.natAbs < 1073741824) : binop .div (.int i) (.int j) G = some (.int (i.fdiv j), G) := by
  show (if (decide (j ≠ 0) && decide (j.natAbs < 1073741824)) = true then _ else _) = _
  rw [if_pos (by rw [decide_eq_true h, decide_eq_true h2]; rfl)]
theorem b_pow18 {G : GH} : binop .pow (.int 10) (.int 18) G = some (.int 1000000000000000000, G) := rfl
theorem ixN_lt {n i : Nat} (h : i < n) : L2.ixN n (i : Int) = some i := by
  unfold L2.ixN
  rw [if_pos (Int.natCast_nonneg i), if_pos (by omega)]
  simp
theorem app_l {G : GH} {r : Nat} {xs : List W} {w : W} (h : G.get r = some (.lst xs)) (hl : xs.length < sizeLine) : bmop .append (.ref r) [w] (on G) = some (.non, G.set r (.lst (xs ++ [w]))) := by
  show (match (on G).get r with | some (.lst xs) => if decide (xs.length < sizeLine) = true then some (W.non, (on G).set r (.lst (xs ++ [w]))) else none | _ => none) = _
  rw [on_get, h]
  show (if decide (xs.length < sizeLine) = true then _ else _) = _
  rw [if_pos (decide_eq_true hl), on_set]
theorem sl_t {G : GH} {ws : List W} {l h : Option Int} : slop G (.tup ws) l h = some (.tup (cutW ws l h), G) := rfl
theorem sl_l {G : GH} {n : Nat} {ws : List W} {l h : Option Int} (e : G.get n = some (.lst ws)) (hl : (cutW ws l h).length ≤ sizeLine) : slop (on G) (.ref n) l h = some (.ref G.sz, G.push (.lst (cutW ws l h))) := by
  show (match items (on G) (.ref n) with | some ws => newL (on G) (cutW ws l h) | none => none) = _
  rw [its_l e]
  show newL (on G) (cutW ws l h) = _
  rw [newL_ok hl, on_push, on_sz]
theorem newL_on {G : GH} {ws : List W} (h : ws.length ≤ sizeLine) : newL (on G) ws = some (.ref G.sz, G.push (.lst ws)) := by
  rw [newL_ok h, on_push, on_sz]
theorem seq_new {G : GH} {ws : List W} : seqOf (on (G.push (.lst ws))) (.ref G.sz) = some ws := seq_l (get_push_self _ _)
theorem its_new {G : GH} {ws : List W} : items (on (G.push (.lst ws))) (.ref G.sz) = some ws := its_l (get_push_self _ _)
theorem lst_new {G : GH} {ws : List W} : lstOf (on (G.push (.lst ws))) (.ref G.sz) = some ws := lst_l (get_push_self _ _)
theorem ix_new {G : GH} {ws : List W} {i : Int} : ixop (on (G.push (.lst ws))) (.ref G.sz) (.int i) = L2.atI ws i := ix_lst (get_push_self _ _)
theorem len_new {T : Tb} {G : GH} {ws : List W} : bfop T .len [.ref G.sz] (on (G.push (.lst ws))) = some (.int ws.length, on (G.push (.lst ws))) := len_l (get_push_self _ _)
theorem iv_l {G : GH} {n : Nat} {ws : List W} (h : G.get n = some (.lst ws)) : ivOf (on G) (.ref n) = some (.live n) := by
  show (match (on G).get n with | some (.lst _) => some (I1.live n) | _ => none) = _
  rw [on_get, h]
theorem iv_new {G : GH} {ws : List W} : ivOf (on (G.push (.lst ws))) (.ref G.sz) = some (.live G.sz) := iv_l (get_push_self _ _)
theorem newL_one {G : GH} {w : W} : newL (on G) [w] = some (.ref G.sz, G.push (.lst [w])) := newL_on (show 1 ≤ sizeLine by decide)
theorem newL_two {G : GH} {w u : W} : newL (on G) [w, u] = some (.ref G.sz, G.push (.lst [w, u])) := newL_on (show 2 ≤ sizeLine by decide)
theorem newL_nil {G : GH} : newL (on G) [] = some (.ref G.sz, G.push (.lst [])) := newL_on (show 0 ≤ sizeLine by decide)
theorem iv_t {G : GH} {ws : List W} : ivOf G (.tup ws) = some (.sq ws) := rfl
theorem iv_r {G : GH} {ws : List W} : ivOf G (.rol ws) = some (.sq ws) := rfl
theorem sq_at {G : GH} {ws : List W} {i : Nat} : IV.at G (.one (.sq ws)) i = some ws[i]? := rfl
theorem lv_at {G : GH} {n i : Nat} {ws : List W} (h : G.get n = some (.lst ws)) : IV.at (on G) (.one (.live n)) i = some ws[i]? := by
  show (match (on G).get n with | some (.lst ws) => some ws[i]? | _ => none) = _
  rw [on_get, h]
/-- a comprehension's turns -/
theorem xL_seq {T : Tb} {d : Nat} {iv : IV} {tg : Tg} {e : E} {σ : Sg} {vs : List Nat} (l : List W) (I : Nat → List W → GH → Prop) (hl : l.length ≤ 10000) (hat : ∀ j acc G, I j acc G → IV.at (on G) iv j = some l[j]?)
    (h : ∀ j w G acc, l[j]? = some w → acc.length = j → I j acc G → ∃ σ1 u G2, asgT tg w σ = some σ1 ∧ xE T d e σ1 (on G) = .ok u (on G2) ∧ I (j + 1) (acc ++ [u]) G2) :
    ∀ m j acc G, j + m = l.length → acc.length = j → I j acc G → ∃ acc' G2, xL T d iv j tg [] e σ vs acc (on G) = .ok acc' (on G2) ∧ I l.length acc' G2 ∧ acc'.length = l.length := by
  intro m
  induction m with
  | zero =>
    intro j acc G hj ha hi
    have hj : j = l.length := hj
    rw [hj] at hi ha
    have := hat _ _ _ hi
    rw [List.getElem?_eq_none (Nat.le_refl _)] at this
    rw [hj]
    exact ⟨acc, G, xL_end this, hi, ha⟩
  | succ m ih =>
    intro j acc G hj ha hi
    have hlt : j < l.length := by omega
    obtain ⟨σ1, u, G2, h1, h2, h3⟩ := h j _ G acc (List.getElem?_eq_getElem hlt) ha hi
    have ha2 := hat _ _ _ hi
    rw [List.getElem?_eq_getElem hlt] at ha2
    obtain ⟨acc', G3, e3, i3, l3⟩ := ih (j + 1) (acc ++ [u]) G2 (by omega) (by rw [List.length_append, ha]; rfl) h3
    refine ⟨acc', G3, ?_, i3, l3⟩
    rw [xL_go0 ha2 h1, h2, rb_ok, if_pos (decide_eq_true (Nat.lt_of_lt_of_le (by omega : acc.length < 10001) (by decide)))]
    exact e3
/-- .. with a condition -/
theorem xL_seqc {T : Tb} {d : Nat} {iv : IV} {tg : Tg} {c e : E} {σ : Sg} {vs : List Nat} (l : List W) (I : Nat → List W → GH → Prop) (hl : l.length ≤ 10000) (hat : ∀ j acc G, I j acc G → IV.at (on G) iv j = some l[j]?)
    (h : ∀ j w G acc, l[j]? = some w → acc.length ≤ j → I j acc G → ∃ σ1 x k G2, asgT tg w σ = some σ1 ∧ xE T d c σ1 (on G) = .ok x (on G2) ∧ tru (on G2) x = some k ∧ (k = false → I (j + 1) acc G2) ∧ (k = true → ∃ u G3, xE T d e σ1 (on G2) = .ok u (on G3) ∧ I (j + 1) (acc ++ [u]) G3)) :
    ∀ m j acc G, j + m = l.length → acc.length ≤ j → I j acc G → ∃ acc' G2, xL T d iv j tg [c] e σ vs acc (on G) = .ok acc' (on G2) ∧ I l.length acc' G2 ∧ acc'.length ≤ l.length := by
  intro m
  induction m with
  | zero =>
    intro j acc G hj ha hi
    have hj : j = l.length := hj
    rw [hj] at hi ha
    have := hat _ _ _ hi
    rw [List.getElem?_eq_none (Nat.le_refl _)] at this
    rw [hj]
    exact ⟨acc, G, xL_end this, hi, ha⟩
  | succ m ih =>
    intro j acc G hj ha hi
    have hlt : j < l.length := by omega
    obtain ⟨σ1, x, k, G2, h1, h2, h3, h4, h5⟩ := h j _ G acc (List.getElem?_eq_getElem hlt) ha hi
    have ha2 := hat _ _ _ hi
    rw [List.getElem?_eq_getElem hlt] at ha2
    cases k with
    | false =>
      obtain ⟨acc', G3, e3, i3, l3⟩ := ih (j + 1) acc G2 (by omega) (by omega) (h4 rfl)
      refine ⟨acc', G3, ?_, i3, l3⟩
      rw [xL_go1 ha2 h1, h2, rb_ok, h3, oo_some, rb_ok, if_neg (by decide)]
      exact e3
    | true =>
      obtain ⟨u, G3, h6, h7⟩ := h5 rfl
      obtain ⟨acc', G4, e3, i3, l3⟩ := ih (j + 1) (acc ++ [u]) G3 (by omega) (by rw [List.length_append]; simp; omega) h7
      refine ⟨acc', G4, ?_, i3, l3⟩
      rw [xL_go1 ha2 h1, h2, rb_ok, h3, oo_some, rb_ok, if_pos rfl, h6, rb_ok, if_pos (decide_eq_true (Nat.lt_of_lt_of_le (by omega : acc.length < 10001) (by decide)))]
      exact e3
/-- a for's turns, none of which leaves -/
theorem xF_seq {T : Tb} {d : Nat} {iv : IV} {tg : Tg} {b : List S} (l : List W) (I : Nat → Sg → GH → Prop) (hat : ∀ j σ G, I j σ G → IV.at (on G) iv j = some l[j]?)
    (h : ∀ j w σ G, l[j]? = some w → I j σ G → ∃ σ1 σ2 G2, asgT tg w σ = some σ1 ∧ xSs T d b σ1 (on G) = .nx σ2 (on G2) ∧ I (j + 1) σ2 G2) :
    ∀ m j σ G, j + m = l.length → I j σ G → ∃ σ' G2, xF T d iv j tg b σ (on G) = .nx σ' (on G2) ∧ I l.length σ' G2 := by
  intro m
  induction m with
  | zero =>
    intro j σ G hj hi
    have hj : j = l.length := hj
    rw [hj] at hi
    have := hat _ _ _ hi
    rw [List.getElem?_eq_none (Nat.le_refl _)] at this
    rw [hj]
    exact ⟨σ, G, xF_end this, hi⟩
  | succ m ih =>
    intro j σ G hj hi
    have hlt : j < l.length := by omega
    obtain ⟨σ1, σ2, G2, h1, h2, h3⟩ := h j _ σ G (List.getElem?_eq_getElem hlt) hi
    have ha2 := hat _ _ _ hi
    rw [List.getElem?_eq_getElem hlt] at ha2
    obtain ⟨σ', G3, e3, i3⟩ := ih (j + 1) σ2 G2 (by omega) h3
    refine ⟨σ', G3, ?_, i3⟩
    rw [xF_go ha2 h1, h2, fl_nx]
    exact e3
theorem rngW_get {lo : Int} {n j : Nat} : (rngW lo n)[j]? = if j < n then some (.int (lo + (j : Nat))) else none := by
  unfold rngW
  rw [List.getElem?_map]
  by_cases h : j < n
  · rw [List.getElem?_range h, if_pos h]
    rfl
  · rw [List.getElem?_eq_none (by rw [List.length_range]; omega), if_neg h]
    rfl
theorem rngW_len {lo : Int} {n : Nat} : (rngW lo n).length = n := by
  unfold rngW
  rw [List.length_map, List.length_range]
theorem rng_1 {n : Nat} (h : n ≤ 1000000) : rngOf [.int (n : Int)] = some (rngW 0 n) := by
  show (if in62 (n : Int) = true then some (rngW 0 (n : Int).toNat) else none) = _
  have : in62 (n : Int) = true := by
    exact decide_eq_true (by omega)
  rw [if_pos this]
  rfl
theorem rng_2 {a n : Nat} (ha : a ≤ 1000000) (h : n ≤ 1000000) : rngOf [.int (a : Int), .int (n : Int)] = some (rngW a (n - a)) := by
  show (if (in62 (a : Int) && in62 (n : Int)) = true then some (rngW a ((n : Int) - (a : Int)).toNat) else none) = _
  have : ∀ k : Nat, k ≤ 1000000 → in62 (k : Int) = true := fun k hk => by
    exact decide_eq_true (by omega)
  rw [if_pos (by rw [this a ha, this n h]; rfl)]
  congr 1
  congr 1
  omega
theorem frB {G : GH} {b : Nat} (o : AO) : Fr (· = b) G (G.set b o) := Fr.set (S := (· = b)) rfl o
theorem Fr.get {S : Nat → Prop} {G G' : GH} (f : Fr S G G') {a : Nat} {o : AO} (h : G.get a = some o) (n : ¬ S a) : G'.get a = some o := f.keep a o h n
end PM

set_option maxHeartbeats 4000000
/-! PmZ: the laws' own helpers: the bag, drawing. -/
namespace PM
open PySem
def drawH : S := .ife (.and (.cmp .eq (.ix (.var 0) (.cst (.int 2))) (.cst (.int 0))) (.cmp .lt (.ix (.var 0) (.cst (.int 1))) (.blt .len [.ix (.var 0) (.cst (.int 0))]))) [.asg (.v 2) (.ix (.ix (.var 0) (.cst (.int 0))) (.ix (.var 0) (.cst (.int 1)))), .sub (.var 0) (.cst (.int 1)) (.bin .add (.ix (.var 0) (.cst (.int 1))) (.cst (.int 1))), .ife (.cmp .ge (.var 2) (.bin .pow (.cst (.int 10)) (.cst (.int 18)))) [.sub (.var 0) (.cst (.int 2)) (.var 2)] [.sub (.var 0) (.cst (.int 3)) (.bin .mod (.blt .int [.bin .add (.bin .add (.bin .mul (.ix (.var 0) (.cst (.int 3))) (.cst (.int 52361))) (.bin .mul (.bin .mod (.blt .int [.var 2]) (.cst (.int 2147483563))) (.cst (.int 68111)))) (.cst (.int 47))]) (.cst (.int 2147483587)))]] []
def drawT : List S := [.ife (.cmp .gt (.ix (.var 0) (.cst (.int 2))) (.cst (.int 0))) [.asg (.v 3) (.bin .mod (.blt .int [.ix (.var 0) (.cst (.int 2))]) (.var 1)), .sub (.var 0) (.cst (.int 2)) (.bin .div (.ix (.var 0) (.cst (.int 2))) (.var 1)), .ret (.var 3)] [], .sub (.var 0) (.cst (.int 4)) (.bin .add (.ix (.var 0) (.cst (.int 4))) (.cst (.int 1))), .asg (.v 4) (.ix (.var 0) (.cst (.int 3))), .sub (.var 0) (.cst (.int 3)) (.bin .mod (.blt .int [.bin .add (.bin .add (.bin .add (.bin .mul (.var 4) (.var 4)) (.bin .mul (.var 4) (.cst (.int 20011)))) (.bin .mul (.ix (.var 0) (.cst (.int 4))) (.cst (.int 1500007)))) (.cst (.int 54321))]) (.cst (.int 2147483587))), .ret (.bin .mod (.blt .int [.bin .add (.bin .div (.ix (.var 0) (.cst (.int 3))) (.cst (.int 83))) (.bin .mul (.bin .mod (.blt .int [.ix (.var 0) (.cst (.int 3))]) (.cst (.int 8053))) (.cst (.int 59)))]) (.var 1))]
def drawB : List S := drawH :: drawT
/-- the bag: its numbers' list, the place, the big number, the seed, the turns -/
structure Bag (G : GH) (b l : Nat) (ns : List Int) (i : Nat) (c s k : Int) : Prop where
  ne : b ≠ l
  bag : G.get b = some (.lst [.ref l, .int i, .int c, .int s, .int k])
  cells : G.get l = some (.lst (ns.map .int))
  c0 : 0 ≤ c
  s0 : 0 ≤ s
  s1 : s < 2147483587
def IsBag (G : GH) (b : Nat) : Prop := ∃ l ns i c s k, Bag G b l ns i c s k
theorem Bag.fr {G G' : GH} {b l i : Nat} {ns : List Int} {c s k : Int} (h : Bag G b l ns i c s k) (f : Ext G G') : Bag G' b l ns i c s k :=
  ⟨h.ne, f.get h.bag fun z => z, f.get h.cells fun z => z, h.c0, h.s0, h.s1⟩
theorem IsBag.fr {G G' : GH} {b : Nat} (h : IsBag G b) (f : Ext G G') : IsBag G' b := by
  obtain ⟨l, ns, i, c, s, k, h⟩ := h
  exact ⟨l, ns, i, c, s, k, h.fr f⟩
theorem IsBag.lt {G : GH} {b : Nat} (h : IsBag G b) (w : Wf G) : b < G.sz := by
  obtain ⟨l, ns, i, c, s, k, h⟩ := h
  exact w b _ h.bag
theorem Bag.put {G : GH} {b l i i' : Nat} {ns : List Int} {c s k c' s' k' : Int} (h : Bag G b l ns i c s k) (h1 : 0 ≤ c') (h2 : 0 ≤ s') (h3 : s' < 2147483587) : Bag (G.set b (.lst [.ref l, .int i', .int c', .int s', .int k'])) b l ns i' c' s' k' :=
  ⟨h.ne, get_set_self _ _ _, by rw [GH.get_set, if_neg (Ne.symm h.ne)]; exact h.cells, h1, h2, h3⟩
theorem set_set {G : GH} {b : Nat} {o u : AO} {x : Nat} : ((G.set b o).set b u).get x = (G.set b u).get x := by
  rw [GH.get_set, GH.get_set, GH.get_set]
  split <;> rfl
theorem ix5 {n : Nat} (i : Nat) (h : i < n) : L2.ixN n (i : Int) = some i := ixN_lt h
/-- what a draw leaves -/
structure Drawn (G G' : GH) (b : Nat) : Prop where
  bag : IsBag G' b
  fr : Fr (· = b) G G'
  wf : Wf G'
  sz : G'.sz = G.sz
section
variable {T : Tb} {d : Nat} {G : GH} {b l i : Nat} {ns : List Int} {c s k many : Int}
theorem fmod_in {a m : Int} (h : 0 < m) : 0 ≤ a.fmod m ∧ a.fmod m < m := ⟨Int.fmod_nonneg_of_pos a h, Int.fmod_lt_of_pos a h⟩
/-- the last part -/
theorem draw_tail (hb : Bag G b l ns i c s k) (hm : 0 < many) (hm2 : many < 1073741824) (wf : Wf G) (x2 x3 x4 : Option W) : ∃ r G', (xSs T d (drawT) [some (.ref b), some (.int many), x2, x3, x4] (on G)).out = .ok (.int r) (on G') ∧ 0 ≤ r ∧ r < many ∧ Drawn G G' b := by
  have i0 : ∀ {G : GH} {ws : List W} {j : Int}, G.get b = some (.lst ws) → ixop (on G) (.ref b) (.int j) = L2.atI ws j := fun h => ix_lst h
  have hlt : b < G.sz := wf b _ hb.bag
  have mne : many ≠ 0 := by omega
  have b0 := i0 (j := 0) hb.bag
  have b2 := i0 (j := 2) hb.bag
  have b3 := i0 (j := 3) hb.bag
  have b4 := i0 (j := 4) hb.bag
  have hget := hb.bag
  have n2 : L2.ixN 5 2 = some 2 := by decide
  have n3 : L2.ixN 5 3 = some 3 := by decide
  have n4 : L2.ixN 5 4 = some 4 := by decide
  by_cases hc : 0 < c
  · have hdiv : binop .div (.int c) (.int many) (on G) = some (.int (c.fdiv many), on G) := b_div mne (by omega)
    have hmod : binop .mod (.int c) (.int many) (on G) = some (.int (c.fmod many), on G) := b_mod mne
    refine ⟨c.fmod many, G.set b (.lst [.ref l, .int i, .int (c.fdiv many), .int s, .int k]), ?_, (fmod_in hm).1, (fmod_in hm).2, ⟨l, ns, i, _, s, k, hb.put (Int.fdiv_nonneg hb.c0 (by omega)) hb.s0 hb.s1⟩, frB _, wf.set hlt _, rfl⟩
    simp (config := { decide := true }) only [drawT, b2, hc, int_i, hmod, hdiv, hget, n2, oE_cst, oE_var, oE_bin, oE_cmp, oE_and, oE_or, oE_not, oE_neg, oE_ife, oE_tup, oE_lst, oE_ix, oE_sl, oE_call, oE_mk, oE_met, oE_att, oE_blt, oE_lc, oEs_nil, oEs_cons, oA_nil, oA_e, oA_s, oI_e, oI_rng, oI_zip, oW_eq, oSs_nil, oSs_cons, oS_asg, oS_sub, oS_att, oS_par, oS_exp, oS_ife, oS_for, oS_whl, oS_ret, oS_pass, rb_ok, rt_ok, ft_nx, ft_ret, fl_nx, fl_ret, fo_nx, fo_ret, oo_some, og_some, nox_ok, tru_bl, tru_int, bA_nil, asg_v, c_eq, c_ne, c_in, c_nin, c_lt, c_le, c_gt, c_ge, c_is, c_isn, eq_ss, eq_ii, eq_bb, in_ss, ix_t, ix_r, at_0, at_1, at_2, at_3, at_4, on_get, on_sz, List.getElem?_cons_zero, List.getElem?_cons_succ, List.getElem?_nil, List.set_cons_zero, List.set_cons_succ, Option.map_some, Option.map_none, if_true, if_false, Bool.false_eq_true, decide_true, decide_false, Bool.not_true, Bool.not_false, on_on, List.length_cons, List.length_nil, on_setw, on_pushw, List.nil_append, List.cons_append, seq_new, its_new, lst_new, ix_new, len_new, iv_new, newL_one, newL_two, newL_nil, iv_t, iv_r]
  · obtain ⟨s', hse⟩ : ∃ s', (s * s + s * 20011 + (k + 1) * 1500007 + 54321).fmod 2147483587 = s' := ⟨_, rfl⟩
    have hs' : 0 ≤ s' ∧ s' < 2147483587 := by rw [← hse]; exact fmod_in (by decide)
    have ss : binop .mul (.int s) (.int s) (on (G.set b (.lst [.ref l, .int i, .int c, .int s, .int (k + 1)]))) = some (.int (s * s), on (G.set b (.lst [.ref l, .int i, .int c, .int s, .int (k + 1)]))) := b_mulr (by have := hb.s0; have := hb.s1; omega)
    have hmod : ∀ {x : Int} {G : GH}, binop .mod (.int x) (.int many) G = some (.int (x.fmod many), G) := b_mod mne
    have m1 : ∀ {x : Int} {G : GH}, binop .mul (.int x) (.int 20011) G = some (.int (x * 20011), G) := b_mulr (by decide)
    have m2 : ∀ {x : Int} {G : GH}, binop .mul (.int x) (.int 1500007) G = some (.int (x * 1500007), G) := b_mulr (by decide)
    have m3 : ∀ {x : Int} {G : GH}, binop .mul (.int x) (.int 59) G = some (.int (x * 59), G) := b_mulr (by decide)
    have q1 : ∀ {x : Int} {G : GH}, binop .mod (.int x) (.int 2147483587) G = some (.int (x.fmod 2147483587), G) := b_mod (by decide)
    have q2 : ∀ {x : Int} {G : GH}, binop .mod (.int x) (.int 8053) G = some (.int (x.fmod 8053), G) := b_mod (by decide)
    have q3 : ∀ {x : Int} {G : GH}, binop .div (.int x) (.int 83) G = some (.int (x.fdiv 83), G) := b_div (by decide) (by decide)
    have g1 : ∀ {j : Int}, ixop (on (G.set b (.lst [.ref l, .int i, .int c, .int s, .int (k + 1)]))) (.ref b) (.int j) = L2.atI [.ref l, .int i, .int c, .int s, .int (k + 1)] j := ix_lst (get_set_self _ _ _)
    have g2 : (G.set b (.lst [.ref l, .int i, .int c, .int s, .int (k + 1)])).get b = some (.lst [.ref l, .int i, .int c, .int s, .int (k + 1)]) := get_set_self _ _ _
    have g3 : ∀ {j : Int}, ixop (on ((G.set b (.lst [.ref l, .int i, .int c, .int s, .int (k + 1)])).set b (.lst [.ref l, .int i, .int c, .int s', .int (k + 1)]))) (.ref b) (.int j) = L2.atI [.ref l, .int i, .int c, .int s', .int (k + 1)] j := ix_lst (get_set_self _ _ _)
    have hb1 : Bag (G.set b (.lst [.ref l, .int i, .int c, .int s, .int (k + 1)])) b l ns i c s (k + 1) := hb.put hb.c0 hb.s0 hb.s1
    refine ⟨(s'.fdiv 83 + s'.fmod 8053 * 59).fmod many, (G.set b (.lst [.ref l, .int i, .int c, .int s, .int (k + 1)])).set b (.lst [.ref l, .int i, .int c, .int s', .int (k + 1)]), ?_, (fmod_in hm).1, (fmod_in hm).2, ⟨l, ns, i, c, s', k + 1, hb1.put hb.c0 hs'.1 hs'.2⟩, (frB _).trans (frB _), (wf.set hlt _).set hlt _, rfl⟩
    simp (config := { decide := true }) only [drawT, b2, hc, b4, b_add, hget, n4, g1, ss, m1, m2, int_i, q1, hse, g2, n3, g3, q2, q3, m3, hmod, oE_cst, oE_var, oE_bin, oE_cmp, oE_and, oE_or, oE_not, oE_neg, oE_ife, oE_tup, oE_lst, oE_ix, oE_sl, oE_call, oE_mk, oE_met, oE_att, oE_blt, oE_lc, oEs_nil, oEs_cons, oA_nil, oA_e, oA_s, oI_e, oI_rng, oI_zip, oW_eq, oSs_nil, oSs_cons, oS_asg, oS_sub, oS_att, oS_par, oS_exp, oS_ife, oS_for, oS_whl, oS_ret, oS_pass, rb_ok, rt_ok, ft_nx, ft_ret, fl_nx, fl_ret, fo_nx, fo_ret, oo_some, og_some, nox_ok, tru_bl, tru_int, bA_nil, asg_v, c_eq, c_ne, c_in, c_nin, c_lt, c_le, c_gt, c_ge, c_is, c_isn, eq_ss, eq_ii, eq_bb, in_ss, ix_t, ix_r, at_0, at_1, at_2, at_3, at_4, on_get, on_sz, List.getElem?_cons_zero, List.getElem?_cons_succ, List.getElem?_nil, List.set_cons_zero, List.set_cons_succ, Option.map_some, Option.map_none, if_true, if_false, Bool.false_eq_true, decide_true, decide_false, Bool.not_true, Bool.not_false, on_on, List.length_cons, List.length_nil, on_setw, on_pushw, List.nil_append, List.cons_append, seq_new, its_new, lst_new, ix_new, len_new, iv_new, newL_one, newL_two, newL_nil, iv_t, iv_r]
theorem draw_ok {i7 : Nat} (hT : T.fns[i7]? = some ⟨2, 5, drawB⟩) (hb : IsBag G b) (hm : 0 < many) (hm2 : many < 1073741824) (wf : Wf G) : ∃ r G', xC T (d + 1) i7 [.ref b, .int many] (on G) = .ok (.int r) (on G') ∧ 0 ≤ r ∧ r < many ∧ Drawn G G' b := by
  obtain ⟨l, ns, i, c, s, k, hb⟩ := hb
  have hlt : b < G.sz := wf b _ hb.bag
  have e0 : xC T (d + 1) i7 [.ref b, .int many] (on G) = (xSs T d drawB [some (.ref b), some (.int many), none, none, none] (on G)).out := by
    rw [xC_eq hT rfl]
    rfl
  have b0 : ∀ {j : Int}, ixop (on G) (.ref b) (.int j) = L2.atI [.ref l, .int i, .int c, .int s, .int k] j := ix_lst hb.bag
  have l0 : ∀ {j : Int}, ixop (on G) (.ref l) (.int j) = L2.atI (ns.map .int) j := ix_lst hb.cells
  have ll := len_l (T := T) hb.cells
  have hget := hb.bag
  have n1 : L2.ixN 5 1 = some 1 := by decide
  have n2 : L2.ixN 5 2 = some 2 := by decide
  have n3 : L2.ixN 5 3 = some 3 := by decide
  rw [e0, drawB, xSs_cons]
  -- what the first part leaves
  have first : ∃ G1 x2, xS T d drawH [some (.ref b), some (.int many), none, none, none] (on G) = .nx [some (.ref b), some (.int many), x2, none, none] (on G1) ∧ IsBag G1 b ∧ Fr (· = b) G G1 ∧ Wf G1 ∧ G1.sz = G.sz := by
    by_cases hc : c = 0
    · by_cases hi : i < ns.length
      · have hcell : L2.atI (ns.map W.int) (i : Int) = some (.int (ns.getD i 0)) := by
          rw [at_nat, List.getElem?_map, List.getElem?_eq_getElem hi, List.getD_eq_getElem?_getD, List.getElem?_eq_getElem hi]
          rfl
        have hlt2 : ((i : Int) < ((ns.map W.int).length : Int)) = True := by
          rw [List.length_map]
          exact eq_true (by exact_mod_cast hi)
        have hb1 : Bag (G.set b (.lst [.ref l, .int ((i + 1 : Nat) : Int), .int c, .int s, .int k])) b l ns (i + 1) c s k := hb.put hb.c0 hb.s0 hb.s1
        have g1 : ∀ {j : Int}, ixop (on (G.set b (.lst [.ref l, .int ((i : Int) + 1), .int c, .int s, .int k]))) (.ref b) (.int j) = L2.atI [.ref l, .int ((i : Int) + 1), .int c, .int s, .int k] j := ix_lst (get_set_self _ _ _)
        have g2 : (G.set b (.lst [.ref l, .int ((i : Int) + 1), .int c, .int s, .int k])).get b = some (.lst [.ref l, .int ((i : Int) + 1), .int c, .int s, .int k]) := get_set_self _ _ _
        by_cases hbig : 1000000000000000000 ≤ ns.getD i 0
        · refine ⟨(G.set b (.lst [.ref l, .int ((i : Int) + 1), .int c, .int s, .int k])).set b (.lst [.ref l, .int ((i : Int) + 1), .int (ns.getD i 0), .int s, .int k]), some (.int (ns.getD i 0)), ?_, ⟨l, ns, i + 1, ns.getD i 0, s, k, hb1.put (by omega) hb.s0 hb.s1⟩, (frB _).trans (frB _), (wf.set hlt _).set hlt _, rfl⟩
          have hcT : (c = 0) = True := eq_true hc
          have hbT : (1000000000000000000 ≤ ns.getD i 0) = True := eq_true hbig
          simp (config := { decide := true }) only [drawH, b0, hcT, ll, hlt2, l0, hcell, b_add, hget, n1, b_pow18, hbT, g1, g2, n2, oE_cst, oE_var, oE_bin, oE_cmp, oE_and, oE_or, oE_not, oE_neg, oE_ife, oE_tup, oE_lst, oE_ix, oE_sl, oE_call, oE_mk, oE_met, oE_att, oE_blt, oE_lc, oEs_nil, oEs_cons, oA_nil, oA_e, oA_s, oI_e, oI_rng, oI_zip, oW_eq, oSs_nil, oSs_cons, oS_asg, oS_sub, oS_att, oS_par, oS_exp, oS_ife, oS_for, oS_whl, oS_ret, oS_pass, rb_ok, rt_ok, ft_nx, ft_ret, fl_nx, fl_ret, fo_nx, fo_ret, oo_some, og_some, nox_ok, tru_bl, tru_int, bA_nil, asg_v, c_eq, c_ne, c_in, c_nin, c_lt, c_le, c_gt, c_ge, c_is, c_isn, eq_ss, eq_ii, eq_bb, in_ss, ix_t, ix_r, at_0, at_1, at_2, at_3, at_4, on_get, on_sz, List.getElem?_cons_zero, List.getElem?_cons_succ, List.getElem?_nil, List.set_cons_zero, List.set_cons_succ, Option.map_some, Option.map_none, if_true, if_false, Bool.false_eq_true, decide_true, decide_false, Bool.not_true, Bool.not_false, on_on, List.length_cons, List.length_nil, on_setw, on_pushw, List.nil_append, List.cons_append, seq_new, its_new, lst_new, ix_new, len_new, iv_new, newL_one, newL_two, newL_nil, iv_t, iv_r]
        · obtain ⟨s', hse⟩ : ∃ s', (s * 52361 + (ns.getD i 0).fmod 2147483563 * 68111 + 47).fmod 2147483587 = s' := ⟨_, rfl⟩
          have hs' : 0 ≤ s' ∧ s' < 2147483587 := by rw [← hse]; exact fmod_in (by decide)
          refine ⟨(G.set b (.lst [.ref l, .int ((i : Int) + 1), .int c, .int s, .int k])).set b (.lst [.ref l, .int ((i : Int) + 1), .int c, .int s', .int k]), some (.int (ns.getD i 0)), ?_, ⟨l, ns, i + 1, c, s', k, hb1.put hb.c0 hs'.1 hs'.2⟩, (frB _).trans (frB _), (wf.set hlt _).set hlt _, rfl⟩
          have hcT : (c = 0) = True := eq_true hc
          have hbT : (1000000000000000000 ≤ ns.getD i 0) = False := eq_false hbig
          have m1 : ∀ {x : Int} {G : GH}, binop .mul (.int x) (.int 52361) G = some (.int (x * 52361), G) := b_mulr (by decide)
          have m2 : ∀ {x : Int} {G : GH}, binop .mul (.int x) (.int 68111) G = some (.int (x * 68111), G) := b_mulr (by decide)
          have q1 : ∀ {x : Int} {G : GH}, binop .mod (.int x) (.int 2147483563) G = some (.int (x.fmod 2147483563), G) := b_mod (by decide)
          have q2 : ∀ {x : Int} {G : GH}, binop .mod (.int x) (.int 2147483587) G = some (.int (x.fmod 2147483587), G) := b_mod (by decide)
          simp (config := { decide := true }) only [drawH, b0, hcT, ll, hlt2, l0, hcell, b_add, hget, n1, b_pow18, hbT, g1, g2, m1, int_i, q1, m2, q2, hse, n3, oE_cst, oE_var, oE_bin, oE_cmp, oE_and, oE_or, oE_not, oE_neg, oE_ife, oE_tup, oE_lst, oE_ix, oE_sl, oE_call, oE_mk, oE_met, oE_att, oE_blt, oE_lc, oEs_nil, oEs_cons, oA_nil, oA_e, oA_s, oI_e, oI_rng, oI_zip, oW_eq, oSs_nil, oSs_cons, oS_asg, oS_sub, oS_att, oS_par, oS_exp, oS_ife, oS_for, oS_whl, oS_ret, oS_pass, rb_ok, rt_ok, ft_nx, ft_ret, fl_nx, fl_ret, fo_nx, fo_ret, oo_some, og_some, nox_ok, tru_bl, tru_int, bA_nil, asg_v, c_eq, c_ne, c_in, c_nin, c_lt, c_le, c_gt, c_ge, c_is, c_isn, eq_ss, eq_ii, eq_bb, in_ss, ix_t, ix_r, at_0, at_1, at_2, at_3, at_4, on_get, on_sz, List.getElem?_cons_zero, List.getElem?_cons_succ, List.getElem?_nil, List.set_cons_zero, List.set_cons_succ, Option.map_some, Option.map_none, if_true, if_false, Bool.false_eq_true, decide_true, decide_false, Bool.not_true, Bool.not_false, on_on, List.length_cons, List.length_nil, on_setw, on_pushw, List.nil_append, List.cons_append, seq_new, its_new, lst_new, ix_new, len_new, iv_new, newL_one, newL_two, newL_nil, iv_t, iv_r]
      · have hlt2 : ((i : Int) < ((ns.map W.int).length : Int)) = False := by
          rw [List.length_map]
          exact eq_false (by intro h; exact hi (by exact_mod_cast h))
        have hcT : (c = 0) = True := eq_true hc
        refine ⟨G, none, ?_, ⟨l, ns, i, c, s, k, hb⟩, Fr.refl, wf, rfl⟩
        simp (config := { decide := true }) only [drawH, b0, hcT, ll, hlt2, oE_cst, oE_var, oE_bin, oE_cmp, oE_and, oE_or, oE_not, oE_neg, oE_ife, oE_tup, oE_lst, oE_ix, oE_sl, oE_call, oE_mk, oE_met, oE_att, oE_blt, oE_lc, oEs_nil, oEs_cons, oA_nil, oA_e, oA_s, oI_e, oI_rng, oI_zip, oW_eq, oSs_nil, oSs_cons, oS_asg, oS_sub, oS_att, oS_par, oS_exp, oS_ife, oS_for, oS_whl, oS_ret, oS_pass, rb_ok, rt_ok, ft_nx, ft_ret, fl_nx, fl_ret, fo_nx, fo_ret, oo_some, og_some, nox_ok, tru_bl, tru_int, bA_nil, asg_v, c_eq, c_ne, c_in, c_nin, c_lt, c_le, c_gt, c_ge, c_is, c_isn, eq_ss, eq_ii, eq_bb, in_ss, ix_t, ix_r, at_0, at_1, at_2, at_3, at_4, on_get, on_sz, List.getElem?_cons_zero, List.getElem?_cons_succ, List.getElem?_nil, List.set_cons_zero, List.set_cons_succ, Option.map_some, Option.map_none, if_true, if_false, Bool.false_eq_true, decide_true, decide_false, Bool.not_true, Bool.not_false, on_on, List.length_cons, List.length_nil, on_setw, on_pushw, List.nil_append, List.cons_append, seq_new, its_new, lst_new, ix_new, len_new, iv_new, newL_one, newL_two, newL_nil, iv_t, iv_r]
    · have hcT : (c = 0) = False := eq_false hc
      refine ⟨G, none, ?_, ⟨l, ns, i, c, s, k, hb⟩, Fr.refl, wf, rfl⟩
      simp (config := { decide := true }) only [drawH, b0, hcT, oE_cst, oE_var, oE_bin, oE_cmp, oE_and, oE_or, oE_not, oE_neg, oE_ife, oE_tup, oE_lst, oE_ix, oE_sl, oE_call, oE_mk, oE_met, oE_att, oE_blt, oE_lc, oEs_nil, oEs_cons, oA_nil, oA_e, oA_s, oI_e, oI_rng, oI_zip, oW_eq, oSs_nil, oSs_cons, oS_asg, oS_sub, oS_att, oS_par, oS_exp, oS_ife, oS_for, oS_whl, oS_ret, oS_pass, rb_ok, rt_ok, ft_nx, ft_ret, fl_nx, fl_ret, fo_nx, fo_ret, oo_some, og_some, nox_ok, tru_bl, tru_int, bA_nil, asg_v, c_eq, c_ne, c_in, c_nin, c_lt, c_le, c_gt, c_ge, c_is, c_isn, eq_ss, eq_ii, eq_bb, in_ss, ix_t, ix_r, at_0, at_1, at_2, at_3, at_4, on_get, on_sz, List.getElem?_cons_zero, List.getElem?_cons_succ, List.getElem?_nil, List.set_cons_zero, List.set_cons_succ, Option.map_some, Option.map_none, if_true, if_false, Bool.false_eq_true, decide_true, decide_false, Bool.not_true, Bool.not_false, on_on, List.length_cons, List.length_nil, on_setw, on_pushw, List.nil_append, List.cons_append, seq_new, its_new, lst_new, ix_new, len_new, iv_new, newL_one, newL_two, newL_nil, iv_t, iv_r]
  obtain ⟨G1, x2, e1, hb1, f1, w1, z1⟩ := first
  rw [e1]
  obtain ⟨l, ns, i, c, s, k, hb1⟩ := hb1
  obtain ⟨r, G2, e2, r0, r1, dr⟩ := draw_tail (T := T) (d := d) hb1 hm hm2 w1 x2 none none
  exact ⟨r, G2, e2, r0, r1, dr.bag, f1.trans dr.fr, dr.wf, dr.sz.trans z1⟩
/-- more than a draw: lists are new too -/
structure Made (G G' : GH) (b : Nat) : Prop where
  bag : IsBag G' b
  fr : Fr (· = b) G G'
  wf : Wf G'
theorem Drawn.made {G G' : GH} {b : Nat} (h : Drawn G G' b) : Made G G' b := ⟨h.bag, h.fr, h.wf⟩
theorem Made.trans {G G1 G2 : GH} {b : Nat} (h : Made G G1 b) (k : Made G1 G2 b) : Made G G2 b := ⟨k.bag, h.fr.trans k.fr, k.wf⟩
theorem Made.push {G G' : GH} {b : Nat} (h : Made G G' b) (o : AO) : Made G (G'.push o) b := ⟨h.bag.fr (Fr.push h.wf o), h.fr.trans (Fr.push h.wf o), h.wf.push o⟩
theorem Made.refl {G : GH} {b : Nat} (h : IsBag G b) (w : Wf G) : Made G G b := ⟨h, Fr.refl, w⟩
def anyB (i7 : Nat) : List S := [.ret (.ix (.var 1) (.call i7 [.var 0, .blt .len [.var 1]] []))]
theorem any_ok {i7 i8 : Nat} {x : W} {P : W → Prop} (hT : T.fns[i7]? = some ⟨2, 5, drawB⟩) (hA : T.fns[i8]? = some ⟨2, 2, anyB i7⟩) (hb : IsBag G b) (hl : bfop T .len [x] (on G) = some (.int many, on G)) (hm : 0 < many) (hm2 : many < 1073741824) (wf : Wf G)
    (hx : ∀ (r : Int) G', 0 ≤ r → r < many → Fr (· = b) G G' → ∃ w, ixop (on G') x (.int r) = some w ∧ P w) : ∃ w G', xC T (d + 1 + 1) i8 [.ref b, x] (on G) = .ok w (on G') ∧ P w ∧ Drawn G G' b := by
  obtain ⟨r, G', e, r0, r1, dr⟩ := draw_ok (d := d) hT hb hm hm2 wf
  obtain ⟨w, hw, hp⟩ := hx r G' r0 r1 dr.fr
  refine ⟨w, G', ?_, hp, dr⟩
  rw [xC_eq hA rfl]
  show (xSs T (d + 1) (anyB i7) [some (.ref b), some x] (on G)).out = _
  simp (config := { decide := true }) only [anyB, hl, e, hw, oE_cst, oE_var, oE_bin, oE_cmp, oE_and, oE_or, oE_not, oE_neg, oE_ife, oE_tup, oE_lst, oE_ix, oE_sl, oE_call, oE_mk, oE_met, oE_att, oE_blt, oE_lc, oEs_nil, oEs_cons, oA_nil, oA_e, oA_s, oI_e, oI_rng, oI_zip, oW_eq, oSs_nil, oSs_cons, oS_asg, oS_sub, oS_att, oS_par, oS_exp, oS_ife, oS_for, oS_whl, oS_ret, oS_pass, rb_ok, rt_ok, ft_nx, ft_ret, fl_nx, fl_ret, fo_nx, fo_ret, oo_some, og_some, nox_ok, tru_bl, tru_int, bA_nil, asg_v, c_eq, c_ne, c_in, c_nin, c_lt, c_le, c_gt, c_ge, c_is, c_isn, eq_ss, eq_ii, eq_bb, in_ss, ix_t, ix_r, at_0, at_1, at_2, at_3, at_4, on_get, on_sz, List.getElem?_cons_zero, List.getElem?_cons_succ, List.getElem?_nil, List.set_cons_zero, List.set_cons_succ, Option.map_some, Option.map_none, if_true, if_false, Bool.false_eq_true, decide_true, decide_false, Bool.not_true, Bool.not_false, on_on, List.length_cons, List.length_nil, on_setw, on_pushw, List.nil_append, List.cons_append, seq_new, its_new, lst_new, ix_new, len_new, iv_new, newL_one, newL_two, newL_nil, iv_t, iv_r]
theorem at_lt {α : Type} {xs : List α} {r : Int} (h0 : 0 ≤ r) (h1 : r < (xs.length : Int)) : ∃ w, L2.atI xs r = some w ∧ w ∈ xs := by
  obtain ⟨n, rfl⟩ := Int.eq_ofNat_of_zero_le h0
  have hn : n < xs.length := by exact_mod_cast h1
  exact ⟨xs[n], by rw [at_nat, List.getElem?_eq_getElem hn], List.getElem_mem hn⟩
/-- one of a text's signs -/
theorem any_str {i7 i8 : Nat} {z : Str} (hT : T.fns[i7]? = some ⟨2, 5, drawB⟩) (hA : T.fns[i8]? = some ⟨2, 2, anyB i7⟩) (hb : IsBag G b) (hz : 0 < z.length ∧ z.length < 10000) (wf : Wf G) :
    ∃ c G', xC T (d + 1 + 1) i8 [.ref b, .str z] (on G) = .ok (.str ⟨#[c]⟩) (on G') ∧ c ∈ z.cps.toList ∧ Drawn G G' b := by
  have ok : szOk z.length = true := decide_eq_true (Nat.le_trans (Nat.le_of_lt hz.2) (by decide))
  obtain ⟨w, G', e, ⟨c, rfl, hc⟩, dr⟩ := any_ok (d := d) (P := fun w => ∃ c, w = .str ⟨#[c]⟩ ∧ c ∈ z.cps.toList) hT hA hb (len_s ok) (by exact_mod_cast hz.1) (by have := hz.2; omega) wf fun r G' h0 h1 _ => by
    obtain ⟨c, h2, h3⟩ := at_lt (xs := z.cps.toList) h0 (by rw [Array.length_toList]; exact h1)
    refine ⟨_, ?_, c, rfl, h3⟩
    show (if szOk z.length = true then (L2.atI z.cps.toList r).map fun c => W.str ⟨#[c]⟩ else none) = _
    rw [if_pos ok, h2]
    rfl
  exact ⟨c, G', e, hc, dr⟩
/-- one of a list -/
theorem any_lst {i7 i8 n : Nat} {ws : List W} (hT : T.fns[i7]? = some ⟨2, 5, drawB⟩) (hA : T.fns[i8]? = some ⟨2, 2, anyB i7⟩) (hb : IsBag G b) (hg : G.get n = some (.lst ws)) (hn : n ≠ b) (hz : 0 < ws.length ∧ ws.length < 10000) (wf : Wf G) :
    ∃ w G', xC T (d + 1 + 1) i8 [.ref b, .ref n] (on G) = .ok w (on G') ∧ w ∈ ws ∧ Drawn G G' b :=
  any_ok (d := d) hT hA hb (len_l hg) (by exact_mod_cast hz.1) (by have := hz.2; omega) wf fun r G' h0 h1 f => by
    obtain ⟨w, h2, h3⟩ := at_lt (xs := ws) h0 h1
    exact ⟨w, (ix_lst (f.get hg hn)).trans h2, h3⟩
theorem allStr_of : ∀ {ws : List W}, (∀ u ∈ ws, ∃ z : Str, u = .str z ∧ z.length ≤ 100) → ∃ ys : List Str, allStr ws = some ys ∧ ys.length = ws.length ∧ (ys.map Str.length).sum ≤ 100 * ws.length
  | [], _ => ⟨[], rfl, rfl, Nat.le_refl _⟩
  | w :: ws, h => by
    obtain ⟨z, rfl, hz⟩ := h w List.mem_cons_self
    obtain ⟨ys, h1, h2, h3⟩ := allStr_of (ws := ws) fun u hu => h u (List.mem_cons_of_mem _ hu)
    refine ⟨z :: ys, ?_, by rw [List.length_cons, List.length_cons, h2], ?_⟩
    · show (allStr ws).map (z :: ·) = _
      rw [h1]
      rfl
    · rw [List.map_cons, List.sum_cons, List.length_cons]
      omega
theorem join_l {n : Nat} {ws : List W} {ys : List Str} {z : Str} (h : G.get n = some (.lst ws)) (h1 : allStr ws = some ys) (h2 : (ys.map Str.length).sum + ys.length * z.length ≤ 16777216) : bmop .join (.str z) [.ref n] (on G) = some (.str (Txt.join z ys), on G) := by
  show (match seqOf (on G) (.ref n) with
    | some xs => match allStr xs with
      | some ys => if decide ((ys.map Str.length).sum + ys.length * z.length ≤ 16777216) then some (W.str (Txt.join z ys), on G) else none
      | none => none
    | none => none) = _
  rw [seq_l h]
  show (match allStr ws with
      | some ys => if decide ((ys.map Str.length).sum + ys.length * z.length ≤ 16777216) then some (W.str (Txt.join z ys), on G) else none
      | none => none) = _
  rw [h1]
  show (if decide ((ys.map Str.length).sum + ys.length * z.length ≤ 16777216) = true then _ else _) = _
  rw [if_pos (decide_eq_true h2)]
/-! ### alike -/
def likeB (i : Nat) : List S := [.ife (.blt .isinst [.var 1, .tup [.e (.cst (.ty "list")), .e (.cst (.ty "tuple"))]]) [.ife (.cmp .ne (.blt .isinst [.var 0, .cst (.ty "list")]) (.blt .isinst [.var 1, .cst (.ty "list")])) [.ret (.cst (.bl false))] [], .ife (.or (.cmp .ne (.blt .isinst [.var 0, .cst (.ty "tuple")]) (.blt .isinst [.var 1, .cst (.ty "tuple")])) (.cmp .ne (.blt .len [.var 0]) (.blt .len [.var 1]))) [.ret (.cst (.bl false))] [], .ret (.blt .all [.lc [2] (.v 2) (.rng [.blt .len [.var 1]]) [] (.call i [.ix (.var 0) (.var 2), .ix (.var 1) (.var 2)] [])])] [], .ife (.or (.cmp .is (.var 1) (.cst (.non))) (.cmp .is (.var 0) (.cst (.non)))) [.ret (.and (.cmp .is (.var 1) (.cst (.non))) (.cmp .is (.var 0) (.cst (.non))))] [], .ife (.cmp .ne (.blt .isinst [.var 1, .cst (.ty "bool")]) (.blt .isinst [.var 0, .cst (.ty "bool")])) [.ret (.cst (.bl false))] [], .ife (.cmp .ne (.blt .isinst [.var 1, .cst (.ty "int")]) (.blt .isinst [.var 0, .cst (.ty "int")])) [.ret (.cst (.bl false))] [], .ret (.and (.cmp .eq (.blt .isinst [.var 0, .cst (.ty "str")]) (.blt .isinst [.var 1, .cst (.ty "str")])) (.cmp .eq (.var 0) (.var 1)))]
/-- plain values -/
inductive Da where
  | non | bl (b : Bool) | int (i : Int) | str (s : Str) | lst (ds : List Da) | tup (ds : List Da)
mutual
/-- a value stands for such -/
def IsDa (G : GH) : Da → W → Prop
  | .non, w => w = .non
  | .bl b, w => w = .bl b
  | .int i, w => w = .int i
  | .str s, w => w = .str s
  | .lst ds, w => ∃ n ws, w = .ref n ∧ G.get n = some (.lst ws) ∧ IsDas G ds ws
  | .tup ds, w => ∃ ws, w = .tup ws ∧ IsDas G ds ws
def IsDas (G : GH) : List Da → List W → Prop
  | [], ws => ws = []
  | d :: ds, ws => ∃ x xs, ws = x :: xs ∧ IsDa G d x ∧ IsDas G ds xs
end
mutual
theorem IsDa.fr {G G' : GH} (f : Ext G G') : ∀ (d : Da) {w : W}, IsDa G d w → IsDa G' d w
  | .non, _, h => h
  | .bl _, _, h => h
  | .int _, _, h => h
  | .str _, _, h => h
  | .lst ds, _, h => by
    obtain ⟨n, ws, h1, h2, h3⟩ := h
    exact ⟨n, ws, h1, f.get h2 fun z => z, IsDas.fr f ds h3⟩
  | .tup ds, _, h => by
    obtain ⟨ws, h1, h3⟩ := h
    exact ⟨ws, h1, IsDas.fr f ds h3⟩
theorem IsDas.fr {G G' : GH} (f : Ext G G') : ∀ (ds : List Da) {ws : List W}, IsDas G ds ws → IsDas G' ds ws
  | [], _, h => h
  | d :: ds, _, h => by
    obtain ⟨x, xs, h1, h2, h3⟩ := h
    exact ⟨x, xs, h1, IsDa.fr f d h2, IsDas.fr f ds h3⟩
end
end
/-! ### the same value twice is alike -/
def knd : Da → String
  | .non => "NoneType" | .bl _ => "bool" | .int _ => "int" | .str _ => "str" | .lst _ => "list" | .tup _ => "tuple"
def isB (a c : String) : Bool := decide (a = c) || (decide (a = "bool") && decide (c = "int"))
def StdI (T : Tb) : Prop := ∀ a ∈ ["NoneType", "bool", "int", "str", "tuple", "list"], ∀ c ∈ ["bool", "int", "list", "str", "tuple"], T.isi.lookup (.b a, .b c) = some (isB a c)
mutual
def dpt : Da → Nat
  | .lst ds => dpts ds + 1
  | .tup ds => dpts ds + 1
  | _ => 0
def dpts : List Da → Nat
  | [] => 0
  | d :: ds => max (dpt d) (dpts ds)
end
mutual
/-- few enough everywhere -/
def few : Da → Prop
  | .lst ds => ds.length ≤ 10000 ∧ fews ds
  | .tup ds => ds.length ≤ 10000 ∧ fews ds
  | _ => True
def fews : List Da → Prop
  | [] => True
  | d :: ds => few d ∧ fews ds
end
section
variable {T : Tb} {G : GH}
theorem knd_in (d : Da) : knd d ∈ ["NoneType", "bool", "int", "str", "tuple", "list"] := by cases d <;> simp [knd]
theorem ty_da {d : Da} {w : W} (h : IsDa G d w) : tyOf (on G) w = some (.b (knd d)) := by
  cases d with
  | non => rw [show w = .non from h]; rfl
  | bl b => rw [show w = .bl b from h]; rfl
  | int i => rw [show w = .int i from h]; rfl
  | str z => rw [show w = .str z from h]; rfl
  | tup ds =>
    obtain ⟨ws, h1, _⟩ := h
    rw [h1]
    rfl
  | lst ds =>
    obtain ⟨n, ws, h1, h2, _⟩ := h
    rw [h1]
    show (match (on G).get n with | some (.lst _) => some (Ty.b "list") | some (.ins c _) => some (.c c) | _ => none) = _
    rw [on_get, h2]
    rfl
theorem isi_da (hI : StdI T) {d : Da} {w : W} (h : IsDa G d w) {c : String} (hc : c ∈ ["bool", "int", "list", "str", "tuple"]) {k : Bool} (e : isB (knd d) c = k) : bfop T .isinst [w, .ty c] (on G) = some (.bl k, on G) := by
  show ((isinst T (on G) w (.ty c)).map fun b => (W.bl b, on G)) = _
  have : isinst T (on G) w (.ty c) = some k := by
    unfold isinst
    rw [ty_da h]
    show T.isi.lookup (.b (knd d), .b c) = some k
    rw [hI _ (knd_in d) c hc, e]
  rw [this]
  rfl
theorem isi_two (hI : StdI T) {d : Da} {w : W} (h : IsDa G d w) {k : Bool} (e : (isB (knd d) "list" || isB (knd d) "tuple") = k) : bfop T .isinst [w, .tup [.ty "list", .ty "tuple"]] (on G) = some (.bl k, on G) := by
  show ((isinst T (on G) w (.tup [.ty "list", .ty "tuple"])).map fun b => (W.bl b, on G)) = _
  have : isinst T (on G) w (.tup [.ty "list", .ty "tuple"]) = some k := by
    unfold isinst
    rw [ty_da h]
    show (if ([W.ty "list", W.ty "tuple"]).isEmpty = true then none else isiAny T (.b (knd d)) [.ty "list", .ty "tuple"]) = some k
    rw [if_neg (by decide)]
    have h1 : isiOne T (.b (knd d)) (.ty "list") = some (isB (knd d) "list") := hI _ (knd_in d) "list" (by simp)
    have h2 : isiOne T (.b (knd d)) (.ty "tuple") = some (isB (knd d) "tuple") := hI _ (knd_in d) "tuple" (by simp)
    unfold isiAny
    rw [h1]
    unfold isiAny
    rw [h2]
    rw [← e]
    cases isB (knd d) "list" <;> cases isB (knd d) "tuple" <;> rfl
  rw [this]
  rfl
theorem IsDas.len : ∀ {ds : List Da} {ws : List W}, IsDas G ds ws → ws.length = ds.length
  | [], _, h => by rw [show _ = _ from h]; rfl
  | d :: ds, _, h => by
    obtain ⟨x, xs, rfl, _, h3⟩ := h
    rw [List.length_cons, List.length_cons, h3.len]
theorem IsDas.at_ : ∀ {ds : List Da} {ws : List W} {j : Nat} {d : Da}, IsDas G ds ws → ds[j]? = some d → ∃ w, ws[j]? = some w ∧ IsDa G d w
  | d :: ds, _, 0, e, h, q => by
    obtain ⟨x, xs, rfl, h2, _⟩ := h
    simp at q
    exact ⟨x, rfl, q ▸ h2⟩
  | d :: ds, _, j + 1, e, h, q => by
    obtain ⟨x, xs, rfl, _, h3⟩ := h
    obtain ⟨w, h4, h5⟩ := h3.at_ (j := j) (by simpa using q)
    exact ⟨w, by simpa using h4, h5⟩
theorem fews_at : ∀ {ds : List Da} {j : Nat} {d : Da}, fews ds → ds[j]? = some d → few d
  | d :: ds, 0, e, h, q => by
    simp at q
    exact q ▸ h.1
  | d :: ds, j + 1, e, h, q => fews_at (j := j) h.2 (by simpa using q)
theorem dpts_at : ∀ {ds : List Da} {j : Nat} {d : Da}, ds[j]? = some d → dpt d ≤ dpts ds
  | d :: ds, 0, e, q => by
    simp at q
    rw [← q]
    show dpt d ≤ max (dpt d) (dpts ds)
    omega
  | d :: ds, j + 1, e, q => by
    have := dpts_at (ds := ds) (j := j) (by simpa using q)
    show _ ≤ max (dpt d) (dpts ds)
    omega
theorem bools_rep (n : Nat) : bools (List.replicate n (.bl true)) = some (List.replicate n true) := by
  induction n with
  | zero => rfl
  | succ n ih =>
    rw [List.replicate_succ, List.replicate_succ]
    show (bools (List.replicate n (.bl true))).map (true :: ·) = _
    rw [ih]
    rfl
theorem all_rep {n m : Nat} (h : G.get m = some (.lst (List.replicate n (.bl true)))) : bfop T .all [.ref m] (on G) = some (.bl true, on G) := by
  show (match items (on G) (.ref m) with | some xs => (bools xs).map fun (bs : List Bool) => (W.bl (bs.all id), on G) | none => none) = _
  rw [its_l h]
  show (bools (List.replicate n (.bl true))).map _ = _
  rw [bools_rep]
  show some (W.bl ((List.replicate n true).all id), on G) = _
  have : (List.replicate n true).all id = true := by simp
  rw [this]
theorem eq_same {x : Int} {G : GH} : eqW G (.int x) (.int x) = some true := by
  show some (decide (x = x)) = some true
  rw [decide_eq_true rfl]
theorem like_ok {i d : Nat} (hT : T.fns[i]? = some ⟨2, 3, likeB i⟩) (hI : StdI T) : ∀ (N : Nat) (a : Da) (w w' : W) (G : GH) (k : Nat), dpt a < N → few a → IsDa G a w → IsDa G a w' → Wf G → dpt a + 1 ≤ k → ∃ G', xC T (d + k) i [w, w'] (on G) = .ok (.bl true) (on G') ∧ Ext G G' ∧ Wf G' := by
  intro N
  induction N with
  | zero => intro a w w' G k h; omega
  | succ N ih =>
    intro a w w' G k hN hf h1 h2 wf hk
    obtain ⟨k, rfl⟩ : ∃ j, k = j + 1 := ⟨k - 1, by omega⟩
    have e0 : xC T (d + (k + 1)) i [w, w'] (on G) = (xSs T (d + k) (likeB i) [some w, some w', none] (on G)).out := by
      rw [← Nat.add_assoc, xC_eq hT rfl]
      rfl
    rw [e0]
    -- a list or a tuple
    have seq : ∀ (ds : List Da), ds.length ≤ 10000 → fews ds → dpts ds < N → dpts ds + 1 ≤ k → ∀ (ws ws' : List W), IsDas G ds ws → IsDas G ds ws' →
        (∀ G1, Ext G G1 → ∀ j, ixop (on G1) w (.int (j : Nat)) = ws[j]? ∧ ixop (on G1) w' (.int (j : Nat)) = ws'[j]?) →
        (∃ acc G2, xL T (d + k) (.one (.sq (rngW 0 ds.length))) 0 (.v 2) [] (.call i [.ix (.var 0) (.var 2), .ix (.var 1) (.var 2)] []) [some w, some w', none] [2] [] (on G) = .ok acc (on G2) ∧ (acc = List.replicate ds.length (.bl true) ∧ Ext G G2 ∧ Wf G2)) := by
      intro ds hl hfs hdN hdk ws ws' q1 q2 hix
      obtain ⟨acc, G2, e, hh, _⟩ := xL_seq (T := T) (d := d + k) (iv := .one (.sq (rngW 0 ds.length))) (tg := .v 2) (e := .call i [.ix (.var 0) (.var 2), .ix (.var 1) (.var 2)] []) (σ := [some w, some w', none]) (vs := [2]) (rngW 0 ds.length)
        (fun j acc G1 => acc = List.replicate j (.bl true) ∧ Ext G G1 ∧ Wf G1) (by rw [rngW_len]; exact hl) (fun j acc G1 _ => sq_at) (fun j x G1 acc hj _ hI1 => by
          obtain ⟨ha, hx, hw⟩ := hI1
          rw [rngW_get] at hj
          split at hj
          · rename_i hlt
            cases hj
            have hd : ds[j]? = some ds[j] := List.getElem?_eq_getElem hlt
            obtain ⟨u, hu, du⟩ := q1.at_ hd
            obtain ⟨u', hu', du'⟩ := q2.at_ hd
            have := dpts_at hd
            obtain ⟨G2, e2, x2, w2⟩ := ih ds[j] u u' G1 k (by omega) (fews_at hfs hd) (IsDa.fr hx _ du) (IsDa.fr hx _ du') hw (by omega)
            obtain ⟨i1, i2⟩ := hix G1 hx j
            rw [hu] at i1
            rw [hu'] at i2
            have z : (0 : Int) + (j : Nat) = (j : Nat) := by omega
            refine ⟨[some w, some w', some (.int ((0 : Int) + (j : Nat)))], .bl true, G2, rfl, ?_, ?_, hx.trans x2, w2⟩
            · rw [z]
              simp (config := { decide := true }) only [i1, i2, e2, oE_cst, oE_var, oE_bin, oE_cmp, oE_and, oE_or, oE_not, oE_neg, oE_ife, oE_tup, oE_lst, oE_ix, oE_sl, oE_call, oE_mk, oE_met, oE_att, oE_blt, oE_lc, oEs_nil, oEs_cons, oA_nil, oA_e, oA_s, oI_e, oI_rng, oI_zip, oW_eq, oSs_nil, oSs_cons, oS_asg, oS_sub, oS_att, oS_par, oS_exp, oS_ife, oS_for, oS_whl, oS_ret, oS_pass, rb_ok, rt_ok, ft_nx, ft_ret, fl_nx, fl_ret, fo_nx, fo_ret, oo_some, og_some, nox_ok, tru_bl, tru_int, bA_nil, asg_v, c_eq, c_ne, c_in, c_nin, c_lt, c_le, c_gt, c_ge, c_is, c_isn, eq_ss, eq_ii, eq_bb, in_ss, ix_t, ix_r, at_0, at_1, at_2, at_3, at_4, on_get, on_sz, List.getElem?_cons_zero, List.getElem?_cons_succ, List.getElem?_nil, List.set_cons_zero, List.set_cons_succ, Option.map_some, Option.map_none, if_true, if_false, Bool.false_eq_true, decide_true, decide_false, Bool.not_true, Bool.not_false, on_on, List.length_cons, List.length_nil, on_setw, on_pushw, List.nil_append, List.cons_append, seq_new, its_new, lst_new, ix_new, len_new, iv_new, newL_one, newL_two, newL_nil, iv_t, iv_r]
            · rw [ha, List.replicate_succ']
          · cases hj) ds.length 0 [] G (by rw [rngW_len]; omega) rfl ⟨rfl, Fr.refl, wf⟩
      rw [rngW_len] at hh
      exact ⟨acc, G2, e, hh⟩
    have sc : ∀ {x y : Bool}, (some (decide (x = y))).map (fun z : Bool => !z) = some (!decide (x = y)) := rfl
    cases a with
    | non =>
      cases show w = .non from h1
      cases show w' = .non from h2
      have t2 : bfop T .isinst [.non, .tup [.ty "list", .ty "tuple"]] (on G) = some (.bl false, on G) := isi_two hI h2 (by simp [isB, knd])
      exact ⟨G, by simp (config := { decide := true }) only [likeB, t2, isNon, oE_cst, oE_var, oE_bin, oE_cmp, oE_and, oE_or, oE_not, oE_neg, oE_ife, oE_tup, oE_lst, oE_ix, oE_sl, oE_call, oE_mk, oE_met, oE_att, oE_blt, oE_lc, oEs_nil, oEs_cons, oA_nil, oA_e, oA_s, oI_e, oI_rng, oI_zip, oW_eq, oSs_nil, oSs_cons, oS_asg, oS_sub, oS_att, oS_par, oS_exp, oS_ife, oS_for, oS_whl, oS_ret, oS_pass, rb_ok, rt_ok, ft_nx, ft_ret, fl_nx, fl_ret, fo_nx, fo_ret, oo_some, og_some, nox_ok, tru_bl, tru_int, bA_nil, asg_v, c_eq, c_ne, c_in, c_nin, c_lt, c_le, c_gt, c_ge, c_is, c_isn, eq_ss, eq_ii, eq_bb, in_ss, ix_t, ix_r, at_0, at_1, at_2, at_3, at_4, on_get, on_sz, List.getElem?_cons_zero, List.getElem?_cons_succ, List.getElem?_nil, List.set_cons_zero, List.set_cons_succ, Option.map_some, Option.map_none, if_true, if_false, Bool.false_eq_true, decide_true, decide_false, Bool.not_true, Bool.not_false, on_on, List.length_cons, List.length_nil, on_setw, on_pushw, List.nil_append, List.cons_append, seq_new, its_new, lst_new, ix_new, len_new, iv_new, newL_one, newL_two, newL_nil, iv_t, iv_r], Fr.refl, wf⟩
    | bl z =>
      cases show w = .bl z from h1
      cases show w' = .bl z from h2
      have t2 : bfop T .isinst [.bl z, .tup [.ty "list", .ty "tuple"]] (on G) = some (.bl false, on G) := isi_two hI h2 (by simp [isB, knd])
      have t3 : bfop T .isinst [.bl z, .ty "bool"] (on G) = some (.bl true, on G) := isi_da hI h2 (by simp) (by simp [isB, knd])
      have t4 : bfop T .isinst [.bl z, .ty "int"] (on G) = some (.bl true, on G) := isi_da hI h2 (by simp) (by simp [isB, knd])
      have t5 : bfop T .isinst [.bl z, .ty "str"] (on G) = some (.bl false, on G) := isi_da hI h2 (by simp) (by simp [isB, knd])
      exact ⟨G, by simp (config := { decide := true }) only [likeB, t2, t3, t4, t5, isNon, oE_cst, oE_var, oE_bin, oE_cmp, oE_and, oE_or, oE_not, oE_neg, oE_ife, oE_tup, oE_lst, oE_ix, oE_sl, oE_call, oE_mk, oE_met, oE_att, oE_blt, oE_lc, oEs_nil, oEs_cons, oA_nil, oA_e, oA_s, oI_e, oI_rng, oI_zip, oW_eq, oSs_nil, oSs_cons, oS_asg, oS_sub, oS_att, oS_par, oS_exp, oS_ife, oS_for, oS_whl, oS_ret, oS_pass, rb_ok, rt_ok, ft_nx, ft_ret, fl_nx, fl_ret, fo_nx, fo_ret, oo_some, og_some, nox_ok, tru_bl, tru_int, bA_nil, asg_v, c_eq, c_ne, c_in, c_nin, c_lt, c_le, c_gt, c_ge, c_is, c_isn, eq_ss, eq_ii, eq_bb, in_ss, ix_t, ix_r, at_0, at_1, at_2, at_3, at_4, on_get, on_sz, List.getElem?_cons_zero, List.getElem?_cons_succ, List.getElem?_nil, List.set_cons_zero, List.set_cons_succ, Option.map_some, Option.map_none, if_true, if_false, Bool.false_eq_true, decide_true, decide_false, Bool.not_true, Bool.not_false, on_on, List.length_cons, List.length_nil, on_setw, on_pushw, List.nil_append, List.cons_append, seq_new, its_new, lst_new, ix_new, len_new, iv_new, newL_one, newL_two, newL_nil, iv_t, iv_r], Fr.refl, wf⟩
    | int z =>
      cases show w = .int z from h1
      cases show w' = .int z from h2
      have t2 : bfop T .isinst [.int z, .tup [.ty "list", .ty "tuple"]] (on G) = some (.bl false, on G) := isi_two hI h2 (by simp [isB, knd])
      have t3 : bfop T .isinst [.int z, .ty "bool"] (on G) = some (.bl false, on G) := isi_da hI h2 (by simp) (by simp [isB, knd])
      have t4 : bfop T .isinst [.int z, .ty "int"] (on G) = some (.bl true, on G) := isi_da hI h2 (by simp) (by simp [isB, knd])
      have t5 : bfop T .isinst [.int z, .ty "str"] (on G) = some (.bl false, on G) := isi_da hI h2 (by simp) (by simp [isB, knd])
      exact ⟨G, by simp (config := { decide := true }) only [likeB, t2, t3, t4, t5, isNon, oE_cst, oE_var, oE_bin, oE_cmp, oE_and, oE_or, oE_not, oE_neg, oE_ife, oE_tup, oE_lst, oE_ix, oE_sl, oE_call, oE_mk, oE_met, oE_att, oE_blt, oE_lc, oEs_nil, oEs_cons, oA_nil, oA_e, oA_s, oI_e, oI_rng, oI_zip, oW_eq, oSs_nil, oSs_cons, oS_asg, oS_sub, oS_att, oS_par, oS_exp, oS_ife, oS_for, oS_whl, oS_ret, oS_pass, rb_ok, rt_ok, ft_nx, ft_ret, fl_nx, fl_ret, fo_nx, fo_ret, oo_some, og_some, nox_ok, tru_bl, tru_int, bA_nil, asg_v, c_eq, c_ne, c_in, c_nin, c_lt, c_le, c_gt, c_ge, c_is, c_isn, eq_ss, eq_ii, eq_bb, in_ss, ix_t, ix_r, at_0, at_1, at_2, at_3, at_4, on_get, on_sz, List.getElem?_cons_zero, List.getElem?_cons_succ, List.getElem?_nil, List.set_cons_zero, List.set_cons_succ, Option.map_some, Option.map_none, if_true, if_false, Bool.false_eq_true, decide_true, decide_false, Bool.not_true, Bool.not_false, on_on, List.length_cons, List.length_nil, on_setw, on_pushw, List.nil_append, List.cons_append, seq_new, its_new, lst_new, ix_new, len_new, iv_new, newL_one, newL_two, newL_nil, iv_t, iv_r], Fr.refl, wf⟩
    | str z =>
      cases show w = .str z from h1
      cases show w' = .str z from h2
      have t2 : bfop T .isinst [.str z, .tup [.ty "list", .ty "tuple"]] (on G) = some (.bl false, on G) := isi_two hI h2 (by simp [isB, knd])
      have t3 : bfop T .isinst [.str z, .ty "bool"] (on G) = some (.bl false, on G) := isi_da hI h2 (by simp) (by simp [isB, knd])
      have t4 : bfop T .isinst [.str z, .ty "int"] (on G) = some (.bl false, on G) := isi_da hI h2 (by simp) (by simp [isB, knd])
      have t5 : bfop T .isinst [.str z, .ty "str"] (on G) = some (.bl true, on G) := isi_da hI h2 (by simp) (by simp [isB, knd])
      exact ⟨G, by simp (config := { decide := true }) only [likeB, t2, t3, t4, t5, isNon, oE_cst, oE_var, oE_bin, oE_cmp, oE_and, oE_or, oE_not, oE_neg, oE_ife, oE_tup, oE_lst, oE_ix, oE_sl, oE_call, oE_mk, oE_met, oE_att, oE_blt, oE_lc, oEs_nil, oEs_cons, oA_nil, oA_e, oA_s, oI_e, oI_rng, oI_zip, oW_eq, oSs_nil, oSs_cons, oS_asg, oS_sub, oS_att, oS_par, oS_exp, oS_ife, oS_for, oS_whl, oS_ret, oS_pass, rb_ok, rt_ok, ft_nx, ft_ret, fl_nx, fl_ret, fo_nx, fo_ret, oo_some, og_some, nox_ok, tru_bl, tru_int, bA_nil, asg_v, c_eq, c_ne, c_in, c_nin, c_lt, c_le, c_gt, c_ge, c_is, c_isn, eq_ss, eq_ii, eq_bb, in_ss, ix_t, ix_r, at_0, at_1, at_2, at_3, at_4, on_get, on_sz, List.getElem?_cons_zero, List.getElem?_cons_succ, List.getElem?_nil, List.set_cons_zero, List.set_cons_succ, Option.map_some, Option.map_none, if_true, if_false, Bool.false_eq_true, decide_true, decide_false, Bool.not_true, Bool.not_false, on_on, List.length_cons, List.length_nil, on_setw, on_pushw, List.nil_append, List.cons_append, seq_new, its_new, lst_new, ix_new, len_new, iv_new, newL_one, newL_two, newL_nil, iv_t, iv_r], Fr.refl, wf⟩
    | lst ds =>
      have t2 : bfop T .isinst [w', .tup [.ty "list", .ty "tuple"]] (on G) = some (.bl true, on G) := isi_two hI h2 (by simp [isB, knd])
      have t3 : bfop T .isinst [w', .ty "list"] (on G) = some (.bl true, on G) := isi_da hI h2 (by simp) (by simp [isB, knd])
      have t4 : bfop T .isinst [w, .ty "list"] (on G) = some (.bl true, on G) := isi_da hI h1 (by simp) (by simp [isB, knd])
      have t5 : bfop T .isinst [w', .ty "tuple"] (on G) = some (.bl false, on G) := isi_da hI h2 (by simp) (by simp [isB, knd])
      have t6 : bfop T .isinst [w, .ty "tuple"] (on G) = some (.bl false, on G) := isi_da hI h1 (by simp) (by simp [isB, knd])
      obtain ⟨n1, ws, rfl, g1, q1⟩ := h1
      obtain ⟨n2, ws', rfl, g2, q2⟩ := h2
      have hl1 := len_l (T := T) g1
      have hl2 := len_l (T := T) g2
      rw [q1.len] at hl1
      rw [q2.len] at hl2
      obtain ⟨acc, G2, e, ha, x2, w2⟩ := seq ds hf.1 hf.2 (by unfold dpt at hN; omega) (by unfold dpt at hk; omega) ws ws' q1 q2 fun G1 x1 j => ⟨(ix_lst (x1.get g1 fun z => z)).trans at_nat, (ix_lst (x1.get g2 fun z => z)).trans at_nat⟩
      have hr := rng_1 (n := ds.length) (by have := hf.1; omega)
      have hnl : newL (on G2) acc = some (.ref G2.sz, G2.push (.lst acc)) := newL_on (by rw [ha, List.length_replicate]; exact Nat.le_trans hf.1 (by decide))
      have hall : bfop T .all [.ref G2.sz] (on (G2.push (.lst acc))) = some (.bl true, on (G2.push (.lst acc))) := all_rep (n := ds.length) (by rw [get_push_self, ha])
      refine ⟨G2.push (.lst acc), ?_, x2.trans (Fr.push w2 _), w2.push _⟩
      have hsame : eqW (on G) (.int (ds.length : Nat)) (.int (ds.length : Nat)) = some true := eq_same
      simp (config := { decide := true }) only [likeB, t2, t3, t4, t5, t6, hl1, hl2, hsame, hr, wipeW, e, hnl, hall, oE_cst, oE_var, oE_bin, oE_cmp, oE_and, oE_or, oE_not, oE_neg, oE_ife, oE_tup, oE_lst, oE_ix, oE_sl, oE_call, oE_mk, oE_met, oE_att, oE_blt, oE_lc, oEs_nil, oEs_cons, oA_nil, oA_e, oA_s, oI_e, oI_rng, oI_zip, oW_eq, oSs_nil, oSs_cons, oS_asg, oS_sub, oS_att, oS_par, oS_exp, oS_ife, oS_for, oS_whl, oS_ret, oS_pass, rb_ok, rt_ok, ft_nx, ft_ret, fl_nx, fl_ret, fo_nx, fo_ret, oo_some, og_some, nox_ok, tru_bl, tru_int, bA_nil, asg_v, c_eq, c_ne, c_in, c_nin, c_lt, c_le, c_gt, c_ge, c_is, c_isn, eq_ss, eq_bb, in_ss, ix_t, ix_r, at_0, at_1, at_2, at_3, at_4, on_get, on_sz, List.getElem?_cons_zero, List.getElem?_cons_succ, List.getElem?_nil, List.set_cons_zero, List.set_cons_succ, Option.map_some, Option.map_none, if_true, if_false, Bool.false_eq_true, decide_true, decide_false, Bool.not_true, Bool.not_false, on_on, List.length_cons, List.length_nil, on_setw, on_pushw, List.nil_append, List.cons_append, seq_new, its_new, lst_new, ix_new, len_new, iv_new, newL_one, newL_two, newL_nil, iv_t, iv_r]
    | tup ds =>
      have t2 : bfop T .isinst [w', .tup [.ty "list", .ty "tuple"]] (on G) = some (.bl true, on G) := isi_two hI h2 (by simp [isB, knd])
      have t3 : bfop T .isinst [w', .ty "list"] (on G) = some (.bl false, on G) := isi_da hI h2 (by simp) (by simp [isB, knd])
      have t4 : bfop T .isinst [w, .ty "list"] (on G) = some (.bl false, on G) := isi_da hI h1 (by simp) (by simp [isB, knd])
      have t5 : bfop T .isinst [w', .ty "tuple"] (on G) = some (.bl true, on G) := isi_da hI h2 (by simp) (by simp [isB, knd])
      have t6 : bfop T .isinst [w, .ty "tuple"] (on G) = some (.bl true, on G) := isi_da hI h1 (by simp) (by simp [isB, knd])
      obtain ⟨ws, rfl, q1⟩ := h1
      obtain ⟨ws', rfl, q2⟩ := h2
      have hl1 := len_t (T := T) (G := on G) (ws := ws)
      have hl2 := len_t (T := T) (G := on G) (ws := ws')
      rw [q1.len] at hl1
      rw [q2.len] at hl2
      obtain ⟨acc, G2, e, ha, x2, w2⟩ := seq ds hf.1 hf.2 (by unfold dpt at hN; omega) (by unfold dpt at hk; omega) ws ws' q1 q2 fun G1 x1 j => ⟨ix_t.trans at_nat, ix_t.trans at_nat⟩
      have hr := rng_1 (n := ds.length) (by have := hf.1; omega)
      have hnl : newL (on G2) acc = some (.ref G2.sz, G2.push (.lst acc)) := newL_on (by rw [ha, List.length_replicate]; exact Nat.le_trans hf.1 (by decide))
      have hall : bfop T .all [.ref G2.sz] (on (G2.push (.lst acc))) = some (.bl true, on (G2.push (.lst acc))) := all_rep (n := ds.length) (by rw [get_push_self, ha])
      refine ⟨G2.push (.lst acc), ?_, x2.trans (Fr.push w2 _), w2.push _⟩
      have hsame : eqW (on G) (.int (ds.length : Nat)) (.int (ds.length : Nat)) = some true := eq_same
      simp (config := { decide := true }) only [likeB, t2, t3, t4, t5, t6, hl1, hl2, hsame, hr, wipeW, e, hnl, hall, oE_cst, oE_var, oE_bin, oE_cmp, oE_and, oE_or, oE_not, oE_neg, oE_ife, oE_tup, oE_lst, oE_ix, oE_sl, oE_call, oE_mk, oE_met, oE_att, oE_blt, oE_lc, oEs_nil, oEs_cons, oA_nil, oA_e, oA_s, oI_e, oI_rng, oI_zip, oW_eq, oSs_nil, oSs_cons, oS_asg, oS_sub, oS_att, oS_par, oS_exp, oS_ife, oS_for, oS_whl, oS_ret, oS_pass, rb_ok, rt_ok, ft_nx, ft_ret, fl_nx, fl_ret, fo_nx, fo_ret, oo_some, og_some, nox_ok, tru_bl, tru_int, bA_nil, asg_v, c_eq, c_ne, c_in, c_nin, c_lt, c_le, c_gt, c_ge, c_is, c_isn, eq_ss, eq_bb, in_ss, ix_t, ix_r, at_0, at_1, at_2, at_3, at_4, on_get, on_sz, List.getElem?_cons_zero, List.getElem?_cons_succ, List.getElem?_nil, List.set_cons_zero, List.set_cons_succ, Option.map_some, Option.map_none, if_true, if_false, Bool.false_eq_true, decide_true, decide_false, Bool.not_true, Bool.not_false, on_on, List.length_cons, List.length_nil, on_setw, on_pushw, List.nil_append, List.cons_append, seq_new, its_new, lst_new, ix_new, len_new, iv_new, newL_one, newL_two, newL_nil, iv_t, iv_r]
end
end PM

set_option maxHeartbeats 4000000
/-! K19_T: the text as small Python. -/
namespace K19
open PySem PM
/-- numbered(formula, bodies); 0:formula 1:bodies 2:at 3:part -/
def b0 : List S := [.ife (.cmp .eq (.ix (.var 0) (.cst (.int 0))) (.cst (.str "shown"))) [.asg (.v 2) (.blt .len [.var 1]), .exp (.met (.var 1) 0 [.tup [.e (.cst (.str "true"))]]), .sub (.var 1) (.var 2) (.call 0 [.ix (.var 0) (.cst (.int 1)), .var 1] []), .ret (.tup [.e (.cst (.str "flag")), .e (.var 2)])] [], .ife (.cmp .isin (.ix (.var 0) (.cst (.int 0))) (.tup [.e (.cst (.str "not")), .e (.cst (.str "and")), .e (.cst (.str "or"))])) [.ret (.tup [.e (.ix (.var 0) (.cst (.int 0))), .s (.lc [3] (.v 3) (.e (.sl (.var 0) (.cst (.int 1)) (.cst .non))) [] (.call 0 [.var 3, .var 1] []))])] [], .ret (.var 0)]
/-- is_true(formula, flags, view); 0:formula 1:flags 2:view 3:word -/
def b1 : List S := [.asg (.v 3) (.ix (.var 0) (.cst (.int 0))), .ife (.cmp .eq (.var 3) (.cst (.str "flag"))) [.ret (.cmp .eq (.ix (.var 1) (.ix (.var 0) (.cst (.int 1)))) (.cst (.int 1)))] [], .ife (.cmp .eq (.var 3) (.cst (.str "not"))) [.ret (.not (.call 1 [.ix (.var 0) (.cst (.int 1)), .var 1, .var 2] []))] [], .ife (.cmp .eq (.var 3) (.cst (.str "and"))) [.ret (.and (.call 1 [.ix (.var 0) (.cst (.int 1)), .var 1, .var 2] []) (.call 1 [.ix (.var 0) (.cst (.int 2)), .var 1, .var 2] []))] [], .ife (.cmp .eq (.var 3) (.cst (.str "or"))) [.ret (.or (.call 1 [.ix (.var 0) (.cst (.int 1)), .var 1, .var 2] []) (.call 1 [.ix (.var 0) (.cst (.int 2)), .var 1, .var 2] []))] [], .ret (.or (.cmp .eq (.var 3) (.cst (.str "true"))) (.and (.cmp .ne (.var 3) (.cst (.str "false"))) (.met (.var 2) 1 [.var 0])))]
/-- fallen(bodies, flags, view); 0:bodies 1:flags 2:view 3:flag 4:body -/
def b2 : List S := [.ret (.blt .tuple [.lc [3, 4] (.t [.v 3, .v 4]) (.zip (.var 1) (.var 0)) [] (.blt .int [.and (.cmp .eq (.var 3) (.cst (.int 1))) (.call 1 [.var 4, .var 1, .var 2] [])])])]
/-- Letters.__init__(self, row); 0:self 1:row -/
def b3 : List S := [.att (.var 0) 2 (.var 1)]
/-- Letters.atom(self, atom); 0:self 1:atom -/
def b4 : List S := [.ret (.cmp .isin (.ix (.var 1) (.cst (.int 1))) (.att (.var 0) 2))]
/-- truths(formula, rows); 0:formula 1:rows 2:bodies 3:found 4:test 5:flags 6:row 7:body -/
def b5 : List S := [.par [2, 3] [.lst [], .lst []], .asg (.v 4) (.call 0 [.var 0, .var 2] []), .asg (.v 5) (.blt .tuple [.lc [7] (.v 7) (.e (.var 2)) [] (.cst (.int 1))]), .for (.v 6) (.e (.var 1)) [.exp (.met (.var 3) 0 [.call 1 [.var 4, .var 5, .mk 0 [.var 6] []] []]), .asg (.v 5) (.call 2 [.var 2, .var 5, .mk 0 [.var 6] []] [])], .ret (.var 3)]
/-- _law_bag(_law_script); 0:_law_script -/
def b6 : List S := [.ret (.lst [.e (.blt .list [.sl (.var 0) (.cst .non) (.cst (.int 63))]), .e (.cst (.int 0)), .e (.cst (.int 0)), .e (.cst (.int 5600)), .e (.cst (.int 0))])]
/-- _law_draw(_law_bag_here, _law_many); 0:_law_bag_here 1:_law_many 2:_law_cell 3:_law_found 4:_law_seed -/
def b7 : List S := [.ife (.and (.cmp .eq (.ix (.var 0) (.cst (.int 2))) (.cst (.int 0))) (.cmp .lt (.ix (.var 0) (.cst (.int 1))) (.blt .len [.ix (.var 0) (.cst (.int 0))]))) [.asg (.v 2) (.ix (.ix (.var 0) (.cst (.int 0))) (.ix (.var 0) (.cst (.int 1)))), .sub (.var 0) (.cst (.int 1)) (.bin .add (.ix (.var 0) (.cst (.int 1))) (.cst (.int 1))), .ife (.cmp .ge (.var 2) (.bin .pow (.cst (.int 10)) (.cst (.int 18)))) [.sub (.var 0) (.cst (.int 2)) (.var 2)] [.sub (.var 0) (.cst (.int 3)) (.bin .mod (.blt .int [.bin .add (.bin .add (.bin .mul (.ix (.var 0) (.cst (.int 3))) (.cst (.int 52361))) (.bin .mul (.bin .mod (.blt .int [.var 2]) (.cst (.int 2147483563))) (.cst (.int 68111)))) (.cst (.int 47))]) (.cst (.int 2147483587)))]] [], .ife (.cmp .gt (.ix (.var 0) (.cst (.int 2))) (.cst (.int 0))) [.asg (.v 3) (.bin .mod (.blt .int [.ix (.var 0) (.cst (.int 2))]) (.var 1)), .sub (.var 0) (.cst (.int 2)) (.bin .div (.ix (.var 0) (.cst (.int 2))) (.var 1)), .ret (.var 3)] [], .sub (.var 0) (.cst (.int 4)) (.bin .add (.ix (.var 0) (.cst (.int 4))) (.cst (.int 1))), .asg (.v 4) (.ix (.var 0) (.cst (.int 3))), .sub (.var 0) (.cst (.int 3)) (.bin .mod (.blt .int [.bin .add (.bin .add (.bin .add (.bin .mul (.var 4) (.var 4)) (.bin .mul (.var 4) (.cst (.int 20011)))) (.bin .mul (.ix (.var 0) (.cst (.int 4))) (.cst (.int 1500007)))) (.cst (.int 54321))]) (.cst (.int 2147483587))), .ret (.bin .mod (.blt .int [.bin .add (.bin .div (.ix (.var 0) (.cst (.int 3))) (.cst (.int 83))) (.bin .mul (.bin .mod (.blt .int [.ix (.var 0) (.cst (.int 3))]) (.cst (.int 8053))) (.cst (.int 59)))]) (.var 1))]
/-- _law_any(_law_bag_here, _law_things); 0:_law_bag_here 1:_law_things -/
def b8 : List S := [.ret (.ix (.var 1) (.call 7 [.var 0, .blt .len [.var 1]] []))]
/-- _law_atom(_law_bag_here, _law_moves, _law_names); 0:_law_bag_here 1:_law_moves 2:_law_names 3:_law_way 4:_law_move -/
def b9 : List S := [.ife (.cmp .eq (.var 1) (.cst (.str ""))) [.ret (.tup [.e (.cst (.str "letter")), .e (.call 8 [.var 0, .cst (.str "PQR")] [])])] [], .par [3, 4] [.call 7 [.var 0, .cst (.int 4)] [], .call 8 [.var 0, .var 1] []], .ife (.cmp .eq (.var 3) (.cst (.int 0))) [.ret (.tup [.e (.cst (.str "mine")), .e (.var 4)])] [], .ret (.ife (.or (.cmp .lt (.var 3) (.cst (.int 3))) (.cmp .eq (.var 2) (.lst []))) (.tup [.e (.cst (.str "yours")), .e (.var 4)]) (.tup [.e (.cst (.str "yours")), .e (.var 4), .e (.call 8 [.var 0, .var 2] [])]))]
/-- _law_formula(_law_bag_here, _law_moves, _law_names, _law_deep, _law_shown); 0:_law_bag_here 1:_law_moves 2:_law_names 3:_law_deep 4:_law_shown 5:_law_way 6:_law_parts 7:_law_k -/
def b10 : List S := [.asg (.v 5) (.call 7 [.var 0, .cst (.int 9)] []), .ife (.or (.cmp .eq (.var 3) (.cst (.int 0))) (.cmp .lt (.var 5) (.cst (.int 2)))) [.ret (.ife (.cmp .lt (.var 5) (.cst (.int 8))) (.call 9 [.var 0, .var 1, .var 2] []) (.tup [.e (.call 8 [.var 0, .lst [.e (.cst (.str "true")), .e (.cst (.str "false"))]] [])]))] [], .ife (.and (.cmp .lt (.var 5) (.cst (.int 5))) (.cmp .gt (.var 4) (.cst (.int 0)))) [.ret (.tup [.e (.cst (.str "shown")), .e (.call 10 [.var 0, .var 1, .var 2, .bin .sub (.var 3) (.cst (.int 1)), .bin .sub (.var 4) (.cst (.int 1))] [])])] [], .ife (.cmp .eq (.var 5) (.cst (.int 5))) [.ret (.tup [.e (.cst (.str "not")), .e (.call 10 [.var 0, .var 1, .var 2, .bin .sub (.var 3) (.cst (.int 1)), .var 4] [])])] [], .asg (.v 6) (.lc [7] (.v 7) (.rng [.cst (.int 2)]) [] (.call 10 [.var 0, .var 1, .var 2, .bin .sub (.var 3) (.cst (.int 1)), .var 4] [])), .ret (.tup [.e (.call 8 [.var 0, .lst [.e (.cst (.str "and")), .e (.cst (.str "or"))]] []), .e (.ix (.var 6) (.cst (.int 0))), .e (.ix (.var 6) (.cst (.int 1)))])]
/-- _law_row(_law_bag_here); 0:_law_bag_here 1:_law_letter -/
def b11 : List S := [.ret (.met (.cst (.str "")) 3 [.lc [1] (.v 1) (.e (.cst (.str "PQR"))) [.cmp .eq (.call 7 [.var 0, .cst (.int 2)] []) (.cst (.int 0))] (.var 1)])]
/-- _law_at(_law_formula_z, _law_rows_z); 0:_law_formula_z 1:_law_rows_z 2:_law_word 3:_law_first 4:_law_at_here -/
def b12 : List S := [.asg (.v 2) (.ix (.var 0) (.cst (.int 0))), .ife (.cmp .isin (.var 2) (.tup [.e (.cst (.str "true")), .e (.cst (.str "false"))])) [.ret (.cmp .eq (.var 2) (.cst (.str "true")))] [], .ife (.cmp .eq (.var 2) (.cst (.str "letter"))) [.ret (.cmp .isin (.ix (.var 0) (.cst (.int 1))) (.ix (.var 1) (.neg (.cst (.int 1)))))] [], .ife (.cmp .eq (.var 2) (.cst (.str "shown"))) [.ret (.blt .all [.lc [4] (.v 4) (.rng [.cst (.int 1), .blt .len [.var 1]]) [] (.call 12 [.ix (.var 0) (.cst (.int 1)), .sl (.var 1) (.cst .non) (.var 4)] [])])] [], .ife (.cmp .eq (.var 2) (.cst (.str "not"))) [.ret (.not (.call 12 [.ix (.var 0) (.cst (.int 1)), .var 1] []))] [], .asg (.v 3) (.call 12 [.ix (.var 0) (.cst (.int 1)), .var 1] []), .ret (.ife (.cmp .eq (.var 3) (.cmp .eq (.var 2) (.cst (.str "or")))) (.var 3) (.call 12 [.ix (.var 0) (.cst (.int 2)), .var 1] []))]
/-- _law_like(_law_found, _law_due); 0:_law_found 1:_law_due 2:_law_at_here -/
def b13 : List S := [.ife (.blt .isinst [.var 1, .tup [.e (.cst (.ty "list")), .e (.cst (.ty "tuple"))]]) [.ife (.cmp .ne (.blt .isinst [.var 0, .cst (.ty "list")]) (.blt .isinst [.var 1, .cst (.ty "list")])) [.ret (.cst (.bl false))] [], .ife (.or (.cmp .ne (.blt .isinst [.var 0, .cst (.ty "tuple")]) (.blt .isinst [.var 1, .cst (.ty "tuple")])) (.cmp .ne (.blt .len [.var 0]) (.blt .len [.var 1]))) [.ret (.cst (.bl false))] [], .ret (.blt .all [.lc [2] (.v 2) (.rng [.blt .len [.var 1]]) [] (.call 13 [.ix (.var 0) (.var 2), .ix (.var 1) (.var 2)] [])])] [], .ife (.or (.cmp .is (.var 1) (.cst (.non))) (.cmp .is (.var 0) (.cst (.non)))) [.ret (.and (.cmp .is (.var 1) (.cst (.non))) (.cmp .is (.var 0) (.cst (.non))))] [], .ife (.cmp .ne (.blt .isinst [.var 1, .cst (.ty "bool")]) (.blt .isinst [.var 0, .cst (.ty "bool")])) [.ret (.cst (.bl false))] [], .ife (.cmp .ne (.blt .isinst [.var 1, .cst (.ty "int")]) (.blt .isinst [.var 0, .cst (.ty "int")])) [.ret (.cst (.bl false))] [], .ret (.and (.cmp .eq (.blt .isinst [.var 0, .cst (.ty "str")]) (.blt .isinst [.var 1, .cst (.ty "str")])) (.cmp .eq (.var 0) (.var 1)))]
/-- law(_law_script); 0:_law_script 1:_law_bag_here 2:_law_turn 3:_law_formula_z 4:_law_rows_z 5:_law_kept 6:_law_due 7:_law_low 8:_law_k 9:_law_at_here -/
def b14 : List S := [.asg (.v 1) (.call 6 [.var 0] []), .for (.v 2) (.rng [.cst (.int 8)]) [.asg (.v 3) (.call 10 [.var 1, .cst (.str ""), .lst [], .cst (.int 4), .cst (.int 3)] []), .asg (.v 4) (.lc [8] (.v 8) (.rng [.call 7 [.var 1, .cst (.int 10)] []]) [] (.call 11 [.var 1] [])), .asg (.v 5) (.blt .list [.var 4]), .asg (.v 6) (.lc [9] (.v 9) (.rng [.blt .len [.var 4]]) [] (.call 12 [.var 3, .sl (.var 4) (.cst .non) (.bin .add (.var 9) (.cst (.int 1)))] [])), .ife (.or (.not (.call 13 [.lst [.e (.call 5 [.var 3, .var 4] []), .e (.call 5 [.blt .tuple [.var 4], .var 3] [.a 1, .a 0])], .lst [.e (.var 6), .e (.var 6)]] [])) (.cmp .ne (.var 4) (.var 5))) [.ret (.cst (.bl false))] [], .exp (.met (.call 5 [.var 3, .var 4] []) 0 [.cst (.non)]), .asg (.v 7) (.call 5 [.tup [.e (.cst (.str "shown")), .e (.var 3)], .bin .add (.var 4) (.lst [.e (.cst (.str ""))])] []), .ife (.not (.call 13 [.var 7, .lc [9] (.v 9) (.rng [.bin .add (.blt .len [.var 4]) (.cst (.int 1))]) [] (.blt .all [.sl (.var 6) (.cst .non) (.var 9)])] [])) [.ret (.cst (.bl false))] []], .ret (.cmp .eq (.call 5 [.tup [.e (.cst (.str "shown")), .e (.tup [.e (.cst (.str "shown")), .e (.tup [.e (.cst (.str "false"))])])], .lst [.e (.cst (.str "")), .e (.cst (.str "P")), .e (.cst (.str "PQR")), .e (.cst (.str ""))]] []) (.lst [.e (.cst (.bl true)), .e (.cst (.bl true)), .e (.cst (.bl false)), .e (.cst (.bl false))]))]
def T : Tb where
  fns := [⟨2, 4, b0⟩, ⟨3, 4, b1⟩, ⟨3, 5, b2⟩, ⟨2, 2, b3⟩, ⟨2, 2, b4⟩, ⟨2, 8, b5⟩, ⟨1, 1, b6⟩, ⟨2, 5, b7⟩, ⟨2, 2, b8⟩, ⟨3, 5, b9⟩, ⟨5, 8, b10⟩, ⟨1, 2, b11⟩, ⟨2, 5, b12⟩, ⟨2, 3, b13⟩, ⟨1, 10, b14⟩]
  ms := [((0, 1), 4)]
  ini := [(0, 3)]
  isi := [((.b "NoneType", .b "bool"), false), ((.b "NoneType", .b "int"), false), ((.b "NoneType", .b "list"), false), ((.b "NoneType", .b "str"), false), ((.b "NoneType", .b "tuple"), false), ((.b "bool", .b "bool"), true), ((.b "bool", .b "int"), true), ((.b "bool", .b "list"), false), ((.b "bool", .b "str"), false), ((.b "bool", .b "tuple"), false), ((.b "int", .b "bool"), false), ((.b "int", .b "int"), true), ((.b "int", .b "list"), false), ((.b "int", .b "str"), false), ((.b "int", .b "tuple"), false), ((.b "str", .b "bool"), false), ((.b "str", .b "int"), false), ((.b "str", .b "list"), false), ((.b "str", .b "str"), true), ((.b "str", .b "tuple"), false), ((.b "tuple", .b "bool"), false), ((.b "tuple", .b "int"), false), ((.b "tuple", .b "list"), false), ((.b "tuple", .b "str"), false), ((.b "tuple", .b "tuple"), true), ((.b "list", .b "bool"), false), ((.b "list", .b "int"), false), ((.b "list", .b "list"), true), ((.b "list", .b "str"), false), ((.b "list", .b "tuple"), false)]
  bm := [((.lst, 0), .append), ((.str, 3), .join)]
  fl := [(0, 2)]
def nms : List Str := ["append", "atom", "row", "join"]
end K19

set_option maxHeartbeats 4000000
/-! K19_A: formulas, is_true, numbered, fallen. -/
namespace K19
open PySem PM
inductive Fm where
  | tru | fls | ltr (c : Str) | shown (f : Fm) | not (f : Fm) | and (f g : Fm) | or (f g : Fm) | flag (n : Nat)
def wF : Fm → W
  | .tru => .tup [.str "true"]
  | .fls => .tup [.str "false"]
  | .ltr c => .tup [.str "letter", .str c]
  | .shown f => .tup [.str "shown", wF f]
  | .not f => .tup [.str "not", wF f]
  | .and f g => .tup [.str "and", wF f, wF g]
  | .or f g => .tup [.str "or", wF f, wF g]
  | .flag n => .tup [.str "flag", .int n]
def inS (a b : Str) : Bool := !(Builtin.Str.occurrences b a 0 b.length 1).isEmpty
def sem (fs : List Int) (row : Str) : Fm → Bool
  | .tru => true
  | .fls => false
  | .ltr c => inS c row
  | .shown f => sem fs row f
  | .not f => !sem fs row f
  | .and f g => sem fs row f && sem fs row g
  | .or f g => sem fs row f || sem fs row g
  | .flag n => fs.getD n 0 == 1
/-- no shown, flags below n -/
def num (n : Nat) : Fm → Prop
  | .shown _ => False
  | .not f => num n f
  | .and f g => num n f ∧ num n g
  | .or f g => num n f ∧ num n g
  | .flag k => k < n
  | _ => True
def dep : Fm → Nat
  | .shown f => dep f + 1
  | .not f => dep f + 1
  | .and f g => max (dep f) (dep g) + 1
  | .or f g => max (dep f) (dep g) + 1
  | _ => 0
theorem c1 {d : Nat} {G : GH} (a b c : W) : xC T (d + 1) 1 [a, b, c] (on G) = (xSs T d b1 [some a, some b, some c, none] (on G)).out := by rw [xC_eq (fd := ⟨3, 4, b1⟩) rfl rfl]; rfl
theorem c4 {d : Nat} {G : GH} (a b : W) : xC T (d + 1) 4 [a, b] (on G) = (xSs T d b4 [some a, some b] (on G)).out := by rw [xC_eq (fd := ⟨2, 2, b4⟩) rfl rfl]; rfl
theorem atom_ok {d v : Nat} {G : GH} {row c : Str} (hv : G.get v = some (.ins 0 [(2, .str row)])) : xC T (d + 1) 4 [.ref v, .tup [.str "letter", .str c]] (on G) = .ok (.bl (inS c row)) (on G) := by
  rw [c4]
  have f1 : T.fl.contains (0, 2) = true := rfl
  have f2 : List.lookup 2 [((2 : Nat), W.str row)] = some (.str row) := rfl
  simp (config := { decide := true }) only [b4, hv, f1, f2, oE_cst, oE_var, oE_bin, oE_cmp, oE_and, oE_or, oE_not, oE_neg, oE_ife, oE_tup, oE_lst, oE_ix, oE_sl, oE_call, oE_mk, oE_met, oE_att, oE_blt, oE_lc, oEs_nil, oEs_cons, oA_nil, oA_e, oA_s, oI_e, oI_rng, oI_zip, oW_eq, oSs_nil, oSs_cons, oS_asg, oS_sub, oS_att, oS_par, oS_exp, oS_ife, oS_for, oS_whl, oS_ret, oS_pass, rb_ok, rt_ok, ft_nx, ft_ret, fl_nx, fl_ret, fo_nx, fo_ret, oo_some, og_some, nox_ok, tru_bl, tru_int, bA_nil, asg_v, c_eq, c_ne, c_in, c_nin, c_lt, c_le, c_gt, c_ge, c_is, c_isn, eq_ss, eq_ii, eq_bb, in_ss, ix_t, ix_r, at_0, at_1, at_2, at_3, at_4, on_get, on_sz, List.getElem?_cons_zero, List.getElem?_cons_succ, List.getElem?_nil, List.set_cons_zero, List.set_cons_succ, Option.map_some, Option.map_none, if_true, if_false, Bool.false_eq_true, decide_true, decide_false, Bool.not_true, Bool.not_false, on_on, List.length_cons, List.length_nil, on_setw, on_pushw, List.nil_append, List.cons_append, seq_new, its_new, lst_new, ix_new, len_new, iv_new, newL_one, newL_two, newL_nil, iv_t, iv_r]
  rfl
theorem is_true_ok {d v : Nat} {G : GH} {row : Str} {fs : List Int} (hv : G.get v = some (.ins 0 [(2, .str row)])) : ∀ (f : Fm), num fs.length f → ∀ k, dep f + 2 ≤ k → xC T (d + k) 1 [wF f, .tup (fs.map .int), .ref v] (on G) = .ok (.bl (sem fs row f)) (on G) := by
  intro f
  induction f with
  | tru =>
    intro _ k hk
    obtain ⟨k, rfl⟩ : ∃ j, k = j + 1 := ⟨k - 1, by omega⟩
    rw [← Nat.add_assoc, c1]
    simp (config := { decide := true }) only [b1, wF, oE_cst, oE_var, oE_bin, oE_cmp, oE_and, oE_or, oE_not, oE_neg, oE_ife, oE_tup, oE_lst, oE_ix, oE_sl, oE_call, oE_mk, oE_met, oE_att, oE_blt, oE_lc, oEs_nil, oEs_cons, oA_nil, oA_e, oA_s, oI_e, oI_rng, oI_zip, oW_eq, oSs_nil, oSs_cons, oS_asg, oS_sub, oS_att, oS_par, oS_exp, oS_ife, oS_for, oS_whl, oS_ret, oS_pass, rb_ok, rt_ok, ft_nx, ft_ret, fl_nx, fl_ret, fo_nx, fo_ret, oo_some, og_some, nox_ok, tru_bl, tru_int, bA_nil, asg_v, c_eq, c_ne, c_in, c_nin, c_lt, c_le, c_gt, c_ge, c_is, c_isn, eq_ss, eq_ii, eq_bb, in_ss, ix_t, ix_r, at_0, at_1, at_2, at_3, at_4, on_get, on_sz, List.getElem?_cons_zero, List.getElem?_cons_succ, List.getElem?_nil, List.set_cons_zero, List.set_cons_succ, Option.map_some, Option.map_none, if_true, if_false, Bool.false_eq_true, decide_true, decide_false, Bool.not_true, Bool.not_false, on_on, List.length_cons, List.length_nil, on_setw, on_pushw, List.nil_append, List.cons_append, seq_new, its_new, lst_new, ix_new, len_new, iv_new, newL_one, newL_two, newL_nil, iv_t, iv_r]
    rfl
  | fls =>
    intro _ k hk
    obtain ⟨k, rfl⟩ : ∃ j, k = j + 1 := ⟨k - 1, by omega⟩
    rw [← Nat.add_assoc, c1]
    simp (config := { decide := true }) only [b1, wF, oE_cst, oE_var, oE_bin, oE_cmp, oE_and, oE_or, oE_not, oE_neg, oE_ife, oE_tup, oE_lst, oE_ix, oE_sl, oE_call, oE_mk, oE_met, oE_att, oE_blt, oE_lc, oEs_nil, oEs_cons, oA_nil, oA_e, oA_s, oI_e, oI_rng, oI_zip, oW_eq, oSs_nil, oSs_cons, oS_asg, oS_sub, oS_att, oS_par, oS_exp, oS_ife, oS_for, oS_whl, oS_ret, oS_pass, rb_ok, rt_ok, ft_nx, ft_ret, fl_nx, fl_ret, fo_nx, fo_ret, oo_some, og_some, nox_ok, tru_bl, tru_int, bA_nil, asg_v, c_eq, c_ne, c_in, c_nin, c_lt, c_le, c_gt, c_ge, c_is, c_isn, eq_ss, eq_ii, eq_bb, in_ss, ix_t, ix_r, at_0, at_1, at_2, at_3, at_4, on_get, on_sz, List.getElem?_cons_zero, List.getElem?_cons_succ, List.getElem?_nil, List.set_cons_zero, List.set_cons_succ, Option.map_some, Option.map_none, if_true, if_false, Bool.false_eq_true, decide_true, decide_false, Bool.not_true, Bool.not_false, on_on, List.length_cons, List.length_nil, on_setw, on_pushw, List.nil_append, List.cons_append, seq_new, its_new, lst_new, ix_new, len_new, iv_new, newL_one, newL_two, newL_nil, iv_t, iv_r]
    rfl
  | ltr c =>
    intro _ k hk
    obtain ⟨k, rfl⟩ : ∃ j, k = j + 1 + 1 := ⟨k - 2, by omega⟩
    rw [← Nat.add_assoc, c1]
    have hm := mk_ins (T := T) (m := 1) (f := 4) hv rfl rfl
    have ha := atom_ok (d := d + k) (c := c) hv
    rw [Nat.add_assoc] at ha
    simp (config := { decide := true }) only [b1, wF, hm, ha, oE_cst, oE_var, oE_bin, oE_cmp, oE_and, oE_or, oE_not, oE_neg, oE_ife, oE_tup, oE_lst, oE_ix, oE_sl, oE_call, oE_mk, oE_met, oE_att, oE_blt, oE_lc, oEs_nil, oEs_cons, oA_nil, oA_e, oA_s, oI_e, oI_rng, oI_zip, oW_eq, oSs_nil, oSs_cons, oS_asg, oS_sub, oS_att, oS_par, oS_exp, oS_ife, oS_for, oS_whl, oS_ret, oS_pass, rb_ok, rt_ok, ft_nx, ft_ret, fl_nx, fl_ret, fo_nx, fo_ret, oo_some, og_some, nox_ok, tru_bl, tru_int, bA_nil, asg_v, c_eq, c_ne, c_in, c_nin, c_lt, c_le, c_gt, c_ge, c_is, c_isn, eq_ss, eq_ii, eq_bb, in_ss, ix_t, ix_r, at_0, at_1, at_2, at_3, at_4, on_get, on_sz, List.getElem?_cons_zero, List.getElem?_cons_succ, List.getElem?_nil, List.set_cons_zero, List.set_cons_succ, Option.map_some, Option.map_none, if_true, if_false, Bool.false_eq_true, decide_true, decide_false, Bool.not_true, Bool.not_false, on_on, List.length_cons, List.length_nil, on_setw, on_pushw, List.nil_append, List.cons_append, seq_new, its_new, lst_new, ix_new, len_new, iv_new, newL_one, newL_two, newL_nil, iv_t, iv_r]
    rfl
  | shown f ih => exact fun h => h.elim
  | not f ih =>
    intro h k hk
    obtain ⟨k, rfl⟩ : ∃ j, k = j + 1 := ⟨k - 1, by omega⟩
    rw [← Nat.add_assoc, c1]
    have e := ih h k (by unfold dep at hk; omega)
    simp (config := { decide := true }) only [b1, wF, e, oE_cst, oE_var, oE_bin, oE_cmp, oE_and, oE_or, oE_not, oE_neg, oE_ife, oE_tup, oE_lst, oE_ix, oE_sl, oE_call, oE_mk, oE_met, oE_att, oE_blt, oE_lc, oEs_nil, oEs_cons, oA_nil, oA_e, oA_s, oI_e, oI_rng, oI_zip, oW_eq, oSs_nil, oSs_cons, oS_asg, oS_sub, oS_att, oS_par, oS_exp, oS_ife, oS_for, oS_whl, oS_ret, oS_pass, rb_ok, rt_ok, ft_nx, ft_ret, fl_nx, fl_ret, fo_nx, fo_ret, oo_some, og_some, nox_ok, tru_bl, tru_int, bA_nil, asg_v, c_eq, c_ne, c_in, c_nin, c_lt, c_le, c_gt, c_ge, c_is, c_isn, eq_ss, eq_ii, eq_bb, in_ss, ix_t, ix_r, at_0, at_1, at_2, at_3, at_4, on_get, on_sz, List.getElem?_cons_zero, List.getElem?_cons_succ, List.getElem?_nil, List.set_cons_zero, List.set_cons_succ, Option.map_some, Option.map_none, if_true, if_false, Bool.false_eq_true, decide_true, decide_false, Bool.not_true, Bool.not_false, on_on, List.length_cons, List.length_nil, on_setw, on_pushw, List.nil_append, List.cons_append, seq_new, its_new, lst_new, ix_new, len_new, iv_new, newL_one, newL_two, newL_nil, iv_t, iv_r]
    rfl
  | and f g ihf ihg =>
    intro h k hk
    obtain ⟨k, rfl⟩ : ∃ j, k = j + 1 := ⟨k - 1, by omega⟩
    rw [← Nat.add_assoc, c1]
    have e1 := ihf h.1 k (by unfold dep at hk; omega)
    have e2 := ihg h.2 k (by unfold dep at hk; omega)
    simp (config := { decide := true }) only [b1, wF, e1, oE_cst, oE_var, oE_bin, oE_cmp, oE_and, oE_or, oE_not, oE_neg, oE_ife, oE_tup, oE_lst, oE_ix, oE_sl, oE_call, oE_mk, oE_met, oE_att, oE_blt, oE_lc, oEs_nil, oEs_cons, oA_nil, oA_e, oA_s, oI_e, oI_rng, oI_zip, oW_eq, oSs_nil, oSs_cons, oS_asg, oS_sub, oS_att, oS_par, oS_exp, oS_ife, oS_for, oS_whl, oS_ret, oS_pass, rb_ok, rt_ok, ft_nx, ft_ret, fl_nx, fl_ret, fo_nx, fo_ret, oo_some, og_some, nox_ok, tru_bl, tru_int, bA_nil, asg_v, c_eq, c_ne, c_in, c_nin, c_lt, c_le, c_gt, c_ge, c_is, c_isn, eq_ss, eq_ii, eq_bb, in_ss, ix_t, ix_r, at_0, at_1, at_2, at_3, at_4, on_get, on_sz, List.getElem?_cons_zero, List.getElem?_cons_succ, List.getElem?_nil, List.set_cons_zero, List.set_cons_succ, Option.map_some, Option.map_none, if_true, if_false, Bool.false_eq_true, decide_true, decide_false, Bool.not_true, Bool.not_false, on_on, List.length_cons, List.length_nil, on_setw, on_pushw, List.nil_append, List.cons_append, seq_new, its_new, lst_new, ix_new, len_new, iv_new, newL_one, newL_two, newL_nil, iv_t, iv_r]
    cases q : sem fs row f with
    | true =>
      simp (config := { decide := true }) only [e2, oE_cst, oE_var, oE_bin, oE_cmp, oE_and, oE_or, oE_not, oE_neg, oE_ife, oE_tup, oE_lst, oE_ix, oE_sl, oE_call, oE_mk, oE_met, oE_att, oE_blt, oE_lc, oEs_nil, oEs_cons, oA_nil, oA_e, oA_s, oI_e, oI_rng, oI_zip, oW_eq, oSs_nil, oSs_cons, oS_asg, oS_sub, oS_att, oS_par, oS_exp, oS_ife, oS_for, oS_whl, oS_ret, oS_pass, rb_ok, rt_ok, ft_nx, ft_ret, fl_nx, fl_ret, fo_nx, fo_ret, oo_some, og_some, nox_ok, tru_bl, tru_int, bA_nil, asg_v, c_eq, c_ne, c_in, c_nin, c_lt, c_le, c_gt, c_ge, c_is, c_isn, eq_ss, eq_ii, eq_bb, in_ss, ix_t, ix_r, at_0, at_1, at_2, at_3, at_4, on_get, on_sz, List.getElem?_cons_zero, List.getElem?_cons_succ, List.getElem?_nil, List.set_cons_zero, List.set_cons_succ, Option.map_some, Option.map_none, if_true, if_false, Bool.false_eq_true, decide_true, decide_false, Bool.not_true, Bool.not_false, on_on, List.length_cons, List.length_nil, on_setw, on_pushw, List.nil_append, List.cons_append, seq_new, its_new, lst_new, ix_new, len_new, iv_new, newL_one, newL_two, newL_nil, iv_t, iv_r]
      simp [sem, q]
    | false =>
      simp (config := { decide := true }) only [oE_cst, oE_var, oE_bin, oE_cmp, oE_and, oE_or, oE_not, oE_neg, oE_ife, oE_tup, oE_lst, oE_ix, oE_sl, oE_call, oE_mk, oE_met, oE_att, oE_blt, oE_lc, oEs_nil, oEs_cons, oA_nil, oA_e, oA_s, oI_e, oI_rng, oI_zip, oW_eq, oSs_nil, oSs_cons, oS_asg, oS_sub, oS_att, oS_par, oS_exp, oS_ife, oS_for, oS_whl, oS_ret, oS_pass, rb_ok, rt_ok, ft_nx, ft_ret, fl_nx, fl_ret, fo_nx, fo_ret, oo_some, og_some, nox_ok, tru_bl, tru_int, bA_nil, asg_v, c_eq, c_ne, c_in, c_nin, c_lt, c_le, c_gt, c_ge, c_is, c_isn, eq_ss, eq_ii, eq_bb, in_ss, ix_t, ix_r, at_0, at_1, at_2, at_3, at_4, on_get, on_sz, List.getElem?_cons_zero, List.getElem?_cons_succ, List.getElem?_nil, List.set_cons_zero, List.set_cons_succ, Option.map_some, Option.map_none, if_true, if_false, Bool.false_eq_true, decide_true, decide_false, Bool.not_true, Bool.not_false, on_on, List.length_cons, List.length_nil, on_setw, on_pushw, List.nil_append, List.cons_append, seq_new, its_new, lst_new, ix_new, len_new, iv_new, newL_one, newL_two, newL_nil, iv_t, iv_r]
      simp [sem, q]
  | or f g ihf ihg =>
    intro h k hk
    obtain ⟨k, rfl⟩ : ∃ j, k = j + 1 := ⟨k - 1, by omega⟩
    rw [← Nat.add_assoc, c1]
    have e1 := ihf h.1 k (by unfold dep at hk; omega)
    have e2 := ihg h.2 k (by unfold dep at hk; omega)
    simp (config := { decide := true }) only [b1, wF, e1, oE_cst, oE_var, oE_bin, oE_cmp, oE_and, oE_or, oE_not, oE_neg, oE_ife, oE_tup, oE_lst, oE_ix, oE_sl, oE_call, oE_mk, oE_met, oE_att, oE_blt, oE_lc, oEs_nil, oEs_cons, oA_nil, oA_e, oA_s, oI_e, oI_rng, oI_zip, oW_eq, oSs_nil, oSs_cons, oS_asg, oS_sub, oS_att, oS_par, oS_exp, oS_ife, oS_for, oS_whl, oS_ret, oS_pass, rb_ok, rt_ok, ft_nx, ft_ret, fl_nx, fl_ret, fo_nx, fo_ret, oo_some, og_some, nox_ok, tru_bl, tru_int, bA_nil, asg_v, c_eq, c_ne, c_in, c_nin, c_lt, c_le, c_gt, c_ge, c_is, c_isn, eq_ss, eq_ii, eq_bb, in_ss, ix_t, ix_r, at_0, at_1, at_2, at_3, at_4, on_get, on_sz, List.getElem?_cons_zero, List.getElem?_cons_succ, List.getElem?_nil, List.set_cons_zero, List.set_cons_succ, Option.map_some, Option.map_none, if_true, if_false, Bool.false_eq_true, decide_true, decide_false, Bool.not_true, Bool.not_false, on_on, List.length_cons, List.length_nil, on_setw, on_pushw, List.nil_append, List.cons_append, seq_new, its_new, lst_new, ix_new, len_new, iv_new, newL_one, newL_two, newL_nil, iv_t, iv_r]
    cases q : sem fs row f with
    | true =>
      simp (config := { decide := true }) only [oE_cst, oE_var, oE_bin, oE_cmp, oE_and, oE_or, oE_not, oE_neg, oE_ife, oE_tup, oE_lst, oE_ix, oE_sl, oE_call, oE_mk, oE_met, oE_att, oE_blt, oE_lc, oEs_nil, oEs_cons, oA_nil, oA_e, oA_s, oI_e, oI_rng, oI_zip, oW_eq, oSs_nil, oSs_cons, oS_asg, oS_sub, oS_att, oS_par, oS_exp, oS_ife, oS_for, oS_whl, oS_ret, oS_pass, rb_ok, rt_ok, ft_nx, ft_ret, fl_nx, fl_ret, fo_nx, fo_ret, oo_some, og_some, nox_ok, tru_bl, tru_int, bA_nil, asg_v, c_eq, c_ne, c_in, c_nin, c_lt, c_le, c_gt, c_ge, c_is, c_isn, eq_ss, eq_ii, eq_bb, in_ss, ix_t, ix_r, at_0, at_1, at_2, at_3, at_4, on_get, on_sz, List.getElem?_cons_zero, List.getElem?_cons_succ, List.getElem?_nil, List.set_cons_zero, List.set_cons_succ, Option.map_some, Option.map_none, if_true, if_false, Bool.false_eq_true, decide_true, decide_false, Bool.not_true, Bool.not_false, on_on, List.length_cons, List.length_nil, on_setw, on_pushw, List.nil_append, List.cons_append, seq_new, its_new, lst_new, ix_new, len_new, iv_new, newL_one, newL_two, newL_nil, iv_t, iv_r]
      simp [sem, q]
    | false =>
      simp (config := { decide := true }) only [e2, oE_cst, oE_var, oE_bin, oE_cmp, oE_and, oE_or, oE_not, oE_neg, oE_ife, oE_tup, oE_lst, oE_ix, oE_sl, oE_call, oE_mk, oE_met, oE_att, oE_blt, oE_lc, oEs_nil, oEs_cons, oA_nil, oA_e, oA_s, oI_e, oI_rng, oI_zip, oW_eq, oSs_nil, oSs_cons, oS_asg, oS_sub, oS_att, oS_par, oS_exp, oS_ife, oS_for, oS_whl, oS_ret, oS_pass, rb_ok, rt_ok, ft_nx, ft_ret, fl_nx, fl_ret, fo_nx, fo_ret, oo_some, og_some, nox_ok, tru_bl, tru_int, bA_nil, asg_v, c_eq, c_ne, c_in, c_nin, c_lt, c_le, c_gt, c_ge, c_is, c_isn, eq_ss, eq_ii, eq_bb, in_ss, ix_t, ix_r, at_0, at_1, at_2, at_3, at_4, on_get, on_sz, List.getElem?_cons_zero, List.getElem?_cons_succ, List.getElem?_nil, List.set_cons_zero, List.set_cons_succ, Option.map_some, Option.map_none, if_true, if_false, Bool.false_eq_true, decide_true, decide_false, Bool.not_true, Bool.not_false, on_on, List.length_cons, List.length_nil, on_setw, on_pushw, List.nil_append, List.cons_append, seq_new, its_new, lst_new, ix_new, len_new, iv_new, newL_one, newL_two, newL_nil, iv_t, iv_r]
      simp [sem, q]
  | flag n =>
    intro h k hk
    obtain ⟨k, rfl⟩ : ∃ j, k = j + 1 := ⟨k - 1, by omega⟩
    rw [← Nat.add_assoc, c1]
    have h : n < fs.length := h
    have e : L2.atI (fs.map W.int) (n : Int) = some (.int (fs.getD n 0)) := by
      rw [at_nat, List.getElem?_map, List.getElem?_eq_getElem h, List.getD_eq_getElem?_getD, List.getElem?_eq_getElem h]
      rfl
    simp (config := { decide := true }) only [b1, wF, e, oE_cst, oE_var, oE_bin, oE_cmp, oE_and, oE_or, oE_not, oE_neg, oE_ife, oE_tup, oE_lst, oE_ix, oE_sl, oE_call, oE_mk, oE_met, oE_att, oE_blt, oE_lc, oEs_nil, oEs_cons, oA_nil, oA_e, oA_s, oI_e, oI_rng, oI_zip, oW_eq, oSs_nil, oSs_cons, oS_asg, oS_sub, oS_att, oS_par, oS_exp, oS_ife, oS_for, oS_whl, oS_ret, oS_pass, rb_ok, rt_ok, ft_nx, ft_ret, fl_nx, fl_ret, fo_nx, fo_ret, oo_some, og_some, nox_ok, tru_bl, tru_int, bA_nil, asg_v, c_eq, c_ne, c_in, c_nin, c_lt, c_le, c_gt, c_ge, c_is, c_isn, eq_ss, eq_ii, eq_bb, in_ss, ix_t, ix_r, at_0, at_1, at_2, at_3, at_4, on_get, on_sz, List.getElem?_cons_zero, List.getElem?_cons_succ, List.getElem?_nil, List.set_cons_zero, List.set_cons_succ, Option.map_some, Option.map_none, if_true, if_false, Bool.false_eq_true, decide_true, decide_false, Bool.not_true, Bool.not_false, on_on, List.length_cons, List.length_nil, on_setw, on_pushw, List.nil_append, List.cons_append, seq_new, its_new, lst_new, ix_new, len_new, iv_new, newL_one, newL_two, newL_nil, iv_t, iv_r]
    simp [sem]
    rfl
/-! ### numbered -/
def bset (bs : List Fm) (i : Nat) (f : Fm) : List Fm := bs.set i f
def numF : Fm → List Fm → Fm × List Fm
  | .shown f, bs => (.flag bs.length, (numF f (bs ++ [.tru])).2.set bs.length (numF f (bs ++ [.tru])).1)
  | .not f, bs => (.not (numF f bs).1, (numF f bs).2)
  | .and f g, bs => (.and (numF f bs).1 (numF g (numF f bs).2).1, (numF g (numF f bs).2).2)
  | .or f g, bs => (.or (numF f bs).1 (numF g (numF f bs).2).1, (numF g (numF f bs).2).2)
  | f, bs => (f, bs)
def nsh : Fm → Nat
  | .shown f => nsh f + 1
  | .not f => nsh f
  | .and f g => nsh f + nsh g
  | .or f g => nsh f + nsh g
  | _ => 0
def plain : Fm → Prop
  | .shown f => plain f
  | .not f => plain f
  | .and f g => plain f ∧ plain g
  | .or f g => plain f ∧ plain g
  | .flag _ => False
  | _ => True
theorem numF_len : ∀ (f : Fm) (bs : List Fm), (numF f bs).2.length = bs.length + nsh f
  | .shown f, bs => by
    show ((numF f (bs ++ [.tru])).2.set bs.length (numF f (bs ++ [.tru])).1).length = bs.length + (nsh f + 1)
    rw [List.length_set, numF_len f, List.length_append, List.length_singleton]
    omega
  | .not f, bs => numF_len f bs
  | .and f g, bs => by
    show (numF g (numF f bs).2).2.length = bs.length + (nsh f + nsh g)
    rw [numF_len g, numF_len f]
    omega
  | .or f g, bs => by
    show (numF g (numF f bs).2).2.length = bs.length + (nsh f + nsh g)
    rw [numF_len g, numF_len f]
    omega
  | .tru, _ => rfl
  | .fls, _ => rfl
  | .ltr _, _ => rfl
  | .flag _, _ => rfl
theorem c0 {d : Nat} {G : GH} (a b : W) : xC T (d + 1) 0 [a, b] (on G) = (xSs T d b0 [some a, some b, none, none] (on G)).out := by rw [xC_eq (fd := ⟨2, 4, b0⟩) rfl rfl]; rfl
/-- what a call of numbered leaves -/
structure NumR (G G' : GH) (r : Nat) (bs : List Fm) : Prop where
  get : G'.get r = some (.lst (bs.map wF))
  fr : Fr (· = r) G G'
  wf : Wf G'
theorem numbered_ok : ∀ (f : Fm) (bs : List Fm) (G : GH) (r d k : Nat), plain f → Wf G → r < G.sz → G.get r = some (.lst (bs.map wF)) → bs.length + nsh f < 1000 → dep f + 1 ≤ k →
    ∃ G', xC T (d + k) 0 [wF f, .ref r] (on G) = .ok (wF (numF f bs).1) (on G') ∧ NumR G G' r (numF f bs).2 := by
  intro f
  induction f with
  | shown f ih =>
    intro bs G r d k pl wf hr hg hn hk
    obtain ⟨k, rfl⟩ : ∃ j, k = j + 1 := ⟨k - 1, by omega⟩
    rw [← Nat.add_assoc, c0]
    have h1 := len_l (T := T) hg
    have hm := mk_lst (T := T) (m := 0) (k := .append) hg rfl
    have hsl : (bs.map wF).length < sizeLine := by
      rw [List.length_map]
      exact Nat.lt_of_lt_of_le (by unfold nsh at hn; omega : bs.length < 1000) (by decide)
    have ha := app_l (w := .tup [.str "true"]) hg hsl
    have hg1 : (G.set r (.lst (bs.map wF ++ [W.tup [.str "true"]]))).get r = some (.lst ((bs ++ [Fm.tru]).map wF)) := by
      rw [get_set_self, List.map_append]
      rfl
    obtain ⟨G', e, nr⟩ := ih (bs ++ [.tru]) _ r d k pl (wf.set hr _) hr hg1 (by unfold nsh at hn; rw [List.length_append, List.length_singleton]; omega) (by unfold dep at hk; omega)
    have hlen := numF_len f (bs ++ [.tru])
    have hlt : bs.length < (numF f (bs ++ [.tru])).2.length := by rw [hlen, List.length_append, List.length_singleton]; omega
    have hix : L2.ixN ((numF f (bs ++ [.tru])).2.map wF).length ((bs.map wF).length : Int) = some bs.length := by
      rw [List.length_map, List.length_map]
      exact ixN_lt hlt
    have hgr := nr.get
    refine ⟨G'.set r (.lst ((numF (.shown f) bs).2.map wF)), ?_, get_set_self _ _ _, ?_, ?_⟩
    · simp (config := { decide := true }) only [b0, wF, h1, hm, ha, e, hgr, hix, oE_cst, oE_var, oE_bin, oE_cmp, oE_and, oE_or, oE_not, oE_neg, oE_ife, oE_tup, oE_lst, oE_ix, oE_sl, oE_call, oE_mk, oE_met, oE_att, oE_blt, oE_lc, oEs_nil, oEs_cons, oA_nil, oA_e, oA_s, oI_e, oI_rng, oI_zip, oW_eq, oSs_nil, oSs_cons, oS_asg, oS_sub, oS_att, oS_par, oS_exp, oS_ife, oS_for, oS_whl, oS_ret, oS_pass, rb_ok, rt_ok, ft_nx, ft_ret, fl_nx, fl_ret, fo_nx, fo_ret, oo_some, og_some, nox_ok, tru_bl, tru_int, bA_nil, asg_v, c_eq, c_ne, c_in, c_nin, c_lt, c_le, c_gt, c_ge, c_is, c_isn, eq_ss, eq_ii, eq_bb, in_ss, ix_t, ix_r, at_0, at_1, at_2, at_3, at_4, on_get, on_sz, List.getElem?_cons_zero, List.getElem?_cons_succ, List.getElem?_nil, List.set_cons_zero, List.set_cons_succ, Option.map_some, Option.map_none, if_true, if_false, Bool.false_eq_true, decide_true, decide_false, Bool.not_true, Bool.not_false, on_on, List.length_cons, List.length_nil, on_setw, on_pushw, List.nil_append, List.cons_append, seq_new, its_new, lst_new, ix_new, len_new, iv_new, newL_one, newL_two, newL_nil, iv_t, iv_r]
      have e2 : (List.map wF (numF f (bs ++ [.tru])).2).set bs.length (wF (numF f (bs ++ [.tru])).1) = (numF (.shown f) bs).2.map wF := by
        show _ = List.map wF ((numF f (bs ++ [.tru])).2.set bs.length (numF f (bs ++ [.tru])).1)
        rw [List.map_set]
      rw [e2, List.length_map]
      rfl
    · exact ((Fr.set (S := (· = r)) rfl _).trans nr.fr).trans (Fr.set (S := (· = r)) rfl _)
    · exact nr.wf.set (Nat.lt_of_lt_of_le (by exact hr) nr.fr.le) _
  | tru =>
    intro bs G r d k pl wf hr hg hn hk
    obtain ⟨k, rfl⟩ : ∃ j, k = j + 1 := ⟨k - 1, by omega⟩
    rw [← Nat.add_assoc, c0]
    refine ⟨G, ?_, hg, Fr.refl, wf⟩
    have e : inW (on G) (.str "true") (.tup [.str "not", .str "and", .str "or"]) = some false := in_t rfl (by decide +kernel)
    simp (config := { decide := true }) only [b0, wF, e, oE_cst, oE_var, oE_bin, oE_cmp, oE_and, oE_or, oE_not, oE_neg, oE_ife, oE_tup, oE_lst, oE_ix, oE_sl, oE_call, oE_mk, oE_met, oE_att, oE_blt, oE_lc, oEs_nil, oEs_cons, oA_nil, oA_e, oA_s, oI_e, oI_rng, oI_zip, oW_eq, oSs_nil, oSs_cons, oS_asg, oS_sub, oS_att, oS_par, oS_exp, oS_ife, oS_for, oS_whl, oS_ret, oS_pass, rb_ok, rt_ok, ft_nx, ft_ret, fl_nx, fl_ret, fo_nx, fo_ret, oo_some, og_some, nox_ok, tru_bl, tru_int, bA_nil, asg_v, c_eq, c_ne, c_in, c_nin, c_lt, c_le, c_gt, c_ge, c_is, c_isn, eq_ss, eq_ii, eq_bb, in_ss, ix_t, ix_r, at_0, at_1, at_2, at_3, at_4, on_get, on_sz, List.getElem?_cons_zero, List.getElem?_cons_succ, List.getElem?_nil, List.set_cons_zero, List.set_cons_succ, Option.map_some, Option.map_none, if_true, if_false, Bool.false_eq_true, decide_true, decide_false, Bool.not_true, Bool.not_false, on_on, List.length_cons, List.length_nil, on_setw, on_pushw, List.nil_append, List.cons_append, seq_new, its_new, lst_new, ix_new, len_new, iv_new, newL_one, newL_two, newL_nil, iv_t, iv_r]
    rfl
  | fls =>
    intro bs G r d k pl wf hr hg hn hk
    obtain ⟨k, rfl⟩ : ∃ j, k = j + 1 := ⟨k - 1, by omega⟩
    rw [← Nat.add_assoc, c0]
    refine ⟨G, ?_, hg, Fr.refl, wf⟩
    have e : inW (on G) (.str "false") (.tup [.str "not", .str "and", .str "or"]) = some false := in_t rfl (by decide +kernel)
    simp (config := { decide := true }) only [b0, wF, e, oE_cst, oE_var, oE_bin, oE_cmp, oE_and, oE_or, oE_not, oE_neg, oE_ife, oE_tup, oE_lst, oE_ix, oE_sl, oE_call, oE_mk, oE_met, oE_att, oE_blt, oE_lc, oEs_nil, oEs_cons, oA_nil, oA_e, oA_s, oI_e, oI_rng, oI_zip, oW_eq, oSs_nil, oSs_cons, oS_asg, oS_sub, oS_att, oS_par, oS_exp, oS_ife, oS_for, oS_whl, oS_ret, oS_pass, rb_ok, rt_ok, ft_nx, ft_ret, fl_nx, fl_ret, fo_nx, fo_ret, oo_some, og_some, nox_ok, tru_bl, tru_int, bA_nil, asg_v, c_eq, c_ne, c_in, c_nin, c_lt, c_le, c_gt, c_ge, c_is, c_isn, eq_ss, eq_ii, eq_bb, in_ss, ix_t, ix_r, at_0, at_1, at_2, at_3, at_4, on_get, on_sz, List.getElem?_cons_zero, List.getElem?_cons_succ, List.getElem?_nil, List.set_cons_zero, List.set_cons_succ, Option.map_some, Option.map_none, if_true, if_false, Bool.false_eq_true, decide_true, decide_false, Bool.not_true, Bool.not_false, on_on, List.length_cons, List.length_nil, on_setw, on_pushw, List.nil_append, List.cons_append, seq_new, its_new, lst_new, ix_new, len_new, iv_new, newL_one, newL_two, newL_nil, iv_t, iv_r]
    rfl
  | ltr c =>
    intro bs G r d k pl wf hr hg hn hk
    obtain ⟨k, rfl⟩ : ∃ j, k = j + 1 := ⟨k - 1, by omega⟩
    rw [← Nat.add_assoc, c0]
    refine ⟨G, ?_, hg, Fr.refl, wf⟩
    have e : inW (on G) (.str "letter") (.tup [.str "not", .str "and", .str "or"]) = some false := in_t rfl (by decide +kernel)
    simp (config := { decide := true }) only [b0, wF, e, oE_cst, oE_var, oE_bin, oE_cmp, oE_and, oE_or, oE_not, oE_neg, oE_ife, oE_tup, oE_lst, oE_ix, oE_sl, oE_call, oE_mk, oE_met, oE_att, oE_blt, oE_lc, oEs_nil, oEs_cons, oA_nil, oA_e, oA_s, oI_e, oI_rng, oI_zip, oW_eq, oSs_nil, oSs_cons, oS_asg, oS_sub, oS_att, oS_par, oS_exp, oS_ife, oS_for, oS_whl, oS_ret, oS_pass, rb_ok, rt_ok, ft_nx, ft_ret, fl_nx, fl_ret, fo_nx, fo_ret, oo_some, og_some, nox_ok, tru_bl, tru_int, bA_nil, asg_v, c_eq, c_ne, c_in, c_nin, c_lt, c_le, c_gt, c_ge, c_is, c_isn, eq_ss, eq_ii, eq_bb, in_ss, ix_t, ix_r, at_0, at_1, at_2, at_3, at_4, on_get, on_sz, List.getElem?_cons_zero, List.getElem?_cons_succ, List.getElem?_nil, List.set_cons_zero, List.set_cons_succ, Option.map_some, Option.map_none, if_true, if_false, Bool.false_eq_true, decide_true, decide_false, Bool.not_true, Bool.not_false, on_on, List.length_cons, List.length_nil, on_setw, on_pushw, List.nil_append, List.cons_append, seq_new, its_new, lst_new, ix_new, len_new, iv_new, newL_one, newL_two, newL_nil, iv_t, iv_r]
    rfl
  | flag n =>
    intro bs G r d k pl wf hr hg hn hk
    obtain ⟨k, rfl⟩ : ∃ j, k = j + 1 := ⟨k - 1, by omega⟩
    rw [← Nat.add_assoc, c0]
    refine ⟨G, ?_, hg, Fr.refl, wf⟩
    have e : inW (on G) (.str "flag") (.tup [.str "not", .str "and", .str "or"]) = some false := in_t rfl (by decide +kernel)
    simp (config := { decide := true }) only [b0, wF, e, oE_cst, oE_var, oE_bin, oE_cmp, oE_and, oE_or, oE_not, oE_neg, oE_ife, oE_tup, oE_lst, oE_ix, oE_sl, oE_call, oE_mk, oE_met, oE_att, oE_blt, oE_lc, oEs_nil, oEs_cons, oA_nil, oA_e, oA_s, oI_e, oI_rng, oI_zip, oW_eq, oSs_nil, oSs_cons, oS_asg, oS_sub, oS_att, oS_par, oS_exp, oS_ife, oS_for, oS_whl, oS_ret, oS_pass, rb_ok, rt_ok, ft_nx, ft_ret, fl_nx, fl_ret, fo_nx, fo_ret, oo_some, og_some, nox_ok, tru_bl, tru_int, bA_nil, asg_v, c_eq, c_ne, c_in, c_nin, c_lt, c_le, c_gt, c_ge, c_is, c_isn, eq_ss, eq_ii, eq_bb, in_ss, ix_t, ix_r, at_0, at_1, at_2, at_3, at_4, on_get, on_sz, List.getElem?_cons_zero, List.getElem?_cons_succ, List.getElem?_nil, List.set_cons_zero, List.set_cons_succ, Option.map_some, Option.map_none, if_true, if_false, Bool.false_eq_true, decide_true, decide_false, Bool.not_true, Bool.not_false, on_on, List.length_cons, List.length_nil, on_setw, on_pushw, List.nil_append, List.cons_append, seq_new, its_new, lst_new, ix_new, len_new, iv_new, newL_one, newL_two, newL_nil, iv_t, iv_r]
    rfl
  | not f ih =>
    intro bs G r d k pl wf hr hg hn hk
    obtain ⟨k, rfl⟩ : ∃ j, k = j + 1 := ⟨k - 1, by omega⟩
    rw [← Nat.add_assoc, c0]
    obtain ⟨G', e1, nr⟩ := ih bs G r d k pl wf hr hg hn (by unfold dep at hk; omega)
    refine ⟨G'.push (.lst [wF (numF f bs).1]), ?_, ?_, nr.fr.trans (Fr.push nr.wf _), nr.wf.push _⟩
    · have e : inW (on G) (.str "not") (.tup [.str "not", .str "and", .str "or"]) = some true := in_t rfl (by decide +kernel)
      have hc : cutW [W.str "not", wF f] (some 1) none = [wF f] := rfl
      have i0 : IV.at (on G) (.one (.sq [wF f])) 0 = some (some (wF f)) := rfl
      have i1 : IV.at (on G') (.one (.sq [wF f])) 1 = some none := rfl
      simp (config := { decide := true }) only [b0, wF, e, sl_t, optI, hc, ivOf, wipeW, xL_go0 i0 asg_v, e1, xL_end i1, oE_cst, oE_var, oE_bin, oE_cmp, oE_and, oE_or, oE_not, oE_neg, oE_ife, oE_tup, oE_lst, oE_ix, oE_sl, oE_call, oE_mk, oE_met, oE_att, oE_blt, oE_lc, oEs_nil, oEs_cons, oA_nil, oA_e, oA_s, oI_e, oI_rng, oI_zip, oW_eq, oSs_nil, oSs_cons, oS_asg, oS_sub, oS_att, oS_par, oS_exp, oS_ife, oS_for, oS_whl, oS_ret, oS_pass, rb_ok, rt_ok, ft_nx, ft_ret, fl_nx, fl_ret, fo_nx, fo_ret, oo_some, og_some, nox_ok, tru_bl, tru_int, bA_nil, asg_v, c_eq, c_ne, c_in, c_nin, c_lt, c_le, c_gt, c_ge, c_is, c_isn, eq_ss, eq_ii, eq_bb, in_ss, ix_t, ix_r, at_0, at_1, at_2, at_3, at_4, on_get, on_sz, List.getElem?_cons_zero, List.getElem?_cons_succ, List.getElem?_nil, List.set_cons_zero, List.set_cons_succ, Option.map_some, Option.map_none, if_true, if_false, Bool.false_eq_true, decide_true, decide_false, Bool.not_true, Bool.not_false, on_on, List.length_cons, List.length_nil, on_setw, on_pushw, List.nil_append, List.cons_append, seq_new, its_new, lst_new, ix_new, len_new, iv_new, newL_one, newL_two, newL_nil, iv_t, iv_r]
      rfl
    · rw [GH.get_push, if_neg (Nat.ne_of_lt (nr.wf r _ nr.get))]
      exact nr.get
  | and f g ihf ihg =>
    intro bs G r d k pl wf hr hg hn hk
    obtain ⟨k, rfl⟩ : ∃ j, k = j + 1 := ⟨k - 1, by omega⟩
    rw [← Nat.add_assoc, c0]
    have hn : bs.length + (nsh f + nsh g) < 1000 := hn
    obtain ⟨G1, e1, nr1⟩ := ihf bs G r d k pl.1 wf hr hg (by omega) (by unfold dep at hk; omega)
    obtain ⟨G2, e2, nr2⟩ := ihg (numF f bs).2 G1 r d k pl.2 nr1.wf (Nat.lt_of_lt_of_le hr nr1.fr.le) nr1.get (by rw [numF_len]; omega) (by unfold dep at hk; omega)
    refine ⟨G2.push (.lst [wF (numF f bs).1, wF (numF g (numF f bs).2).1]), ?_, ?_, (nr1.fr.trans nr2.fr).trans (Fr.push nr2.wf _), nr2.wf.push _⟩
    · have e : inW (on G) (.str "and") (.tup [.str "not", .str "and", .str "or"]) = some true := in_t rfl (by decide +kernel)
      have hc : cutW [W.str "and", wF f, wF g] (some 1) none = [wF f, wF g] := rfl
      have i0 : IV.at (on G) (.one (.sq [wF f, wF g])) 0 = some (some (wF f)) := rfl
      have i1 : IV.at (on G1) (.one (.sq [wF f, wF g])) 1 = some (some (wF g)) := rfl
      have i2 : IV.at (on G2) (.one (.sq [wF f, wF g])) 2 = some none := rfl
      simp (config := { decide := true }) only [b0, wF, e, sl_t, optI, hc, ivOf, wipeW, xL_go0 i0 asg_v, e1, xL_go0 i1 asg_v, e2, xL_end i2, oE_cst, oE_var, oE_bin, oE_cmp, oE_and, oE_or, oE_not, oE_neg, oE_ife, oE_tup, oE_lst, oE_ix, oE_sl, oE_call, oE_mk, oE_met, oE_att, oE_blt, oE_lc, oEs_nil, oEs_cons, oA_nil, oA_e, oA_s, oI_e, oI_rng, oI_zip, oW_eq, oSs_nil, oSs_cons, oS_asg, oS_sub, oS_att, oS_par, oS_exp, oS_ife, oS_for, oS_whl, oS_ret, oS_pass, rb_ok, rt_ok, ft_nx, ft_ret, fl_nx, fl_ret, fo_nx, fo_ret, oo_some, og_some, nox_ok, tru_bl, tru_int, bA_nil, asg_v, c_eq, c_ne, c_in, c_nin, c_lt, c_le, c_gt, c_ge, c_is, c_isn, eq_ss, eq_ii, eq_bb, in_ss, ix_t, ix_r, at_0, at_1, at_2, at_3, at_4, on_get, on_sz, List.getElem?_cons_zero, List.getElem?_cons_succ, List.getElem?_nil, List.set_cons_zero, List.set_cons_succ, Option.map_some, Option.map_none, if_true, if_false, Bool.false_eq_true, decide_true, decide_false, Bool.not_true, Bool.not_false, on_on, List.length_cons, List.length_nil, on_setw, on_pushw, List.nil_append, List.cons_append, seq_new, its_new, lst_new, ix_new, len_new, iv_new, newL_one, newL_two, newL_nil, iv_t, iv_r]
      rfl
    · rw [GH.get_push, if_neg (Nat.ne_of_lt (nr2.wf r _ nr2.get))]
      exact nr2.get
  | or f g ihf ihg =>
    intro bs G r d k pl wf hr hg hn hk
    obtain ⟨k, rfl⟩ : ∃ j, k = j + 1 := ⟨k - 1, by omega⟩
    rw [← Nat.add_assoc, c0]
    have hn : bs.length + (nsh f + nsh g) < 1000 := hn
    obtain ⟨G1, e1, nr1⟩ := ihf bs G r d k pl.1 wf hr hg (by omega) (by unfold dep at hk; omega)
    obtain ⟨G2, e2, nr2⟩ := ihg (numF f bs).2 G1 r d k pl.2 nr1.wf (Nat.lt_of_lt_of_le hr nr1.fr.le) nr1.get (by rw [numF_len]; omega) (by unfold dep at hk; omega)
    refine ⟨G2.push (.lst [wF (numF f bs).1, wF (numF g (numF f bs).2).1]), ?_, ?_, (nr1.fr.trans nr2.fr).trans (Fr.push nr2.wf _), nr2.wf.push _⟩
    · have e : inW (on G) (.str "or") (.tup [.str "not", .str "and", .str "or"]) = some true := in_t rfl (by decide +kernel)
      have hc : cutW [W.str "or", wF f, wF g] (some 1) none = [wF f, wF g] := rfl
      have i0 : IV.at (on G) (.one (.sq [wF f, wF g])) 0 = some (some (wF f)) := rfl
      have i1 : IV.at (on G1) (.one (.sq [wF f, wF g])) 1 = some (some (wF g)) := rfl
      have i2 : IV.at (on G2) (.one (.sq [wF f, wF g])) 2 = some none := rfl
      simp (config := { decide := true }) only [b0, wF, e, sl_t, optI, hc, ivOf, wipeW, xL_go0 i0 asg_v, e1, xL_go0 i1 asg_v, e2, xL_end i2, oE_cst, oE_var, oE_bin, oE_cmp, oE_and, oE_or, oE_not, oE_neg, oE_ife, oE_tup, oE_lst, oE_ix, oE_sl, oE_call, oE_mk, oE_met, oE_att, oE_blt, oE_lc, oEs_nil, oEs_cons, oA_nil, oA_e, oA_s, oI_e, oI_rng, oI_zip, oW_eq, oSs_nil, oSs_cons, oS_asg, oS_sub, oS_att, oS_par, oS_exp, oS_ife, oS_for, oS_whl, oS_ret, oS_pass, rb_ok, rt_ok, ft_nx, ft_ret, fl_nx, fl_ret, fo_nx, fo_ret, oo_some, og_some, nox_ok, tru_bl, tru_int, bA_nil, asg_v, c_eq, c_ne, c_in, c_nin, c_lt, c_le, c_gt, c_ge, c_is, c_isn, eq_ss, eq_ii, eq_bb, in_ss, ix_t, ix_r, at_0, at_1, at_2, at_3, at_4, on_get, on_sz, List.getElem?_cons_zero, List.getElem?_cons_succ, List.getElem?_nil, List.set_cons_zero, List.set_cons_succ, Option.map_some, Option.map_none, if_true, if_false, Bool.false_eq_true, decide_true, decide_false, Bool.not_true, Bool.not_false, on_on, List.length_cons, List.length_nil, on_setw, on_pushw, List.nil_append, List.cons_append, seq_new, its_new, lst_new, ix_new, len_new, iv_new, newL_one, newL_two, newL_nil, iv_t, iv_r]
      rfl
    · rw [GH.get_push, if_neg (Nat.ne_of_lt (nr2.wf r _ nr2.get))]
      exact nr2.get
end K19

set_option maxHeartbeats 4000000
/-! K19_B: what is drawn. -/
namespace K19
open PySem PM
theorem f7 : T.fns[7]? = some ⟨2, 5, drawB⟩ := rfl
theorem f8 : T.fns[8]? = some ⟨2, 2, anyB 7⟩ := rfl
theorem f13 : T.fns[13]? = some ⟨2, 3, likeB 13⟩ := rfl
theorem c9 {d : Nat} {G : GH} (a b c : W) : xC T (d + 1) 9 [a, b, c] (on G) = (xSs T d b9 [some a, some b, some c, none, none] (on G)).out := by rw [xC_eq (fd := ⟨3, 5, b9⟩) rfl rfl]; rfl
theorem c10 {d : Nat} {G : GH} (a b c e f : W) : xC T (d + 1) 10 [a, b, c, e, f] (on G) = (xSs T d b10 [some a, some b, some c, some e, some f, none, none, none] (on G)).out := by rw [xC_eq (fd := ⟨5, 8, b10⟩) rfl rfl]; rfl
theorem c11 {d : Nat} {G : GH} (a : W) : xC T (d + 1) 11 [a] (on G) = (xSs T d b11 [some a, none] (on G)).out := by rw [xC_eq (fd := ⟨1, 2, b11⟩) rfl rfl]; rfl
theorem atom_draw {d b : Nat} {G : GH} {x : W} (hb : IsBag G b) (wf : Wf G) : ∃ c G', xC T (d + 1 + 1 + 1) 9 [.ref b, .str "", x] (on G) = .ok (wF (.ltr c)) (on G') ∧ Made G G' b := by
  obtain ⟨c, G', e, _, dr⟩ := any_str (T := T) (d := d) (z := "PQR") f7 f8 hb (by decide) wf
  refine ⟨⟨#[c]⟩, G', ?_, dr.made⟩
  rw [c9]
  simp (config := { decide := true }) only [b9, e, oE_cst, oE_var, oE_bin, oE_cmp, oE_and, oE_or, oE_not, oE_neg, oE_ife, oE_tup, oE_lst, oE_ix, oE_sl, oE_call, oE_mk, oE_met, oE_att, oE_blt, oE_lc, oEs_nil, oEs_cons, oA_nil, oA_e, oA_s, oI_e, oI_rng, oI_zip, oW_eq, oSs_nil, oSs_cons, oS_asg, oS_sub, oS_att, oS_par, oS_exp, oS_ife, oS_for, oS_whl, oS_ret, oS_pass, rb_ok, rt_ok, ft_nx, ft_ret, fl_nx, fl_ret, fo_nx, fo_ret, oo_some, og_some, nox_ok, tru_bl, tru_int, bA_nil, asg_v, c_eq, c_ne, c_in, c_nin, c_lt, c_le, c_gt, c_ge, c_is, c_isn, eq_ss, eq_ii, eq_bb, in_ss, ix_t, ix_r, at_0, at_1, at_2, at_3, at_4, on_get, on_sz, List.getElem?_cons_zero, List.getElem?_cons_succ, List.getElem?_nil, List.set_cons_zero, List.set_cons_succ, Option.map_some, Option.map_none, if_true, if_false, Bool.false_eq_true, decide_true, decide_false, Bool.not_true, Bool.not_false, on_on, List.length_cons, List.length_nil, on_setw, on_pushw, List.nil_append, List.cons_append, seq_new, its_new, lst_new, ix_new, len_new, iv_new, newL_one, newL_two, newL_nil, iv_t, iv_r]
  rfl
/-- a drawn formula -/
theorem formula_draw {d b : Nat} {x : W} : ∀ (n : Nat) (s : Nat) (G : GH), IsBag G b → Wf G → ∃ F G', xC T (d + n + 1 + 1 + 1 + 1) 10 [.ref b, .str "", x, .int n, .int s] (on G) = .ok (wF F) (on G') ∧ plain F ∧ dep F ≤ n ∧ nsh F ≤ 2 ^ n ∧ Made G G' b := by
  intro n
  induction n with
  | zero =>
    intro s G hb wf
    obtain ⟨r, G1, e1, r0, r1, dr⟩ := draw_ok (T := T) (d := d + 0 + 1 + 1) (many := 9) f7 hb (by decide) (by decide) wf
    by_cases h8 : r < 8
    · obtain ⟨c, G2, e2, m2⟩ := atom_draw (d := d + 0) (x := x) dr.bag dr.wf
      refine ⟨.ltr c, G2, ?_, trivial, Nat.le_refl _, Nat.zero_le _, dr.made.trans m2⟩
      rw [c10]
      have z0 : (((0 : Nat) : Int) = 0) = True := eq_true rfl
      have z8 := eq_true h8
      simp (config := { decide := true }) only [b10, e1, z0, z8, e2, oE_cst, oE_var, oE_bin, oE_cmp, oE_and, oE_or, oE_not, oE_neg, oE_ife, oE_tup, oE_lst, oE_ix, oE_sl, oE_call, oE_mk, oE_met, oE_att, oE_blt, oE_lc, oEs_nil, oEs_cons, oA_nil, oA_e, oA_s, oI_e, oI_rng, oI_zip, oW_eq, oSs_nil, oSs_cons, oS_asg, oS_sub, oS_att, oS_par, oS_exp, oS_ife, oS_for, oS_whl, oS_ret, oS_pass, rb_ok, rt_ok, ft_nx, ft_ret, fl_nx, fl_ret, fo_nx, fo_ret, oo_some, og_some, nox_ok, tru_bl, tru_int, bA_nil, asg_v, c_eq, c_ne, c_in, c_nin, c_lt, c_le, c_gt, c_ge, c_is, c_isn, eq_ss, eq_ii, eq_bb, in_ss, ix_t, ix_r, at_0, at_1, at_2, at_3, at_4, on_get, on_sz, List.getElem?_cons_zero, List.getElem?_cons_succ, List.getElem?_nil, List.set_cons_zero, List.set_cons_succ, Option.map_some, Option.map_none, if_true, if_false, Bool.false_eq_true, decide_true, decide_false, Bool.not_true, Bool.not_false, on_on, List.length_cons, List.length_nil, on_setw, on_pushw, List.nil_append, List.cons_append, seq_new, its_new, lst_new, ix_new, len_new, iv_new, newL_one, newL_two, newL_nil, iv_t, iv_r]
    · have hb2 := dr.bag.fr (Fr.push (S := fun _ => False) dr.wf (.lst [.str "true", .str "false"]))
      obtain ⟨w, G2, e2, hw, d2⟩ := any_lst (T := T) (d := d + 0 + 1) (n := G1.sz) (ws := [.str "true", .str "false"]) f7 f8 hb2 (get_push_self _ _) (by have := dr.bag.lt dr.wf; omega) (by decide) (dr.wf.push _)
      have mm : Made G G2 b := (dr.made.push _).trans d2.made
      have z0 : (((0 : Nat) : Int) = 0) = True := eq_true rfl
      have z8 := eq_false h8
      rcases List.mem_cons.mp hw with hw | hw
      · subst hw
        refine ⟨.tru, G2, ?_, trivial, Nat.le_refl _, Nat.zero_le _, mm⟩
        rw [c10]
        simp (config := { decide := true }) only [b10, e1, z0, z8, e2, oE_cst, oE_var, oE_bin, oE_cmp, oE_and, oE_or, oE_not, oE_neg, oE_ife, oE_tup, oE_lst, oE_ix, oE_sl, oE_call, oE_mk, oE_met, oE_att, oE_blt, oE_lc, oEs_nil, oEs_cons, oA_nil, oA_e, oA_s, oI_e, oI_rng, oI_zip, oW_eq, oSs_nil, oSs_cons, oS_asg, oS_sub, oS_att, oS_par, oS_exp, oS_ife, oS_for, oS_whl, oS_ret, oS_pass, rb_ok, rt_ok, ft_nx, ft_ret, fl_nx, fl_ret, fo_nx, fo_ret, oo_some, og_some, nox_ok, tru_bl, tru_int, bA_nil, asg_v, c_eq, c_ne, c_in, c_nin, c_lt, c_le, c_gt, c_ge, c_is, c_isn, eq_ss, eq_ii, eq_bb, in_ss, ix_t, ix_r, at_0, at_1, at_2, at_3, at_4, on_get, on_sz, List.getElem?_cons_zero, List.getElem?_cons_succ, List.getElem?_nil, List.set_cons_zero, List.set_cons_succ, Option.map_some, Option.map_none, if_true, if_false, Bool.false_eq_true, decide_true, decide_false, Bool.not_true, Bool.not_false, on_on, List.length_cons, List.length_nil, on_setw, on_pushw, List.nil_append, List.cons_append, seq_new, its_new, lst_new, ix_new, len_new, iv_new, newL_one, newL_two, newL_nil, iv_t, iv_r]
        rfl
      · have hw := List.mem_singleton.mp hw
        subst hw
        refine ⟨.fls, G2, ?_, trivial, Nat.le_refl _, Nat.zero_le _, mm⟩
        rw [c10]
        simp (config := { decide := true }) only [b10, e1, z0, z8, e2, oE_cst, oE_var, oE_bin, oE_cmp, oE_and, oE_or, oE_not, oE_neg, oE_ife, oE_tup, oE_lst, oE_ix, oE_sl, oE_call, oE_mk, oE_met, oE_att, oE_blt, oE_lc, oEs_nil, oEs_cons, oA_nil, oA_e, oA_s, oI_e, oI_rng, oI_zip, oW_eq, oSs_nil, oSs_cons, oS_asg, oS_sub, oS_att, oS_par, oS_exp, oS_ife, oS_for, oS_whl, oS_ret, oS_pass, rb_ok, rt_ok, ft_nx, ft_ret, fl_nx, fl_ret, fo_nx, fo_ret, oo_some, og_some, nox_ok, tru_bl, tru_int, bA_nil, asg_v, c_eq, c_ne, c_in, c_nin, c_lt, c_le, c_gt, c_ge, c_is, c_isn, eq_ss, eq_ii, eq_bb, in_ss, ix_t, ix_r, at_0, at_1, at_2, at_3, at_4, on_get, on_sz, List.getElem?_cons_zero, List.getElem?_cons_succ, List.getElem?_nil, List.set_cons_zero, List.set_cons_succ, Option.map_some, Option.map_none, if_true, if_false, Bool.false_eq_true, decide_true, decide_false, Bool.not_true, Bool.not_false, on_on, List.length_cons, List.length_nil, on_setw, on_pushw, List.nil_append, List.cons_append, seq_new, its_new, lst_new, ix_new, len_new, iv_new, newL_one, newL_two, newL_nil, iv_t, iv_r]
        rfl
  | succ n ih =>
    intro s G hb wf
    obtain ⟨r, G1, e1, r0, r1, dr⟩ := draw_ok (T := T) (d := d + (n + 1) + 1 + 1) (many := 9) f7 hb (by decide) (by decide) wf
    have z0 : (((n + 1 : Nat) : Int) = 0) = False := eq_false (by omega)
    have hsub : ((n + 1 : Nat) : Int) - 1 = (n : Nat) := by omega
    by_cases h2 : r < 2
    · obtain ⟨c, G2, e2, m2⟩ := atom_draw (d := d + (n + 1)) (x := x) dr.bag dr.wf
      refine ⟨.ltr c, G2, ?_, trivial, Nat.zero_le _, Nat.zero_le _, dr.made.trans m2⟩
      rw [c10]
      have z2 := eq_true h2
      have z8 : (r < 8) = True := eq_true (by omega)
      simp (config := { decide := true }) only [b10, e1, z0, z2, z8, e2, oE_cst, oE_var, oE_bin, oE_cmp, oE_and, oE_or, oE_not, oE_neg, oE_ife, oE_tup, oE_lst, oE_ix, oE_sl, oE_call, oE_mk, oE_met, oE_att, oE_blt, oE_lc, oEs_nil, oEs_cons, oA_nil, oA_e, oA_s, oI_e, oI_rng, oI_zip, oW_eq, oSs_nil, oSs_cons, oS_asg, oS_sub, oS_att, oS_par, oS_exp, oS_ife, oS_for, oS_whl, oS_ret, oS_pass, rb_ok, rt_ok, ft_nx, ft_ret, fl_nx, fl_ret, fo_nx, fo_ret, oo_some, og_some, nox_ok, tru_bl, tru_int, bA_nil, asg_v, c_eq, c_ne, c_in, c_nin, c_lt, c_le, c_gt, c_ge, c_is, c_isn, eq_ss, eq_ii, eq_bb, in_ss, ix_t, ix_r, at_0, at_1, at_2, at_3, at_4, on_get, on_sz, List.getElem?_cons_zero, List.getElem?_cons_succ, List.getElem?_nil, List.set_cons_zero, List.set_cons_succ, Option.map_some, Option.map_none, if_true, if_false, Bool.false_eq_true, decide_true, decide_false, Bool.not_true, Bool.not_false, on_on, List.length_cons, List.length_nil, on_setw, on_pushw, List.nil_append, List.cons_append, seq_new, its_new, lst_new, ix_new, len_new, iv_new, newL_one, newL_two, newL_nil, iv_t, iv_r]
    · have z2 := eq_false h2
      have ih' : ∀ (s : Nat) (G : GH), IsBag G b → Wf G → ∃ F G', xC T (d + (n + 1) + 1 + 1 + 1) 10 [.ref b, .str "", x, .int n, .int s] (on G) = .ok (wF F) (on G') ∧ plain F ∧ dep F ≤ n ∧ nsh F ≤ 2 ^ n ∧ Made G G' b := ih
      by_cases h5 : r < 5 ∧ 0 < s
      · obtain ⟨s, rfl⟩ : ∃ t, s = t + 1 := ⟨s - 1, by omega⟩
        obtain ⟨F, G2, e2, p1, p2, p3, m2⟩ := ih' s G1 dr.bag dr.wf
        refine ⟨.shown F, G2, ?_, p1, Nat.succ_le_succ p2, ?_, dr.made.trans m2⟩
        · rw [c10]
          have z5 := eq_true h5.1
          have zs : ((0 : Int) < ((s + 1 : Nat) : Int)) = True := eq_true (by omega)
          have hss : ((s + 1 : Nat) : Int) - 1 = (s : Nat) := by omega
          simp (config := { decide := true }) only [b10, e1, z0, z2, z5, zs, b_sub, hsub, hss, e2, oE_cst, oE_var, oE_bin, oE_cmp, oE_and, oE_or, oE_not, oE_neg, oE_ife, oE_tup, oE_lst, oE_ix, oE_sl, oE_call, oE_mk, oE_met, oE_att, oE_blt, oE_lc, oEs_nil, oEs_cons, oA_nil, oA_e, oA_s, oI_e, oI_rng, oI_zip, oW_eq, oSs_nil, oSs_cons, oS_asg, oS_sub, oS_att, oS_par, oS_exp, oS_ife, oS_for, oS_whl, oS_ret, oS_pass, rb_ok, rt_ok, ft_nx, ft_ret, fl_nx, fl_ret, fo_nx, fo_ret, oo_some, og_some, nox_ok, tru_bl, tru_int, bA_nil, asg_v, c_eq, c_ne, c_in, c_nin, c_lt, c_le, c_gt, c_ge, c_is, c_isn, eq_ss, eq_ii, eq_bb, in_ss, ix_t, ix_r, at_0, at_1, at_2, at_3, at_4, on_get, on_sz, List.getElem?_cons_zero, List.getElem?_cons_succ, List.getElem?_nil, List.set_cons_zero, List.set_cons_succ, Option.map_some, Option.map_none, if_true, if_false, Bool.false_eq_true, decide_true, decide_false, Bool.not_true, Bool.not_false, on_on, List.length_cons, List.length_nil, on_setw, on_pushw, List.nil_append, List.cons_append, seq_new, its_new, lst_new, ix_new, len_new, iv_new, newL_one, newL_two, newL_nil, iv_t, iv_r]
          rfl
        · show nsh F + 1 ≤ 2 ^ (n + 1)
          have : 0 < 2 ^ n := Nat.two_pow_pos n
          rw [Nat.pow_succ]
          omega
      · have hz : (r < 5) = False ∨ ((r < 5) = True ∧ ((0 : Int) < (s : Nat)) = False) := by
          by_cases h : r < 5
          · exact .inr ⟨eq_true h, eq_false (by omega)⟩
          · exact .inl (eq_false h)
        by_cases h6 : r = 5
        · obtain ⟨F, G2, e2, p1, p2, p3, m2⟩ := ih' s G1 dr.bag dr.wf
          have z6 := eq_true h6
          refine ⟨.not F, G2, ?_, p1, Nat.succ_le_succ p2, Nat.le_trans p3 (Nat.pow_le_pow_right (by decide) (Nat.le_succ _)), dr.made.trans m2⟩
          rw [c10]
          rcases hz with z5 | ⟨z5, zs⟩
          · simp (config := { decide := true }) only [b10, e1, z0, z2, z5, z6, b_sub, hsub, e2, oE_cst, oE_var, oE_bin, oE_cmp, oE_and, oE_or, oE_not, oE_neg, oE_ife, oE_tup, oE_lst, oE_ix, oE_sl, oE_call, oE_mk, oE_met, oE_att, oE_blt, oE_lc, oEs_nil, oEs_cons, oA_nil, oA_e, oA_s, oI_e, oI_rng, oI_zip, oW_eq, oSs_nil, oSs_cons, oS_asg, oS_sub, oS_att, oS_par, oS_exp, oS_ife, oS_for, oS_whl, oS_ret, oS_pass, rb_ok, rt_ok, ft_nx, ft_ret, fl_nx, fl_ret, fo_nx, fo_ret, oo_some, og_some, nox_ok, tru_bl, tru_int, bA_nil, asg_v, c_eq, c_ne, c_in, c_nin, c_lt, c_le, c_gt, c_ge, c_is, c_isn, eq_ss, eq_ii, eq_bb, in_ss, ix_t, ix_r, at_0, at_1, at_2, at_3, at_4, on_get, on_sz, List.getElem?_cons_zero, List.getElem?_cons_succ, List.getElem?_nil, List.set_cons_zero, List.set_cons_succ, Option.map_some, Option.map_none, if_true, if_false, Bool.false_eq_true, decide_true, decide_false, Bool.not_true, Bool.not_false, on_on, List.length_cons, List.length_nil, on_setw, on_pushw, List.nil_append, List.cons_append, seq_new, its_new, lst_new, ix_new, len_new, iv_new, newL_one, newL_two, newL_nil, iv_t, iv_r]
            rfl
          · simp (config := { decide := true }) only [b10, e1, z0, z2, z5, zs, z6, b_sub, hsub, e2, oE_cst, oE_var, oE_bin, oE_cmp, oE_and, oE_or, oE_not, oE_neg, oE_ife, oE_tup, oE_lst, oE_ix, oE_sl, oE_call, oE_mk, oE_met, oE_att, oE_blt, oE_lc, oEs_nil, oEs_cons, oA_nil, oA_e, oA_s, oI_e, oI_rng, oI_zip, oW_eq, oSs_nil, oSs_cons, oS_asg, oS_sub, oS_att, oS_par, oS_exp, oS_ife, oS_for, oS_whl, oS_ret, oS_pass, rb_ok, rt_ok, ft_nx, ft_ret, fl_nx, fl_ret, fo_nx, fo_ret, oo_some, og_some, nox_ok, tru_bl, tru_int, bA_nil, asg_v, c_eq, c_ne, c_in, c_nin, c_lt, c_le, c_gt, c_ge, c_is, c_isn, eq_ss, eq_ii, eq_bb, in_ss, ix_t, ix_r, at_0, at_1, at_2, at_3, at_4, on_get, on_sz, List.getElem?_cons_zero, List.getElem?_cons_succ, List.getElem?_nil, List.set_cons_zero, List.set_cons_succ, Option.map_some, Option.map_none, if_true, if_false, Bool.false_eq_true, decide_true, decide_false, Bool.not_true, Bool.not_false, on_on, List.length_cons, List.length_nil, on_setw, on_pushw, List.nil_append, List.cons_append, seq_new, its_new, lst_new, ix_new, len_new, iv_new, newL_one, newL_two, newL_nil, iv_t, iv_r]
            rfl
        · have z6 := eq_false h6
          obtain ⟨F1, G2, e2, p1, p2, p3, m2⟩ := ih' s G1 dr.bag dr.wf
          obtain ⟨F2, G3, e3, q1, q2, q3, m3⟩ := ih' s G2 m2.bag m2.wf
          let G4 := G3.push (.lst [wF F1, wF F2])
          have m4 : Made G G4 b := ((dr.made.trans m2).trans m3).push _
          have m5 : Made G (G4.push (.lst [.str "and", .str "or"])) b := m4.push _
          obtain ⟨w, G6, e6, hw, d6⟩ := any_lst (T := T) (d := d + (n + 1) + 1) (n := G4.sz) (ws := [.str "and", .str "or"]) f7 f8 m5.bag (get_push_self _ _) (by have := m4.bag.lt m4.wf; omega) (by decide) m5.wf
          have g4 : G4.get G3.sz = some (.lst [wF F1, wF F2]) := get_push_self _ _
          have lt3 : b < G3.sz := m3.bag.lt m3.wf
          have g6 : G6.get G3.sz = some (.lst [wF F1, wF F2]) := d6.fr.get ((Fr.push (S := fun _ => False) m4.wf _).get g4 fun z => z) (by omega)
          have ix6 : ∀ {j : Int}, ixop (on G6) (.ref G3.sz) (.int j) = L2.atI [wF F1, wF F2] j := ix_lst g6
          have mm : Made G G6 b := m5.trans d6.made
          have two : rngOf [.int 2] = some [.int 0, .int 1] := rfl
          have i0 : IV.at (on G1) (.one (.sq [.int 0, .int 1])) 0 = some (some (.int 0)) := rfl
          have i1 : IV.at (on G2) (.one (.sq [.int 0, .int 1])) 1 = some (some (.int 1)) := rfl
          have i2 : IV.at (on G3) (.one (.sq [.int 0, .int 1])) 2 = some none := rfl
          have nn : nsh F1 + nsh F2 ≤ 2 ^ (n + 1) := by
            rw [Nat.pow_succ]
            omega
          rcases List.mem_cons.mp hw with hw | hw
          · subst hw
            refine ⟨.and F1 F2, G6, ?_, ⟨p1, q1⟩, Nat.succ_le_succ (Nat.max_le.mpr ⟨p2, q2⟩), nn, mm⟩
            rw [c10]
            rcases hz with z5 | ⟨z5, zs⟩
            · simp (config := { decide := true }) only [b10, e1, z0, z2, z5, z6, b_sub, hsub, two, wipeW, xL_go0 i0 asg_v, e2, xL_go0 i1 asg_v, e3, xL_end i2, e6, ix6, G4, oE_cst, oE_var, oE_bin, oE_cmp, oE_and, oE_or, oE_not, oE_neg, oE_ife, oE_tup, oE_lst, oE_ix, oE_sl, oE_call, oE_mk, oE_met, oE_att, oE_blt, oE_lc, oEs_nil, oEs_cons, oA_nil, oA_e, oA_s, oI_e, oI_rng, oI_zip, oW_eq, oSs_nil, oSs_cons, oS_asg, oS_sub, oS_att, oS_par, oS_exp, oS_ife, oS_for, oS_whl, oS_ret, oS_pass, rb_ok, rt_ok, ft_nx, ft_ret, fl_nx, fl_ret, fo_nx, fo_ret, oo_some, og_some, nox_ok, tru_bl, tru_int, bA_nil, asg_v, c_eq, c_ne, c_in, c_nin, c_lt, c_le, c_gt, c_ge, c_is, c_isn, eq_ss, eq_ii, eq_bb, in_ss, ix_t, ix_r, at_0, at_1, at_2, at_3, at_4, on_get, on_sz, List.getElem?_cons_zero, List.getElem?_cons_succ, List.getElem?_nil, List.set_cons_zero, List.set_cons_succ, Option.map_some, Option.map_none, if_true, if_false, Bool.false_eq_true, decide_true, decide_false, Bool.not_true, Bool.not_false, on_on, List.length_cons, List.length_nil, on_setw, on_pushw, List.nil_append, List.cons_append, seq_new, its_new, lst_new, ix_new, len_new, iv_new, newL_one, newL_two, newL_nil, iv_t, iv_r]
              rfl
            · simp (config := { decide := true }) only [b10, e1, z0, z2, z5, zs, z6, b_sub, hsub, two, wipeW, xL_go0 i0 asg_v, e2, xL_go0 i1 asg_v, e3, xL_end i2, e6, ix6, G4, oE_cst, oE_var, oE_bin, oE_cmp, oE_and, oE_or, oE_not, oE_neg, oE_ife, oE_tup, oE_lst, oE_ix, oE_sl, oE_call, oE_mk, oE_met, oE_att, oE_blt, oE_lc, oEs_nil, oEs_cons, oA_nil, oA_e, oA_s, oI_e, oI_rng, oI_zip, oW_eq, oSs_nil, oSs_cons, oS_asg, oS_sub, oS_att, oS_par, oS_exp, oS_ife, oS_for, oS_whl, oS_ret, oS_pass, rb_ok, rt_ok, ft_nx, ft_ret, fl_nx, fl_ret, fo_nx, fo_ret, oo_some, og_some, nox_ok, tru_bl, tru_int, bA_nil, asg_v, c_eq, c_ne, c_in, c_nin, c_lt, c_le, c_gt, c_ge, c_is, c_isn, eq_ss, eq_ii, eq_bb, in_ss, ix_t, ix_r, at_0, at_1, at_2, at_3, at_4, on_get, on_sz, List.getElem?_cons_zero, List.getElem?_cons_succ, List.getElem?_nil, List.set_cons_zero, List.set_cons_succ, Option.map_some, Option.map_none, if_true, if_false, Bool.false_eq_true, decide_true, decide_false, Bool.not_true, Bool.not_false, on_on, List.length_cons, List.length_nil, on_setw, on_pushw, List.nil_append, List.cons_append, seq_new, its_new, lst_new, ix_new, len_new, iv_new, newL_one, newL_two, newL_nil, iv_t, iv_r]
              rfl
          · have hw := List.mem_singleton.mp hw
            subst hw
            refine ⟨.or F1 F2, G6, ?_, ⟨p1, q1⟩, Nat.succ_le_succ (Nat.max_le.mpr ⟨p2, q2⟩), nn, mm⟩
            rw [c10]
            rcases hz with z5 | ⟨z5, zs⟩
            · simp (config := { decide := true }) only [b10, e1, z0, z2, z5, z6, b_sub, hsub, two, wipeW, xL_go0 i0 asg_v, e2, xL_go0 i1 asg_v, e3, xL_end i2, e6, ix6, G4, oE_cst, oE_var, oE_bin, oE_cmp, oE_and, oE_or, oE_not, oE_neg, oE_ife, oE_tup, oE_lst, oE_ix, oE_sl, oE_call, oE_mk, oE_met, oE_att, oE_blt, oE_lc, oEs_nil, oEs_cons, oA_nil, oA_e, oA_s, oI_e, oI_rng, oI_zip, oW_eq, oSs_nil, oSs_cons, oS_asg, oS_sub, oS_att, oS_par, oS_exp, oS_ife, oS_for, oS_whl, oS_ret, oS_pass, rb_ok, rt_ok, ft_nx, ft_ret, fl_nx, fl_ret, fo_nx, fo_ret, oo_some, og_some, nox_ok, tru_bl, tru_int, bA_nil, asg_v, c_eq, c_ne, c_in, c_nin, c_lt, c_le, c_gt, c_ge, c_is, c_isn, eq_ss, eq_ii, eq_bb, in_ss, ix_t, ix_r, at_0, at_1, at_2, at_3, at_4, on_get, on_sz, List.getElem?_cons_zero, List.getElem?_cons_succ, List.getElem?_nil, List.set_cons_zero, List.set_cons_succ, Option.map_some, Option.map_none, if_true, if_false, Bool.false_eq_true, decide_true, decide_false, Bool.not_true, Bool.not_false, on_on, List.length_cons, List.length_nil, on_setw, on_pushw, List.nil_append, List.cons_append, seq_new, its_new, lst_new, ix_new, len_new, iv_new, newL_one, newL_two, newL_nil, iv_t, iv_r]
              rfl
            · simp (config := { decide := true }) only [b10, e1, z0, z2, z5, zs, z6, b_sub, hsub, two, wipeW, xL_go0 i0 asg_v, e2, xL_go0 i1 asg_v, e3, xL_end i2, e6, ix6, G4, oE_cst, oE_var, oE_bin, oE_cmp, oE_and, oE_or, oE_not, oE_neg, oE_ife, oE_tup, oE_lst, oE_ix, oE_sl, oE_call, oE_mk, oE_met, oE_att, oE_blt, oE_lc, oEs_nil, oEs_cons, oA_nil, oA_e, oA_s, oI_e, oI_rng, oI_zip, oW_eq, oSs_nil, oSs_cons, oS_asg, oS_sub, oS_att, oS_par, oS_exp, oS_ife, oS_for, oS_whl, oS_ret, oS_pass, rb_ok, rt_ok, ft_nx, ft_ret, fl_nx, fl_ret, fo_nx, fo_ret, oo_some, og_some, nox_ok, tru_bl, tru_int, bA_nil, asg_v, c_eq, c_ne, c_in, c_nin, c_lt, c_le, c_gt, c_ge, c_is, c_isn, eq_ss, eq_ii, eq_bb, in_ss, ix_t, ix_r, at_0, at_1, at_2, at_3, at_4, on_get, on_sz, List.getElem?_cons_zero, List.getElem?_cons_succ, List.getElem?_nil, List.set_cons_zero, List.set_cons_succ, Option.map_some, Option.map_none, if_true, if_false, Bool.false_eq_true, decide_true, decide_false, Bool.not_true, Bool.not_false, on_on, List.length_cons, List.length_nil, on_setw, on_pushw, List.nil_append, List.cons_append, seq_new, its_new, lst_new, ix_new, len_new, iv_new, newL_one, newL_two, newL_nil, iv_t, iv_r]
              rfl
/-- a drawn row -/
def pqr (j : Nat) : Str := (["P", "Q", "R"] : List Str).getD j ""
def rowS : Nat → List (List Str)
  | 0 => [[]]
  | j + 1 => rowS j ++ (rowS j).map (· ++ [pqr j])
theorem rowS_ok : (rowS 3).all (fun l => PyData.strOk (Txt.join "" l) && decide ((l.map Str.length).sum + l.length * ("" : Str).length ≤ 16777216) && decide (l.length ≤ 3)) = true := by decide +kernel
theorem allStr_map : ∀ l : List Str, allStr (l.map .str) = some l
  | [] => rfl
  | a :: l => by
    show (allStr (l.map .str)).map (a :: ·) = _
    rw [allStr_map l]
    rfl
theorem row_draw {d b : Nat} {G : GH} (hb : IsBag G b) (wf : Wf G) : ∃ (z : Str) (G' : GH), xC T (d + 1 + 1) 11 [.ref b] (on G) = .ok (.str z) (on G') ∧ PyData.strOk z = true ∧ Made G G' b := by
  have hiv : ivOf (on G) (.str "PQR") = some (.sq [.str "P", .str "Q", .str "R"]) := rfl
  obtain ⟨acc, G2, e, ⟨⟨l, ha, hm⟩, m2⟩, _⟩ := xL_seqc (T := T) (d := d + 1) (iv := .one (.sq [.str "P", .str "Q", .str "R"])) (tg := .v 1) (c := .cmp .eq (.call 7 [.var 0, .cst (.int 2)] []) (.cst (.int 0))) (e := .var 1) (σ := [some (.ref b), none]) (vs := [1]) [.str "P", .str "Q", .str "R"]
    (fun j acc G1 => (∃ l : List Str, acc = l.map .str ∧ l ∈ rowS j) ∧ Made G G1 b) (by decide) (fun j acc G1 _ => sq_at) (fun j w G1 acc hj _ hI => by
      obtain ⟨⟨l, ha, hm⟩, m1⟩ := hI
      obtain ⟨r, G2, e1, _, _, dr⟩ := draw_ok (T := T) (d := d) (many := 2) f7 m1.bag (by decide) (by decide) m1.wf
      have hw : w = .str (pqr j) := by
        match j, hj with
        | 0, hj => cases hj; rfl
        | 1, hj => cases hj; rfl
        | 2, hj => cases hj; rfl
      refine ⟨[some (.ref b), some w], .bl (decide (r = 0)), decide (r = 0), G2, rfl, ?_, rfl, fun _ => ⟨⟨l, ha, List.mem_append_left _ hm⟩, m1.trans dr.made⟩, fun _ => ⟨w, G2, ?_, ⟨l ++ [pqr j], ?_, List.mem_append_right _ (List.mem_map.mpr ⟨l, hm, rfl⟩)⟩, m1.trans dr.made⟩⟩
      · simp (config := { decide := true }) only [e1, oE_cst, oE_var, oE_bin, oE_cmp, oE_and, oE_or, oE_not, oE_neg, oE_ife, oE_tup, oE_lst, oE_ix, oE_sl, oE_call, oE_mk, oE_met, oE_att, oE_blt, oE_lc, oEs_nil, oEs_cons, oA_nil, oA_e, oA_s, oI_e, oI_rng, oI_zip, oW_eq, oSs_nil, oSs_cons, oS_asg, oS_sub, oS_att, oS_par, oS_exp, oS_ife, oS_for, oS_whl, oS_ret, oS_pass, rb_ok, rt_ok, ft_nx, ft_ret, fl_nx, fl_ret, fo_nx, fo_ret, oo_some, og_some, nox_ok, tru_bl, tru_int, bA_nil, asg_v, c_eq, c_ne, c_in, c_nin, c_lt, c_le, c_gt, c_ge, c_is, c_isn, eq_ss, eq_ii, eq_bb, in_ss, ix_t, ix_r, at_0, at_1, at_2, at_3, at_4, on_get, on_sz, List.getElem?_cons_zero, List.getElem?_cons_succ, List.getElem?_nil, List.set_cons_zero, List.set_cons_succ, Option.map_some, Option.map_none, if_true, if_false, Bool.false_eq_true, decide_true, decide_false, Bool.not_true, Bool.not_false, on_on, List.length_cons, List.length_nil, on_setw, on_pushw, List.nil_append, List.cons_append, seq_new, its_new, lst_new, ix_new, len_new, iv_new, newL_one, newL_two, newL_nil, iv_t, iv_r]
      · simp (config := { decide := true }) only [oE_cst, oE_var, oE_bin, oE_cmp, oE_and, oE_or, oE_not, oE_neg, oE_ife, oE_tup, oE_lst, oE_ix, oE_sl, oE_call, oE_mk, oE_met, oE_att, oE_blt, oE_lc, oEs_nil, oEs_cons, oA_nil, oA_e, oA_s, oI_e, oI_rng, oI_zip, oW_eq, oSs_nil, oSs_cons, oS_asg, oS_sub, oS_att, oS_par, oS_exp, oS_ife, oS_for, oS_whl, oS_ret, oS_pass, rb_ok, rt_ok, ft_nx, ft_ret, fl_nx, fl_ret, fo_nx, fo_ret, oo_some, og_some, nox_ok, tru_bl, tru_int, bA_nil, asg_v, c_eq, c_ne, c_in, c_nin, c_lt, c_le, c_gt, c_ge, c_is, c_isn, eq_ss, eq_ii, eq_bb, in_ss, ix_t, ix_r, at_0, at_1, at_2, at_3, at_4, on_get, on_sz, List.getElem?_cons_zero, List.getElem?_cons_succ, List.getElem?_nil, List.set_cons_zero, List.set_cons_succ, Option.map_some, Option.map_none, if_true, if_false, Bool.false_eq_true, decide_true, decide_false, Bool.not_true, Bool.not_false, on_on, List.length_cons, List.length_nil, on_setw, on_pushw, List.nil_append, List.cons_append, seq_new, its_new, lst_new, ix_new, len_new, iv_new, newL_one, newL_two, newL_nil, iv_t, iv_r]
      · rw [ha, hw, List.map_append]
        rfl) 3 0 [] G rfl (Nat.le_refl _) ⟨⟨[], rfl, List.mem_singleton.mpr rfl⟩, Made.refl hb wf⟩
  have hz := List.all_eq_true.mp rowS_ok l hm
  simp only [Bool.and_eq_true, decide_eq_true_eq] at hz
  obtain ⟨⟨hz1, hz2⟩, hz3⟩ := hz
  have hj := join_l (G := G2.push (.lst acc)) (n := G2.sz) (z := ("" : Str)) (get_push_self _ _) (by rw [ha]; exact allStr_map l) hz2
  have hm : mkOf T (on G) (.str "") 3 = some (.b .join) := mk_str rfl
  have hn : newL (on G2) acc = some (.ref G2.sz, G2.push (.lst acc)) := newL_on (by rw [ha, List.length_map]; exact Nat.le_trans hz3 (by decide))
  refine ⟨Txt.join "" l, G2.push (.lst acc), ?_, hz1, m2.push _⟩
  rw [c11]
  simp (config := { decide := true }) only [b11, hm, hiv, wipeW, e, hn, hj, oE_cst, oE_var, oE_bin, oE_cmp, oE_and, oE_or, oE_not, oE_neg, oE_ife, oE_tup, oE_lst, oE_ix, oE_sl, oE_call, oE_mk, oE_met, oE_att, oE_blt, oE_lc, oEs_nil, oEs_cons, oA_nil, oA_e, oA_s, oI_e, oI_rng, oI_zip, oW_eq, oSs_nil, oSs_cons, oS_asg, oS_sub, oS_att, oS_par, oS_exp, oS_ife, oS_for, oS_whl, oS_ret, oS_pass, rb_ok, rt_ok, ft_nx, ft_ret, fl_nx, fl_ret, fo_nx, fo_ret, oo_some, og_some, nox_ok, tru_bl, tru_int, bA_nil, asg_v, c_eq, c_ne, c_in, c_nin, c_lt, c_le, c_gt, c_ge, c_is, c_isn, eq_ss, eq_ii, eq_bb, in_ss, ix_t, ix_r, at_0, at_1, at_2, at_3, at_4, on_get, on_sz, List.getElem?_cons_zero, List.getElem?_cons_succ, List.getElem?_nil, List.set_cons_zero, List.set_cons_succ, Option.map_some, Option.map_none, if_true, if_false, Bool.false_eq_true, decide_true, decide_false, Bool.not_true, Bool.not_false, on_on, List.length_cons, List.length_nil, on_setw, on_pushw, List.nil_append, List.cons_append, seq_new, its_new, lst_new, ix_new, len_new, iv_new, newL_one, newL_two, newL_nil, iv_t, iv_r]
/-! ### the law's own truth -/
def at_ : Fm → List Str → Bool
  | .tru, _ => true
  | .fls, _ => false
  | .ltr c, rs => inS c (rs.getLastD "")
  | .shown f, rs => (List.range (rs.length - 1)).all fun j => at_ f (rs.take (j + 1))
  | .not f, rs => !at_ f rs
  | .and f g, rs => at_ f rs && at_ g rs
  | .or f g, rs => at_ f rs || at_ g rs
  | .flag _, _ => false
theorem c12 {d : Nat} {G : GH} (a b : W) : xC T (d + 1) 12 [a, b] (on G) = (xSs T d b12 [some a, some b, none, none, none] (on G)).out := by rw [xC_eq (fd := ⟨2, 5, b12⟩) rfl rfl]; rfl
theorem at_m1 {α : Type} {xs : List α} {x : α} : L2.atI (xs ++ [x]) (-1) = some x := by
  unfold L2.atI L2.ixN
  rw [if_neg (by decide), if_pos (by simp; omega)]
  have : (-1 + ((xs ++ [x]).length : Int)).toNat = xs.length := by simp; omega
  rw [this]
  simp
theorem cut_pre {ws : List W} {n : Nat} (h : n ≤ ws.length) : cutW ws none (some (n : Int)) = ws.take n := by
  unfold cutW
  rw [HT.sIx_none, HT.sIx_nat, List.drop_zero, Nat.sub_zero, Nat.min_eq_left h]
theorem bools_map (bs : List Bool) : bools (bs.map .bl) = some bs := by
  induction bs with
  | nil => rfl
  | cons b r ih =>
    show (bools (r.map .bl)).map (b :: ·) = _
    rw [ih]
    rfl
theorem all_map {G : GH} {m : Nat} {bs : List Bool} (h : G.get m = some (.lst (bs.map .bl))) : bfop T .all [.ref m] (on G) = some (.bl (bs.all id), on G) := by
  show (match items (on G) (.ref m) with | some xs => (bools xs).map fun (bs : List Bool) => (W.bl (bs.all id), on G) | none => none) = _
  rw [its_l h]
  show (bools (bs.map .bl)).map _ = _
  rw [bools_map]
  rfl
theorem at_ok {d : Nat} : ∀ (F : Fm) (rs : List Str) (x : Str) (G : GH) (r k : Nat), plain F → rs.length < 1000 → Wf G → G.get r = some (.lst ((rs ++ [x]).map .str)) → dep F + 1 ≤ k →
    ∃ G', xC T (d + k) 12 [wF F, .ref r] (on G) = .ok (.bl (at_ F (rs ++ [x]))) (on G') ∧ Ext G G' ∧ Wf G' := by
  intro F
  induction F with
  | flag n => exact fun _ _ _ _ _ h => h.elim
  | tru =>
    intro rs x G r k _ _ wf hg hk
    obtain ⟨k, rfl⟩ : ∃ j, k = j + 1 := ⟨k - 1, by omega⟩
    rw [← Nat.add_assoc, c12]
    refine ⟨G, ?_, Fr.refl, wf⟩
    have e : inW (on G) (.str "true") (.tup [.str "true", .str "false"]) = some true := in_t rfl (by decide +kernel)
    simp (config := { decide := true }) only [b12, wF, e, oE_cst, oE_var, oE_bin, oE_cmp, oE_and, oE_or, oE_not, oE_neg, oE_ife, oE_tup, oE_lst, oE_ix, oE_sl, oE_call, oE_mk, oE_met, oE_att, oE_blt, oE_lc, oEs_nil, oEs_cons, oA_nil, oA_e, oA_s, oI_e, oI_rng, oI_zip, oW_eq, oSs_nil, oSs_cons, oS_asg, oS_sub, oS_att, oS_par, oS_exp, oS_ife, oS_for, oS_whl, oS_ret, oS_pass, rb_ok, rt_ok, ft_nx, ft_ret, fl_nx, fl_ret, fo_nx, fo_ret, oo_some, og_some, nox_ok, tru_bl, tru_int, bA_nil, asg_v, c_eq, c_ne, c_in, c_nin, c_lt, c_le, c_gt, c_ge, c_is, c_isn, eq_ss, eq_ii, eq_bb, in_ss, ix_t, ix_r, at_0, at_1, at_2, at_3, at_4, on_get, on_sz, List.getElem?_cons_zero, List.getElem?_cons_succ, List.getElem?_nil, List.set_cons_zero, List.set_cons_succ, Option.map_some, Option.map_none, if_true, if_false, Bool.false_eq_true, decide_true, decide_false, Bool.not_true, Bool.not_false, on_on, List.length_cons, List.length_nil, on_setw, on_pushw, List.nil_append, List.cons_append, seq_new, its_new, lst_new, ix_new, len_new, iv_new, newL_one, newL_two, newL_nil, iv_t, iv_r]
    rfl
  | fls =>
    intro rs x G r k _ _ wf hg hk
    obtain ⟨k, rfl⟩ : ∃ j, k = j + 1 := ⟨k - 1, by omega⟩
    rw [← Nat.add_assoc, c12]
    refine ⟨G, ?_, Fr.refl, wf⟩
    have e : inW (on G) (.str "false") (.tup [.str "true", .str "false"]) = some true := in_t rfl (by decide +kernel)
    simp (config := { decide := true }) only [b12, wF, e, oE_cst, oE_var, oE_bin, oE_cmp, oE_and, oE_or, oE_not, oE_neg, oE_ife, oE_tup, oE_lst, oE_ix, oE_sl, oE_call, oE_mk, oE_met, oE_att, oE_blt, oE_lc, oEs_nil, oEs_cons, oA_nil, oA_e, oA_s, oI_e, oI_rng, oI_zip, oW_eq, oSs_nil, oSs_cons, oS_asg, oS_sub, oS_att, oS_par, oS_exp, oS_ife, oS_for, oS_whl, oS_ret, oS_pass, rb_ok, rt_ok, ft_nx, ft_ret, fl_nx, fl_ret, fo_nx, fo_ret, oo_some, og_some, nox_ok, tru_bl, tru_int, bA_nil, asg_v, c_eq, c_ne, c_in, c_nin, c_lt, c_le, c_gt, c_ge, c_is, c_isn, eq_ss, eq_ii, eq_bb, in_ss, ix_t, ix_r, at_0, at_1, at_2, at_3, at_4, on_get, on_sz, List.getElem?_cons_zero, List.getElem?_cons_succ, List.getElem?_nil, List.set_cons_zero, List.set_cons_succ, Option.map_some, Option.map_none, if_true, if_false, Bool.false_eq_true, decide_true, decide_false, Bool.not_true, Bool.not_false, on_on, List.length_cons, List.length_nil, on_setw, on_pushw, List.nil_append, List.cons_append, seq_new, its_new, lst_new, ix_new, len_new, iv_new, newL_one, newL_two, newL_nil, iv_t, iv_r]
    rfl
  | ltr c =>
    intro rs x G r k _ _ wf hg hk
    obtain ⟨k, rfl⟩ : ∃ j, k = j + 1 := ⟨k - 1, by omega⟩
    rw [← Nat.add_assoc, c12]
    refine ⟨G, ?_, Fr.refl, wf⟩
    have e : inW (on G) (.str "letter") (.tup [.str "true", .str "false"]) = some false := in_t rfl (by decide +kernel)
    have hm : ixop (on G) (.ref r) (.int (-1)) = some (.str x) := by
      rw [ix_lst hg, List.map_append]
      exact at_m1
    simp (config := { decide := true }) only [b12, wF, e, hm, oE_cst, oE_var, oE_bin, oE_cmp, oE_and, oE_or, oE_not, oE_neg, oE_ife, oE_tup, oE_lst, oE_ix, oE_sl, oE_call, oE_mk, oE_met, oE_att, oE_blt, oE_lc, oEs_nil, oEs_cons, oA_nil, oA_e, oA_s, oI_e, oI_rng, oI_zip, oW_eq, oSs_nil, oSs_cons, oS_asg, oS_sub, oS_att, oS_par, oS_exp, oS_ife, oS_for, oS_whl, oS_ret, oS_pass, rb_ok, rt_ok, ft_nx, ft_ret, fl_nx, fl_ret, fo_nx, fo_ret, oo_some, og_some, nox_ok, tru_bl, tru_int, bA_nil, asg_v, c_eq, c_ne, c_in, c_nin, c_lt, c_le, c_gt, c_ge, c_is, c_isn, eq_ss, eq_ii, eq_bb, in_ss, ix_t, ix_r, at_0, at_1, at_2, at_3, at_4, on_get, on_sz, List.getElem?_cons_zero, List.getElem?_cons_succ, List.getElem?_nil, List.set_cons_zero, List.set_cons_succ, Option.map_some, Option.map_none, if_true, if_false, Bool.false_eq_true, decide_true, decide_false, Bool.not_true, Bool.not_false, on_on, List.length_cons, List.length_nil, on_setw, on_pushw, List.nil_append, List.cons_append, seq_new, its_new, lst_new, ix_new, len_new, iv_new, newL_one, newL_two, newL_nil, iv_t, iv_r]
    simp [at_, inS]
  | not f ih =>
    intro rs x G r k pl hl wf hg hk
    obtain ⟨k, rfl⟩ : ∃ j, k = j + 1 := ⟨k - 1, by omega⟩
    rw [← Nat.add_assoc, c12]
    obtain ⟨G1, e1, x1, w1⟩ := ih rs x G r k pl hl wf hg (by unfold dep at hk; omega)
    have e : inW (on G) (.str "not") (.tup [.str "true", .str "false"]) = some false := in_t rfl (by decide +kernel)
    refine ⟨G1, ?_, x1, w1⟩
    simp (config := { decide := true }) only [b12, wF, e, e1, oE_cst, oE_var, oE_bin, oE_cmp, oE_and, oE_or, oE_not, oE_neg, oE_ife, oE_tup, oE_lst, oE_ix, oE_sl, oE_call, oE_mk, oE_met, oE_att, oE_blt, oE_lc, oEs_nil, oEs_cons, oA_nil, oA_e, oA_s, oI_e, oI_rng, oI_zip, oW_eq, oSs_nil, oSs_cons, oS_asg, oS_sub, oS_att, oS_par, oS_exp, oS_ife, oS_for, oS_whl, oS_ret, oS_pass, rb_ok, rt_ok, ft_nx, ft_ret, fl_nx, fl_ret, fo_nx, fo_ret, oo_some, og_some, nox_ok, tru_bl, tru_int, bA_nil, asg_v, c_eq, c_ne, c_in, c_nin, c_lt, c_le, c_gt, c_ge, c_is, c_isn, eq_ss, eq_ii, eq_bb, in_ss, ix_t, ix_r, at_0, at_1, at_2, at_3, at_4, on_get, on_sz, List.getElem?_cons_zero, List.getElem?_cons_succ, List.getElem?_nil, List.set_cons_zero, List.set_cons_succ, Option.map_some, Option.map_none, if_true, if_false, Bool.false_eq_true, decide_true, decide_false, Bool.not_true, Bool.not_false, on_on, List.length_cons, List.length_nil, on_setw, on_pushw, List.nil_append, List.cons_append, seq_new, its_new, lst_new, ix_new, len_new, iv_new, newL_one, newL_two, newL_nil, iv_t, iv_r]
    rfl
  | and f g ihf ihg =>
    intro rs x G r k pl hl wf hg hk
    obtain ⟨k, rfl⟩ : ∃ j, k = j + 1 := ⟨k - 1, by omega⟩
    rw [← Nat.add_assoc, c12]
    obtain ⟨G1, e1, x1, w1⟩ := ihf rs x G r k pl.1 hl wf hg (by unfold dep at hk; omega)
    obtain ⟨G2, e2, x2, w2⟩ := ihg rs x G1 r k pl.2 hl w1 (x1.get hg fun z => z) (by unfold dep at hk; omega)
    have e : inW (on G) (.str "and") (.tup [.str "true", .str "false"]) = some false := in_t rfl (by decide +kernel)
    cases q : at_ f (rs ++ [x]) with
    | true =>
      rw [q] at e1
      refine ⟨G2, ?_, x1.trans x2, w2⟩
      simp (config := { decide := true }) only [b12, wF, e, e1, e2, oE_cst, oE_var, oE_bin, oE_cmp, oE_and, oE_or, oE_not, oE_neg, oE_ife, oE_tup, oE_lst, oE_ix, oE_sl, oE_call, oE_mk, oE_met, oE_att, oE_blt, oE_lc, oEs_nil, oEs_cons, oA_nil, oA_e, oA_s, oI_e, oI_rng, oI_zip, oW_eq, oSs_nil, oSs_cons, oS_asg, oS_sub, oS_att, oS_par, oS_exp, oS_ife, oS_for, oS_whl, oS_ret, oS_pass, rb_ok, rt_ok, ft_nx, ft_ret, fl_nx, fl_ret, fo_nx, fo_ret, oo_some, og_some, nox_ok, tru_bl, tru_int, bA_nil, asg_v, c_eq, c_ne, c_in, c_nin, c_lt, c_le, c_gt, c_ge, c_is, c_isn, eq_ss, eq_ii, eq_bb, in_ss, ix_t, ix_r, at_0, at_1, at_2, at_3, at_4, on_get, on_sz, List.getElem?_cons_zero, List.getElem?_cons_succ, List.getElem?_nil, List.set_cons_zero, List.set_cons_succ, Option.map_some, Option.map_none, if_true, if_false, Bool.false_eq_true, decide_true, decide_false, Bool.not_true, Bool.not_false, on_on, List.length_cons, List.length_nil, on_setw, on_pushw, List.nil_append, List.cons_append, seq_new, its_new, lst_new, ix_new, len_new, iv_new, newL_one, newL_two, newL_nil, iv_t, iv_r]
      simp [at_, q]
    | false =>
      rw [q] at e1
      refine ⟨G1, ?_, x1, w1⟩
      simp (config := { decide := true }) only [b12, wF, e, e1, e2, oE_cst, oE_var, oE_bin, oE_cmp, oE_and, oE_or, oE_not, oE_neg, oE_ife, oE_tup, oE_lst, oE_ix, oE_sl, oE_call, oE_mk, oE_met, oE_att, oE_blt, oE_lc, oEs_nil, oEs_cons, oA_nil, oA_e, oA_s, oI_e, oI_rng, oI_zip, oW_eq, oSs_nil, oSs_cons, oS_asg, oS_sub, oS_att, oS_par, oS_exp, oS_ife, oS_for, oS_whl, oS_ret, oS_pass, rb_ok, rt_ok, ft_nx, ft_ret, fl_nx, fl_ret, fo_nx, fo_ret, oo_some, og_some, nox_ok, tru_bl, tru_int, bA_nil, asg_v, c_eq, c_ne, c_in, c_nin, c_lt, c_le, c_gt, c_ge, c_is, c_isn, eq_ss, eq_ii, eq_bb, in_ss, ix_t, ix_r, at_0, at_1, at_2, at_3, at_4, on_get, on_sz, List.getElem?_cons_zero, List.getElem?_cons_succ, List.getElem?_nil, List.set_cons_zero, List.set_cons_succ, Option.map_some, Option.map_none, if_true, if_false, Bool.false_eq_true, decide_true, decide_false, Bool.not_true, Bool.not_false, on_on, List.length_cons, List.length_nil, on_setw, on_pushw, List.nil_append, List.cons_append, seq_new, its_new, lst_new, ix_new, len_new, iv_new, newL_one, newL_two, newL_nil, iv_t, iv_r]
      simp [at_, q]
  | or f g ihf ihg =>
    intro rs x G r k pl hl wf hg hk
    obtain ⟨k, rfl⟩ : ∃ j, k = j + 1 := ⟨k - 1, by omega⟩
    rw [← Nat.add_assoc, c12]
    obtain ⟨G1, e1, x1, w1⟩ := ihf rs x G r k pl.1 hl wf hg (by unfold dep at hk; omega)
    obtain ⟨G2, e2, x2, w2⟩ := ihg rs x G1 r k pl.2 hl w1 (x1.get hg fun z => z) (by unfold dep at hk; omega)
    have e : inW (on G) (.str "or") (.tup [.str "true", .str "false"]) = some false := in_t rfl (by decide +kernel)
    cases q : at_ f (rs ++ [x]) with
    | true =>
      rw [q] at e1
      refine ⟨G1, ?_, x1, w1⟩
      simp (config := { decide := true }) only [b12, wF, e, e1, e2, oE_cst, oE_var, oE_bin, oE_cmp, oE_and, oE_or, oE_not, oE_neg, oE_ife, oE_tup, oE_lst, oE_ix, oE_sl, oE_call, oE_mk, oE_met, oE_att, oE_blt, oE_lc, oEs_nil, oEs_cons, oA_nil, oA_e, oA_s, oI_e, oI_rng, oI_zip, oW_eq, oSs_nil, oSs_cons, oS_asg, oS_sub, oS_att, oS_par, oS_exp, oS_ife, oS_for, oS_whl, oS_ret, oS_pass, rb_ok, rt_ok, ft_nx, ft_ret, fl_nx, fl_ret, fo_nx, fo_ret, oo_some, og_some, nox_ok, tru_bl, tru_int, bA_nil, asg_v, c_eq, c_ne, c_in, c_nin, c_lt, c_le, c_gt, c_ge, c_is, c_isn, eq_ss, eq_ii, eq_bb, in_ss, ix_t, ix_r, at_0, at_1, at_2, at_3, at_4, on_get, on_sz, List.getElem?_cons_zero, List.getElem?_cons_succ, List.getElem?_nil, List.set_cons_zero, List.set_cons_succ, Option.map_some, Option.map_none, if_true, if_false, Bool.false_eq_true, decide_true, decide_false, Bool.not_true, Bool.not_false, on_on, List.length_cons, List.length_nil, on_setw, on_pushw, List.nil_append, List.cons_append, seq_new, its_new, lst_new, ix_new, len_new, iv_new, newL_one, newL_two, newL_nil, iv_t, iv_r]
      simp [at_, q]
    | false =>
      rw [q] at e1
      refine ⟨G2, ?_, x1.trans x2, w2⟩
      simp (config := { decide := true }) only [b12, wF, e, e1, e2, oE_cst, oE_var, oE_bin, oE_cmp, oE_and, oE_or, oE_not, oE_neg, oE_ife, oE_tup, oE_lst, oE_ix, oE_sl, oE_call, oE_mk, oE_met, oE_att, oE_blt, oE_lc, oEs_nil, oEs_cons, oA_nil, oA_e, oA_s, oI_e, oI_rng, oI_zip, oW_eq, oSs_nil, oSs_cons, oS_asg, oS_sub, oS_att, oS_par, oS_exp, oS_ife, oS_for, oS_whl, oS_ret, oS_pass, rb_ok, rt_ok, ft_nx, ft_ret, fl_nx, fl_ret, fo_nx, fo_ret, oo_some, og_some, nox_ok, tru_bl, tru_int, bA_nil, asg_v, c_eq, c_ne, c_in, c_nin, c_lt, c_le, c_gt, c_ge, c_is, c_isn, eq_ss, eq_ii, eq_bb, in_ss, ix_t, ix_r, at_0, at_1, at_2, at_3, at_4, on_get, on_sz, List.getElem?_cons_zero, List.getElem?_cons_succ, List.getElem?_nil, List.set_cons_zero, List.set_cons_succ, Option.map_some, Option.map_none, if_true, if_false, Bool.false_eq_true, decide_true, decide_false, Bool.not_true, Bool.not_false, on_on, List.length_cons, List.length_nil, on_setw, on_pushw, List.nil_append, List.cons_append, seq_new, its_new, lst_new, ix_new, len_new, iv_new, newL_one, newL_two, newL_nil, iv_t, iv_r]
      simp [at_, q]
  | shown f ih =>
    intro rs x G r k pl hl wf hg hk
    obtain ⟨k, rfl⟩ : ∃ j, k = j + 1 := ⟨k - 1, by omega⟩
    rw [← Nat.add_assoc, c12]
    have e : inW (on G) (.str "shown") (.tup [.str "true", .str "false"]) = some false := in_t rfl (by decide +kernel)
    have hlen := len_l (T := T) hg
    have hn : (((rs ++ [x]).map W.str).length : Int) = ((rs.length + 1 : Nat) : Int) := by simp
    rw [hn] at hlen
    have hr : rngOf [.int 1, .int ((rs.length + 1 : Nat) : Int)] = some (rngW 1 rs.length) := rng_2 (a := 1) (n := rs.length + 1) (by decide) (by omega)
    let bs : Nat → List Bool := fun j => (List.range j).map fun i => at_ f ((rs ++ [x]).take (i + 1))
    obtain ⟨acc, G2, e2, ⟨ha, x2, w2⟩, _⟩ := xL_seq (T := T) (d := d + k) (iv := .one (.sq (rngW 1 rs.length))) (tg := .v 4) (e := .call 12 [.ix (.var 0) (.cst (.int 1)), .sl (.var 1) (.cst .non) (.var 4)] []) (σ := [some (.tup [.str "shown", wF f]), some (.ref r), some (.str "shown"), none, none]) (vs := [4]) (rngW 1 rs.length)
      (fun j acc G1 => acc = (bs j).map .bl ∧ Ext G G1 ∧ Wf G1) (by rw [rngW_len]; omega) (fun j acc G1 _ => sq_at) (fun j w G1 acc hj _ hI => by
        obtain ⟨ha, x1, w1⟩ := hI
        rw [rngW_get] at hj
        split at hj
        · rename_i hlt
          cases hj
          have hz : (1 : Int) + (j : Nat) = ((j + 1 : Nat) : Int) := by omega
          have g1 : G1.get r = some (.lst ((rs ++ [x]).map .str)) := x1.get hg fun z => z
          have hcut : cutW ((rs ++ [x]).map W.str) none (some ((j + 1 : Nat) : Int)) = ((rs.take j) ++ [rs[j]]).map .str := by
            rw [cut_pre (by simp; omega), ← List.map_take, List.take_append_of_le_length (by omega), List.take_add_one, List.getElem?_eq_getElem hlt]
            rfl
          have hs := sl_l (l := none) (h := some ((j + 1 : Nat) : Int)) g1 (by
            rw [hcut, List.length_map, List.length_append, List.length_take]
            have h1 : min j rs.length + 1 ≤ 1000 := by omega
            exact Nat.le_trans h1 (by decide))
          rw [hcut] at hs
          obtain ⟨G2, e3, x3, w3⟩ := ih (rs.take j) rs[j] _ G1.sz k pl (by rw [List.length_take]; omega) (w1.push (.lst (((rs.take j) ++ [rs[j]]).map .str))) (get_push_self _ _) (by unfold dep at hk; omega)
          have ht : (rs.take j) ++ [rs[j]] = (rs ++ [x]).take (j + 1) := by
            rw [List.take_append_of_le_length (by omega), List.take_add_one, List.getElem?_eq_getElem hlt]
            rfl
          refine ⟨[some (.tup [.str "shown", wF f]), some (.ref r), some (.str "shown"), none, some (.int ((j + 1 : Nat) : Int))], .bl (at_ f (rs.take j ++ [rs[j]])), G2, by rw [hz]; rfl, ?_, ?_, (x1.trans (Fr.push w1 _)).trans x3, w3⟩
          · simp (config := { decide := true }) only [wF, optI, hs, e3, oE_cst, oE_var, oE_bin, oE_cmp, oE_and, oE_or, oE_not, oE_neg, oE_ife, oE_tup, oE_lst, oE_ix, oE_sl, oE_call, oE_mk, oE_met, oE_att, oE_blt, oE_lc, oEs_nil, oEs_cons, oA_nil, oA_e, oA_s, oI_e, oI_rng, oI_zip, oW_eq, oSs_nil, oSs_cons, oS_asg, oS_sub, oS_att, oS_par, oS_exp, oS_ife, oS_for, oS_whl, oS_ret, oS_pass, rb_ok, rt_ok, ft_nx, ft_ret, fl_nx, fl_ret, fo_nx, fo_ret, oo_some, og_some, nox_ok, tru_bl, tru_int, bA_nil, asg_v, c_eq, c_ne, c_in, c_nin, c_lt, c_le, c_gt, c_ge, c_is, c_isn, eq_ss, eq_ii, eq_bb, in_ss, ix_t, ix_r, at_0, at_1, at_2, at_3, at_4, on_get, on_sz, List.getElem?_cons_zero, List.getElem?_cons_succ, List.getElem?_nil, List.set_cons_zero, List.set_cons_succ, Option.map_some, Option.map_none, if_true, if_false, Bool.false_eq_true, decide_true, decide_false, Bool.not_true, Bool.not_false, on_on, List.length_cons, List.length_nil, on_setw, on_pushw, List.nil_append, List.cons_append, seq_new, its_new, lst_new, ix_new, len_new, iv_new, newL_one, newL_two, newL_nil, iv_t, iv_r]
          · rw [ha, ht]
            show _ = ((List.range (j + 1)).map _).map _
            rw [List.range_succ, List.map_append, List.map_append]
            rfl
        · cases hj) rs.length 0 [] G (by rw [rngW_len]; omega) rfl ⟨rfl, Fr.refl, wf⟩
    rw [rngW_len] at ha
    have hnl : newL (on G2) acc = some (.ref G2.sz, G2.push (.lst acc)) := newL_on (by rw [ha, List.length_map, List.length_map, List.length_range]; exact Nat.le_trans (Nat.le_of_lt hl) (by decide))
    have hall := all_map (G := G2.push (.lst acc)) (m := G2.sz) (bs := bs rs.length) (by rw [get_push_self, ha])
    refine ⟨G2.push (.lst acc), ?_, x2.trans (Fr.push w2 _), w2.push _⟩
    have hat : at_ (.shown f) (rs ++ [x]) = (bs rs.length).all id := by
      show (List.range ((rs ++ [x]).length - 1)).all _ = ((List.range rs.length).map _).all id
      rw [List.all_map, List.length_append, List.length_singleton, Nat.add_sub_cancel]
      rfl
    rw [hat]
    simp (config := { decide := true }) only [b12, wF, e, hlen, hr, wipeW, e2, hnl, hall, oE_cst, oE_var, oE_bin, oE_cmp, oE_and, oE_or, oE_not, oE_neg, oE_ife, oE_tup, oE_lst, oE_ix, oE_sl, oE_call, oE_mk, oE_met, oE_att, oE_blt, oE_lc, oEs_nil, oEs_cons, oA_nil, oA_e, oA_s, oI_e, oI_rng, oI_zip, oW_eq, oSs_nil, oSs_cons, oS_asg, oS_sub, oS_att, oS_par, oS_exp, oS_ife, oS_for, oS_whl, oS_ret, oS_pass, rb_ok, rt_ok, ft_nx, ft_ret, fl_nx, fl_ret, fo_nx, fo_ret, oo_some, og_some, nox_ok, tru_bl, tru_int, bA_nil, asg_v, c_eq, c_ne, c_in, c_nin, c_lt, c_le, c_gt, c_ge, c_is, c_isn, eq_ss, eq_ii, eq_bb, in_ss, ix_t, ix_r, at_0, at_1, at_2, at_3, at_4, on_get, on_sz, List.getElem?_cons_zero, List.getElem?_cons_succ, List.getElem?_nil, List.set_cons_zero, List.set_cons_succ, Option.map_some, Option.map_none, if_true, if_false, Bool.false_eq_true, decide_true, decide_false, Bool.not_true, Bool.not_false, on_on, List.length_cons, List.length_nil, on_setw, on_pushw, List.nil_append, List.cons_append, seq_new, its_new, lst_new, ix_new, len_new, iv_new, newL_one, newL_two, newL_nil, iv_t, iv_r]
end K19

set_option maxHeartbeats 4000000
/-! K19_C: what truths answers is the law's own truth. -/
namespace K19
open PySem PM
theorem numF_pre : ∀ (g : Fm) (bs : List Fm) (j : Nat), j < bs.length → (numF g bs).2[j]? = bs[j]?
  | .shown g, bs, j, h => by
    show ((numF g (bs ++ [.tru])).2.set bs.length _)[j]? = _
    rw [List.getElem?_set_ne (by omega)]
    exact (numF_pre g (bs ++ [Fm.tru]) j (by rw [List.length_append]; omega)).trans (List.getElem?_append_left h)
  | .not g, bs, j, h => numF_pre g bs j h
  | .and f g, bs, j, h => (numF_pre g (numF f bs).2 j (by rw [numF_len]; omega)).trans (numF_pre f bs j h)
  | .or f g, bs, j, h => (numF_pre g (numF f bs).2 j (by rw [numF_len]; omega)).trans (numF_pre f bs j h)
  | .tru, _, _, _ => rfl
  | .fls, _, _, _ => rfl
  | .ltr _, _, _, _ => rfl
  | .flag _, _, _, _ => rfl
/-- the flags behind a row -/
def stepF (B : List Fm) (fs : List Int) (row : Str) : List Int := (List.range B.length).map fun j => if fs.getD j 0 == 1 && sem fs row (B.getD j .tru) then 1 else 0
def flF (B : List Fm) (rows : Nat → Str) : Nat → List Int
  | 0 => List.replicate B.length 1
  | i + 1 => stepF B (flF B rows i) (rows i)
theorem flF_at (B : List Fm) (rows : Nat → Str) (j : Nat) (hj : j < B.length) : ∀ i, ((flF B rows i).getD j 0 == 1) = (List.range i).all fun k => sem (flF B rows k) (rows k) (B.getD j .tru)
  | 0 => by
    show ((List.replicate B.length (1 : Int)).getD j 0 == 1) = true
    rw [List.getD_eq_getElem?_getD, List.getElem?_replicate, if_pos hj]
    rfl
  | i + 1 => by
    have ih := flF_at B rows j hj i
    rw [List.range_succ, List.all_append, ← ih]
    show ((stepF B (flF B rows i) (rows i)).getD j 0 == 1) = _
    unfold stepF
    rw [List.getD_eq_getElem?_getD, List.getElem?_map, List.getElem?_range hj]
    show ((if ((flF B rows i).getD j 0 == 1 && sem (flF B rows i) (rows i) (B.getD j .tru)) = true then (1 : Int) else 0) == 1) = _
    cases q : ((flF B rows i).getD j 0 == 1 && sem (flF B rows i) (rows i) (B.getD j .tru)) with
    | true =>
      simp at q ⊢
      exact ⟨q.1, q.2⟩
    | false =>
      simp at q ⊢
      exact q
theorem sem_at (B : List Fm) (rs : List Str) : ∀ (g : Fm) (bs : List Fm), plain g → (∀ j, bs.length ≤ j → j < (numF g bs).2.length → B[j]? = (numF g bs).2[j]?) → ∀ i, i < rs.length →
    sem (flF B (fun k => rs.getD k "") i) (rs.getD i "") (numF g bs).1 = at_ g (rs.take (i + 1))
  | .tru, _, _, _, _, _ => rfl
  | .fls, _, _, _, _, _ => rfl
  | .flag _, _, h, _, _, _ => h.elim
  | .ltr c, _, _, _, i, hi => by
    show inS c (rs.getD i "") = inS c ((rs.take (i + 1)).getLastD "")
    have e1 : rs.take (i + 1) = rs.take i ++ [rs[i]] := by rw [List.take_add_one, List.getElem?_eq_getElem hi]; rfl
    rw [e1, List.getD_eq_getElem?_getD, List.getElem?_eq_getElem hi, List.getLastD_eq_getLast?, List.getLast?_append, List.getLast?_singleton]
    rfl
  | .not g, bs, pl, hB, i, hi => by
    show (!sem _ _ (numF g bs).1) = !at_ g (rs.take (i + 1))
    rw [sem_at B rs g bs pl hB i hi]
  | .and f g, bs, pl, hB, i, hi => by
    show (sem _ _ (numF f bs).1 && sem _ _ (numF g (numF f bs).2).1) = (at_ f (rs.take (i + 1)) && at_ g (rs.take (i + 1)))
    have hl := numF_len g (numF f bs).2
    rw [sem_at B rs f bs pl.1 (fun j h1 h2 => (hB j h1 (by show j < (numF g (numF f bs).2).2.length; omega)).trans (numF_pre g _ j h2)) i hi,
      sem_at B rs g (numF f bs).2 pl.2 (fun j h1 h2 => hB j (by rw [numF_len] at h1; omega) h2) i hi]
  | .or f g, bs, pl, hB, i, hi => by
    show (sem _ _ (numF f bs).1 || sem _ _ (numF g (numF f bs).2).1) = (at_ f (rs.take (i + 1)) || at_ g (rs.take (i + 1)))
    have hl := numF_len g (numF f bs).2
    rw [sem_at B rs f bs pl.1 (fun j h1 h2 => (hB j h1 (by show j < (numF g (numF f bs).2).2.length; omega)).trans (numF_pre g _ j h2)) i hi,
      sem_at B rs g (numF f bs).2 pl.2 (fun j h1 h2 => hB j (by rw [numF_len] at h1; omega) h2) i hi]
  | .shown g, bs, pl, hB, i, hi => by
    have hl := numF_len g (bs ++ [.tru])
    rw [List.length_append, List.length_singleton] at hl
    have hlen : (numF (.shown g) bs).2.length = (numF g (bs ++ [.tru])).2.length := List.length_set
    have hL : bs.length < (numF g (bs ++ [.tru])).2.length := by omega
    have hBL : B[bs.length]? = some (numF g (bs ++ [.tru])).1 := by
      rw [hB bs.length (Nat.le_refl _) (by rw [hlen]; exact hL)]
      show ((numF g (bs ++ [.tru])).2.set bs.length _)[bs.length]? = _
      rw [List.getElem?_set_self hL]
    have hlt : bs.length < B.length := (List.getElem?_eq_some_iff.mp hBL).1
    have ih := sem_at B rs g (bs ++ [.tru]) pl (fun j h1 h2 => by
      rw [List.length_append, List.length_singleton] at h1
      rw [hB j (by omega) (by rw [hlen]; exact h2)]
      show ((numF g (bs ++ [.tru])).2.set bs.length _)[j]? = _
      rw [List.getElem?_set_ne (by omega)])
    show ((flF B (fun k => rs.getD k "") i).getD bs.length 0 == 1) = (List.range ((rs.take (i + 1)).length - 1)).all fun j => at_ g ((rs.take (i + 1)).take (j + 1))
    rw [flF_at B _ bs.length hlt i]
    have e1 : (rs.take (i + 1)).length - 1 = i := by rw [List.length_take]; omega
    rw [e1]
    have hg : B.getD bs.length .tru = (numF g (bs ++ [.tru])).1 := by rw [List.getD_eq_getElem?_getD, hBL]; rfl
    rw [hg]
    refine Bool.eq_iff_iff.mpr ?_
    rw [List.all_eq_true, List.all_eq_true]
    have key : ∀ k, k < i → (sem (flF B (fun k => rs.getD k "") k) (rs.getD k "") (numF g (bs ++ [.tru])).1 = true ↔ at_ g ((rs.take (i + 1)).take (k + 1)) = true) := fun k hk => by
      rw [ih k (by omega), List.take_take, Nat.min_eq_left (by omega)]
    exact ⟨fun h k hk => (key k (List.mem_range.mp hk)).mp (h k hk), fun h k hk => (key k (List.mem_range.mp hk)).mpr (h k hk)⟩
end K19

set_option maxHeartbeats 4000000
/-! K19_D: fallen and truths walked. -/
namespace K19
open PySem PM
theorem c2 {d : Nat} {G : GH} (a b c : W) : xC T (d + 1) 2 [a, b, c] (on G) = (xSs T d b2 [some a, some b, some c, none, none] (on G)).out := by rw [xC_eq (fd := ⟨3, 5, b2⟩) rfl rfl]; rfl
theorem c3 {d : Nat} {G : GH} (a b : W) : xC T (d + 1) 3 [a, b] (on G) = (xSs T d b3 [some a, some b] (on G)).out := by rw [xC_eq (fd := ⟨2, 2, b3⟩) rfl rfl]; rfl
theorem c5 {d : Nat} {G : GH} (a b : W) : xC T (d + 1) 5 [a, b] (on G) = (xSs T d b5 [some a, some b, none, none, none, none, none, none] (on G)).out := by rw [xC_eq (fd := ⟨2, 8, b5⟩) rfl rfl]; rfl
/-- Letters(row) -/
theorem mk_ok {d i : Nat} {σ : Sg} {G : GH} {row : Str} (h : σ[i]? = some (some (.str row))) (wf : Wf G) : ∃ G', xE T (d + 1 + 1) (.mk 0 [.var i] []) σ (on G) = .ok (.ref G.sz) (on G') ∧ G'.get G.sz = some (.ins 0 [(2, .str row)]) ∧ Ext G G' ∧ Wf G' := by
  have f0 : T.ini.lookup 0 = some 3 := rfl
  have f1 : T.fl.contains (0, 2) = true := rfl
  have hs : d + 1 + 1 - 1 = d + 1 := rfl
  have hg : (G.push (.ins 0 [])).get G.sz = some (.ins 0 []) := get_push_self _ _
  have hx : Ext G ((G.push (.ins 0 [])).set G.sz (.ins 0 [(2, .str row)])) := ⟨Nat.le_succ _, fun a o e _ => by
    have : a < G.sz := wf a o e
    rw [GH.get_set, if_neg (by omega), GH.get_push, if_neg (by omega)]
    exact e⟩
  refine ⟨_, ?_, get_set_self _ _ _, hx, (wf.push _).set (Nat.lt_succ_self _) _⟩
  simp (config := { decide := true }) only [f0, h, hs, c3, b3, hg, f1, oE_cst, oE_var, oE_bin, oE_cmp, oE_and, oE_or, oE_not, oE_neg, oE_ife, oE_tup, oE_lst, oE_ix, oE_sl, oE_call, oE_mk, oE_met, oE_att, oE_blt, oE_lc, oEs_nil, oEs_cons, oA_nil, oA_e, oA_s, oI_e, oI_rng, oI_zip, oW_eq, oSs_nil, oSs_cons, oS_asg, oS_sub, oS_att, oS_par, oS_exp, oS_ife, oS_for, oS_whl, oS_ret, oS_pass, rb_ok, rt_ok, ft_nx, ft_ret, fl_nx, fl_ret, fo_nx, fo_ret, oo_some, og_some, nox_ok, tru_bl, tru_int, bA_nil, asg_v, c_eq, c_ne, c_in, c_nin, c_lt, c_le, c_gt, c_ge, c_is, c_isn, eq_ss, eq_ii, eq_bb, in_ss, ix_t, ix_r, at_0, at_1, at_2, at_3, at_4, on_get, on_sz, List.getElem?_cons_zero, List.getElem?_cons_succ, List.getElem?_nil, List.set_cons_zero, List.set_cons_succ, Option.map_some, Option.map_none, if_true, if_false, Bool.false_eq_true, decide_true, decide_false, Bool.not_true, Bool.not_false, on_on, List.length_cons, List.length_nil, on_setw, on_pushw, List.nil_append, List.cons_append, seq_new, its_new, lst_new, ix_new, len_new, iv_new, newL_one, newL_two, newL_nil, iv_t, iv_r]
  rfl
theorem zip_at {r : Nat} {G : GH} {us vs : List W} (hr : G.get r = some (.lst vs)) (hl : us.length = vs.length) {j : Nat} (hj : j ≤ vs.length) : IV.at (on G) (.zip (.sq us) (.live r)) j = some (if h : j < vs.length then some (.tup [us[j]'(hl ▸ h), vs[j]]) else none) := by
  have h1 : I1.at (on G) (.sq us) j = some us[j]? := rfl
  have h2 : I1.at (on G) (.live r) j = some vs[j]? := lv_at hr
  have h3 : I1.len (on G) (.sq us) = some us.length := rfl
  have h4 : I1.len (on G) (.live r) = some vs.length := by
    show (match (on G).get r with | some (.lst ws) => some ws.length | _ => none) = _
    rw [on_get, hr]
  show (match I1.at (on G) (.sq us) j, I1.at (on G) (.live r) j with
    | some (some u), some (some v) => some (some (W.tup [u, v]))
    | some _, some _ => match I1.len (on G) (.sq us), I1.len (on G) (.live r) with
      | some n, some m => if decide (j ≤ n) && decide (j ≤ m) then some none else none
      | _, _ => none
    | _, _ => none) = _
  rw [h1, h2]
  by_cases h : j < vs.length
  · rw [List.getElem?_eq_getElem h, List.getElem?_eq_getElem (hl ▸ h), dif_pos h]
  · have e1 : vs[j]? = none := List.getElem?_eq_none (by omega)
    have e2 : us[j]? = none := List.getElem?_eq_none (by omega)
    rw [e1, e2, h3, h4, dif_neg h]
    show (if (decide (j ≤ us.length) && decide (j ≤ vs.length)) = true then _ else _) = _
    rw [if_pos (by rw [decide_eq_true (hl ▸ hj), decide_eq_true hj]; rfl)]
theorem fallen_ok {d v r : Nat} {G : GH} {row : Str} {fs : List Int} {B : List Fm} {k : Nat} (hv : G.get v = some (.ins 0 [(2, .str row)])) (hr : G.get r = some (.lst (B.map wF))) (hl : fs.length = B.length) (hn : ∀ g ∈ B, num fs.length g) (hd : ∀ g ∈ B, dep g + 2 ≤ k) (hB : B.length ≤ 1000) (wf : Wf G) :
    ∃ G', xC T (d + k + 1) 2 [.ref r, .tup (fs.map .int), .ref v] (on G) = .ok (.tup ((stepF B fs row).map .int)) (on G') ∧ Ext G G' ∧ Wf G' := by
  let l : List W := (List.range B.length).map fun j => W.tup [.int (fs.getD j 0), wF (B.getD j .tru)]
  let o : Nat → Int := fun j => if (fs.getD j 0 == 1 && sem fs row (B.getD j .tru)) = true then 1 else 0
  have hll : l.length = B.length := by show ((List.range B.length).map _).length = _; rw [List.length_map, List.length_range]
  have hlj : ∀ j, j < B.length → l[j]? = some (W.tup [.int (fs.getD j 0), wF (B.getD j .tru)]) := fun j hj => by
    show ((List.range B.length).map _)[j]? = _
    rw [List.getElem?_map, List.getElem?_range hj]
    rfl
  have hiv : ∀ j, j ≤ B.length → IV.at (on G) (.zip (.sq (fs.map .int)) (.live r)) j = some l[j]? := by
    intro j hj
    rw [zip_at hr (by rw [List.length_map, List.length_map, hl]) (by rw [List.length_map]; exact hj)]
    by_cases h : j < B.length
    · rw [hlj j h, dif_pos (by rw [List.length_map]; exact h), List.getElem_map, List.getElem_map, List.getD_eq_getElem?_getD, List.getD_eq_getElem?_getD, List.getElem?_eq_getElem h, List.getElem?_eq_getElem (hl ▸ h)]
      rfl
    · rw [dif_neg (by rw [List.length_map]; exact h), List.getElem?_eq_none (by omega)]
  obtain ⟨acc, G2, e2, ⟨ha, hG, _⟩, _⟩ := xL_seq (T := T) (d := d + k) (iv := .zip (.sq (fs.map .int)) (.live r)) (tg := .t [.v 3, .v 4]) (e := .blt .int [.and (.cmp .eq (.var 3) (.cst (.int 1))) (.call 1 [.var 4, .var 1, .var 2] [])]) (σ := [some (.ref r), some (.tup (fs.map .int)), some (.ref v), none, none]) (vs := [3, 4]) l
    (fun j acc G1 => acc = ((List.range j).map o).map .int ∧ G1 = G ∧ j ≤ B.length) (by omega) (fun j acc G1 hI => by rw [hI.2.1]; exact hiv j hI.2.2) (fun j w G1 acc hj _ hI => by
      have h : j < B.length := by
        have := (List.getElem?_eq_some_iff.mp hj).1
        omega
      rw [hlj j h] at hj
      cases hj
      have hG := hI.2.1
      have hm : B.getD j .tru ∈ B := by
        rw [List.getD_eq_getElem?_getD, List.getElem?_eq_getElem h]
        exact List.getElem_mem h
      have e1 := is_true_ok (d := d) hv (B.getD j .tru) (hn _ hm) k (hd _ hm)
      refine ⟨[some (.ref r), some (.tup (fs.map .int)), some (.ref v), some (.int (fs.getD j 0)), some (wF (B.getD j .tru))], .int (o j), G, rfl, ?_, ?_, rfl, h⟩
      · rw [hG]
        show _ = R.ok (W.int (if (fs.getD j 0 == 1 && sem fs row (B.getD j .tru)) = true then 1 else 0)) (on G)
        have hq : (fs.getD j 0 == 1) = decide (fs.getD j 0 = 1) := rfl
        rw [hq]
        cases q : decide (fs.getD j 0 = 1) with
        | true =>
          simp (config := { decide := true }) only [q, e1, int_b, Bool.true_and, oE_cst, oE_var, oE_bin, oE_cmp, oE_and, oE_or, oE_not, oE_neg, oE_ife, oE_tup, oE_lst, oE_ix, oE_sl, oE_call, oE_mk, oE_met, oE_att, oE_blt, oE_lc, oEs_nil, oEs_cons, oA_nil, oA_e, oA_s, oI_e, oI_rng, oI_zip, oW_eq, oSs_nil, oSs_cons, oS_asg, oS_sub, oS_att, oS_par, oS_exp, oS_ife, oS_for, oS_whl, oS_ret, oS_pass, rb_ok, rt_ok, ft_nx, ft_ret, fl_nx, fl_ret, fo_nx, fo_ret, oo_some, og_some, nox_ok, tru_bl, tru_int, bA_nil, asg_v, c_eq, c_ne, c_in, c_nin, c_lt, c_le, c_gt, c_ge, c_is, c_isn, eq_ss, eq_ii, eq_bb, in_ss, ix_t, ix_r, at_0, at_1, at_2, at_3, at_4, on_get, on_sz, List.getElem?_cons_zero, List.getElem?_cons_succ, List.getElem?_nil, List.set_cons_zero, List.set_cons_succ, Option.map_some, Option.map_none, if_true, if_false, Bool.false_eq_true, decide_true, decide_false, Bool.not_true, Bool.not_false, on_on, List.length_cons, List.length_nil, on_setw, on_pushw, List.nil_append, List.cons_append, seq_new, its_new, lst_new, ix_new, len_new, iv_new, newL_one, newL_two, newL_nil, iv_t, iv_r]
        | false =>
          simp (config := { decide := true }) only [q, e1, int_b, Bool.false_and, oE_cst, oE_var, oE_bin, oE_cmp, oE_and, oE_or, oE_not, oE_neg, oE_ife, oE_tup, oE_lst, oE_ix, oE_sl, oE_call, oE_mk, oE_met, oE_att, oE_blt, oE_lc, oEs_nil, oEs_cons, oA_nil, oA_e, oA_s, oI_e, oI_rng, oI_zip, oW_eq, oSs_nil, oSs_cons, oS_asg, oS_sub, oS_att, oS_par, oS_exp, oS_ife, oS_for, oS_whl, oS_ret, oS_pass, rb_ok, rt_ok, ft_nx, ft_ret, fl_nx, fl_ret, fo_nx, fo_ret, oo_some, og_some, nox_ok, tru_bl, tru_int, bA_nil, asg_v, c_eq, c_ne, c_in, c_nin, c_lt, c_le, c_gt, c_ge, c_is, c_isn, eq_ss, eq_ii, eq_bb, in_ss, ix_t, ix_r, at_0, at_1, at_2, at_3, at_4, on_get, on_sz, List.getElem?_cons_zero, List.getElem?_cons_succ, List.getElem?_nil, List.set_cons_zero, List.set_cons_succ, Option.map_some, Option.map_none, if_true, if_false, Bool.false_eq_true, decide_true, decide_false, Bool.not_true, Bool.not_false, on_on, List.length_cons, List.length_nil, on_setw, on_pushw, List.nil_append, List.cons_append, seq_new, its_new, lst_new, ix_new, len_new, iv_new, newL_one, newL_two, newL_nil, iv_t, iv_r]
      · rw [hI.1, List.range_succ, List.map_append, List.map_append]
        rfl) B.length 0 [] G (by omega) rfl ⟨rfl, rfl, Nat.zero_le _⟩
  rw [hG] at e2
  have hnl : newL (on G) acc = some (.ref G.sz, G.push (.lst acc)) := newL_on (by rw [ha, List.length_map, List.length_map, List.length_range, hll]; exact Nat.le_trans hB (by decide))
  have hiv1 := iv_l hr
  refine ⟨G.push (.lst acc), ?_, Fr.push wf _, wf.push _⟩
  have ht : bfop T .tuple [.ref G.sz] (on (G.push (.lst acc))) = some (.tup acc, on (G.push (.lst acc))) := by
    show (items (on (G.push (.lst acc))) (.ref G.sz)).map _ = _
    rw [its_new]
    rfl
  rw [c2]
  simp (config := { decide := true }) only [b2, hiv1, wipeW, e2, hnl, ht, oE_cst, oE_var, oE_bin, oE_cmp, oE_and, oE_or, oE_not, oE_neg, oE_ife, oE_tup, oE_lst, oE_ix, oE_sl, oE_call, oE_mk, oE_met, oE_att, oE_blt, oE_lc, oEs_nil, oEs_cons, oA_nil, oA_e, oA_s, oI_e, oI_rng, oI_zip, oW_eq, oSs_nil, oSs_cons, oS_asg, oS_sub, oS_att, oS_par, oS_exp, oS_ife, oS_for, oS_whl, oS_ret, oS_pass, rb_ok, rt_ok, ft_nx, ft_ret, fl_nx, fl_ret, fo_nx, fo_ret, oo_some, og_some, nox_ok, tru_bl, tru_int, bA_nil, asg_v, c_eq, c_ne, c_in, c_nin, c_lt, c_le, c_gt, c_ge, c_is, c_isn, eq_ss, eq_ii, eq_bb, in_ss, ix_t, ix_r, at_0, at_1, at_2, at_3, at_4, on_get, on_sz, List.getElem?_cons_zero, List.getElem?_cons_succ, List.getElem?_nil, List.set_cons_zero, List.set_cons_succ, Option.map_some, Option.map_none, if_true, if_false, Bool.false_eq_true, decide_true, decide_false, Bool.not_true, Bool.not_false, on_on, List.length_cons, List.length_nil, on_setw, on_pushw, List.nil_append, List.cons_append, seq_new, its_new, lst_new, ix_new, len_new, iv_new, newL_one, newL_two, newL_nil, iv_t, iv_r]
  rw [ha, hll]
  rfl
theorem numF_num : ∀ (f : Fm) (bs : List Fm) (N D : Nat), plain f → (numF f bs).2.length ≤ N → (∀ g ∈ bs, num N g ∧ dep g ≤ D) → dep f ≤ D → (num N (numF f bs).1 ∧ dep (numF f bs).1 ≤ dep f) ∧ ∀ g ∈ (numF f bs).2, num N g ∧ dep g ≤ D
  | .tru, bs, N, D, _, _, h, _ => ⟨⟨trivial, Nat.le_refl _⟩, h⟩
  | .fls, bs, N, D, _, _, h, _ => ⟨⟨trivial, Nat.le_refl _⟩, h⟩
  | .ltr _, bs, N, D, _, _, h, _ => ⟨⟨trivial, Nat.le_refl _⟩, h⟩
  | .flag _, bs, N, D, pl, _, h, _ => pl.elim
  | .not f, bs, N, D, pl, hl, h, hd => by
    have hd : dep f + 1 ≤ D := hd
    obtain ⟨⟨a, b⟩, c⟩ := numF_num f bs N D pl hl h (by omega)
    exact ⟨⟨a, Nat.succ_le_succ b⟩, c⟩
  | .and f g, bs, N, D, pl, hl, h, hd => by
    have hd : max (dep f) (dep g) + 1 ≤ D := hd
    have hl : (numF g (numF f bs).2).2.length ≤ N := hl
    have l1 := numF_len g (numF f bs).2
    obtain ⟨⟨a, b⟩, c⟩ := numF_num f bs N D pl.1 (by omega) h (by omega)
    obtain ⟨⟨a2, b2⟩, c2⟩ := numF_num g (numF f bs).2 N D pl.2 hl c (by omega)
    refine ⟨⟨⟨a, a2⟩, ?_⟩, c2⟩
    show max (dep (numF f bs).1) (dep (numF g (numF f bs).2).1) + 1 ≤ max (dep f) (dep g) + 1
    omega
  | .or f g, bs, N, D, pl, hl, h, hd => by
    have hd : max (dep f) (dep g) + 1 ≤ D := hd
    have hl : (numF g (numF f bs).2).2.length ≤ N := hl
    have l1 := numF_len g (numF f bs).2
    obtain ⟨⟨a, b⟩, c⟩ := numF_num f bs N D pl.1 (by omega) h (by omega)
    obtain ⟨⟨a2, b2⟩, c2⟩ := numF_num g (numF f bs).2 N D pl.2 hl c (by omega)
    refine ⟨⟨⟨a, a2⟩, ?_⟩, c2⟩
    show max (dep (numF f bs).1) (dep (numF g (numF f bs).2).1) + 1 ≤ max (dep f) (dep g) + 1
    omega
  | .shown f, bs, N, D, pl, hl, h, hd => by
    have hd : dep f + 1 ≤ D := hd
    have l1 := numF_len f (bs ++ [.tru])
    rw [List.length_append, List.length_singleton] at l1
    have hl : ((numF f (bs ++ [.tru])).2.set bs.length (numF f (bs ++ [.tru])).1).length ≤ N := hl
    rw [List.length_set] at hl
    obtain ⟨⟨a, b⟩, c⟩ := numF_num f (bs ++ [.tru]) N D pl hl (fun g hg => by
      rcases List.mem_append.mp hg with q | q
      · exact h g q
      · rw [List.mem_singleton.mp q]
        exact ⟨trivial, Nat.zero_le _⟩) (by omega)
    refine ⟨⟨(by omega : bs.length < N), Nat.zero_le _⟩, fun g hg => ?_⟩
    rcases List.mem_or_eq_of_mem_set hg with q | q
    · exact c g q
    · rw [q]
      exact ⟨a, by omega⟩
end K19

set_option maxHeartbeats 4000000
/-! K19_E0: truths walked. -/
namespace K19
open PySem PM
def truthL (F : Fm) (rs : List Str) : List Bool := (List.range rs.length).map fun i => at_ F (rs.take (i + 1))
theorem Ext.setNew {G G1 : GH} {m : Nat} {o : AO} (x : Ext G G1) (wf : Wf G) (hm : G.sz ≤ m) : Ext G (G1.set m o) := ⟨x.le, fun a u e z => by
  have : a < G.sz := wf a u e
  rw [GH.get_set, if_neg (by omega)]
  exact x.keep a u e z⟩
theorem Fr.toExt {G G1 : GH} {r : Nat} (x : Fr (· = r) G G1) {G0 : GH} (y : Ext G0 G) (wf : Wf G0) (h : G0.sz ≤ r) : Ext G0 G1 := ⟨Nat.le_trans y.le x.le, fun a u e z => by
  have : a < G0.sz := wf a u e
  exact x.keep a u (y.keep a u e z) (by omega)⟩
/-- rows as they stand: a tuple or a list -/
def RowsAt (G : GH) (x : W) (rs : List Str) : Prop := x = .tup (rs.map .str) ∨ ∃ n, x = .ref n ∧ G.get n = some (.lst (rs.map .str))
theorem RowsAt.iv {G : GH} {x : W} {rs : List Str} (h : RowsAt G x rs) : ∃ iv, (∀ G', Ext G G' → ivOf (on G') x = some iv) ∧ ∀ G', Ext G G' → ∀ j, IV.at (on G') (.one iv) j = some (rs.map W.str)[j]? := by
  rcases h with rfl | ⟨n, rfl, hn⟩
  · exact ⟨.sq (rs.map .str), fun _ _ => iv_t, fun G' _ j => sq_at⟩
  · exact ⟨.live n, fun G' x => iv_l (x.get hn fun z => z), fun G' x j => lv_at (x.get hn fun z => z)⟩
theorem truths_ok {d K : Nat} {G : GH} {F : Fm} {x : W} {rs : List Str} (pl : plain F) (hF : nsh F < 900) (hk : dep F + 1 ≤ K) (hr : RowsAt G x rs) (hl : rs.length ≤ 900) (wf : Wf G) :
    ∃ m G', xC T (d + K + 1 + 1 + 1) 5 [wF F, x] (on G) = .ok (.ref m) (on G') ∧ G'.get m = some (.lst ((truthL F rs).map .bl)) ∧ G.sz ≤ m ∧ Ext G G' ∧ Wf G' := by
  obtain ⟨iv, hiv, hat⟩ := hr.iv
  let r := G.sz
  let m := G.sz + 1
  let G0 := (G.push (.lst [])).push (.lst [])
  have w0 : Wf G0 := (wf.push _).push _
  have x0 : Ext G G0 := (Fr.push wf _).trans (Fr.push (wf.push _) _)
  have z0 : G0.sz = G.sz + 1 + 1 := rfl
  have g0r : G0.get r = some (.lst (([] : List Fm).map wF)) := by
    show ((G.push (.lst [])).push (.lst [])).get G.sz = _
    rw [GH.get_push, if_neg (by show ¬ G.sz = G.sz + 1; omega), get_push_self]
    rfl
  have g0m : G0.get m = some (.lst []) := get_push_self _ _
  obtain ⟨G1, e1, n1⟩ := numbered_ok F [] G0 r d (K + 1 + 1) pl w0 (by rw [z0]; show G.sz < _; omega) g0r (by rw [List.length_nil]; omega) (by omega)
  let B := (numF F []).2
  have hBl : B.length = nsh F := by
    have := numF_len F []
    rw [List.length_nil, Nat.zero_add] at this
    exact this
  have hnum := numF_num F [] B.length (dep F) pl (Nat.le_refl _) (fun g hg => (List.not_mem_nil hg).elim) (Nat.le_refl _)
  have x1 : Ext G G1 := Fr.toExt n1.fr x0 wf (Nat.le_refl _)
  have g1r : G1.get r = some (.lst (B.map wF)) := n1.get
  have g1m : G1.get m = some (.lst []) := n1.fr.get g0m (by show ¬ m = r; show ¬ G.sz + 1 = G.sz; omega)
  have iv1 := iv_l g1r
  -- flags
  obtain ⟨acc, G2, e2, ⟨ha, hG⟩, _⟩ := xL_seq (T := T) (d := d + K + 1 + 1) (iv := .one (.live r)) (tg := .v 7) (e := .cst (.int 1)) (σ := [some (wF F), some x, some (.ref r), some (.ref m), some (wF (numF F []).1), none, none, none]) (vs := [7]) (B.map wF)
    (fun j acc H => acc = List.replicate j (.int 1) ∧ H = G1) (by rw [List.length_map, hBl]; omega) (fun j acc H hI => by rw [hI.2]; exact lv_at g1r) (fun j w H acc _ _ hI => by
      refine ⟨_, .int 1, H, asg_v, by simp (config := { decide := true }) only [oE_cst, oE_var, oE_bin, oE_cmp, oE_and, oE_or, oE_not, oE_neg, oE_ife, oE_tup, oE_lst, oE_ix, oE_sl, oE_call, oE_mk, oE_met, oE_att, oE_blt, oE_lc, oEs_nil, oEs_cons, oA_nil, oA_e, oA_s, oI_e, oI_rng, oI_zip, oW_eq, oSs_nil, oSs_cons, oS_asg, oS_sub, oS_att, oS_par, oS_exp, oS_ife, oS_for, oS_whl, oS_ret, oS_pass, rb_ok, rt_ok, ft_nx, ft_ret, fl_nx, fl_ret, fo_nx, fo_ret, oo_some, og_some, nox_ok, tru_bl, tru_int, bA_nil, asg_v, c_eq, c_ne, c_in, c_nin, c_lt, c_le, c_gt, c_ge, c_is, c_isn, eq_ss, eq_ii, eq_bb, in_ss, ix_t, ix_r, at_0, at_1, at_2, at_3, at_4, on_get, on_sz, List.getElem?_cons_zero, List.getElem?_cons_succ, List.getElem?_nil, List.set_cons_zero, List.set_cons_succ, Option.map_some, Option.map_none, if_true, if_false, Bool.false_eq_true, decide_true, decide_false, Bool.not_true, Bool.not_false, on_on, List.length_cons, List.length_nil, on_setw, on_pushw, List.nil_append, List.cons_append, seq_new, its_new, lst_new, ix_new, len_new, iv_new, newL_one, newL_two, newL_nil, iv_t, iv_r], ?_, hI.2⟩
      rw [hI.1, List.replicate_succ']) (B.map wF).length 0 [] G1 (Nat.zero_add _) rfl ⟨rfl, rfl⟩
  rw [hG] at e2
  rw [List.length_map] at ha
  have hnl : newL (on G1) acc = some (.ref G1.sz, G1.push (.lst acc)) := newL_on (by rw [ha, List.length_replicate, hBl]; exact Nat.le_trans (Nat.le_of_lt hF) (by decide))
  have ht : bfop T .tuple [.ref G1.sz] (on (G1.push (.lst acc))) = some (.tup acc, on (G1.push (.lst acc))) := by
    show (items (on (G1.push (.lst acc))) (.ref G1.sz)).map _ = _
    rw [its_new]
    rfl
  let rows : Nat → Str := fun k => rs.getD k ""
  let fl := flF B rows
  have hfl : ∀ i, (fl i).length = B.length := fun i => by
    cases i with
    | zero => exact List.length_replicate
    | succ i => show (stepF _ _ _).length = _; unfold stepF; rw [List.length_map, List.length_range]
  have hacc : acc = (fl 0).map W.int := by
    rw [ha]
    show _ = (List.replicate B.length (1 : Int)).map W.int
    rw [List.map_replicate]
  obtain ⟨σ', G3, e3, h3⟩ := xF_seq (T := T) (d := d + K + 1 + 1) (iv := .one iv) (tg := .v 6) (b := [.exp (.met (.var 3) 0 [.call 1 [.var 4, .var 5, .mk 0 [.var 6] []] []]), .asg (.v 5) (.call 2 [.var 2, .var 5, .mk 0 [.var 6] []] [])]) (rs.map W.str)
    (fun j σ H => j ≤ rs.length ∧ (∃ y, σ = [some (wF F), some x, some (.ref r), some (.ref m), some (wF (numF F []).1), some (.tup ((fl j).map .int)), y, none]) ∧ H.get r = some (.lst (B.map wF)) ∧ H.get m = some (.lst (((List.range j).map fun i => at_ F (rs.take (i + 1))).map .bl)) ∧ Ext G H ∧ Wf H)
    (fun j σ H hI => hat H hI.2.2.2.2.1 j) (fun j w σ H hj hI => by
      obtain ⟨_, ⟨y, hs⟩, hr, hm, xH, wH⟩ := hI
      have h : j < rs.length := by
        have := (List.getElem?_eq_some_iff.mp hj).1
        rwa [List.length_map] at this
      rw [List.getElem?_map, List.getElem?_eq_getElem h] at hj
      cases hj
      have hrow : rs[j] = rows j := by
        show _ = rs.getD j ""
        rw [List.getD_eq_getElem?_getD, List.getElem?_eq_getElem h]
        rfl
      let σ1 : Sg := [some (wF F), some x, some (.ref r), some (.ref m), some (wF (numF F []).1), some (.tup ((fl j).map .int)), some (.str rs[j]), none]
      obtain ⟨H1, k1, k1g, k1x, k1w⟩ := mk_ok (d := d + K) (i := 6) (σ := σ1) (row := rs[j]) rfl wH
      have t1 : xC T (d + K + 1 + 1) 1 [wF (numF F []).1, .tup ((fl j).map .int), .ref H.sz] (on H1) = .ok (.bl (at_ F (rs.take (j + 1)))) (on H1) := by
        have := is_true_ok (d := d) (fs := fl j) k1g (numF F []).1 (by rw [hfl]; exact hnum.1.1) (K + 1 + 1) (by omega)
        rw [hrow, sem_at B rs F [] pl (fun _ _ _ => rfl) j h] at this
        exact this
      have hm1 := k1x.get hm fun z => z
      have mm := mk_lst (T := T) (m := 0) (k := .append) hm rfl
      let found := ((List.range j).map fun i => at_ F (rs.take (i + 1))).map W.bl
      have ap := app_l (w := .bl (at_ F (rs.take (j + 1)))) hm1 (by rw [List.length_map, List.length_map, List.length_range]; exact Nat.lt_of_lt_of_le (by omega : j < 900) (by decide))
      let H2 := H1.set m (.lst (found ++ [.bl (at_ F (rs.take (j + 1)))]))
      have hmlt : m < H1.sz := k1w m _ hm1
      have w2 : Wf H2 := k1w.set hmlt _
      have x2 : Ext G H2 := Ext.setNew (xH.trans k1x) wf (Nat.le_succ _)
      have g2r : H2.get r = some (.lst (B.map wF)) := by
        show (H1.set m _).get r = _
        rw [GH.get_set, if_neg (by show ¬ G.sz = G.sz + 1; omega)]
        exact k1x.get hr fun z => z
      obtain ⟨H3, k3, k3g, k3x, k3w⟩ := mk_ok (d := d + K) (i := 6) (σ := σ1) (row := rs[j]) rfl w2
      obtain ⟨H4, k4, k4x, k4w⟩ := fallen_ok (d := d) (k := K + 1) (fs := fl j) k3g (k3x.get g2r fun z => z) (hfl j) (fun g hg => by rw [hfl]; exact (hnum.2 g hg).1) (fun g hg => by have := (hnum.2 g hg).2; omega) (by omega) k3w
      have k4' : xC T (d + K + 1 + 1) 2 [.ref r, .tup ((fl j).map .int), .ref H2.sz] (on H3) = .ok (.tup ((stepF B (fl j) rs[j]).map .int)) (on H4) := k4
      refine ⟨σ1, [some (wF F), some x, some (.ref r), some (.ref m), some (wF (numF F []).1), some (.tup ((fl (j + 1)).map .int)), some (.str rs[j]), none], H4, by rw [hs]; rfl, ?_, h, ⟨_, rfl⟩, ?_, ?_, (x2.trans k3x).trans k4x, k4w⟩
      · have s2 : σ1[2]? = some (some (.ref r)) := rfl
        have s3 : σ1[3]? = some (some (.ref m)) := rfl
        have s4 : σ1[4]? = some (some (wF (numF F []).1)) := rfl
        have s5 : σ1[5]? = some (some (.tup ((fl j).map .int))) := rfl
        have ap' : bmop Bm.append (W.ref m) [W.bl (at_ F (List.take (j + 1) rs))] (on H1) = some (.non, H2) := ap
        simp (config := { decide := true }) only [s2, s3, s4, s5, k1, t1, mm, ap', k3, k4', oE_cst, oE_var, oE_bin, oE_cmp, oE_and, oE_or, oE_not, oE_neg, oE_ife, oE_tup, oE_lst, oE_ix, oE_sl, oE_call, oE_mk, oE_met, oE_att, oE_blt, oE_lc, oEs_nil, oEs_cons, oA_nil, oA_e, oA_s, oI_e, oI_rng, oI_zip, oW_eq, oSs_nil, oSs_cons, oS_asg, oS_sub, oS_att, oS_par, oS_exp, oS_ife, oS_for, oS_whl, oS_ret, oS_pass, rb_ok, rt_ok, ft_nx, ft_ret, fl_nx, fl_ret, fo_nx, fo_ret, oo_some, og_some, nox_ok, tru_bl, tru_int, bA_nil, asg_v, c_eq, c_ne, c_in, c_nin, c_lt, c_le, c_gt, c_ge, c_is, c_isn, eq_ss, eq_ii, eq_bb, in_ss, ix_t, ix_r, at_0, at_1, at_2, at_3, at_4, on_get, on_sz, List.getElem?_cons_zero, List.getElem?_cons_succ, List.getElem?_nil, List.set_cons_zero, List.set_cons_succ, Option.map_some, Option.map_none, if_true, if_false, Bool.false_eq_true, decide_true, decide_false, Bool.not_true, Bool.not_false, on_on, List.length_cons, List.length_nil, on_setw, on_pushw, List.nil_append, List.cons_append, seq_new, its_new, lst_new, ix_new, len_new, iv_new, newL_one, newL_two, newL_nil, iv_t, iv_r]
        have hst : fl (j + 1) = stepF B (fl j) rs[j] := by
          rw [hrow]
          rfl
        rw [hst]
        rfl
      · exact k4x.get (k3x.get g2r fun z => z) fun z => z
      · have : H2.get m = some (.lst (found ++ [.bl (at_ F (rs.take (j + 1)))])) := get_set_self _ _ _
        rw [k4x.get (k3x.get this fun z => z) fun z => z, List.range_succ, List.map_append, List.map_append]
        rfl) (rs.map W.str).length 0 [some (wF F), some x, some (.ref r), some (.ref m), some (wF (numF F []).1), some (.tup acc), none, none] (G1.push (.lst acc)) (Nat.zero_add _) ⟨Nat.zero_le _, ⟨none, by rw [hacc]⟩, (Fr.push n1.wf _ : Ext _ _).get g1r fun z => z, (Fr.push n1.wf _ : Ext _ _).get g1m fun z => z, x1.trans (Fr.push n1.wf _), n1.wf.push _⟩
  have hrow : (List.map W.str rs).length = rs.length := List.length_map _
  rw [hrow] at h3
  obtain ⟨_, ⟨y, hs⟩, hr3, hm3, x3, w3⟩ := h3
  refine ⟨m, G3, ?_, hm3, Nat.le_succ _, x3, w3⟩
  have e0 : numF F [] = ((numF F []).1, B) := rfl
  have par : parS [2, 3] [.ref G.sz, .ref (G.sz + 1)] [some (wF F), some x, none, none, none, none, none, none] = some [some (wF F), some x, some (.ref G.sz), some (.ref (G.sz + 1)), none, none, none, none] := rfl
  have hg2 := hat (G1.push (.lst acc)) (x1.trans (Fr.push n1.wf _))
  have hiv2 : ivOf (on (G1.push (.lst acc))) x = some iv := hiv _ (x1.trans (Fr.push n1.wf _))
  rw [hs] at e3
  have iv1' : ivOf (on G1) (.ref G.sz) = some (.live G.sz) := iv1
  have s0 : (G.push (.lst [])).sz = G.sz + 1 := rfl
  have e1' : xC T (d + K + 1 + 1) 0 [wF F, .ref G.sz] (on ((G.push (.lst [])).push (.lst []))) = .ok (wF (numF F []).1) (on G1) := e1
  rw [c5]
  generalize hD : d + K + 1 + 1 = D at e1' e2 e3 ⊢
  dsimp only [r, m] at e2 e3
  simp (config := { decide := true }) only [b5, s0, par, e1', iv1', wipeW, e2, hnl, ht, hiv2, e3, oE_cst, oE_var, oE_bin, oE_cmp, oE_and, oE_or, oE_not, oE_neg, oE_ife, oE_tup, oE_lst, oE_ix, oE_sl, oE_call, oE_mk, oE_met, oE_att, oE_blt, oE_lc, oEs_nil, oEs_cons, oA_nil, oA_e, oA_s, oI_e, oI_rng, oI_zip, oW_eq, oSs_nil, oSs_cons, oS_asg, oS_sub, oS_att, oS_par, oS_exp, oS_ife, oS_for, oS_whl, oS_ret, oS_pass, rb_ok, rt_ok, ft_nx, ft_ret, fl_nx, fl_ret, fo_nx, fo_ret, oo_some, og_some, nox_ok, tru_bl, tru_int, bA_nil, asg_v, c_eq, c_ne, c_in, c_nin, c_lt, c_le, c_gt, c_ge, c_is, c_isn, eq_ss, eq_ii, eq_bb, in_ss, ix_t, ix_r, at_0, at_1, at_2, at_3, at_4, on_get, on_sz, List.getElem?_cons_zero, List.getElem?_cons_succ, List.getElem?_nil, List.set_cons_zero, List.set_cons_succ, Option.map_some, Option.map_none, if_true, if_false, Bool.false_eq_true, decide_true, decide_false, Bool.not_true, Bool.not_false, on_on, List.length_cons, List.length_nil, on_setw, on_pushw, List.nil_append, List.cons_append, seq_new, its_new, lst_new, ix_new, len_new, iv_new, newL_one, newL_two, newL_nil, iv_t, iv_r]
  rfl
end K19

set_option maxHeartbeats 4000000
/-! K19_F0: rows drawn, the due list, equal lists of texts. -/
namespace K19
open PySem PM
theorem dats_s (n : Nat) (G : GH) : ∀ rs : List Str, optAll (dat (n + 1) G) (rs.map .str) = some (rs.map PyData.str)
  | [] => rfl
  | r :: rs => by
    have h0 : dat (n + 1) G (.str r) = some (PyData.str r) := by rw [dat]
    rw [List.map_cons, optAll, dats_s n G rs, h0]
    rfl
theorem shs : ∀ rs : List Str, (∀ z ∈ rs, PyData.strOk z = true) → PyData.canLayAll0 (rs.map .str) = true ∧ PyData.depthAll (rs.map .str) ≤ 1
  | [], _ => ⟨rfl, Nat.zero_le _⟩
  | r :: rs, hz => by
    have := shs rs fun z h => hz z (List.mem_cons_of_mem _ h)
    have h0 := hz r List.mem_cons_self
    refine ⟨?_, ?_⟩
    · simp [PyData.canLayAll0, PyData.canLay0]
      exact ⟨h0, this.1⟩
    · simp [PyData.depthAll, PyData.depth]
      simpa using this.2
theorem eq_rows {G : GH} {a b : Nat} {rs : List Str} (ha : G.get a = some (.lst (rs.map .str))) (hb : G.get b = some (.lst (rs.map .str))) (hz : ∀ z ∈ rs, PyData.strOk z = true) : eqW (on G) (.ref a) (.ref b) = some true := by
  have d1 : ∀ c, G.get c = some (.lst (rs.map .str)) → dat 60 (on G) (.ref c) = some (.list (rs.map .str)) := fun c hc => by
    show (match (on G).get c with | some (.lst ws) => (optAll (dat 59 (on G)) ws).map PyData.list | _ => none) = _
    rw [on_get, hc]
    show (optAll (dat 59 (on G)) (rs.map .str)).map PyData.list = _
    rw [dats_s]
    rfl
  show eqD (on G) (.ref a) (.ref b) = _
  unfold eqD
  rw [d1 a ha, d1 b hb]
  have hs := shs rs hz
  have c1 : PyData.canLay0 (.list (rs.map .str)) = true := by rw [PyData.canLay0]; exact hs.1
  have sh : SeqAt.shaped (.list (rs.map .str)) = true := by
    unfold SeqAt.shaped
    rw [c1, Bool.true_and]
    refine decide_eq_true ?_
    rw [PyData.depth]
    omega
  show (if (SeqAt.shaped (.list (rs.map .str)) && SeqAt.shaped (.list (rs.map .str))) = true then some (PyData.eqv (.list (rs.map .str)) (.list (rs.map .str))) else none) = _
  rw [sh, SeqAt.eqv_refl _ c1]
  rfl
/-- the due list's turns -/
theorem due_ok {d k r : Nat} {G : GH} {F : Fm} {rs : List Str} (pl : plain F) (hg : G.get r = some (.lst (rs.map .str))) (hl : rs.length ≤ 900) (hk : dep F + 1 ≤ k) (wf : Wf G) (o0 o1 o2 o5 o6 o7 o8 o9 : Option W) :
    ∃ G', xL T (d + k) (.one (.sq (rngW 0 rs.length))) 0 (.v 9) [] (.call 12 [.var 3, .sl (.var 4) (.cst .non) (.bin .add (.var 9) (.cst (.int 1)))] []) [o0, o1, o2, some (wF F), some (.ref r), o5, o6, o7, o8, o9] [9] [] (on G) = .ok ((truthL F rs).map .bl) (on G') ∧ Ext G G' ∧ Wf G' := by
  obtain ⟨acc, G2, e2, ⟨ha, x2, w2⟩, _⟩ := xL_seq (T := T) (d := d + k) (iv := .one (.sq (rngW 0 rs.length))) (tg := .v 9) (e := .call 12 [.var 3, .sl (.var 4) (.cst .non) (.bin .add (.var 9) (.cst (.int 1)))] []) (σ := [o0, o1, o2, some (wF F), some (.ref r), o5, o6, o7, o8, o9]) (vs := [9]) (rngW 0 rs.length)
    (fun j acc H => acc = ((List.range j).map fun i => at_ F (rs.take (i + 1))).map .bl ∧ Ext G H ∧ Wf H) (by rw [rngW_len]; omega) (fun j acc H _ => sq_at) (fun j w H acc hj _ hI => by
      obtain ⟨ha, x1, w1⟩ := hI
      rw [rngW_get] at hj
      split at hj
      · rename_i hlt
        cases hj
        have hz : (0 : Int) + (j : Nat) = (j : Int) := by omega
        have hz1 : ((j : Int) + 1) = ((j + 1 : Nat) : Int) := by omega
        have g1 : H.get r = some (.lst (rs.map .str)) := x1.get hg fun z => z
        have ht : rs.take (j + 1) = rs.take j ++ [rs[j]] := by
          rw [List.take_add_one, List.getElem?_eq_getElem hlt]
          rfl
        have hcut : cutW (rs.map W.str) none (some ((j + 1 : Nat) : Int)) = ((rs.take j) ++ [rs[j]]).map .str := by
          rw [cut_pre (by rw [List.length_map]; omega), ← List.map_take, ht]
        have hs := sl_l (l := none) (h := some ((j + 1 : Nat) : Int)) g1 (by
          rw [hcut, List.length_map, List.length_append, List.length_take]
          have h1 : min j rs.length + 1 ≤ 1000 := by omega
          exact Nat.le_trans h1 (by decide))
        rw [hcut] at hs
        obtain ⟨G2, e3, x3, w3⟩ := at_ok (d := d) F (rs.take j) rs[j] _ H.sz k pl (by rw [List.length_take]; omega) (w1.push (.lst (((rs.take j) ++ [rs[j]]).map .str))) (get_push_self _ _) hk
        refine ⟨[o0, o1, o2, some (wF F), some (.ref r), o5, o6, o7, o8, some (.int (j : Int))], .bl (at_ F (rs.take j ++ [rs[j]])), G2, by rw [hz]; rfl, ?_, ?_, (x1.trans (Fr.push w1 _)).trans x3, w3⟩
        · simp (config := { decide := true }) only [optI, b_add, hz1, hs, e3, oE_cst, oE_var, oE_bin, oE_cmp, oE_and, oE_or, oE_not, oE_neg, oE_ife, oE_tup, oE_lst, oE_ix, oE_sl, oE_call, oE_mk, oE_met, oE_att, oE_blt, oE_lc, oEs_nil, oEs_cons, oA_nil, oA_e, oA_s, oI_e, oI_rng, oI_zip, oW_eq, oSs_nil, oSs_cons, oS_asg, oS_sub, oS_att, oS_par, oS_exp, oS_ife, oS_for, oS_whl, oS_ret, oS_pass, rb_ok, rt_ok, ft_nx, ft_ret, fl_nx, fl_ret, fo_nx, fo_ret, oo_some, og_some, nox_ok, tru_bl, tru_int, bA_nil, asg_v, c_eq, c_ne, c_in, c_nin, c_lt, c_le, c_gt, c_ge, c_is, c_isn, eq_ss, eq_ii, eq_bb, in_ss, ix_t, ix_r, at_0, at_1, at_2, at_3, at_4, on_get, on_sz, List.getElem?_cons_zero, List.getElem?_cons_succ, List.getElem?_nil, List.set_cons_zero, List.set_cons_succ, Option.map_some, Option.map_none, if_true, if_false, Bool.false_eq_true, decide_true, decide_false, Bool.not_true, Bool.not_false, on_on, List.length_cons, List.length_nil, on_setw, on_pushw, List.nil_append, List.cons_append, seq_new, its_new, lst_new, ix_new, len_new, iv_new, newL_one, newL_two, newL_nil, iv_t, iv_r]
        · rw [ha, ← ht]
          show _ = ((List.range (j + 1)).map _).map _
          rw [List.range_succ, List.map_append, List.map_append]
          rfl
      · cases hj) rs.length 0 [] G (by rw [rngW_len]; omega) rfl ⟨rfl, Fr.refl, wf⟩
  rw [rngW_len] at ha
  exact ⟨G2, by rw [e2, ha]; rfl, x2, w2⟩
/-- the rows' turns -/
theorem rows_ok {d b n : Nat} {G : GH} (hb : IsBag G b) (wf : Wf G) (hn : n ≤ 900) (o0 o2 o3 o4 o5 o6 o7 o8 o9 : Option W) :
    ∃ (rs : List Str) (G' : GH), xL T (d + 1 + 1) (.one (.sq (rngW 0 n))) 0 (.v 8) [] (.call 11 [.var 1] []) [o0, some (.ref b), o2, o3, o4, o5, o6, o7, o8, o9] [8] [] (on G) = .ok (rs.map .str) (on G') ∧ rs.length = n ∧ (∀ z ∈ rs, PyData.strOk z = true) ∧ Made G G' b := by
  obtain ⟨acc, G2, e2, ⟨⟨rs, ha, hz⟩, m2⟩, hl⟩ := xL_seq (T := T) (d := d + 1 + 1) (iv := .one (.sq (rngW 0 n))) (tg := .v 8) (e := .call 11 [.var 1] []) (σ := [o0, some (.ref b), o2, o3, o4, o5, o6, o7, o8, o9]) (vs := [8]) (rngW 0 n)
    (fun j acc H => (∃ rs : List Str, acc = rs.map .str ∧ ∀ z ∈ rs, PyData.strOk z = true) ∧ Made G H b) (by rw [rngW_len]; omega) (fun j acc H _ => sq_at) (fun j w H acc hj _ hI => by
      obtain ⟨⟨rs, ha, hz⟩, m1⟩ := hI
      obtain ⟨z, H2, e3, oz, m3⟩ := row_draw (d := d) m1.bag m1.wf
      refine ⟨_, .str z, H2, asg_v, by simp (config := { decide := true }) only [e3, oE_cst, oE_var, oE_bin, oE_cmp, oE_and, oE_or, oE_not, oE_neg, oE_ife, oE_tup, oE_lst, oE_ix, oE_sl, oE_call, oE_mk, oE_met, oE_att, oE_blt, oE_lc, oEs_nil, oEs_cons, oA_nil, oA_e, oA_s, oI_e, oI_rng, oI_zip, oW_eq, oSs_nil, oSs_cons, oS_asg, oS_sub, oS_att, oS_par, oS_exp, oS_ife, oS_for, oS_whl, oS_ret, oS_pass, rb_ok, rt_ok, ft_nx, ft_ret, fl_nx, fl_ret, fo_nx, fo_ret, oo_some, og_some, nox_ok, tru_bl, tru_int, bA_nil, asg_v, c_eq, c_ne, c_in, c_nin, c_lt, c_le, c_gt, c_ge, c_is, c_isn, eq_ss, eq_ii, eq_bb, in_ss, ix_t, ix_r, at_0, at_1, at_2, at_3, at_4, on_get, on_sz, List.getElem?_cons_zero, List.getElem?_cons_succ, List.getElem?_nil, List.set_cons_zero, List.set_cons_succ, Option.map_some, Option.map_none, if_true, if_false, Bool.false_eq_true, decide_true, decide_false, Bool.not_true, Bool.not_false, on_on, List.length_cons, List.length_nil, on_setw, on_pushw, List.nil_append, List.cons_append, seq_new, its_new, lst_new, ix_new, len_new, iv_new, newL_one, newL_two, newL_nil, iv_t, iv_r], ⟨rs ++ [z], ?_, fun u hu => (List.mem_append.mp hu).elim (hz u) fun q => by rw [List.mem_singleton.mp q]; exact oz⟩, m1.trans m3⟩
      rw [ha, List.map_append]
      rfl) n 0 [] G (by rw [rngW_len]; omega) rfl ⟨⟨[], rfl, fun z hz => (List.not_mem_nil hz).elim⟩, Made.refl hb wf⟩
  rw [rngW_len, ha, List.length_map] at hl
  exact ⟨rs, G2, by rw [e2, ha], hl, hz, m2⟩
end K19

set_option maxHeartbeats 4000000
/-! K19_G: the law's parts. -/
namespace K19
open PySem PM
theorem stdI : StdI T := by unfold StdI; decide +kernel
theorem isDas_bl {G : GH} : ∀ bs : List Bool, IsDas G (bs.map Da.bl) (bs.map W.bl)
  | [] => rfl
  | b :: bs => ⟨_, _, rfl, rfl, isDas_bl bs⟩
theorem fews_bl : ∀ bs : List Bool, fews (bs.map Da.bl)
  | [] => trivial
  | _ :: bs => ⟨trivial, fews_bl bs⟩
theorem dpts_bl : ∀ bs : List Bool, dpts (bs.map Da.bl) = 0
  | [] => rfl
  | b :: bs => by
    show max (dpt (.bl b)) (dpts (bs.map Da.bl)) = 0
    rw [dpts_bl bs]
    rfl
theorem isDa_bl {G : GH} {n : Nat} {bs : List Bool} (h : G.get n = some (.lst (bs.map .bl))) : IsDa G (.lst (bs.map Da.bl)) (.ref n) := ⟨n, _, rfl, h, isDas_bl bs⟩
theorem truthL_len (F : Fm) (rs : List Str) : (truthL F rs).length = rs.length := by unfold truthL; rw [List.length_map, List.length_range]
/-- what the second reading is due to answer -/
def lowL (due : List Bool) (n : Nat) : List Bool := (List.range n).map fun j => (due.take j).all id
theorem low_eq (F : Fm) (rs : List Str) (z : Str) : truthL (.shown F) (rs ++ [z]) = lowL (truthL F rs) (rs.length + 1) := by
  unfold truthL lowL
  rw [List.length_append, List.length_singleton]
  refine List.map_congr_left fun i hi => ?_
  have hi : i < rs.length + 1 := List.mem_range.mp hi
  show (List.range (((rs ++ [z]).take (i + 1)).length - 1)).all _ = _
  have e1 : ((rs ++ [z]).take (i + 1)).length - 1 = i := by rw [List.length_take, List.length_append, List.length_singleton]; omega
  rw [e1, ← List.map_take, List.all_map, List.take_range, Nat.min_eq_left (by omega)]
  refine Bool.eq_iff_iff.mpr ?_
  rw [List.all_eq_true, List.all_eq_true]
  have key : ∀ k, k < i → at_ F (((rs ++ [z]).take (i + 1)).take (k + 1)) = at_ F (rs.take (k + 1)) := fun k hk => by
    rw [List.take_take, Nat.min_eq_left (by omega), List.take_append_of_le_length (by omega)]
  exact ⟨fun h k hk => (key k (List.mem_range.mp hk)).symm.trans (h k hk), fun h k hk => (key k (List.mem_range.mp hk)).trans (h k hk)⟩
/-- the low list's turns -/
theorem low_ok {d r n : Nat} {G : GH} {due : List Bool} (hg : G.get r = some (.lst (due.map .bl))) (hl : due.length ≤ 900) (hn : n ≤ due.length + 1) (wf : Wf G) (o0 o1 o2 o3 o4 o5 o7 o8 o9 : Option W) :
    ∃ G', xL T d (.one (.sq (rngW 0 n))) 0 (.v 9) [] (.blt .all [.sl (.var 6) (.cst .non) (.var 9)]) [o0, o1, o2, o3, o4, o5, some (.ref r), o7, o8, o9] [9] [] (on G) = .ok ((lowL due n).map .bl) (on G') ∧ Ext G G' ∧ Wf G' := by
  obtain ⟨acc, G2, e2, ⟨ha, x2, w2⟩, _⟩ := xL_seq (T := T) (d := d) (iv := .one (.sq (rngW 0 n))) (tg := .v 9) (e := .blt .all [.sl (.var 6) (.cst .non) (.var 9)]) (σ := [o0, o1, o2, o3, o4, o5, some (.ref r), o7, o8, o9]) (vs := [9]) (rngW 0 n)
    (fun j acc H => acc = (lowL due j).map .bl ∧ Ext G H ∧ Wf H) (by rw [rngW_len]; omega) (fun j acc H _ => sq_at) (fun j w H acc hj _ hI => by
      obtain ⟨ha, x1, w1⟩ := hI
      rw [rngW_get] at hj
      split at hj
      · rename_i hlt
        cases hj
        have hz : (0 : Int) + (j : Nat) = (j : Int) := by omega
        have g1 : H.get r = some (.lst (due.map .bl)) := x1.get hg fun z => z
        have hcut : cutW (due.map W.bl) none (some (j : Int)) = (due.take j).map .bl := by
          rw [cut_pre (by rw [List.length_map]; omega), ← List.map_take]
        have hs := sl_l (l := none) (h := some (j : Int)) g1 (by
          rw [hcut, List.length_map, List.length_take]
          have h1 : min j due.length ≤ 1000 := by omega
          exact Nat.le_trans h1 (by decide))
        rw [hcut] at hs
        have ha2 := all_map (G := H.push (.lst ((due.take j).map .bl))) (m := H.sz) (bs := due.take j) (get_push_self _ _)
        refine ⟨[o0, o1, o2, o3, o4, o5, some (.ref r), o7, o8, some (.int (j : Int))], .bl ((due.take j).all id), H.push (.lst ((due.take j).map .bl)), by rw [hz]; rfl, by simp (config := { decide := true }) only [optI, hs, ha2, oE_cst, oE_var, oE_bin, oE_cmp, oE_and, oE_or, oE_not, oE_neg, oE_ife, oE_tup, oE_lst, oE_ix, oE_sl, oE_call, oE_mk, oE_met, oE_att, oE_blt, oE_lc, oEs_nil, oEs_cons, oA_nil, oA_e, oA_s, oI_e, oI_rng, oI_zip, oW_eq, oSs_nil, oSs_cons, oS_asg, oS_sub, oS_att, oS_par, oS_exp, oS_ife, oS_for, oS_whl, oS_ret, oS_pass, rb_ok, rt_ok, ft_nx, ft_ret, fl_nx, fl_ret, fo_nx, fo_ret, oo_some, og_some, nox_ok, tru_bl, tru_int, bA_nil, asg_v, c_eq, c_ne, c_in, c_nin, c_lt, c_le, c_gt, c_ge, c_is, c_isn, eq_ss, eq_ii, eq_bb, in_ss, ix_t, ix_r, at_0, at_1, at_2, at_3, at_4, on_get, on_sz, List.getElem?_cons_zero, List.getElem?_cons_succ, List.getElem?_nil, List.set_cons_zero, List.set_cons_succ, Option.map_some, Option.map_none, if_true, if_false, Bool.false_eq_true, decide_true, decide_false, Bool.not_true, Bool.not_false, on_on, List.length_cons, List.length_nil, on_setw, on_pushw, List.nil_append, List.cons_append, seq_new, its_new, lst_new, ix_new, len_new, iv_new, newL_one, newL_two, newL_nil, iv_t, iv_r], ?_, x1.trans (Fr.push w1 _), w1.push _⟩
        rw [ha]
        show _ = ((List.range (j + 1)).map _).map _
        rw [List.range_succ, List.map_append, List.map_append]
        rfl
      · cases hj) n 0 [] G (by rw [rngW_len]; omega) rfl ⟨rfl, Fr.refl, wf⟩
  rw [rngW_len] at ha
  exact ⟨G2, by rw [e2, ha], x2, w2⟩
end K19

set_option maxHeartbeats 4000000
/-! K19_H: a turn of the law. -/
namespace K19
open PySem PM
def t1 : S := .asg (.v 3) (.call 10 [.var 1, .cst (.str ""), .lst [], .cst (.int 4), .cst (.int 3)] [])
def t2 : S := .asg (.v 4) (.lc [8] (.v 8) (.rng [.call 7 [.var 1, .cst (.int 10)] []]) [] (.call 11 [.var 1] []))
def t3 : S := .asg (.v 5) (.blt .list [.var 4])
def t4 : S := .asg (.v 6) (.lc [9] (.v 9) (.rng [.blt .len [.var 4]]) [] (.call 12 [.var 3, .sl (.var 4) (.cst .non) (.bin .add (.var 9) (.cst (.int 1)))] []))
def t5 : S := .ife (.or (.not (.call 13 [.lst [.e (.call 5 [.var 3, .var 4] []), .e (.call 5 [.blt .tuple [.var 4], .var 3] [.a 1, .a 0])], .lst [.e (.var 6), .e (.var 6)]] [])) (.cmp .ne (.var 4) (.var 5))) [.ret (.cst (.bl false))] []
def t6 : S := .exp (.met (.call 5 [.var 3, .var 4] []) 0 [.cst (.non)])
def t7 : S := .asg (.v 7) (.call 5 [.tup [.e (.cst (.str "shown")), .e (.var 3)], .bin .add (.var 4) (.lst [.e (.cst (.str ""))])] [])
def t8 : S := .ife (.not (.call 13 [.var 7, .lc [9] (.v 9) (.rng [.bin .add (.blt .len [.var 4]) (.cst (.int 1))]) [] (.blt .all [.sl (.var 6) (.cst .non) (.var 9)])] [])) [.ret (.cst (.bl false))] []
def tEnd : S := .ret (.cmp .eq (.call 5 [.tup [.e (.cst (.str "shown")), .e (.tup [.e (.cst (.str "shown")), .e (.tup [.e (.cst (.str "false"))])])], .lst [.e (.cst (.str "")), .e (.cst (.str "P")), .e (.cst (.str "PQR")), .e (.cst (.str ""))]] []) (.lst [.e (.cst (.bl true)), .e (.cst (.bl true)), .e (.cst (.bl false)), .e (.cst (.bl false))]))
def turn : List S := [t1, t2, t3, t4, t5, t6, t7, t8]
theorem b14_eq : b14 = [.asg (.v 1) (.call 6 [.var 0] []), .for (.v 2) (.rng [.cst (.int 8)]) turn, tEnd] := rfl
theorem list_l {G : GH} {n : Nat} {ws : List W} (h : G.get n = some (.lst ws)) (hl : ws.length ≤ sizeLine) : bfop T .list [.ref n] (on G) = some (.ref G.sz, G.push (.lst ws)) := by
  show (match seqOf (on G) (.ref n) with | some xs => newL (on G) xs | none => none) = _
  rw [seq_l h]
  exact newL_on hl
theorem tuple_l {G : GH} {n : Nat} {ws : List W} (h : G.get n = some (.lst ws)) : bfop T .tuple [.ref n] (on G) = some (.tup ws, on G) := by
  show (items (on G) (.ref n)).map _ = _
  rw [its_l h]
  rfl
theorem lst_add {G : GH} {n m : Nat} {xs ys : List W} (h : G.get n = some (.lst xs)) (k : G.get m = some (.lst ys)) (hl : (xs ++ ys).length ≤ sizeLine) : binop .add (.ref n) (.ref m) (on G) = some (.ref G.sz, G.push (.lst (xs ++ ys))) := by
  show (match lstOf (on G) (.ref n), lstOf (on G) (.ref m) with | some xs, some ys => newL (on G) (xs ++ ys) | _, _ => none) = _
  rw [lst_l h, lst_l k]
  exact newL_on hl
section
variable {d b r4 r5 r6 n : Nat} {G : GH} {F : Fm} {rs : List Str}
theorem t1_ok (hb : IsBag G b) (wf : Wf G) (o0 o2 o3 o4 o5 o6 o7 o8 o9 : Option W) :
    ∃ F G', xS T (d + 20) t1 [o0, some (.ref b), o2, o3, o4, o5, o6, o7, o8, o9] (on G) = .nx [o0, some (.ref b), o2, some (wF F), o4, o5, o6, o7, o8, o9] (on G') ∧ plain F ∧ dep F ≤ 4 ∧ nsh F ≤ 16 ∧ Made G G' b := by
  have m0 : Made G (G.push (.lst [])) b := (Made.refl hb wf).push _
  obtain ⟨F, G1, e1, p1, p2, p3, m1⟩ := formula_draw (d := d + 12) (x := .ref G.sz) 4 3 (G.push (.lst [])) m0.bag m0.wf
  have e1' : xC T (d + 20) 10 [.ref b, .str "", .ref G.sz, .int 4, .int 3] (on (G.push (.lst []))) = .ok (wF F) (on G1) := e1
  refine ⟨F, G1, ?_, p1, p2, p3, m0.trans m1⟩
  simp (config := { decide := true }) only [t1, e1', oE_cst, oE_var, oE_bin, oE_cmp, oE_and, oE_or, oE_not, oE_neg, oE_ife, oE_tup, oE_lst, oE_ix, oE_sl, oE_call, oE_mk, oE_met, oE_att, oE_blt, oE_lc, oEs_nil, oEs_cons, oA_nil, oA_e, oA_s, oI_e, oI_rng, oI_zip, oW_eq, oSs_nil, oSs_cons, oS_asg, oS_sub, oS_att, oS_par, oS_exp, oS_ife, oS_for, oS_whl, oS_ret, oS_pass, rb_ok, rt_ok, ft_nx, ft_ret, fl_nx, fl_ret, fo_nx, fo_ret, oo_some, og_some, nox_ok, tru_bl, tru_int, bA_nil, asg_v, c_eq, c_ne, c_in, c_nin, c_lt, c_le, c_gt, c_ge, c_is, c_isn, eq_ss, eq_ii, eq_bb, in_ss, ix_t, ix_r, at_0, at_1, at_2, at_3, at_4, on_get, on_sz, List.getElem?_cons_zero, List.getElem?_cons_succ, List.getElem?_nil, List.set_cons_zero, List.set_cons_succ, Option.map_some, Option.map_none, if_true, if_false, Bool.false_eq_true, decide_true, decide_false, Bool.not_true, Bool.not_false, on_on, List.length_cons, List.length_nil, on_setw, on_pushw, List.nil_append, List.cons_append, seq_new, its_new, lst_new, ix_new, len_new, iv_new, newL_one, newL_two, newL_nil, iv_t, iv_r]
theorem t2_ok (hb : IsBag G b) (wf : Wf G) (o0 o2 o3 o4 o5 o6 o7 o8 o9 : Option W) :
    ∃ (rs : List Str) (r4 : Nat) (G' : GH), xS T (d + 20) t2 [o0, some (.ref b), o2, o3, o4, o5, o6, o7, o8, o9] (on G) = .nx [o0, some (.ref b), o2, o3, some (.ref r4), o5, o6, o7, o8, o9] (on G') ∧ rs.length ≤ 9 ∧ (∀ z ∈ rs, PyData.strOk z = true) ∧ G'.get r4 = some (.lst (rs.map .str)) ∧ r4 ≠ b ∧ Made G G' b := by
  obtain ⟨r, G1, e1, r0, r1, dr⟩ := draw_ok (T := T) (d := d + 19) (many := 10) f7 hb (by decide) (by decide) wf
  obtain ⟨n, rfl⟩ := Int.eq_ofNat_of_zero_le r0
  have e1' : xC T (d + 20) 7 [.ref b, .int 10] (on G) = .ok (.int (n : Int)) (on G1) := e1
  have hr := rng_1 (n := n) (by omega)
  obtain ⟨rs, G2, e2, hl, hz, m2⟩ := rows_ok (d := d + 18) (n := n) dr.bag dr.wf (by omega) o0 o2 o3 o4 o5 o6 o7 none o9
  have e2' : xL T (d + 20) (.one (.sq (rngW 0 n))) 0 (.v 8) [] (.call 11 [.var 1] []) [o0, some (.ref b), o2, o3, o4, o5, o6, o7, none, o9] [8] [] (on G1) = .ok (rs.map .str) (on G2) := e2
  have hnl : newL (on G2) (rs.map .str) = some (.ref G2.sz, G2.push (.lst (rs.map .str))) := newL_on (by rw [List.length_map, hl]; exact Nat.le_trans (show n ≤ 1000 by omega) (by decide))
  refine ⟨rs, G2.sz, G2.push (.lst (rs.map .str)), ?_, by omega, hz, get_push_self _ _, by have := m2.bag.lt m2.wf; omega, (dr.made.trans m2).push _⟩
  simp (config := { decide := true }) only [t2, e1', hr, wipeW, e2', hnl, oE_cst, oE_var, oE_bin, oE_cmp, oE_and, oE_or, oE_not, oE_neg, oE_ife, oE_tup, oE_lst, oE_ix, oE_sl, oE_call, oE_mk, oE_met, oE_att, oE_blt, oE_lc, oEs_nil, oEs_cons, oA_nil, oA_e, oA_s, oI_e, oI_rng, oI_zip, oW_eq, oSs_nil, oSs_cons, oS_asg, oS_sub, oS_att, oS_par, oS_exp, oS_ife, oS_for, oS_whl, oS_ret, oS_pass, rb_ok, rt_ok, ft_nx, ft_ret, fl_nx, fl_ret, fo_nx, fo_ret, oo_some, og_some, nox_ok, tru_bl, tru_int, bA_nil, asg_v, c_eq, c_ne, c_in, c_nin, c_lt, c_le, c_gt, c_ge, c_is, c_isn, eq_ss, eq_ii, eq_bb, in_ss, ix_t, ix_r, at_0, at_1, at_2, at_3, at_4, on_get, on_sz, List.getElem?_cons_zero, List.getElem?_cons_succ, List.getElem?_nil, List.set_cons_zero, List.set_cons_succ, Option.map_some, Option.map_none, if_true, if_false, Bool.false_eq_true, decide_true, decide_false, Bool.not_true, Bool.not_false, on_on, List.length_cons, List.length_nil, on_setw, on_pushw, List.nil_append, List.cons_append, seq_new, its_new, lst_new, ix_new, len_new, iv_new, newL_one, newL_two, newL_nil, iv_t, iv_r]
theorem t3_ok (hg : G.get r4 = some (.lst (rs.map .str))) (hl : rs.length ≤ 9) (o0 o1 o2 o3 o5 o6 o7 o8 o9 : Option W) :
    xS T (d + 20) t3 [o0, o1, o2, o3, some (.ref r4), o5, o6, o7, o8, o9] (on G) = .nx [o0, o1, o2, o3, some (.ref r4), some (.ref G.sz), o6, o7, o8, o9] (on (G.push (.lst (rs.map .str)))) := by
  have := list_l hg (by rw [List.length_map]; exact Nat.le_trans hl (by decide))
  simp (config := { decide := true }) only [t3, this, oE_cst, oE_var, oE_bin, oE_cmp, oE_and, oE_or, oE_not, oE_neg, oE_ife, oE_tup, oE_lst, oE_ix, oE_sl, oE_call, oE_mk, oE_met, oE_att, oE_blt, oE_lc, oEs_nil, oEs_cons, oA_nil, oA_e, oA_s, oI_e, oI_rng, oI_zip, oW_eq, oSs_nil, oSs_cons, oS_asg, oS_sub, oS_att, oS_par, oS_exp, oS_ife, oS_for, oS_whl, oS_ret, oS_pass, rb_ok, rt_ok, ft_nx, ft_ret, fl_nx, fl_ret, fo_nx, fo_ret, oo_some, og_some, nox_ok, tru_bl, tru_int, bA_nil, asg_v, c_eq, c_ne, c_in, c_nin, c_lt, c_le, c_gt, c_ge, c_is, c_isn, eq_ss, eq_ii, eq_bb, in_ss, ix_t, ix_r, at_0, at_1, at_2, at_3, at_4, on_get, on_sz, List.getElem?_cons_zero, List.getElem?_cons_succ, List.getElem?_nil, List.set_cons_zero, List.set_cons_succ, Option.map_some, Option.map_none, if_true, if_false, Bool.false_eq_true, decide_true, decide_false, Bool.not_true, Bool.not_false, on_on, List.length_cons, List.length_nil, on_setw, on_pushw, List.nil_append, List.cons_append, seq_new, its_new, lst_new, ix_new, len_new, iv_new, newL_one, newL_two, newL_nil, iv_t, iv_r]
theorem t4_ok (pl : plain F) (hd : dep F ≤ 4) (hg : G.get r4 = some (.lst (rs.map .str))) (hl : rs.length ≤ 9) (wf : Wf G) (o0 o1 o2 o5 o6 o7 o8 o9 : Option W) :
    ∃ (r6 : Nat) (G' : GH), xS T (d + 20) t4 [o0, o1, o2, some (wF F), some (.ref r4), o5, o6, o7, o8, o9] (on G) = .nx [o0, o1, o2, some (wF F), some (.ref r4), o5, some (.ref r6), o7, o8, o9] (on G') ∧ G'.get r6 = some (.lst ((truthL F rs).map .bl)) ∧ Ext G G' ∧ Wf G' := by
  have hlen := len_l (T := T) hg
  rw [List.length_map] at hlen
  have hr := rng_1 (n := rs.length) (by omega)
  obtain ⟨G2, e2, x2, w2⟩ := due_ok (d := d + 15) (k := 5) pl hg (by omega) (by omega) wf o0 o1 o2 o5 o6 o7 o8 none
  have e2' : xL T (d + 20) (.one (.sq (rngW 0 rs.length))) 0 (.v 9) [] (.call 12 [.var 3, .sl (.var 4) (.cst .non) (.bin .add (.var 9) (.cst (.int 1)))] []) [o0, o1, o2, some (wF F), some (.ref r4), o5, o6, o7, o8, none] [9] [] (on G) = .ok ((truthL F rs).map .bl) (on G2) := e2
  have hnl : newL (on G2) ((truthL F rs).map .bl) = some (.ref G2.sz, G2.push (.lst ((truthL F rs).map .bl))) := newL_on (by rw [List.length_map, truthL_len]; exact Nat.le_trans hl (by decide))
  refine ⟨G2.sz, G2.push (.lst ((truthL F rs).map .bl)), ?_, get_push_self _ _, x2.trans (Fr.push w2 _), w2.push _⟩
  simp (config := { decide := true }) only [t4, hlen, hr, wipeW, e2', hnl, oE_cst, oE_var, oE_bin, oE_cmp, oE_and, oE_or, oE_not, oE_neg, oE_ife, oE_tup, oE_lst, oE_ix, oE_sl, oE_call, oE_mk, oE_met, oE_att, oE_blt, oE_lc, oEs_nil, oEs_cons, oA_nil, oA_e, oA_s, oI_e, oI_rng, oI_zip, oW_eq, oSs_nil, oSs_cons, oS_asg, oS_sub, oS_att, oS_par, oS_exp, oS_ife, oS_for, oS_whl, oS_ret, oS_pass, rb_ok, rt_ok, ft_nx, ft_ret, fl_nx, fl_ret, fo_nx, fo_ret, oo_some, og_some, nox_ok, tru_bl, tru_int, bA_nil, asg_v, c_eq, c_ne, c_in, c_nin, c_lt, c_le, c_gt, c_ge, c_is, c_isn, eq_ss, eq_ii, eq_bb, in_ss, ix_t, ix_r, at_0, at_1, at_2, at_3, at_4, on_get, on_sz, List.getElem?_cons_zero, List.getElem?_cons_succ, List.getElem?_nil, List.set_cons_zero, List.set_cons_succ, Option.map_some, Option.map_none, if_true, if_false, Bool.false_eq_true, decide_true, decide_false, Bool.not_true, Bool.not_false, on_on, List.length_cons, List.length_nil, on_setw, on_pushw, List.nil_append, List.cons_append, seq_new, its_new, lst_new, ix_new, len_new, iv_new, newL_one, newL_two, newL_nil, iv_t, iv_r]
theorem truths20 {x : W} (pl : plain F) (hF : nsh F ≤ 17) (hk : dep F ≤ 5) (hr : RowsAt G x rs) (hl : rs.length ≤ 10) (wf : Wf G) :
    ∃ m G', xC T (d + 20) 5 [wF F, x] (on G) = .ok (.ref m) (on G') ∧ G'.get m = some (.lst ((truthL F rs).map .bl)) ∧ G.sz ≤ m ∧ Ext G G' ∧ Wf G' :=
  truths_ok (d := d + 11) (K := 6) pl (by omega) (by omega) hr (by omega) wf
theorem like20 {a : Da} {w w' : W} (h1 : dpt a ≤ 3) (h2 : few a) (h3 : IsDa G a w) (h4 : IsDa G a w') (wf : Wf G) : ∃ G', xC T (d + 20) 13 [w, w'] (on G) = .ok (.bl true) (on G') ∧ Ext G G' ∧ Wf G' :=
  like_ok (d := d + 10) f13 stdI 10 a w w' G 10 (by omega) h2 h3 h4 wf (by omega)
theorem few_bl {bs : List Bool} (h : bs.length ≤ 10) : few (.lst (bs.map Da.bl)) := ⟨by rw [List.length_map]; omega, fews_bl bs⟩
theorem t5_ok (pl : plain F) (hd : dep F ≤ 4) (hF : nsh F ≤ 16) (h4 : G.get r4 = some (.lst (rs.map .str))) (h5 : G.get r5 = some (.lst (rs.map .str))) (h6 : G.get r6 = some (.lst ((truthL F rs).map .bl))) (hl : rs.length ≤ 9) (hz : ∀ z ∈ rs, PyData.strOk z = true) (wf : Wf G) (o0 o1 o2 o7 o8 o9 : Option W) :
    ∃ (G' : GH), xS T (d + 20) t5 [o0, o1, o2, some (wF F), some (.ref r4), some (.ref r5), some (.ref r6), o7, o8, o9] (on G) = .nx [o0, o1, o2, some (wF F), some (.ref r4), some (.ref r5), some (.ref r6), o7, o8, o9] (on G') ∧ Ext G G' ∧ Wf G' := by
  obtain ⟨m1, G1, e1, g1, _, x1, w1⟩ := truths20 (d := d) pl (by omega) (by omega) (.inr ⟨r4, rfl, h4⟩) (by omega) wf
  have ht := tuple_l (x1.get h4 fun z => z)
  obtain ⟨m2, G2, e2, g2, _, x2, w2⟩ := truths20 (d := d) (G := G1) (x := .tup (rs.map .str)) pl (by omega) (by omega) (.inl rfl) (by omega) w1
  have bd : bindA [.a 1, .a 0] [.tup (rs.map .str), wF F] = some [wF F, .tup (rs.map .str)] := rfl
  let G3 := G2.push (.lst [.ref m1, .ref m2])
  let G4 := G3.push (.lst [.ref r6, .ref r6])
  have w3 : Wf G3 := w2.push _
  have w4 : Wf G4 := w3.push _
  have x3 : Ext G2 G3 := Fr.push w2 _
  have x4 : Ext G3 G4 := Fr.push w3 _
  have z6 : IsDa G4 (.lst ((truthL F rs).map .bl)) (.ref r6) := isDa_bl ((((x1.trans x2).trans x3).trans x4).get h6 fun z => z)
  have z1 : IsDa G4 (.lst ((truthL F rs).map .bl)) (.ref m1) := isDa_bl (((x2.trans x3).trans x4).get g1 fun z => z)
  have z2 : IsDa G4 (.lst ((truthL F rs).map .bl)) (.ref m2) := isDa_bl ((x3.trans x4).get g2 fun z => z)
  have hfb : few (.lst ((truthL F rs).map .bl)) := few_bl (by rw [truthL_len]; omega)
  obtain ⟨G5, e5, x5, w5⟩ := like20 (d := d) (G := G4) (a := .lst [.lst ((truthL F rs).map .bl), .lst ((truthL F rs).map .bl)]) (w := .ref G2.sz) (w' := .ref G3.sz)
    (by show max (dpts ((truthL F rs).map .bl) + 1) (max (dpts ((truthL F rs).map .bl) + 1) 0) + 1 ≤ 3; rw [dpts_bl]; decide)
    ⟨show 2 ≤ 10000 by decide, hfb, hfb, trivial⟩ ⟨_, _, rfl, x4.get (get_push_self _ _) fun z => z, _, _, rfl, z1, _, _, rfl, z2, rfl⟩ ⟨_, _, rfl, get_push_self _ _, _, _, rfl, z6, _, _, rfl, z6, rfl⟩ w4
  have xx := (((x1.trans x2).trans x3).trans x4).trans x5
  have hq := eq_rows (xx.get h4 fun z => z) (xx.get h5 fun z => z) hz
  refine ⟨G5, ?_, xx, w5⟩
  have s3 : G3.sz = G2.sz + 1 := rfl
  dsimp only [G4, G3] at e5
  simp (config := { decide := true }) only [t5, e1, ht, bd, e2, e5, hq, oE_cst, oE_var, oE_bin, oE_cmp, oE_and, oE_or, oE_not, oE_neg, oE_ife, oE_tup, oE_lst, oE_ix, oE_sl, oE_call, oE_mk, oE_met, oE_att, oE_blt, oE_lc, oEs_nil, oEs_cons, oA_nil, oA_e, oA_s, oI_e, oI_rng, oI_zip, oW_eq, oSs_nil, oSs_cons, oS_asg, oS_sub, oS_att, oS_par, oS_exp, oS_ife, oS_for, oS_whl, oS_ret, oS_pass, rb_ok, rt_ok, ft_nx, ft_ret, fl_nx, fl_ret, fo_nx, fo_ret, oo_some, og_some, nox_ok, tru_bl, tru_int, bA_nil, asg_v, c_eq, c_ne, c_in, c_nin, c_lt, c_le, c_gt, c_ge, c_is, c_isn, eq_ss, eq_ii, eq_bb, in_ss, ix_t, ix_r, at_0, at_1, at_2, at_3, at_4, on_get, on_sz, List.getElem?_cons_zero, List.getElem?_cons_succ, List.getElem?_nil, List.set_cons_zero, List.set_cons_succ, Option.map_some, Option.map_none, if_true, if_false, Bool.false_eq_true, decide_true, decide_false, Bool.not_true, Bool.not_false, on_on, List.length_cons, List.length_nil, on_setw, on_pushw, List.nil_append, List.cons_append, seq_new, its_new, lst_new, ix_new, len_new, iv_new, newL_one, newL_two, newL_nil, iv_t, iv_r]
theorem t6_ok (pl : plain F) (hd : dep F ≤ 4) (hF : nsh F ≤ 16) (h4 : G.get r4 = some (.lst (rs.map .str))) (hl : rs.length ≤ 9) (wf : Wf G) (o0 o1 o2 o5 o6 o7 o8 o9 : Option W) :
    ∃ (G' : GH), xS T (d + 20) t6 [o0, o1, o2, some (wF F), some (.ref r4), o5, o6, o7, o8, o9] (on G) = .nx [o0, o1, o2, some (wF F), some (.ref r4), o5, o6, o7, o8, o9] (on G') ∧ Ext G G' ∧ Wf G' := by
  obtain ⟨m1, G1, e1, g1, hm, x1, w1⟩ := truths20 (d := d) pl (by omega) (by omega) (.inr ⟨r4, rfl, h4⟩) (by omega) wf
  have mm := mk_lst (T := T) (m := 0) (k := .append) g1 rfl
  have ap := app_l (w := .non) g1 (by rw [List.length_map, truthL_len]; exact Nat.lt_of_le_of_lt hl (by decide))
  refine ⟨G1.set m1 (.lst ((truthL F rs).map .bl ++ [.non])), ?_, Ext.setNew x1 wf hm, w1.set (w1 _ _ g1) _⟩
  simp (config := { decide := true }) only [t6, e1, mm, ap, oE_cst, oE_var, oE_bin, oE_cmp, oE_and, oE_or, oE_not, oE_neg, oE_ife, oE_tup, oE_lst, oE_ix, oE_sl, oE_call, oE_mk, oE_met, oE_att, oE_blt, oE_lc, oEs_nil, oEs_cons, oA_nil, oA_e, oA_s, oI_e, oI_rng, oI_zip, oW_eq, oSs_nil, oSs_cons, oS_asg, oS_sub, oS_att, oS_par, oS_exp, oS_ife, oS_for, oS_whl, oS_ret, oS_pass, rb_ok, rt_ok, ft_nx, ft_ret, fl_nx, fl_ret, fo_nx, fo_ret, oo_some, og_some, nox_ok, tru_bl, tru_int, bA_nil, asg_v, c_eq, c_ne, c_in, c_nin, c_lt, c_le, c_gt, c_ge, c_is, c_isn, eq_ss, eq_ii, eq_bb, in_ss, ix_t, ix_r, at_0, at_1, at_2, at_3, at_4, on_get, on_sz, List.getElem?_cons_zero, List.getElem?_cons_succ, List.getElem?_nil, List.set_cons_zero, List.set_cons_succ, Option.map_some, Option.map_none, if_true, if_false, Bool.false_eq_true, decide_true, decide_false, Bool.not_true, Bool.not_false, on_on, List.length_cons, List.length_nil, on_setw, on_pushw, List.nil_append, List.cons_append, seq_new, its_new, lst_new, ix_new, len_new, iv_new, newL_one, newL_two, newL_nil, iv_t, iv_r]
theorem t7_ok (pl : plain F) (hd : dep F ≤ 4) (hF : nsh F ≤ 16) (h4 : G.get r4 = some (.lst (rs.map .str))) (hl : rs.length ≤ 9) (wf : Wf G) (o0 o1 o2 o5 o6 o7 o8 o9 : Option W) :
    ∃ (m : Nat) (G' : GH), xS T (d + 20) t7 [o0, o1, o2, some (wF F), some (.ref r4), o5, o6, o7, o8, o9] (on G) = .nx [o0, o1, o2, some (wF F), some (.ref r4), o5, o6, some (.ref m), o8, o9] (on G') ∧ G'.get m = some (.lst ((lowL (truthL F rs) (rs.length + 1)).map .bl)) ∧ Ext G G' ∧ Wf G' := by
  let G1 := G.push (.lst [.str ""])
  have w1 : Wf G1 := wf.push _
  have x1 : Ext G G1 := Fr.push wf _
  have ha := lst_add (x1.get h4 fun z => z) (get_push_self G (.lst [.str ""])) (by rw [List.length_append, List.length_map]; show rs.length + 1 ≤ _; exact Nat.le_trans (show rs.length + 1 ≤ 1000 by omega) (by decide))
  have ha2 : rs.map W.str ++ [W.str ""] = (rs ++ [("" : Str)]).map .str := by rw [List.map_append]; rfl
  rw [ha2] at ha
  let G2 := G1.push (.lst ((rs ++ [("" : Str)]).map .str))
  obtain ⟨m, G3, e3, g3, _, x3, w3⟩ := truths20 (d := d) (G := G2) (F := .shown F) (x := .ref G1.sz) (rs := rs ++ [("" : Str)]) pl (by show nsh F + 1 ≤ 17; omega) (by show dep F + 1 ≤ 5; omega) (.inr ⟨_, rfl, get_push_self _ _⟩) (by rw [List.length_append]; show rs.length + 1 ≤ 10; omega) (w1.push _)
  rw [low_eq] at g3
  refine ⟨m, G3, ?_, g3, (x1.trans (Fr.push w1 _)).trans x3, w3⟩
  have e3' : xC T (d + 20) 5 [.tup [.str "shown", wF F], .ref G1.sz] (on G2) = .ok (.ref m) (on G3) := e3
  dsimp only [G2, G1] at e3' ha
  simp (config := { decide := true }) only [t7, ha, e3', oE_cst, oE_var, oE_bin, oE_cmp, oE_and, oE_or, oE_not, oE_neg, oE_ife, oE_tup, oE_lst, oE_ix, oE_sl, oE_call, oE_mk, oE_met, oE_att, oE_blt, oE_lc, oEs_nil, oEs_cons, oA_nil, oA_e, oA_s, oI_e, oI_rng, oI_zip, oW_eq, oSs_nil, oSs_cons, oS_asg, oS_sub, oS_att, oS_par, oS_exp, oS_ife, oS_for, oS_whl, oS_ret, oS_pass, rb_ok, rt_ok, ft_nx, ft_ret, fl_nx, fl_ret, fo_nx, fo_ret, oo_some, og_some, nox_ok, tru_bl, tru_int, bA_nil, asg_v, c_eq, c_ne, c_in, c_nin, c_lt, c_le, c_gt, c_ge, c_is, c_isn, eq_ss, eq_ii, eq_bb, in_ss, ix_t, ix_r, at_0, at_1, at_2, at_3, at_4, on_get, on_sz, List.getElem?_cons_zero, List.getElem?_cons_succ, List.getElem?_nil, List.set_cons_zero, List.set_cons_succ, Option.map_some, Option.map_none, if_true, if_false, Bool.false_eq_true, decide_true, decide_false, Bool.not_true, Bool.not_false, on_on, List.length_cons, List.length_nil, on_setw, on_pushw, List.nil_append, List.cons_append, seq_new, its_new, lst_new, ix_new, len_new, iv_new, newL_one, newL_two, newL_nil, iv_t, iv_r]
theorem lowL_len (due : List Bool) (n : Nat) : (lowL due n).length = n := by unfold lowL; rw [List.length_map, List.length_range]
theorem t8_ok {m : Nat} (h4 : G.get r4 = some (.lst (rs.map .str))) (h6 : G.get r6 = some (.lst ((truthL F rs).map .bl))) (hm : G.get m = some (.lst ((lowL (truthL F rs) (rs.length + 1)).map .bl))) (hl : rs.length ≤ 9) (wf : Wf G) (o0 o1 o2 o3 o5 o8 o9 : Option W) :
    ∃ (G' : GH), xS T (d + 20) t8 [o0, o1, o2, o3, some (.ref r4), o5, some (.ref r6), some (.ref m), o8, o9] (on G) = .nx [o0, o1, o2, o3, some (.ref r4), o5, some (.ref r6), some (.ref m), o8, o9] (on G') ∧ Ext G G' ∧ Wf G' := by
  have hlen := len_l (T := T) h4
  rw [List.length_map] at hlen
  have ha : ((rs.length : Int) + 1) = ((rs.length + 1 : Nat) : Int) := by omega
  have hr := rng_1 (n := rs.length + 1) (by omega)
  obtain ⟨G2, e2, x2, w2⟩ := low_ok (d := d + 20) (n := rs.length + 1) h6 (by rw [truthL_len]; omega) (by rw [truthL_len]; omega) wf o0 o1 o2 o3 (some (.ref r4)) o5 (some (.ref m)) o8 none
  have hll := lowL_len (truthL F rs) (rs.length + 1)
  have hnl : newL (on G2) ((lowL (truthL F rs) (rs.length + 1)).map .bl) = some (.ref G2.sz, G2.push (.lst ((lowL (truthL F rs) (rs.length + 1)).map .bl))) := newL_on (by rw [List.length_map, hll]; exact Nat.le_trans (show rs.length + 1 ≤ 1000 by omega) (by decide))
  have x3 := x2.trans (Fr.push w2 (.lst ((lowL (truthL F rs) (rs.length + 1)).map .bl)))
  have w3 := w2.push (.lst ((lowL (truthL F rs) (rs.length + 1)).map .bl))
  obtain ⟨G4, e4, x4, w4⟩ := like20 (d := d) (a := .lst ((lowL (truthL F rs) (rs.length + 1)).map .bl)) (w := .ref m) (w' := .ref G2.sz) (by show dpts _ + 1 ≤ 3; rw [dpts_bl]; decide) (few_bl (by rw [hll]; omega)) (isDa_bl (x3.get hm fun z => z)) (isDa_bl (get_push_self _ _)) w3
  refine ⟨G4, ?_, x3.trans x4, w4⟩
  simp (config := { decide := true }) only [t8, hlen, b_add, ha, hr, wipeW, e2, hnl, e4, oE_cst, oE_var, oE_bin, oE_cmp, oE_and, oE_or, oE_not, oE_neg, oE_ife, oE_tup, oE_lst, oE_ix, oE_sl, oE_call, oE_mk, oE_met, oE_att, oE_blt, oE_lc, oEs_nil, oEs_cons, oA_nil, oA_e, oA_s, oI_e, oI_rng, oI_zip, oW_eq, oSs_nil, oSs_cons, oS_asg, oS_sub, oS_att, oS_par, oS_exp, oS_ife, oS_for, oS_whl, oS_ret, oS_pass, rb_ok, rt_ok, ft_nx, ft_ret, fl_nx, fl_ret, fo_nx, fo_ret, oo_some, og_some, nox_ok, tru_bl, tru_int, bA_nil, asg_v, c_eq, c_ne, c_in, c_nin, c_lt, c_le, c_gt, c_ge, c_is, c_isn, eq_ss, eq_ii, eq_bb, in_ss, ix_t, ix_r, at_0, at_1, at_2, at_3, at_4, on_get, on_sz, List.getElem?_cons_zero, List.getElem?_cons_succ, List.getElem?_nil, List.set_cons_zero, List.set_cons_succ, Option.map_some, Option.map_none, if_true, if_false, Bool.false_eq_true, decide_true, decide_false, Bool.not_true, Bool.not_false, on_on, List.length_cons, List.length_nil, on_setw, on_pushw, List.nil_append, List.cons_append, seq_new, its_new, lst_new, ix_new, len_new, iv_new, newL_one, newL_two, newL_nil, iv_t, iv_r]
theorem turn_ok (hb : IsBag G b) (wf : Wf G) (o0 o2 o3 o4 o5 o6 o7 o8 o9 : Option W) :
    ∃ G' p2 p3 p4 p5 p6 p7 p8 p9, xSs T (d + 20) turn [o0, some (.ref b), o2, o3, o4, o5, o6, o7, o8, o9] (on G) = .nx [o0, some (.ref b), p2, p3, p4, p5, p6, p7, p8, p9] (on G') ∧ Made G G' b := by
  obtain ⟨F, G1, e1, pl, hd, hF, m1⟩ := t1_ok (d := d) hb wf o0 o2 o3 o4 o5 o6 o7 o8 o9
  obtain ⟨rs, r4, G2, e2, hl, hz, g2, hn, m2⟩ := t2_ok (d := d) m1.bag m1.wf o0 o2 (some (wF F)) o4 o5 o6 o7 o8 o9
  have e3 := t3_ok (d := d) g2 hl o0 (some (.ref b)) o2 (some (wF F)) o5 o6 o7 o8 o9
  have x3 : Ext G2 (G2.push (.lst (rs.map .str))) := Fr.push m2.wf _
  have w3 := m2.wf.push (.lst (rs.map .str))
  obtain ⟨r6, G4, e4, g4, x4, w4⟩ := t4_ok (d := d) pl hd (x3.get g2 fun z => z) hl w3 o0 (some (.ref b)) o2 (some (.ref G2.sz)) o6 o7 o8 o9
  have y4 := x3.trans x4
  obtain ⟨G5, e5, x5, w5⟩ := t5_ok (d := d) (r5 := G2.sz) pl hd hF (y4.get g2 fun z => z) (x4.get (get_push_self _ _) fun z => z) g4 hl hz w4 o0 (some (.ref b)) o2 o7 o8 o9
  have y5 := y4.trans x5
  obtain ⟨G6, e6, x6, w6⟩ := t6_ok (d := d) pl hd hF (y5.get g2 fun z => z) hl w5 o0 (some (.ref b)) o2 (some (.ref G2.sz)) (some (.ref r6)) o7 o8 o9
  have y6 := y5.trans x6
  obtain ⟨m, G7, e7, g7, x7, w7⟩ := t7_ok (d := d) pl hd hF (y6.get g2 fun z => z) hl w6 o0 (some (.ref b)) o2 (some (.ref G2.sz)) (some (.ref r6)) o7 o8 o9
  have y7 := y6.trans x7
  obtain ⟨G8, e8, x8, w8⟩ := t8_ok (d := d) (F := F) (y7.get g2 fun z => z) (((x5.trans x6).trans x7).get g4 fun z => z) g7 hl w7 o0 (some (.ref b)) o2 (some (wF F)) (some (.ref G2.sz)) o8 o9
  have y8 := y7.trans x8
  have ee : xSs T (d + 20) turn [o0, some (.ref b), o2, o3, o4, o5, o6, o7, o8, o9] (on G) = .nx [o0, some (.ref b), o2, some (wF F), some (.ref r4), some (.ref G2.sz), some (.ref r6), some (.ref m), o8, o9] (on G8) := by
    unfold turn
    rw [xSs_cons, e1, ft_nx, xSs_cons, e2, ft_nx, xSs_cons, e3, ft_nx, xSs_cons, e4, ft_nx, xSs_cons, e5, ft_nx, xSs_cons, e6, ft_nx, xSs_cons, e7, ft_nx, xSs_cons, e8, ft_nx, xSs_nil]
  exact ⟨G8, _, _, _, _, _, _, _, _, ee, (m1.trans m2).trans ⟨m2.bag.fr y8, y8.mono fun _ z => z.elim, w8⟩⟩
end
end K19

set_option maxHeartbeats 4000000
/-! K19_P: the law whole. -/
namespace K19
open PySem PM
theorem c6 {d : Nat} {G : GH} (a : W) : xC T (d + 1) 6 [a] (on G) = (xSs T d b6 [some a] (on G)).out := by rw [xC_eq (fd := ⟨1, 1, b6⟩) rfl rfl]; rfl
theorem c14 {d : Nat} {G : GH} (a : W) : xC T (d + 1) 14 [a] (on G) = (xSs T d b14 [some a, none, none, none, none, none, none, none, none, none] (on G)).out := by rw [xC_eq (fd := ⟨1, 10, b14⟩) rfl rfl]; rfl
theorem cut_63 (ns : List Int) : ∃ ms : List Int, cutW (ns.map W.int) none (some 63) = ms.map W.int ∧ ms.length ≤ 63 := by
  refine ⟨ns.take (min 63 (ns.map W.int).length), ?_, ?_⟩
  · have : (63 : Int) = ((63 : Nat) : Int) := rfl
    unfold cutW
    rw [HT.sIx_none, this, HT.sIx_nat, List.drop_zero, Nat.sub_zero, ← List.map_take]
  · rw [List.length_take]
    omega
theorem bag_ok {d : Nat} {G : GH} (wf : Wf G) (ns : List Int) : ∃ b G', xC T (d + 1) 6 [.rol (ns.map .int)] (on G) = .ok (.ref b) (on G') ∧ IsBag G' b ∧ Wf G' := by
  obtain ⟨ms, hc, hl⟩ := cut_63 ns
  have hs : slop (on G) (.rol (ns.map .int)) none (some 63) = some (.ref G.sz, G.push (.lst (ms.map .int))) := by
    show newL (on G) (cutW (ns.map W.int) none (some 63)) = _
    rw [hc]
    exact newL_on (by rw [List.length_map]; exact Nat.le_trans hl (by decide))
  let G1 := G.push (.lst (ms.map .int))
  have w1 : Wf G1 := wf.push _
  have g1 : G1.get G.sz = some (.lst (ms.map .int)) := get_push_self _ _
  have hli := list_l g1 (by rw [List.length_map]; exact Nat.le_trans hl (by decide))
  let G2 := G1.push (.lst (ms.map .int))
  have w2 : Wf G2 := w1.push _
  have g2 : G2.get G1.sz = some (.lst (ms.map .int)) := get_push_self _ _
  let bg : List W := [.ref G1.sz, .int ((0 : Nat) : Int), .int 0, .int 5600, .int 0]
  have hnl : newL (on G2) bg = some (.ref G2.sz, G2.push (.lst bg)) := newL_on (show 5 ≤ sizeLine by decide)
  refine ⟨G2.sz, G2.push (.lst bg), ?_, ⟨G1.sz, ms, 0, 0, 5600, 0, ?_, get_push_self _ _, (Fr.push (S := fun _ => False) w2 _).get g2 fun z => z, by decide, by decide, by decide⟩, w2.push _⟩
  · dsimp only [bg, G2, G1] at hli hnl ⊢
    rw [c6]
    have o : optI (.int 63) = some (some 63) := rfl
    have o2 : optI .non = some none := rfl
    have z0 : ((0 : Nat) : Int) = 0 := rfl
    rw [z0] at hnl ⊢
    simp (config := { decide := true }) only [b6, o, o2, hs, hli, hnl, oE_cst, oE_var, oE_bin, oE_cmp, oE_and, oE_or, oE_not, oE_neg, oE_ife, oE_tup, oE_lst, oE_ix, oE_sl, oE_call, oE_mk, oE_met, oE_att, oE_blt, oE_lc, oEs_nil, oEs_cons, oA_nil, oA_e, oA_s, oI_e, oI_rng, oI_zip, oW_eq, oSs_nil, oSs_cons, oS_asg, oS_sub, oS_att, oS_par, oS_exp, oS_ife, oS_for, oS_whl, oS_ret, oS_pass, rb_ok, rt_ok, ft_nx, ft_ret, fl_nx, fl_ret, fo_nx, fo_ret, oo_some, og_some, nox_ok, tru_bl, tru_int, bA_nil, asg_v, c_eq, c_ne, c_in, c_nin, c_lt, c_le, c_gt, c_ge, c_is, c_isn, eq_ss, eq_ii, eq_bb, in_ss, ix_t, ix_r, at_0, at_1, at_2, at_3, at_4, on_get, on_sz, List.getElem?_cons_zero, List.getElem?_cons_succ, List.getElem?_nil, List.set_cons_zero, List.set_cons_succ, Option.map_some, Option.map_none, if_true, if_false, Bool.false_eq_true, decide_true, decide_false, Bool.not_true, Bool.not_false, on_on, List.length_cons, List.length_nil, on_setw, on_pushw, List.nil_append, List.cons_append, seq_new, its_new, lst_new, ix_new, len_new, iv_new, newL_one, newL_two, newL_nil, iv_t, iv_r]
  · show G1.sz + 1 ≠ G1.sz
    omega
theorem rng8 : rngOf [.int 8] = some (rngW 0 8) := rfl
theorem loop_ok {d b : Nat} {G : GH} (hb : IsBag G b) (wf : Wf G) (o0 : Option W) :
    ∃ σ' G', xF T (d + 20) (.one (.sq (rngW 0 8))) 0 (.v 2) turn [o0, some (.ref b), none, none, none, none, none, none, none, none] (on G) = .nx σ' (on G') ∧ (∃ p2 p3 p4 p5 p6 p7 p8 p9, σ' = [o0, some (.ref b), p2, p3, p4, p5, p6, p7, p8, p9]) ∧ Wf G' := by
  obtain ⟨σ', G2, e2, hs, m2⟩ := xF_seq (T := T) (d := d + 20) (iv := .one (.sq (rngW 0 8))) (tg := .v 2) (b := turn) (rngW 0 8)
    (fun _ σ H => (∃ p2 p3 p4 p5 p6 p7 p8 p9, σ = [o0, some (.ref b), p2, p3, p4, p5, p6, p7, p8, p9]) ∧ Made G H b) (fun j σ H _ => sq_at) (fun j w σ H _ hI => by
      obtain ⟨⟨p2, p3, p4, p5, p6, p7, p8, p9, rfl⟩, m1⟩ := hI
      obtain ⟨H2, q2, q3, q4, q5, q6, q7, q8, q9, e, m2⟩ := turn_ok (d := d) m1.bag m1.wf o0 (some w) p3 p4 p5 p6 p7 p8 p9
      exact ⟨_, _, H2, asg_v, e, ⟨q2, q3, q4, q5, q6, q7, q8, q9, rfl⟩, m1.trans m2⟩) 8 0 _ G rfl ⟨⟨none, none, none, none, none, none, none, none, rfl⟩, Made.refl hb wf⟩
  exact ⟨σ', G2, e2, hs, m2.wf⟩
theorem end_eq {G : GH} {a b : Nat} {bs : List Bool} (h : bs = [true, true, false, false]) (ha : G.get a = some (.lst (bs.map .bl))) (hb : G.get b = some (.lst [.bl true, .bl true, .bl false, .bl false])) : eqW (on G) (.ref a) (.ref b) = some true := by
  subst h
  have d1 : ∀ c, G.get c = some (.lst [.bl true, .bl true, .bl false, .bl false]) → dat 60 (on G) (.ref c) = some (.list [.bool true, .bool true, .bool false, .bool false]) := fun c hc => by
    show (match (on G).get c with | some (.lst ws) => (optAll (dat 59 (on G)) ws).map PyData.list | _ => none) = _
    rw [on_get, hc]
    rfl
  show eqD (on G) (.ref a) (.ref b) = _
  unfold eqD
  rw [d1 a ha, d1 b hb]
  decide +kernel
theorem tEnd_ok {d : Nat} {G : GH} (wf : Wf G) (o0 o1 o2 o3 o4 o5 o6 o7 o8 o9 : Option W) :
    ∃ G', xS T (d + 20) tEnd [o0, o1, o2, o3, o4, o5, o6, o7, o8, o9] (on G) = .ret (.bl true) (on G') := by
  let rs : List Str := ["", "P", "PQR", ""]
  let G1 := G.push (.lst (rs.map .str))
  obtain ⟨m, G2, e2, g2, _, x2, w2⟩ := truths20 (d := d) (G := G1) (F := .shown (.shown .fls)) (x := .ref G.sz) (rs := rs) trivial (by decide) (by decide) (.inr ⟨_, rfl, get_push_self _ _⟩) (by decide) (wf.push _)
  have ht : truthL (.shown (.shown .fls)) rs = [true, true, false, false] := by decide +kernel
  let G3 := G2.push (.lst [.bl true, .bl true, .bl false, .bl false])
  have hq := end_eq (G := G3) ht ((Fr.push (S := fun _ => False) w2 _).get g2 fun z => z) (get_push_self _ _)
  refine ⟨G3, ?_⟩
  have n1 : newL (on G) [.str "", .str "P", .str "PQR", .str ""] = some (.ref G.sz, G1) := newL_on (show 4 ≤ sizeLine by decide)
  have n2 : newL (on G2) [.bl true, .bl true, .bl false, .bl false] = some (.ref G2.sz, G3) := newL_on (show 4 ≤ sizeLine by decide)
  have e2' : xC T (d + 20) 5 [.tup [.str "shown", .tup [.str "shown", .tup [.str "false"]]], .ref G.sz] (on G1) = .ok (.ref m) (on G2) := e2
  simp (config := { decide := true }) only [tEnd, n1, n2, e2', hq, oE_cst, oE_var, oE_bin, oE_cmp, oE_and, oE_or, oE_not, oE_neg, oE_ife, oE_tup, oE_lst, oE_ix, oE_sl, oE_call, oE_mk, oE_met, oE_att, oE_blt, oE_lc, oEs_nil, oEs_cons, oA_nil, oA_e, oA_s, oI_e, oI_rng, oI_zip, oW_eq, oSs_nil, oSs_cons, oS_asg, oS_sub, oS_att, oS_par, oS_exp, oS_ife, oS_for, oS_whl, oS_ret, oS_pass, rb_ok, rt_ok, ft_nx, ft_ret, fl_nx, fl_ret, fo_nx, fo_ret, oo_some, og_some, nox_ok, tru_bl, tru_int, bA_nil, asg_v, c_eq, c_ne, c_in, c_nin, c_lt, c_le, c_gt, c_ge, c_is, c_isn, eq_ss, eq_ii, eq_bb, in_ss, ix_t, ix_r, at_0, at_1, at_2, at_3, at_4, on_get, on_sz, List.getElem?_cons_zero, List.getElem?_cons_succ, List.getElem?_nil, List.set_cons_zero, List.set_cons_succ, Option.map_some, Option.map_none, if_true, if_false, Bool.false_eq_true, decide_true, decide_false, Bool.not_true, Bool.not_false, on_on, List.length_cons, List.length_nil, on_setw, on_pushw, List.nil_append, List.cons_append, seq_new, its_new, lst_new, ix_new, len_new, iv_new, newL_one, newL_two, newL_nil, iv_t, iv_r]
def depth : Nat := 100
theorem ev (ns : List Int) (_ : ns.length ≤ 63) : ∃ G', xC T depth 14 [.rol (ns.map .int)] ⟨0, .e⟩ = .ok (.bl true) G' := by
  have d0 : depth = 79 + 20 + 1 := rfl
  have d1 : (79 : Nat) + 20 = 98 + 1 := rfl
  obtain ⟨b, G1, e1, hb, w1⟩ := bag_ok (d := 98) Wf.nil ns
  obtain ⟨σ', G2, e2, ⟨p2, p3, p4, p5, p6, p7, p8, p9, hs⟩, w2⟩ := loop_ok (d := 79) hb w1 (some (.rol (ns.map .int)))
  obtain ⟨G3, e3⟩ := tEnd_ok (d := 79) w2 (some (.rol (ns.map .int))) (some (.ref b)) p2 p3 p4 p5 p6 p7 p8 p9
  rw [hs] at e2
  refine ⟨on G3, ?_⟩
  rw [← on_eq ⟨0, .e⟩, d0, c14, b14_eq]
  have e1' : xC T (79 + 20) 6 [.rol (ns.map .int)] (on ⟨0, .e⟩) = .ok (.ref b) (on G1) := e1
  generalize hD : (79 : Nat) + 20 = D at e1' e2 e3 ⊢
  simp (config := { decide := true }) only [e1', rng8, e2, e3, oE_cst, oE_var, oE_bin, oE_cmp, oE_and, oE_or, oE_not, oE_neg, oE_ife, oE_tup, oE_lst, oE_ix, oE_sl, oE_call, oE_mk, oE_met, oE_att, oE_blt, oE_lc, oEs_nil, oEs_cons, oA_nil, oA_e, oA_s, oI_e, oI_rng, oI_zip, oW_eq, oSs_nil, oSs_cons, oS_asg, oS_sub, oS_att, oS_par, oS_exp, oS_ife, oS_for, oS_whl, oS_ret, oS_pass, rb_ok, rt_ok, ft_nx, ft_ret, fl_nx, fl_ret, fo_nx, fo_ret, oo_some, og_some, nox_ok, tru_bl, tru_int, bA_nil, asg_v, c_eq, c_ne, c_in, c_nin, c_lt, c_le, c_gt, c_ge, c_is, c_isn, eq_ss, eq_ii, eq_bb, in_ss, ix_t, ix_r, at_0, at_1, at_2, at_3, at_4, on_get, on_sz, List.getElem?_cons_zero, List.getElem?_cons_succ, List.getElem?_nil, List.set_cons_zero, List.set_cons_succ, Option.map_some, Option.map_none, if_true, if_false, Bool.false_eq_true, decide_true, decide_false, Bool.not_true, Bool.not_false, on_on, List.length_cons, List.length_nil, on_setw, on_pushw, List.nil_append, List.cons_append, seq_new, its_new, lst_new, ix_new, len_new, iv_new, newL_one, newL_two, newL_nil, iv_t, iv_r]
end K19

set_option maxHeartbeats 0
/-! K19_I: the program joined. -/
namespace K19
open PySem PySem.Spec PyProof.Rows L2 PM
def top (i : Nat) : Stmt := PySem.Challenge.pw_shownplay_k19_truth_values_of_formulas.main.body.getD i (.Pass ⟨0, 0, 0, 0⟩)
def inC (st : Stmt) (j : Nat) : Stmt := match st with
  | .ClassDef _ _ _ b _ _ _ _ _ _ _ => b.getD j (.Pass ⟨0, 0, 0, 0⟩)
  | _ => st
def s0 : Stmt := top 1
def d0 : He.DefD := ⟨("numbered", none), "numbered", "numbered", defArgs s0, defBody s0, defScope s0, [], []⟩
def s1 : Stmt := top 2
def d1 : He.DefD := ⟨("is_true", none), "is_true", "is_true", defArgs s1, defBody s1, defScope s1, [], []⟩
def s2 : Stmt := top 3
def d2 : He.DefD := ⟨("fallen", none), "fallen", "fallen", defArgs s2, defBody s2, defScope s2, [], []⟩
def s3 : Stmt := inC (top 4) 0
def d3 : He.DefD := ⟨("Letters", some "__init__"), "__init__", "Letters.__init__", defArgs s3, defBody s3, defScope s3, [], []⟩
def s4 : Stmt := inC (top 4) 1
def d4 : He.DefD := ⟨("Letters", some "atom"), "atom", "Letters.atom", defArgs s4, defBody s4, defScope s4, [], []⟩
def s5 : Stmt := top 6
def d5 : He.DefD := ⟨("truths", none), "truths", "truths", defArgs s5, defBody s5, defScope s5, [], []⟩
def s6 : Stmt := top 8
def d6 : He.DefD := ⟨("_law_bag", none), "_law_bag", "_law_bag", defArgs s6, defBody s6, defScope s6, [], []⟩
def s7 : Stmt := top 9
def d7 : He.DefD := ⟨("_law_draw", none), "_law_draw", "_law_draw", defArgs s7, defBody s7, defScope s7, [], []⟩
def s8 : Stmt := top 10
def d8 : He.DefD := ⟨("_law_any", none), "_law_any", "_law_any", defArgs s8, defBody s8, defScope s8, [], []⟩
def s9 : Stmt := top 11
def d9 : He.DefD := ⟨("_law_atom", none), "_law_atom", "_law_atom", defArgs s9, defBody s9, defScope s9, [], []⟩
def s10 : Stmt := top 12
def d10 : He.DefD := ⟨("_law_formula", none), "_law_formula", "_law_formula", defArgs s10, defBody s10, defScope s10, [], []⟩
def s11 : Stmt := top 13
def d11 : He.DefD := ⟨("_law_row", none), "_law_row", "_law_row", defArgs s11, defBody s11, defScope s11, [], []⟩
def s12 : Stmt := top 14
def d12 : He.DefD := ⟨("_law_at", none), "_law_at", "_law_at", defArgs s12, defBody s12, defScope s12, [], []⟩
def s13 : Stmt := top 15
def d13 : He.DefD := ⟨("_law_like", none), "_law_like", "_law_like", defArgs s13, defBody s13, defScope s13, [], []⟩
def s14 : Stmt := top 16
def d14 : He.DefD := ⟨("law", none), "law", "law", defArgs s14, defBody s14, defScope s14, [], []⟩
def fnL : List He.DefD := [d0, d1, d2, d3, d4, d5, d6, d7, d8, d9, d10, d11, d12, d13, d14]
def faL : List He.Fa := [.glo "numbered", .glo "is_true", .glo "fallen", .glo "truths", .glo "_law_bag", .glo "_law_draw", .glo "_law_any", .glo "_law_atom", .glo "_law_formula", .glo "_law_row", .glo "_law_at", .glo "_law_like", .glo "law", .glo "Letters", .cls "Letters", .mkr "Letters", .meth "Letters" "atom", .noat "Letters" "row", .free "len", .free "tuple", .free "zip", .free "int", .free "list", .free "range", .free "all", .free "isinstance", .free "bool", .free "str"]
abbrev R : PySem.W.OpenRow := PySem.W.OpenLaw.row PySem.Challenge.rw_shownplay_k19_truth_values_of_formulas
abbrev hk : PySem.W.Hook := He.hookD 5 faL fnL
def ob (s : PySem.W.SharedT) : He.AlD := He.obsDG 5 faL fnL (HandSHeadRun.getT s)
theorem ob_eq (s : PySem.W.SharedT) : ob s = hk.obs s.abs := He.obsDG_eq (HandSHeadRun.getT_eq s)
def loose : List Str := ["__name__", "numbered", "is_true", "fallen", "Letters", "truths", "_law_bag", "_law_draw", "_law_any", "_law_atom", "_law_formula", "_law_row", "_law_at", "_law_like"]
theorem run (w : World) : HandSHeadRun.RunEq R (PySem.W.view R.prog [16]) hk ob 4000 ["__name__", "numbered", "is_true", "fallen", "Letters", "truths", "_law_bag", "_law_draw", "_law_any", "_law_atom", "_law_formula", "_law_row", "_law_at", "_law_like"] w := by
  intro os
  kernel_rfl
def g : Gn where
  fns := [("numbered", 0), ("is_true", 1), ("fallen", 2), ("truths", 5), ("_law_bag", 6), ("_law_draw", 7), ("_law_any", 8), ("_law_atom", 9), ("_law_formula", 10), ("_law_row", 11), ("_law_at", 12), ("_law_like", 13), ("law", 14)]
  clss := [("Letters", 0)]
  csts := []
  free := ["len", "tuple", "zip", "int", "list", "range", "all", "isinstance", "bool", "str"]
  nms := nms
  sh := [((0, 2, []), []), ((1, 3, []), []), ((2, 3, []), []), ((7, 2, []), []), ((8, 2, []), []), ((9, 3, []), []), ((10, 5, []), []), ((12, 2, []), []), ((13, 2, []), []), ((6, 1, []), []), ((11, 1, []), []), ((5, 2, []), []), ((5, 0, ["rows", "formula"]), [.a 1, .a 0])]
  shc := [((0, 1, []), [])]
def N0 : List Str := ["formula", "bodies", "at", "part"]
def P0 : List Str := ["formula", "bodies"]
theorem sc0 : FnScope N0 P0 (defScope s0) := ⟨rfl, rfl, rfl, by decide +kernel, rfl, by decide +kernel, by decide +kernel⟩
theorem tr0 : trSs g 60 ⟨N0, defScope s0, N0⟩ (defBody s0) = some b0 := by kernel_rfl
theorem bi0 (kV doc pm : Value) (an : Option Addr) (cdv ct : Value) (us : List Value) (hl : us.length = P0.length) : bindArgs (PySem.W.fnOf d0.name d0.qual (defArgs s0) (defBody s0) (defScope s0) .none kV doc pm an cdv ct) ⟨us, []⟩ = pure (P0.zip us) := match us, hl with | [_, _], _ => rfl
def N1 : List Str := ["formula", "flags", "view", "word"]
def P1 : List Str := ["formula", "flags", "view"]
theorem sc1 : FnScope N1 P1 (defScope s1) := ⟨rfl, rfl, rfl, by decide +kernel, rfl, by decide +kernel, by decide +kernel⟩
theorem tr1 : trSs g 60 ⟨N1, defScope s1, N1⟩ (defBody s1) = some b1 := by kernel_rfl
theorem bi1 (kV doc pm : Value) (an : Option Addr) (cdv ct : Value) (us : List Value) (hl : us.length = P1.length) : bindArgs (PySem.W.fnOf d1.name d1.qual (defArgs s1) (defBody s1) (defScope s1) .none kV doc pm an cdv ct) ⟨us, []⟩ = pure (P1.zip us) := match us, hl with | [_, _, _], _ => rfl
def N2 : List Str := ["bodies", "flags", "view", "flag", "body"]
def P2 : List Str := ["bodies", "flags", "view"]
theorem sc2 : FnScope N2 P2 (defScope s2) := ⟨rfl, rfl, rfl, by decide +kernel, rfl, by decide +kernel, by decide +kernel⟩
theorem tr2 : trSs g 60 ⟨N2, defScope s2, N2⟩ (defBody s2) = some b2 := by kernel_rfl
theorem bi2 (kV doc pm : Value) (an : Option Addr) (cdv ct : Value) (us : List Value) (hl : us.length = P2.length) : bindArgs (PySem.W.fnOf d2.name d2.qual (defArgs s2) (defBody s2) (defScope s2) .none kV doc pm an cdv ct) ⟨us, []⟩ = pure (P2.zip us) := match us, hl with | [_, _, _], _ => rfl
def N3 : List Str := ["self", "row"]
def P3 : List Str := ["self", "row"]
theorem sc3 : FnScope N3 P3 (defScope s3) := ⟨rfl, rfl, rfl, by decide +kernel, rfl, by decide +kernel, by decide +kernel⟩
theorem tr3 : trSs g 60 ⟨N3, defScope s3, N3⟩ (defBody s3) = some b3 := by kernel_rfl
theorem bi3 (kV doc pm : Value) (an : Option Addr) (cdv ct : Value) (us : List Value) (hl : us.length = P3.length) : bindArgs (PySem.W.fnOf d3.name d3.qual (defArgs s3) (defBody s3) (defScope s3) .none kV doc pm an cdv ct) ⟨us, []⟩ = pure (P3.zip us) := match us, hl with | [_, _], _ => rfl
def N4 : List Str := ["self", "atom"]
def P4 : List Str := ["self", "atom"]
theorem sc4 : FnScope N4 P4 (defScope s4) := ⟨rfl, rfl, rfl, by decide +kernel, rfl, by decide +kernel, by decide +kernel⟩
theorem tr4 : trSs g 60 ⟨N4, defScope s4, N4⟩ (defBody s4) = some b4 := by kernel_rfl
theorem bi4 (kV doc pm : Value) (an : Option Addr) (cdv ct : Value) (us : List Value) (hl : us.length = P4.length) : bindArgs (PySem.W.fnOf d4.name d4.qual (defArgs s4) (defBody s4) (defScope s4) .none kV doc pm an cdv ct) ⟨us, []⟩ = pure (P4.zip us) := match us, hl with | [_, _], _ => rfl
def N5 : List Str := ["formula", "rows", "bodies", "found", "test", "flags", "row", "body"]
def P5 : List Str := ["formula", "rows"]
theorem sc5 : FnScope N5 P5 (defScope s5) := ⟨rfl, rfl, rfl, by decide +kernel, rfl, by decide +kernel, by decide +kernel⟩
theorem tr5 : trSs g 60 ⟨N5, defScope s5, N5⟩ (defBody s5) = some b5 := by kernel_rfl
theorem bi5 (kV doc pm : Value) (an : Option Addr) (cdv ct : Value) (us : List Value) (hl : us.length = P5.length) : bindArgs (PySem.W.fnOf d5.name d5.qual (defArgs s5) (defBody s5) (defScope s5) .none kV doc pm an cdv ct) ⟨us, []⟩ = pure (P5.zip us) := match us, hl with | [_, _], _ => rfl
def N6 : List Str := ["_law_script"]
def P6 : List Str := ["_law_script"]
theorem sc6 : FnScope N6 P6 (defScope s6) := ⟨rfl, rfl, rfl, by decide +kernel, rfl, by decide +kernel, by decide +kernel⟩
theorem tr6 : trSs g 60 ⟨N6, defScope s6, N6⟩ (defBody s6) = some b6 := by kernel_rfl
theorem bi6 (kV doc pm : Value) (an : Option Addr) (cdv ct : Value) (us : List Value) (hl : us.length = P6.length) : bindArgs (PySem.W.fnOf d6.name d6.qual (defArgs s6) (defBody s6) (defScope s6) .none kV doc pm an cdv ct) ⟨us, []⟩ = pure (P6.zip us) := match us, hl with | [_], _ => rfl
def N7 : List Str := ["_law_bag_here", "_law_many", "_law_cell", "_law_found", "_law_seed"]
def P7 : List Str := ["_law_bag_here", "_law_many"]
theorem sc7 : FnScope N7 P7 (defScope s7) := ⟨rfl, rfl, rfl, by decide +kernel, rfl, by decide +kernel, by decide +kernel⟩
theorem tr7 : trSs g 60 ⟨N7, defScope s7, N7⟩ (defBody s7) = some b7 := by kernel_rfl
theorem bi7 (kV doc pm : Value) (an : Option Addr) (cdv ct : Value) (us : List Value) (hl : us.length = P7.length) : bindArgs (PySem.W.fnOf d7.name d7.qual (defArgs s7) (defBody s7) (defScope s7) .none kV doc pm an cdv ct) ⟨us, []⟩ = pure (P7.zip us) := match us, hl with | [_, _], _ => rfl
def N8 : List Str := ["_law_bag_here", "_law_things"]
def P8 : List Str := ["_law_bag_here", "_law_things"]
theorem sc8 : FnScope N8 P8 (defScope s8) := ⟨rfl, rfl, rfl, by decide +kernel, rfl, by decide +kernel, by decide +kernel⟩
theorem tr8 : trSs g 60 ⟨N8, defScope s8, N8⟩ (defBody s8) = some b8 := by kernel_rfl
theorem bi8 (kV doc pm : Value) (an : Option Addr) (cdv ct : Value) (us : List Value) (hl : us.length = P8.length) : bindArgs (PySem.W.fnOf d8.name d8.qual (defArgs s8) (defBody s8) (defScope s8) .none kV doc pm an cdv ct) ⟨us, []⟩ = pure (P8.zip us) := match us, hl with | [_, _], _ => rfl
def N9 : List Str := ["_law_bag_here", "_law_moves", "_law_names", "_law_way", "_law_move"]
def P9 : List Str := ["_law_bag_here", "_law_moves", "_law_names"]
theorem sc9 : FnScope N9 P9 (defScope s9) := ⟨rfl, rfl, rfl, by decide +kernel, rfl, by decide +kernel, by decide +kernel⟩
theorem tr9 : trSs g 60 ⟨N9, defScope s9, N9⟩ (defBody s9) = some b9 := by kernel_rfl
theorem bi9 (kV doc pm : Value) (an : Option Addr) (cdv ct : Value) (us : List Value) (hl : us.length = P9.length) : bindArgs (PySem.W.fnOf d9.name d9.qual (defArgs s9) (defBody s9) (defScope s9) .none kV doc pm an cdv ct) ⟨us, []⟩ = pure (P9.zip us) := match us, hl with | [_, _, _], _ => rfl
def N10 : List Str := ["_law_bag_here", "_law_moves", "_law_names", "_law_deep", "_law_shown", "_law_way", "_law_parts", "_law_k"]
def P10 : List Str := ["_law_bag_here", "_law_moves", "_law_names", "_law_deep", "_law_shown"]
theorem sc10 : FnScope N10 P10 (defScope s10) := ⟨rfl, rfl, rfl, by decide +kernel, rfl, by decide +kernel, by decide +kernel⟩
theorem tr10 : trSs g 60 ⟨N10, defScope s10, N10⟩ (defBody s10) = some b10 := by kernel_rfl
theorem bi10 (kV doc pm : Value) (an : Option Addr) (cdv ct : Value) (us : List Value) (hl : us.length = P10.length) : bindArgs (PySem.W.fnOf d10.name d10.qual (defArgs s10) (defBody s10) (defScope s10) .none kV doc pm an cdv ct) ⟨us, []⟩ = pure (P10.zip us) := match us, hl with | [_, _, _, _, _], _ => rfl
def N11 : List Str := ["_law_bag_here", "_law_letter"]
def P11 : List Str := ["_law_bag_here"]
theorem sc11 : FnScope N11 P11 (defScope s11) := ⟨rfl, rfl, rfl, by decide +kernel, rfl, by decide +kernel, by decide +kernel⟩
theorem tr11 : trSs g 60 ⟨N11, defScope s11, N11⟩ (defBody s11) = some b11 := by kernel_rfl
theorem bi11 (kV doc pm : Value) (an : Option Addr) (cdv ct : Value) (us : List Value) (hl : us.length = P11.length) : bindArgs (PySem.W.fnOf d11.name d11.qual (defArgs s11) (defBody s11) (defScope s11) .none kV doc pm an cdv ct) ⟨us, []⟩ = pure (P11.zip us) := match us, hl with | [_], _ => rfl
def N12 : List Str := ["_law_formula_z", "_law_rows_z", "_law_word", "_law_first", "_law_at_here"]
def P12 : List Str := ["_law_formula_z", "_law_rows_z"]
theorem sc12 : FnScope N12 P12 (defScope s12) := ⟨rfl, rfl, rfl, by decide +kernel, rfl, by decide +kernel, by decide +kernel⟩
theorem tr12 : trSs g 60 ⟨N12, defScope s12, N12⟩ (defBody s12) = some b12 := by kernel_rfl
theorem bi12 (kV doc pm : Value) (an : Option Addr) (cdv ct : Value) (us : List Value) (hl : us.length = P12.length) : bindArgs (PySem.W.fnOf d12.name d12.qual (defArgs s12) (defBody s12) (defScope s12) .none kV doc pm an cdv ct) ⟨us, []⟩ = pure (P12.zip us) := match us, hl with | [_, _], _ => rfl
def N13 : List Str := ["_law_found", "_law_due", "_law_at_here"]
def P13 : List Str := ["_law_found", "_law_due"]
theorem sc13 : FnScope N13 P13 (defScope s13) := ⟨rfl, rfl, rfl, by decide +kernel, rfl, by decide +kernel, by decide +kernel⟩
theorem tr13 : trSs g 60 ⟨N13, defScope s13, N13⟩ (defBody s13) = some b13 := by kernel_rfl
theorem bi13 (kV doc pm : Value) (an : Option Addr) (cdv ct : Value) (us : List Value) (hl : us.length = P13.length) : bindArgs (PySem.W.fnOf d13.name d13.qual (defArgs s13) (defBody s13) (defScope s13) .none kV doc pm an cdv ct) ⟨us, []⟩ = pure (P13.zip us) := match us, hl with | [_, _], _ => rfl
def N14 : List Str := ["_law_script", "_law_bag_here", "_law_turn", "_law_formula_z", "_law_rows_z", "_law_kept", "_law_due", "_law_low", "_law_k", "_law_at_here"]
def P14 : List Str := ["_law_script"]
theorem sc14 : FnScope N14 P14 (defScope s14) := ⟨rfl, rfl, rfl, by decide +kernel, rfl, by decide +kernel, by decide +kernel⟩
theorem tr14 : trSs g 60 ⟨N14, defScope s14, N14⟩ (defBody s14) = some b14 := by kernel_rfl
theorem bi14 (kV doc pm : Value) (an : Option Addr) (cdv ct : Value) (us : List Value) (hl : us.length = P14.length) : bindArgs (PySem.W.fnOf d14.name d14.qual (defArgs s14) (defBody s14) (defScope s14) .none kV doc pm an cdv ct) ⟨us, []⟩ = pure (P14.zip us) := match us, hl with | [_], _ => rfl
section
variable {K : PySem.W.Frag}
def as (K : PySem.W.Frag) : List Addr := [He.fAd K d0.at_, He.fAd K d1.at_, He.fAd K d2.at_, He.fAd K d3.at_, He.fAd K d4.at_, He.fAd K d5.at_, He.fAd K d6.at_, He.fAd K d7.at_, He.fAd K d8.at_, He.fAd K d9.at_, He.fAd K d10.at_, He.fAd K d11.at_, He.fAd K d12.at_, He.fAd K d13.at_, He.fAd K d14.at_]
def cs (K : PySem.W.Frag) : List Addr := [He.ga K "Letters"]
def En (K : PySem.W.Frag) : PM.En := ⟨K, fun i => (as K).getD i 0, fun i => (cs K).getD i 0, nmOf nms⟩
abbrev FD (K : PySem.W.Frag) (d : He.DefD) (fd : FuncData) : Prop := FunD K d.name d.qual d.params d.body d.scope (d.dvs K) (d.kws K) (He.fAd K d.at_) fd
def dfs (f0 f1 f2 f3 f4 f5 f6 f7 f8 f9 f10 f11 f12 f13 f14 : FuncData) : List Df := [⟨d0.name, d0.qual, d0.params, d0.body, d0.scope, [], [], f0, P0, N0⟩, ⟨d1.name, d1.qual, d1.params, d1.body, d1.scope, [], [], f1, P1, N1⟩, ⟨d2.name, d2.qual, d2.params, d2.body, d2.scope, [], [], f2, P2, N2⟩, ⟨d3.name, d3.qual, d3.params, d3.body, d3.scope, [], [], f3, P3, N3⟩, ⟨d4.name, d4.qual, d4.params, d4.body, d4.scope, [], [], f4, P4, N4⟩, ⟨d5.name, d5.qual, d5.params, d5.body, d5.scope, [], [], f5, P5, N5⟩, ⟨d6.name, d6.qual, d6.params, d6.body, d6.scope, [], [], f6, P6, N6⟩, ⟨d7.name, d7.qual, d7.params, d7.body, d7.scope, [], [], f7, P7, N7⟩, ⟨d8.name, d8.qual, d8.params, d8.body, d8.scope, [], [], f8, P8, N8⟩, ⟨d9.name, d9.qual, d9.params, d9.body, d9.scope, [], [], f9, P9, N9⟩, ⟨d10.name, d10.qual, d10.params, d10.body, d10.scope, [], [], f10, P10, N10⟩, ⟨d11.name, d11.qual, d11.params, d11.body, d11.scope, [], [], f11, P11, N11⟩, ⟨d12.name, d12.qual, d12.params, d12.body, d12.scope, [], [], f12, P12, N12⟩, ⟨d13.name, d13.qual, d13.params, d13.body, d13.scope, [], [], f13, P13, N13⟩, ⟨d14.name, d14.qual, d14.params, d14.body, d14.scope, [], [], f14, P14, N14⟩]
def D0 (f : FuncData) : Df := ⟨"", "", d0.params, [], d0.scope, [], [], f, [], []⟩
theorem c_int {h : Heap} {mg : Str → Option Value} (X : K.In h) (G : h.Ns mainGlobals mg) {x : Str} {i : Int} (N : PM.En) (c : (He.Fa.int x i).ok K = true) : ∃ v u, mg x = some u ∧ RelV v u ∧ ∀ ρ H, Rw N ρ H (.int i) v := by
  obtain ⟨t, e⟩ := He.int_ok X G c
  exact ⟨.int i, _, e, ⟨t, rfl⟩, fun _ _ => rfl⟩
theorem c_str {h : Heap} {mg : Str → Option Value} (X : K.In h) (G : h.Ns mainGlobals mg) {x z : Str} (N : PM.En) (c : (He.Fa.str x z).ok K = true) : ∃ v u, mg x = some u ∧ RelV v u ∧ ∀ ρ H, Rw N ρ H (.str z) v := by
  obtain ⟨t, e⟩ := He.str_ok X G c
  exact ⟨.str z, _, e, ⟨t, rfl⟩, fun _ _ => rfl⟩
theorem lk {P : Program} {w : World} {base h : Heap} {mg : Str → Option Value} (X : K.In h) (G : h.Ns mainGlobals mg) (c : He.SaysD faL fnL K) {f0 : FuncData} {f1 : FuncData} {f2 : FuncData} {f3 : FuncData} {f4 : FuncData} {f5 : FuncData} {f6 : FuncData} {f7 : FuncData} {f8 : FuncData} {f9 : FuncData} {f10 : FuncData} {f11 : FuncData} {f12 : FuncData} {f13 : FuncData} {f14 : FuncData} (F0 : FD K d0 f0) (F1 : FD K d1 f1) (F2 : FD K d2 f2) (F3 : FD K d3 f3) (F4 : FD K d4 f4) (F5 : FD K d5 f5) (F6 : FD K d6 f6) (F7 : FD K d7 f7) (F8 : FD K d8 f8) (F9 : FD K d9 f9) (F10 : FD K d10 f10) (F11 : FD K d11 f11) (F12 : FD K d12 f12) (F13 : FD K d13 f13) (F14 : FD K d14 f14) : Lk ⟨P, w, mg, base, En K, T, g, fun i => (dfs f0 f1 f2 f3 f4 f5 f6 f7 f8 f9 f10 f11 f12 f13 f14).getD i (D0 f0)⟩ where
  nmI := nmOf_inj (by decide +kernel) (by decide +kernel)
  nmE := fun x i h => nmOf_ix h
  fn := fun x f h => look_all (l := g.fns) (P := fun (p : Str × Nat) => mg p.1 = some (.ref ((as K).getD p.2 0)) ∧ PySem.W.keepIn K (.ref ((as K).getD p.2 0)) = true) (al_cons (⟨He.glo_ok X G (c.fact 0 (f := .glo "numbered") rfl), F0.kp⟩) (al_cons (⟨He.glo_ok X G (c.fact 1 (f := .glo "is_true") rfl), F1.kp⟩) (al_cons (⟨He.glo_ok X G (c.fact 2 (f := .glo "fallen") rfl), F2.kp⟩) (al_cons (⟨He.glo_ok X G (c.fact 3 (f := .glo "truths") rfl), F5.kp⟩) (al_cons (⟨He.glo_ok X G (c.fact 4 (f := .glo "_law_bag") rfl), F6.kp⟩) (al_cons (⟨He.glo_ok X G (c.fact 5 (f := .glo "_law_draw") rfl), F7.kp⟩) (al_cons (⟨He.glo_ok X G (c.fact 6 (f := .glo "_law_any") rfl), F8.kp⟩) (al_cons (⟨He.glo_ok X G (c.fact 7 (f := .glo "_law_atom") rfl), F9.kp⟩) (al_cons (⟨He.glo_ok X G (c.fact 8 (f := .glo "_law_formula") rfl), F10.kp⟩) (al_cons (⟨He.glo_ok X G (c.fact 9 (f := .glo "_law_row") rfl), F11.kp⟩) (al_cons (⟨He.glo_ok X G (c.fact 10 (f := .glo "_law_at") rfl), F12.kp⟩) (al_cons (⟨He.glo_ok X G (c.fact 11 (f := .glo "_law_like") rfl), F13.kp⟩) (al_cons (⟨He.glo_ok X G (c.fact 12 (f := .glo "law") rfl), F14.kp⟩) (al_nil)))))))))))))) h
  df := fun f fd h => All3.at_ (l := T.fns) (P := DefOk K g) (b0 := D0 f0) (c0 := 0) (m := dfs f0 f1 f2 f3 f4 f5 f6 f7 f8 f9 f10 f11 f12 f13 f14) (n := as K) (.cons ⟨F0, sc0, ⟨60, tr0⟩, rfl, rfl⟩ (.cons ⟨F1, sc1, ⟨60, tr1⟩, rfl, rfl⟩ (.cons ⟨F2, sc2, ⟨60, tr2⟩, rfl, rfl⟩ (.cons ⟨F3, sc3, ⟨60, tr3⟩, rfl, rfl⟩ (.cons ⟨F4, sc4, ⟨60, tr4⟩, rfl, rfl⟩ (.cons ⟨F5, sc5, ⟨60, tr5⟩, rfl, rfl⟩ (.cons ⟨F6, sc6, ⟨60, tr6⟩, rfl, rfl⟩ (.cons ⟨F7, sc7, ⟨60, tr7⟩, rfl, rfl⟩ (.cons ⟨F8, sc8, ⟨60, tr8⟩, rfl, rfl⟩ (.cons ⟨F9, sc9, ⟨60, tr9⟩, rfl, rfl⟩ (.cons ⟨F10, sc10, ⟨60, tr10⟩, rfl, rfl⟩ (.cons ⟨F11, sc11, ⟨60, tr11⟩, rfl, rfl⟩ (.cons ⟨F12, sc12, ⟨60, tr12⟩, rfl, rfl⟩ (.cons ⟨F13, sc13, ⟨60, tr13⟩, rfl, rfl⟩ (.cons ⟨F14, sc14, ⟨60, tr14⟩, rfl, rfl⟩ (.nil)))))))))))))))) h
  sh := fun f n ks bd h => look_all (l := g.sh) (P := fun (p : (Nat × Nat × List Str) × List Bd) => ∃ gg gV, KBn K ((dfs f0 f1 f2 f3 f4 f5 f6 f7 f8 f9 f10 f11 f12 f13 f14).getD p.1.1 (D0 f0)).fd ((dfs f0 f1 f2 f3 f4 f5 f6 f7 f8 f9 f10 f11 f12 f13 f14).getD p.1.1 (D0 f0)).ps p.1.2.1 p.1.2.2 gg gV ∧ BdOk ⟨P, w, mg, base, En K, T, g, fun i => (dfs f0 f1 f2 f3 f4 f5 f6 f7 f8 f9 f10 f11 f12 f13 f14).getD i (D0 f0)⟩ p.2 p.1.2.1 p.1.2.2.length gV ∧ p.1.1 < T.fns.length) (al_cons (⟨_, _, kbn_same F0 bi0, bd_same _ _, by decide⟩) (al_cons (⟨_, _, kbn_same F1 bi1, bd_same _ _, by decide⟩) (al_cons (⟨_, _, kbn_same F2 bi2, bd_same _ _, by decide⟩) (al_cons (⟨_, _, kbn_same F7 bi7, bd_same _ _, by decide⟩) (al_cons (⟨_, _, kbn_same F8 bi8, bd_same _ _, by decide⟩) (al_cons (⟨_, _, kbn_same F9 bi9, bd_same _ _, by decide⟩) (al_cons (⟨_, _, kbn_same F10 bi10, bd_same _ _, by decide⟩) (al_cons (⟨_, _, kbn_same F12 bi12, bd_same _ _, by decide⟩) (al_cons (⟨_, _, kbn_same F13 bi13, bd_same _ _, by decide⟩) (al_cons (⟨_, _, kbn_same F6 bi6, bd_same _ _, by decide⟩) (al_cons (⟨_, _, kbn_same F11 bi11, bd_same _ _, by decide⟩) (al_cons (⟨_, _, kbn_same F5 bi5, bd_same _ _, by decide⟩) (al_cons (⟨_, _, kbn_pick F5 0 ["rows", "formula"] [1, 0] (fun kV doc pm an cdv ct us ws l1 l2 => match us, ws, l1, l2 with | [], [_, _], _, _ => rfl), bd_pick _ _ _ [1, 0] (by decide), by decide⟩) (al_nil)))))))))))))) h
  cl := fun x cc h => look_all (l := g.clss) (P := fun (p : Str × Nat) => mg p.1 = some (.ref ((cs K).getD p.2 0))) (al_cons (He.glo_ok X G (c.fact 13 (f := .glo "Letters") rfl)) (al_nil)) h
  mkc := fun cc f h => look_all (l := T.ini) (P := fun (p : Nat × Nat) => L2.Mk K ((cs K).getD p.1 0) ((as K).getD p.2 0) ∧ p.2 < T.fns.length) (al_cons (⟨He.mkr_ok (c.fact 15 (f := .mkr "Letters") rfl), by decide⟩) (al_nil)) h
  shc := fun cc n ks bd f h hi => look_all (l := g.shc) (P := fun (p : (Nat × Nat × List Str) × List Bd) => ∀ f, T.ini.lookup p.1.1 = some f → ∃ gg gV, KBn K ((dfs f0 f1 f2 f3 f4 f5 f6 f7 f8 f9 f10 f11 f12 f13 f14).getD f (D0 f0)).fd ((dfs f0 f1 f2 f3 f4 f5 f6 f7 f8 f9 f10 f11 f12 f13 f14).getD f (D0 f0)).ps (p.1.2.1 + 1) p.1.2.2 gg gV ∧ BdOk ⟨P, w, mg, base, En K, T, g, fun i => (dfs f0 f1 f2 f3 f4 f5 f6 f7 f8 f9 f10 f11 f12 f13 f14).getD i (D0 f0)⟩ p.2 (p.1.2.1 + 1) p.1.2.2.length gV) (al_cons (fun f hf => by cases hf; exact ⟨_, _, kbn_same F3 bi3, bd_same _ _⟩) (al_nil)) h f hi
  ms := fun cc m f h => look_all (l := T.ms) (P := fun (p : (Nat × Nat) × Nat) => Cls K ((cs K).getD p.1.1 0) ∧ Meth K ((cs K).getD p.1.1 0) (nmOf nms p.1.2) ((as K).getD p.2 0) ∧ Binds K ((dfs f0 f1 f2 f3 f4 f5 f6 f7 f8 f9 f10 f11 f12 f13 f14).getD p.2 (D0 f0)).fd ((dfs f0 f1 f2 f3 f4 f5 f6 f7 f8 f9 f10 f11 f12 f13 f14).getD p.2 (D0 f0)).ps [] ∧ p.2 < T.fns.length) (al_cons (⟨He.cls_ok (c.fact 14 (f := .cls "Letters") rfl), He.meth_ok (c.fact 16 (f := .meth "Letters" "atom") rfl), FunD.bindsN F4 bi4, by decide⟩) (al_nil)) h
  fl := fun cc f h => contains_all (l := T.fl) (P := fun (p : Nat × Nat) => Cls K ((cs K).getD p.1 0) ∧ NoAttr K ((cs K).getD p.1 0) (nmOf nms p.2)) (al_cons (⟨He.cls_ok (c.fact 14 (f := .cls "Letters") rfl), He.noat_ok (c.fact 17 (f := .noat "Letters" "row") rfl)⟩) (al_nil)) h
  cst := fun x v h => look_all (l := g.csts) (P := fun (p : Str × W) => ∃ v u, mg p.1 = some u ∧ RelV v u ∧ ∀ ρ H, Rw (En K) ρ H p.2 v) (al_nil) h
  free := fun x h => contains_all (l := g.free) (P := fun (x : Str) => mg x = none) (al_cons (He.free_ok X G (c.fact 18 (f := .free "len") rfl)) (al_cons (He.free_ok X G (c.fact 19 (f := .free "tuple") rfl)) (al_cons (He.free_ok X G (c.fact 20 (f := .free "zip") rfl)) (al_cons (He.free_ok X G (c.fact 21 (f := .free "int") rfl)) (al_cons (He.free_ok X G (c.fact 22 (f := .free "list") rfl)) (al_cons (He.free_ok X G (c.fact 23 (f := .free "range") rfl)) (al_cons (He.free_ok X G (c.fact 24 (f := .free "all") rfl)) (al_cons (He.free_ok X G (c.fact 25 (f := .free "isinstance") rfl)) (al_cons (He.free_ok X G (c.fact 26 (f := .free "bool") rfl)) (al_cons (He.free_ok X G (c.fact 27 (f := .free "str") rfl)) (al_nil))))))))))) h
  bm := fun t m k h => look_all (l := T.bm) (P := fun (p : (Bt × Nat) × Bm) => bmTy p.2 = p.1.1 ∧ nmOf nms p.1.2 = bmNm p.2) (al_cons (⟨rfl, rfl⟩) (al_cons (⟨rfl, rfl⟩) (al_nil))) h
  isi := ⟨fun t u b h => look_all (l := T.isi) (P := fun (p : (Ty × Ty) × Bool) => PySem.W.kitOne K (tyV' (En K) p.1.1) (tyV' (En K) p.1.2) = some p.2) (al_cons (by rfl) (al_cons (by rfl) (al_cons (by rfl) (al_cons (by rfl) (al_cons (by rfl) (al_cons (by rfl) (al_cons (by rfl) (al_cons (by rfl) (al_cons (by rfl) (al_cons (by rfl) (al_cons (by rfl) (al_cons (by rfl) (al_cons (by rfl) (al_cons (by rfl) (al_cons (by rfl) (al_cons (by rfl) (al_cons (by rfl) (al_cons (by rfl) (al_cons (by rfl) (al_cons (by rfl) (al_cons (by rfl) (al_cons (by rfl) (al_cons (by rfl) (al_cons (by rfl) (al_cons (by rfl) (al_cons (by rfl) (al_cons (by rfl) (al_cons (by rfl) (al_cons (by rfl) (al_cons (by rfl) (al_nil))))))))))))))))))))))))))))))) h, fun cc u b h => look_all (l := T.isi) (P := fun (p : (Ty × Ty) × Bool) => ∀ cc, p.1.1 = .c cc → _) (al_cons (fun cc z => nomatch z) (al_cons (fun cc z => nomatch z) (al_cons (fun cc z => nomatch z) (al_cons (fun cc z => nomatch z) (al_cons (fun cc z => nomatch z) (al_cons (fun cc z => nomatch z) (al_cons (fun cc z => nomatch z) (al_cons (fun cc z => nomatch z) (al_cons (fun cc z => nomatch z) (al_cons (fun cc z => nomatch z) (al_cons (fun cc z => nomatch z) (al_cons (fun cc z => nomatch z) (al_cons (fun cc z => nomatch z) (al_cons (fun cc z => nomatch z) (al_cons (fun cc z => nomatch z) (al_cons (fun cc z => nomatch z) (al_cons (fun cc z => nomatch z) (al_cons (fun cc z => nomatch z) (al_cons (fun cc z => nomatch z) (al_cons (fun cc z => nomatch z) (al_cons (fun cc z => nomatch z) (al_cons (fun cc z => nomatch z) (al_cons (fun cc z => nomatch z) (al_cons (fun cc z => nomatch z) (al_cons (fun cc z => nomatch z) (al_cons (fun cc z => nomatch z) (al_cons (fun cc z => nomatch z) (al_cons (fun cc z => nomatch z) (al_cons (fun cc z => nomatch z) (al_cons (fun cc z => nomatch z) (al_nil))))))))))))))))))))))))))))))) h cc rfl⟩
end

end K19

set_option maxHeartbeats 0
open PySem PySem.W PySem.Calls PyProof.Rows in
theorem PySem.Challenge.cw_shownplay_k19_truth_values_of_formulas_holds : PySem.Challenge.rw_shownplay_k19_truth_values_of_formulas.Holds := by
  w_on; o_law
  refine HandSHeadRun.head_any (r := OpenLaw.row PySem.Challenge.rw_shownplay_k19_truth_values_of_formulas) (q := view (OpenLaw.row PySem.Challenge.rw_shownplay_k19_truth_values_of_formulas).prog [16]) (H := K19.hk) (ob := K19.ob) (M := 4000) (loose := ["__name__", "numbered", "is_true", "fallen", "Letters", "truths", "_law_bag", "_law_draw", "_law_any", "_law_atom", "_law_formula", "_law_row", "_law_at", "_law_like"]) (d := HandSHeadRun.topDef (OpenLaw.row PySem.Challenge.rw_shownplay_k19_truth_values_of_formulas).prog 16) (kwd := []) K19.ob_eq
    (by kernel_rfl) (fun s => by kernel_rfl) K19.run (by kernel_rfl) (by kernel_rfl) (by kernel_rfl) (by rfl) (by first | assumption | decide +kernel) (by decide +kernel) ⟨rfl, rfl, rfl, rfl, rfl, by decide +kernel⟩ ?hw ?hc
  case hw => w_witness2
  case hc =>
    refine PM.law_pm (l := PySem.Challenge.rw_shownplay_k19_truth_values_of_formulas) (k := K19.depth) (x := "_law_script") (T := K19.T) (i := 14) rfl (by kernel_rfl) ⟨rfl, by decide, by decide⟩ (by decide) K19.ev ?F
    intro w mg fa h Y G hmg0
    obtain ⟨K, KX, c⟩ := Y
    have hmg : mg ("law" : PySem.Str) = some (.ref fa) := by
      have e : (HandSHeadRun.topDef (OpenLaw.row PySem.Challenge.rw_shownplay_k19_truth_values_of_formulas).prog 16).name = ("law" : PySem.Str) := by kernel_rfl
      rw [← e]
      exact hmg0
    obtain ⟨f0, F0⟩ := c.def_ 0 (d := K19.d0) rfl
    obtain ⟨f1, F1⟩ := c.def_ 1 (d := K19.d1) rfl
    obtain ⟨f2, F2⟩ := c.def_ 2 (d := K19.d2) rfl
    obtain ⟨f3, F3⟩ := c.def_ 3 (d := K19.d3) rfl
    obtain ⟨f4, F4⟩ := c.def_ 4 (d := K19.d4) rfl
    obtain ⟨f5, F5⟩ := c.def_ 5 (d := K19.d5) rfl
    obtain ⟨f6, F6⟩ := c.def_ 6 (d := K19.d6) rfl
    obtain ⟨f7, F7⟩ := c.def_ 7 (d := K19.d7) rfl
    obtain ⟨f8, F8⟩ := c.def_ 8 (d := K19.d8) rfl
    obtain ⟨f9, F9⟩ := c.def_ 9 (d := K19.d9) rfl
    obtain ⟨f10, F10⟩ := c.def_ 10 (d := K19.d10) rfl
    obtain ⟨f11, F11⟩ := c.def_ 11 (d := K19.d11) rfl
    obtain ⟨f12, F12⟩ := c.def_ 12 (d := K19.d12) rfl
    obtain ⟨f13, F13⟩ := c.def_ 13 (d := K19.d13) rfl
    obtain ⟨f14, F14⟩ := c.def_ 14 (d := K19.d14) rfl
    have e := hmg.symm.trans (He.glo_ok KX G (c.fact 12 (f := .glo "law") rfl))
    cases e
    refine ⟨K19.En K, K19.g, fun i => (K19.dfs f0 f1 f2 f3 f4 f5 f6 f7 f8 f9 f10 f11 f12 f13 f14).getD i (K19.D0 f0), KX, rfl, rfl, fun s u => L2.FunD.bindsA (ps := ["_law_script"]) F14 K19.bi14 s [u] rfl, fun base => K19.lk KX G c F0 F1 F2 F3 F4 F5 F6 F7 F8 F9 F10 F11 F12 F13 F14⟩

