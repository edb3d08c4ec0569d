import PyProof.Rows.All
import Wide.All
import OpenK.AllK
import Wide.FinOn
import KE.KStateDown
import KE.GoesZip
import KE.GoesMore
import HandS.ForMost
import HandS.Exc
import HandS.Flow
import HandS.Star
import HandS.IsInst
import HandS.TupAny
import HandS.Conv
import HandS.Defaults
import HandS.MakeKwOnly
import HandS.ExcOwn
import HandS.Head0
import HandS.Head1
import HandS.Head2
import HandS.HeadEnd
import HandS.HeadHook1
import HandS.HeadHook2
import HandS.CallRecv
import HandS.HeadWalk
import HandS.CallSlots
import HandS.Deep
import HandS.SortKw
import KE.DataMinMax
import HandS.Property
import KE.KUnpackStar
import HandS.HeadHook4
import PySem.Challenge.RW_shownplay_k03_parts_of_formulas
set_option Elab.async false
set_option linter.all false
set_option maxRecDepth 100000
set_option maxHeartbeats 4000000
/-! PmA: a small Python of our own: values, heap, syntax, what it does. -/
namespace PM
open PySem L2

/-- values: tuples stand as values, mutable objects by their place in the heap -/
inductive W where
  | non | bl (b : Bool) | int (i : Int) | str (s : Str) | ty (n : String) | fn (f : Nat) | cls (c : Nat) | ref (n : Nat) | tup (ws : List W) | rol (ws : List W)
instance : Inhabited W := ⟨.non⟩
/-- what stands in the heap -/
inductive AO where
  | lst (ws : List W) | ins (c : Nat) (fs : List (Nat × W))
/-- a tree of objects by number -/
inductive Tr where
  | e | n (l : Tr) (x : Option AO) (r : Tr)
def Tr.get : Tr → Nat → Option AO
  | .e, _ => none
  | .n l x r, k => if k = 0 then x else if k % 2 = 1 then l.get (k / 2) else r.get (k / 2 - 1)
def Tr.put : Nat → Tr → Nat → AO → Tr
  | 0, t, _, _ => t
  | f + 1, .e, k, v => if k = 0 then .n .e (some v) .e else if k % 2 = 1 then .n (Tr.put f .e (k / 2) v) none .e else .n .e none (Tr.put f .e (k / 2 - 1) v)
  | f + 1, .n l x r, k, v => if k = 0 then .n l (some v) r else if k % 2 = 1 then .n (Tr.put f l (k / 2) v) x r else .n l x (Tr.put f r (k / 2 - 1) v)
theorem Tr.get_put : ∀ (f : Nat) (t : Tr) (k : Nat) (v : AO) (j : Nat), k < f → (Tr.put f t k v).get j = if j = k then some v else t.get j
  | 0, _, _, _, _, h => absurd h (Nat.not_lt_zero _)
  | f + 1, t, k, v, j, h => by
    have em : ∀ j, Tr.e.get j = none := fun _ => rfl
    cases t with
    | e =>
      unfold Tr.put
      by_cases k0 : k = 0
      · rw [if_pos k0]
        show (if j = 0 then some v else if j % 2 = 1 then Tr.e.get (j / 2) else Tr.e.get (j / 2 - 1)) = _
        rw [em, em, em]
        by_cases j0 : j = 0
        · rw [if_pos j0, if_pos (by omega)]
        · rw [if_neg j0, if_neg (show ¬ j = k by omega)]
          split <;> rfl
      · rw [if_neg k0]
        by_cases k1 : k % 2 = 1
        · rw [if_pos k1]
          show (if j = 0 then none else if j % 2 = 1 then (Tr.put f .e (k / 2) v).get (j / 2) else Tr.e.get (j / 2 - 1)) = _
          rw [Tr.get_put f .e (k / 2) v (j / 2) (by omega), em, em, em]
          by_cases j0 : j = 0
          · rw [if_pos j0, if_neg (by omega)]
          · rw [if_neg j0]
            by_cases j1 : j % 2 = 1
            · rw [if_pos j1]
              by_cases e : j = k
              · rw [if_pos e, if_pos (by omega)]
              · rw [if_neg e, if_neg (by omega)]
            · rw [if_neg j1, if_neg (by omega)]
        · rw [if_neg k1]
          show (if j = 0 then none else if j % 2 = 1 then Tr.e.get (j / 2) else (Tr.put f .e (k / 2 - 1) v).get (j / 2 - 1)) = _
          rw [Tr.get_put f .e (k / 2 - 1) v (j / 2 - 1) (by omega), em, em, em]
          by_cases j0 : j = 0
          · rw [if_pos j0, if_neg (by omega)]
          · rw [if_neg j0]
            by_cases j1 : j % 2 = 1
            · rw [if_pos j1, if_neg (by omega)]
            · rw [if_neg j1]
              by_cases e : j = k
              · rw [if_pos e, if_pos (by omega)]
              · rw [if_neg e, if_neg (by omega)]
    | n l x r =>
      unfold Tr.put
      by_cases k0 : k = 0
      · rw [if_pos k0]
        show (if j = 0 then some v else if j % 2 = 1 then l.get (j / 2) else r.get (j / 2 - 1)) = if j = k then some v else if j = 0 then x else if j % 2 = 1 then l.get (j / 2) else r.get (j / 2 - 1)
        by_cases j0 : j = 0
        · rw [if_pos j0, if_pos (by omega)]
        · rw [if_neg j0, if_neg (show ¬ j = k by omega), if_neg j0]
      · rw [if_neg k0]
        by_cases k1 : k % 2 = 1
        · rw [if_pos k1]
          show (if j = 0 then x else if j % 2 = 1 then (Tr.put f l (k / 2) v).get (j / 2) else r.get (j / 2 - 1)) = if j = k then some v else if j = 0 then x else if j % 2 = 1 then l.get (j / 2) else r.get (j / 2 - 1)
          rw [Tr.get_put f l (k / 2) v (j / 2) (by omega)]
          by_cases j0 : j = 0
          · rw [if_pos j0, if_neg (by omega), if_pos j0]
          · rw [if_neg j0, if_neg j0]
            by_cases j1 : j % 2 = 1
            · rw [if_pos j1, if_pos j1]
              by_cases e : j = k
              · rw [if_pos e, if_pos (by omega)]
              · rw [if_neg e, if_neg (by omega)]
            · rw [if_neg j1, if_neg j1, if_neg (by omega)]
        · rw [if_neg k1]
          show (if j = 0 then x else if j % 2 = 1 then l.get (j / 2) else (Tr.put f r (k / 2 - 1) v).get (j / 2 - 1)) = if j = k then some v else if j = 0 then x else if j % 2 = 1 then l.get (j / 2) else r.get (j / 2 - 1)
          rw [Tr.get_put f r (k / 2 - 1) v (j / 2 - 1) (by omega)]
          by_cases j0 : j = 0
          · rw [if_pos j0, if_neg (by omega), if_pos j0]
          · rw [if_neg j0, if_neg j0]
            by_cases j1 : j % 2 = 1
            · rw [if_pos j1, if_pos j1, if_neg (by omega)]
            · rw [if_neg j1, if_neg j1]
              by_cases e : j = k
              · rw [if_pos e, if_pos (by omega)]
              · rw [if_neg e, if_neg (by omega)]
/-- the heap: how many places are taken, what stands there -/
structure GH where
  sz : Nat
  t : Tr
def GH.get (G : GH) (n : Nat) : Option AO := G.t.get n
def GH.push (G : GH) (o : AO) : GH := ⟨G.sz + 1, G.t.put (G.sz + 1) G.sz o⟩
def GH.set (G : GH) (n : Nat) (o : AO) : GH := ⟨G.sz, G.t.put (n + 1) n o⟩
theorem GH.get_push (G : GH) (o : AO) (j : Nat) : (G.push o).get j = if j = G.sz then some o else G.get j := Tr.get_put _ _ _ _ _ (Nat.lt_succ_self _)
theorem GH.get_set (G : GH) (n : Nat) (o : AO) (j : Nat) : (G.set n o).get j = if j = n then some o else G.get j := Tr.get_put _ _ _ _ _ (Nat.lt_succ_self _)
theorem GH.sz_push (G : GH) (o : AO) : (G.push o).sz = G.sz + 1 := rfl
theorem GH.sz_set (G : GH) (n : Nat) (o : AO) : (G.set n o).sz = G.sz := rfl

/-! ### the syntax -/
inductive BO where
  | add | sub | mul | div | mod | pow
  deriving DecidableEq
inductive CO where
  | eq | ne | lt | le | gt | ge | isin | notin | is | isnot
  deriving DecidableEq
inductive Bf where
  | len | int | list | tuple | isinst | all | any | max | str | bool
  deriving DecidableEq
/-- how a call binds: the written arguments by number, defaults -/
inductive Bd where
  | a (i : Nat) | d (w : W)
inductive Tg where
  | v (i : Nat) | t (ts : List Tg)
mutual
inductive E where
  | cst (w : W) | var (i : Nat)
  | bin (o : BO) (a b : E) | cmp (o : CO) (a b : E)
  | and (a b : E) | or (a b : E) | not (a : E) | neg (a : E) | ife (c a b : E)
  | tup (es : List Ar) | lst (es : List Ar)
  | ix (a i : E) | sl (a lo hi : E)
  | call (f : Nat) (es : List E) (bd : List Bd)
  | mk (c : Nat) (es : List E) (bd : List Bd)
  | met (o : E) (m : Nat) (es : List E)
  | att (o : E) (f : Nat)
  | blt (b : Bf) (es : List E)
  | lc (vs : List Nat) (tg : Tg) (it : It) (ifs : List E) (e : E)
  | lc2 (vs : List Nat) (tg : Tg) (it : It) (ifs : List E) (vs1 : List Nat) (tg1 : Tg) (it1 : It) (ifs1 : List E) (e : E)
  | chn (o o2 : CO) (a b c : E)
  | maxd (a b : E)
  | bad
inductive Ar where
  | e (x : E) | s (x : E)
inductive It where
  | e (x : E) | rng (es : List E) | zip (a b : E)
end
inductive S where
  | asg (t : Tg) (e : E) | sub (o i e : E) | att (o : E) (f : Nat) (e : E)
  | par (is : List Nat) (es : List E)
  | exp (e : E)
  | ife (c : E) (a b : List S)
  | for (t : Tg) (it : It) (b : List S)
  | whl (c : E) (b : List S)
  | ret (e : E) | pass | brk | cnt | bad | aug (i : Nat) (o : BO) (e : E) | unp (i j : Nat) (e : E)

/-! ### results -/
inductive R (α : Type) where
  | ok (a : α) (G : GH) | exc (c : W) (d : Option Nat) (G : GH) | bad
def R.bind {α β : Type} (r : R α) (f : α → GH → R β) : R β := match r with
  | .ok a G => f a G
  | .exc c d G => .exc c d G
  | .bad => .bad
/-- nothing may be raised -/
def R.nox {α : Type} : R α → R α
  | .ok a G => .ok a G
  | _ => .bad
abbrev Sg := List (Option W)
inductive F where
  | nx (σ : Sg) (G : GH) | ret (w : W) (G : GH) | brk (σ : Sg) (G : GH) | cnt (σ : Sg) (G : GH) | exc (c : W) (d : Option Nat) (σ : Sg) (G : GH) | bad
def R.toF {α : Type} (r : R α) (σ : Sg) (f : α → GH → F) : F := match r with
  | .ok a G => f a G
  | .exc c d G => .exc c d σ G
  | .bad => .bad
def F.then (r : F) (f : Sg → GH → F) : F := match r with
  | .nx σ G => f σ G
  | r => r
/-- behind a def's body -/
def F.out : F → R W
  | .nx _ G => .ok .non G
  | .ret w G => .ok w G
  | .exc c d _ G => .exc c d G
  | _ => .bad
def ofO {α : Type} (o : Option α) (G : GH) : R α := match o with
  | some a => .ok a G
  | none => .bad
def ofOG {α : Type} (o : Option (α × GH)) : R α := match o with
  | some (a, G) => .ok a G
  | none => .bad

/-! ### operations -/
def szOk (n : Nat) : Bool := decide (n ≤ sizeLine)
def tru (G : GH) : W → Option Bool
  | .non => some false
  | .bl b => some b
  | .int i => some (i != 0)
  | .str s => if szOk s.length then some ((s.length : Int) != 0) else none
  | .tup ws => some (!ws.isEmpty)
  | .rol ws => some (!ws.isEmpty)
  | .ref n => match G.get n with
    | some (.lst ws) => some (!ws.isEmpty)
    | _ => none
  | _ => none
def newL (G : GH) (ws : List W) : Option (W × GH) := if szOk ws.length then some (.ref G.sz, G.push (.lst ws)) else none
/-- a list's items -/
def items (G : GH) : W → Option (List W)
  | .rol ws => some ws
  | .ref n => match G.get n with
    | some (.lst ws) => some ws
    | _ => none
  | _ => none
/-- a list's or a tuple's items -/
def seqOf (G : GH) : W → Option (List W)
  | .tup ws => some ws
  | w => items G w
def lstOf (G : GH) : W → Option (List W)
  | .ref n => match G.get n with
    | some (.lst ws) => some ws
    | _ => none
  | _ => none
def binop (o : BO) (x y : W) (G : GH) : Option (W × GH) := match o, x, y with
  | .add, .int i, .int j => some (.int (i + j), G)
  | .sub, .int i, .int j => some (.int (i - j), G)
  | .mul, .int i, .int j => if decide (i.natAbs < 18446744073709551616) || decide (j.natAbs < 18446744073709551616) then some (.int (i * j), G) else none
  | .div, .int i, .int j => if decide (j ≠ 0) && decide (j.natAbs < 1073741824) then some (.int (i.fdiv j), G) else none
  | .mod, .int i, .int j => if j ≠ 0 then some (.int (i.fmod j), G) else none
  | .pow, .int i, .int j => if decide (0 ≤ j) && (decide (j ≤ 1000000) && decide (i.natAbs < 2 ^ 64)) then some (.int (i ^ j.toNat), G) else none
  | .add, .str a, .str b => if szOk (a.length + b.length) then some (.str (a ++ b), G) else none
  | .add, .tup a, .tup b => if !a.isEmpty && szOk (a.length + b.length) then some (.tup (a ++ b), G) else none
  | .add, .ref a, .ref b => match lstOf G (.ref a), lstOf G (.ref b) with
    | some xs, some ys => newL G (xs ++ ys)
    | _, _ => none
  | _, _, _ => none
/-- values that == tells apart at once -/
def scalW : W → W → Bool
  | .non, .non => true | .non, .int _ => true | .int _, .non => true | .non, .bl _ => true | .bl _, .non => true | .non, .str _ => true | .str _, .non => true
  | .int _, .int _ => true | .bl _, .bl _ => true | .str _, .str _ => true
  | .int _, .str _ => true | .str _, .int _ => true | .bl _, .str _ => true | .str _, .bl _ => true
  | _, _ => false
def eqScal : W → W → Bool
  | .non, .non => true
  | .int i, .int j => decide (i = j)
  | .bl i, .bl j => decide (i = j)
  | .str i, .str j => decide (i = j)
  | _, _ => false
def optAll {α β : Type} (f : α → Option β) : List α → Option (List β)
  | [] => some []
  | x :: r => match f x, optAll f r with
    | some y, some ys => some (y :: ys)
    | _, _ => none
/-- a value as data -/
def dat : Nat → GH → W → Option PyData
  | 0, _, _ => none
  | _ + 1, _, .non => some .none
  | _ + 1, _, .bl b => some (.bool b)
  | _ + 1, _, .int i => some (.int i)
  | _ + 1, _, .str s => some (.str s)
  | n + 1, G, .tup ws => (optAll (dat n G) ws).map .tuple
  | n + 1, G, .rol ws => (optAll (dat n G) ws).map .list
  | n + 1, G, .ref a => match G.get a with
    | some (.lst ws) => (optAll (dat n G) ws).map .list
    | _ => none
  | _, _, _ => none
def eqD (G : GH) (x y : W) : Option Bool := match dat 60 G x, dat 60 G y with
  | some d, some e => if SeqAt.shaped d && SeqAt.shaped e then some (PyData.eqv d e) else none
  | _, _ => none
def eqW (G : GH) (x y : W) : Option Bool := if scalW x y then some (eqScal x y) else eqD G x y
def flatW : W → Bool
  | .non => true | .bl _ => true | .int _ => true | .str _ => true
  | _ => false
def eqFl : W → W → Bool
  | .non, .non => true
  | .bl a, .bl b => a == b
  | .int i, .int j => i == j
  | .str x, .str y => x == y
  | .bl a, .int j => (if a then 1 else 0) == j
  | .int i, .bl b => i == (if b then 1 else 0)
  | _, _ => false
/-- in a list of data -/
def inD (G : GH) (x y : W) : Option Bool := match dat 60 G x, dat 60 G y with
  | some d, some (.list ds) => if SeqAt.shaped d && SeqAt.shaped (.list ds) then some (ds.any fun z => PyData.eqv z d) else none
  | _, _ => none
def inFl (x : W) (ws : List W) : Bool := ws.any fun y => eqFl y x
def inW (G : GH) (x y : W) : Option Bool := match x, y with
  | .str a, .str b => some (!(Builtin.Str.occurrences b a 0 b.length 1).isEmpty)
  | x, y => match seqOf G y with
    | some ws => if flatW x && ws.all flatW then some (inFl x ws) else inD G x y
    | none => none
def isNon : W → Bool
  | .non => true
  | _ => false
def cmpop (o : CO) (x y : W) (G : GH) : Option Bool := match o with
  | .eq => eqW G x y
  | .ne => (eqW G x y).map (!·)
  | .lt => match x, y with
    | .int i, .int j => some (decide (i < j))
    | .str a, .str b => some (decide (a.cps.toList < b.cps.toList))
    | _, _ => none
  | .le => match x, y with
    | .int i, .int j => some (decide (i ≤ j))
    | _, _ => none
  | .gt => match x, y with
    | .int i, .int j => some (decide (j < i))
    | _, _ => none
  | .ge => match x, y with
    | .int i, .int j => some (decide (j ≤ i))
    | _, _ => none
  | .isin => inW G x y
  | .notin => (inW G x y).map (!·)
  | .is => match y with
    | .non => some (isNon x)
    | _ => none
  | .isnot => match y with
    | .non => some (!isNon x)
    | _ => none
/-- x += y where nothing is changed in place -/
def augop (o : BO) (x y : W) (G : GH) : Option (W × GH) := match o, x, y with
  | .add, .int i, .int j => some (.int (i + j), G)
  | .sub, .int i, .int j => some (.int (i - j), G)
  | _, _, _ => none
def ixop (G : GH) (x y : W) : Option W := match x, y with
  | .str s, .int i => if szOk s.length then (atI s.cps.toList i).map fun c => .str ⟨#[c]⟩ else none
  | x, .int i => match seqOf G x with
    | some ws => atI ws i
    | none => none
  | _, _ => none
def optI : W → Option (Option Int)
  | .non => some none
  | .int i => some (some i)
  | _ => none
def cutW (xs : List W) (lo hi : Option Int) : List W := (xs.drop (HT.sIx xs.length 0 lo)).take (HT.sIx xs.length xs.length hi - HT.sIx xs.length 0 lo)
def slop (G : GH) (x : W) (l h : Option Int) : Option (W × GH) := match x with
  | .tup ws => some (.tup (cutW ws l h), G)
  | .str s => if szOk s.length then some (.str (cutS s l h), G) else none
  | w => match items G w with
    | some ws => newL G (cutW ws l h)
    | none => none
/-- a type for isinstance -/
inductive Ty where
  | b (n : String) | c (i : Nat)
  deriving DecidableEq
def tyOf (G : GH) : W → Option Ty
  | .non => some (.b "NoneType")
  | .bl _ => some (.b "bool")
  | .int _ => some (.b "int")
  | .str _ => some (.b "str")
  | .tup _ => some (.b "tuple")
  | .rol _ => some (.b "list")
  | .ref n => match G.get n with
    | some (.lst _) => some (.b "list")
    | some (.ins c _) => some (.c c)
    | _ => none
  | _ => none
/-- methods of built-in types -/
inductive Bt where
  | lst | str
  deriving DecidableEq
inductive Bm where
  | append | join | clear | extend
  deriving DecidableEq
def bmTy : Bm → Bt
  | .append => .lst
  | .join => .str
  | .clear => .lst
  | .extend => .lst
structure FnD where
  np : Nat
  ns : Nat
  /-- the last parameter takes the rest -/
  va : Bool
  body : List S
/-- what the parameters get -/
def argsOf (fd : FnD) (ws : List W) : Option (List W) := if fd.va then (if decide (fd.np - 1 ≤ ws.length) && (szOk ws.length && decide (0 < fd.np)) then some (ws.take (fd.np - 1) ++ [.tup (ws.drop (fd.np - 1))]) else none)
  else if ws.length = fd.np then some ws else none
/-- the text's tables -/
structure Tb where
  fns : List (Nat × FnD)
  /-- methods: class, name, def -/
  ms : List ((Nat × Nat) × Nat)
  /-- __init__ -/
  ini : List (Nat × Nat)
  /-- isinstance -/
  isi : List ((Ty × Ty) × Bool)
  /-- methods of built-in types, by their names -/
  bm : List ((Bt × Nat) × Bm)
  /-- class, field: plain fields -/
  fl : List (Nat × Nat)
def Tb.fn (T : Tb) (f : Nat) : Option FnD := T.fns.lookup f
def isiOne (T : Tb) (t : Ty) : W → Option Bool
  | .ty n => T.isi.lookup (t, .b n)
  | .cls c => T.isi.lookup (t, .c c)
  | _ => none
def isiAny (T : Tb) (t : Ty) : List W → Option Bool
  | [] => some false
  | w :: r => match isiOne T t w, isiAny T t r with
    | some true, some _ => some true
    | some false, some b => some b
    | _, _ => none
def isinst (T : Tb) (G : GH) (x c : W) : Option Bool := match tyOf G x with
  | some t => match c with
    | .tup cs => if cs.isEmpty then none else isiAny T t cs
    | c => isiOne T t c
  | none => none
def bools : List W → Option (List Bool)
  | [] => some []
  | .bl b :: r => (bools r).map (b :: ·)
  | _ => none
def intsW : List W → Option (List Int)
  | [] => some []
  | .int i :: r => (intsW r).map (i :: ·)
  | _ => none
/-- the greatest -/
def maxI : List Int → Option Int
  | [] => none
  | i :: r => some (r.foldl max i)
def allStr : List W → Option (List Str)
  | [] => some []
  | .str s :: r => (allStr r).map (s :: ·)
  | _ => none
def bfop (T : Tb) (b : Bf) (ws : List W) (G : GH) : Option (W × GH) := match b, ws with
  | .len, [.str s] => if szOk s.length then some (.int s.length, G) else none
  | .len, [w] => (seqOf G w).map fun xs => (.int xs.length, G)
  | .int, [.int i] => some (.int i, G)
  | .int, [.bl k] => some (.int (if k then 1 else 0), G)
  | .list, [w] => match seqOf G w with
    | some xs => newL G xs
    | none => none
  | .tuple, [.tup xs] => some (.tup xs, G)
  | .tuple, [w] => (items G w).map fun xs => (.tup xs, G)
  | .isinst, [x, c] => (isinst T G x c).map fun b => (.bl b, G)
  | .all, [w] => match items G w with
    | some xs => (bools xs).map fun bs => (.bl (bs.all id), G)
    | none => none
  | .any, [w] => match items G w with
    | some xs => (bools xs).map fun bs => (.bl (bs.any id), G)
    | none => none
  | .max, [w] => match items G w with
    | some xs => match intsW xs with
      | some ns => (maxI ns).map fun i => (.int i, G)
      | none => none
    | none => none
  | .str, [.int i] => if decide (i.natAbs < 1000000) then some (.str (PySem.Str.ofString (toString i)), G) else none
  | .bool, [.bl k] => some (.bl k, G)
  | .bool, [.int i] => some (.bl (i != 0), G)
  | _, _ => none
/-- a method of a list or a text -/
def bmop (m : Bm) (x : W) (ws : List W) (G : GH) : Option (W × GH) := match m, x, ws with
  | .append, .ref n, [w] => match G.get n with
    | some (.lst xs) => if decide (xs.length < sizeLine) then some (.non, G.set n (.lst (xs ++ [w]))) else none
    | _ => none
  | .clear, .ref n, [] => match G.get n with
    | some (.lst _) => some (.non, G.set n (.lst []))
    | _ => none
  | .extend, .ref n, [.ref k] => match G.get n, lstOf G (.ref k) with
    | some (.lst xs), some ys => if szOk (xs.length + ys.length) then some (.non, G.set n (.lst (xs ++ ys))) else none
    | _, _ => none
  | .join, .str s, [w] => match seqOf G w with
    | some xs => match allStr xs with
      | some ys => if decide ((ys.map (·.length)).sum + ys.length * s.length ≤ 16777216) then some (.str (Txt.join s ys), G) else none
      | none => none
    | none => none
  | _, _, _ => none
def btOf (G : GH) : W → Option Bt
  | .str _ => some .str
  | .rol _ => some .lst
  | .ref n => match G.get n with
    | some (.lst _) => some .lst
    | _ => none
  | _ => none
inductive Mk where
  | b (m : Bm) | f (i : Nat)
def mkOf (T : Tb) (G : GH) (x : W) (m : Nat) : Option Mk := match btOf G x with
  | some t => (T.bm.lookup (t, m)).map .b
  | none => match x with
    | .ref a => match G.get a with
      | some (.ins c fs) => match fs.lookup m, T.ms.lookup (c, m) with
        | none, some f => some (.f f)
        | _, _ => none
      | _ => none
    | _ => none
/-- what is walked -/
inductive I1 where
  | sq (l : List W) | live (a : Nat)
inductive IV where
  | one (x : I1) | zip (x y : I1)
def I1.len (G : GH) : I1 → Option Nat
  | .sq l => some l.length
  | .live a => match G.get a with
    | some (.lst ws) => some ws.length
    | _ => none
def I1.at (G : GH) : I1 → Nat → Option (Option W)
  | .sq l, i => some l[i]?
  | .live a, i => match G.get a with
    | some (.lst ws) => some ws[i]?
    | _ => none
def IV.at (G : GH) : IV → Nat → Option (Option W)
  | .one x, i => x.at G i
  | .zip x y, i => match x.at G i, y.at G i with
    | some (some u), some (some v) => some (some (.tup [u, v]))
    | some _, some _ => match x.len G, y.len G with
      | some n, some m => if decide (i ≤ n) && decide (i ≤ m) then some none else none
      | _, _ => none
    | _, _ => none
def ivOf (G : GH) : W → Option I1
  | .tup ws => some (.sq ws)
  | .rol ws => some (.sq ws)
  | .str s => some (.sq (s.cps.toList.map fun c => .str ⟨#[c]⟩))
  | .ref n => match G.get n with
    | some (.lst _) => some (.live n)
    | _ => none
  | _ => none
def rngW (lo : Int) (n : Nat) : List W := (List.range n).map fun i => .int (lo + (i : Nat))
def in62 (i : Int) : Bool := decide (i.natAbs < 4611686018427387904)
theorem in62_ok {i : Int} (h : in62 i = true) : -(2 ^ 62) ≤ i ∧ i < 2 ^ 62 := by
  have := of_decide_eq_true h
  omega
def rngOf : List W → Option (List W)
  | [.int j] => if in62 j then some (rngW 0 j.toNat) else none
  | [.int i, .int j] => if in62 i && in62 j then some (rngW i (j - i).toNat) else none
  | _ => none
mutual
def asgT : Tg → W → Sg → Option Sg
  | .v i, w, σ => some (σ.set i (some w))
  | .t ts, .tup ws, σ => asgTs ts ws σ
  | .t _, _, _ => none
def asgTs : List Tg → List W → Sg → Option Sg
  | [], [], σ => some σ
  | t :: ts, w :: ws, σ => match asgT t w σ with
    | some σ' => asgTs ts ws σ'
    | none => none
  | _, _, _ => none
end
def wipeW (σ : Sg) : List Nat → Sg
  | [] => σ
  | v :: vs => (wipeW σ vs).set v none
def bindA (bd : List Bd) (ws : List W) : Option (List W) := match bd with
  | [] => some ws
  | bd => optAll (fun b => match b with | .a i => ws[i]? | .d w => some w) bd
def putFW (f : Nat) (v : W) : List (Nat × W) → List (Nat × W)
  | [] => [(f, v)]
  | (g, x) :: r => if g = f then (g, v) :: r else (g, x) :: putFW f v r
def parS : List Nat → List W → Sg → Option Sg
  | [], [], σ => some σ
  | i :: is, w :: ws, σ => parS is ws (σ.set i (some w))
  | _, _, _ => none

/-! ### what it does -/
section
variable (T : Tb)
mutual
def evE : Nat → Nat → E → Sg → GH → R W
  | 0, _, _, _, _ => .bad
  | n + 1, d, e, σ, G => match e with
    | .cst w => .ok w G
    | .var i => match σ[i]? with
      | some (some w) => .ok w G
      | _ => .bad
    | .bin o a b => (evE n d a σ G).bind fun x G1 => (evE n d b σ G1).bind fun y G2 => ofOG (binop o x y G2)
    | .cmp o a b => (evE n d a σ G).bind fun x G1 => (evE n d b σ G1).bind fun y G2 => ofO ((cmpop o x y G2).map .bl) G2
    | .and a b => (evE n d a σ G).bind fun x G1 => (ofO (tru G1 x) G1).bind fun k G1 => if k then evE n d b σ G1 else .ok x G1
    | .or a b => (evE n d a σ G).bind fun x G1 => (ofO (tru G1 x) G1).bind fun k G1 => if k then .ok x G1 else evE n d b σ G1
    | .not a => (evE n d a σ G).bind fun x G1 => (ofO (tru G1 x) G1).bind fun k G1 => .ok (.bl (!k)) G1
    | .neg a => (evE n d a σ G).bind fun x G1 => match x with
      | .int i => .ok (.int (-i)) G1
      | _ => .bad
    | .ife c a b => (evE n d c σ G).bind fun x G1 => (ofO (tru G1 x) G1).bind fun k G1 => if k then evE n d a σ G1 else evE n d b σ G1
    | .tup es => (evA n d es σ G).bind fun ws G1 => if szOk ws.length then .ok (.tup ws) G1 else .bad
    | .lst es => (evA n d es σ G).bind fun ws G1 => ofOG (newL G1 ws)
    | .ix a i => (evE n d a σ G).bind fun x G1 => (evE n d i σ G1).bind fun y G2 => ofO (ixop G2 x y) G2
    | .sl a lo hi => (evE n d a σ G).bind fun x G1 => ((evE n d lo σ G1).bind fun v G2 => ofO (optI v) G2).bind fun l G2 => ((evE n d hi σ G2).bind fun v G3 => ofO (optI v) G3).bind fun h G3 => ofOG (slop G3 x l h)
    | .call f es bd => (evEs n d es σ G).bind fun ws G1 => match bindA bd ws with
      | some us => evC n d f us G1
      | none => .bad
    | .mk c es bd => match T.ini.lookup c with
      | some f => (evEs n d es σ G).bind fun ws G1 => match bindA bd (.ref G1.sz :: ws) with
        | some us => (evC n (d - 1) f us (G1.push (.ins c []))).bind fun w G2 => if isNon w then .ok (.ref G1.sz) G2 else .bad
        | none => .bad
      | none => .bad
    | .met o m es => (evE n d o σ G).bind fun x G1 => match mkOf T G1 x m with
      | some (.b k) => (evEs n d es σ G1).bind fun ws G2 => ofOG (bmop k x ws G2)
      | some (.f f) => (evEs n d es σ G1).bind fun ws G2 => evC n d f (x :: ws) G2
      | none => .bad
    | .att o f => (evE n d o σ G).bind fun x G1 => match x with
      | .ref a => match G1.get a with
        | some (.ins c fs) => if T.fl.contains (c, f) then ofO (fs.lookup f) G1 else .bad
        | _ => .bad
      | _ => .bad
    | .blt b es => (evEs n d es σ G).bind fun ws G1 => ofOG (bfop T b ws G1)
    | .lc vs tg it ifs e => (evI n d it σ G).bind fun iv G1 => (evL n d iv 0 tg ifs e (wipeW σ vs) vs [] G1).nox.bind fun ws G2 => ofOG (newL G2 ws)
    | .lc2 vs tg it ifs vs1 tg1 it1 ifs1 e => (evI n d it σ G).bind fun iv G1 => (evK n d iv 0 tg ifs tg1 it1 ifs1 e (wipeW σ vs) vs1 [] G1).nox.bind fun ws G2 => ofOG (newL G2 ws)
    | .chn o o2 a b c => (evE n d a σ G).bind fun x G1 => (evE n d b σ G1).bind fun y G2 => (ofO (cmpop o x y G2) G2).bind fun k G2 => if k then (evE n d c σ G2).bind fun z G3 => ofO ((cmpop o2 y z G3).map .bl) G3 else .ok (.bl false) G2
    | .maxd a b => (evE n d a σ G).bind fun x G1 => (evE n d b σ G1).bind fun y G2 => match items G2 x with
      | some xs => match intsW xs with
        | some ns => .ok (match maxI ns with | some i => .int i | none => y) G2
        | none => .bad
      | none => .bad
    | .bad => .bad
def evEs : Nat → Nat → List E → Sg → GH → R (List W)
  | 0, _, _, _, _ => .bad
  | n + 1, d, es, σ, G => match es with
    | [] => .ok [] G
    | e :: r => (evE n d e σ G).bind fun w G1 => (evEs n d r σ G1).bind fun ws G2 => .ok (w :: ws) G2
def evA : Nat → Nat → List Ar → Sg → GH → R (List W)
  | 0, _, _, _, _ => .bad
  | n + 1, d, es, σ, G => match es with
    | [] => .ok [] G
    | .e e :: r => (evE n d e σ G).bind fun w G1 => (evA n d r σ G1).bind fun ws G2 => .ok (w :: ws) G2
    | .s e :: r => (evE n d e σ G).bind fun w G1 => (ofO (seqOf G1 w) G1).bind fun us G1 => (evA n d r σ G1).bind fun ws G2 => .ok (us ++ ws) G2
def evI : Nat → Nat → It → Sg → GH → R IV
  | 0, _, _, _, _ => .bad
  | n + 1, d, it, σ, G => match it with
    | .e e => (evE n d e σ G).bind fun w G1 => ofO ((ivOf G1 w).map .one) G1
    | .rng es => (evEs n d es σ G).bind fun ws G1 => ofO ((rngOf ws).map fun l => .one (.sq l)) G1
    | .zip a b => (evE n d a σ G).bind fun x G1 => (evE n d b σ G1).bind fun y G2 => match ivOf G2 x, ivOf G2 y with
      | some u, some v => .ok (.zip u v) G2
      | _, _ => .bad
/-- a comprehension's turns: σ without the own names, what is made so far -/
def evL : Nat → Nat → IV → Nat → Tg → List E → E → Sg → List Nat → List W → GH → R (List W)
  | 0, _, _, _, _, _, _, _, _, _, _ => .bad
  | n + 1, d, iv, i, tg, ifs, e, σ, vs, acc, G => match iv.at G i with
    | none => .bad
    | some none => .ok acc G
    | some (some w) => match asgT tg w σ with
      | none => .bad
      | some σ1 => match ifs with
        | [] => (evE n d e σ1 G).bind fun u G1 => if decide (acc.length < sizeLine) then evL n d iv (i + 1) tg ifs e σ vs (acc ++ [u]) G1 else .bad
        | [c] => (evE n d c σ1 G).bind fun x G1 => (ofO (tru G1 x) G1).bind fun k G1 => if k then (evE n d e σ1 G1).bind fun u G2 => (if decide (acc.length < sizeLine) then evL n d iv (i + 1) tg ifs e σ vs (acc ++ [u]) G2 else .bad) else evL n d iv (i + 1) tg ifs e σ vs acc G1
        | _ => .bad
/-- two clauses: σ without the own names, vs the inner ones' -/
def evK : Nat → Nat → IV → Nat → Tg → List E → Tg → It → List E → E → Sg → List Nat → List W → GH → R (List W)
  | 0, _, _, _, _, _, _, _, _, _, _, _, _, _ => .bad
  | n + 1, d, iv, i, tg, ifs, tg1, it1, ifs1, e, σ, vs1, acc, G => match iv.at G i with
    | none => .bad
    | some none => .ok acc G
    | some (some w) => match asgT tg w σ with
      | none => .bad
      | some σ1 => match ifs with
        | [] => (evI n d it1 σ1 G).bind fun iv1 G1 => (evL n d iv1 0 tg1 ifs1 e (wipeW σ1 vs1) vs1 acc G1).bind fun acc' G2 => evK n d iv (i + 1) tg ifs tg1 it1 ifs1 e σ vs1 acc' G2
        | _ => .bad
/-- a def called: d calls deep at most -/
def evC : Nat → Nat → Nat → List W → GH → R W
  | 0, _, _, _, _ => .bad
  | _ + 1, 0, _, _, _ => .bad
  | n + 1, d + 1, f, ws, G => match T.fn f with
    | some fd => match argsOf fd ws with
      | some us => (evSs n d fd.body (us.map some ++ List.replicate (fd.ns - fd.np) none) G).out
      | none => .bad
    | none => .bad
def evS : Nat → Nat → S → Sg → GH → F
  | 0, _, _, _, _ => .bad
  | n + 1, d, s, σ, G => match s with
    | .asg t e => (evE n d e σ G).toF σ fun w G1 => match asgT t w σ with
      | some σ' => .nx σ' G1
      | none => .bad
    | .sub o i e => (evE n d e σ G).toF σ fun w G1 => (evE n d o σ G1).toF σ fun x G2 => (evE n d i σ G2).toF σ fun y G3 => match x, y with
      | .ref a, .int k => match G3.get a with
        | some (.lst ws) => match ixN ws.length k with
          | some j => .nx σ (G3.set a (.lst (ws.set j w)))
          | none => .bad
        | _ => .bad
      | _, _ => .bad
    | .att o f e => (evE n d e σ G).toF σ fun w G1 => (evE n d o σ G1).toF σ fun x G2 => match x with
      | .ref a => match G2.get a with
        | some (.ins c fs) => if decide (fs.length < 1000) && T.fl.contains (c, f) then .nx σ (G2.set a (.ins c (putFW f w fs))) else .bad
        | _ => .bad
      | _ => .bad
    | .par is es => (evEs n d es σ G).toF σ fun ws G1 => match parS is ws σ with
      | some σ' => .nx σ' G1
      | none => .bad
    | .exp e => (evE n d e σ G).toF σ fun _ G1 => .nx σ G1
    | .ife c a b => (evE n d c σ G).toF σ fun x G1 => match tru G1 x with
      | some true => evSs n d a σ G1
      | some false => evSs n d b σ G1
      | none => .bad
    | .for t it b => (evI n d it σ G).toF σ fun iv G1 => evF n d iv 0 t b σ G1
    | .whl c b => evW n d c b σ G
    | .ret e => (evE n d e σ G).toF σ fun w G1 => .ret w G1
    | .pass => .nx σ G
    | .brk => .brk σ G
    | .cnt => .cnt σ G
    | .bad => .bad
    | .aug i o e => match σ[i]? with
      | some (some x) => (evE n d e σ G).toF σ fun y G1 => match augop o x y G1 with
        | some (w, G2) => .nx (σ.set i (some w)) G2
        | none => .bad
      | _ => .bad
    | .unp i j e => (evE n d e σ G).toF σ fun w G1 => match w with
      | .tup (u :: ws) => if szOk (ws.length + 1) then .nx ((σ.set i (some u)).set j (some (.ref G1.sz))) (G1.push (.lst ws)) else .bad
      | _ => .bad
def evSs : Nat → Nat → List S → Sg → GH → F
  | 0, _, _, _, _ => .bad
  | n + 1, d, ss, σ, G => match ss with
    | [] => .nx σ G
    | s :: r => (evS n d s σ G).then fun σ1 G1 => evSs n d r σ1 G1
def evF : Nat → Nat → IV → Nat → Tg → List S → Sg → GH → F
  | 0, _, _, _, _, _, _, _ => .bad
  | n + 1, d, iv, i, tg, b, σ, G => match iv.at G i with
    | none => .bad
    | some none => .nx σ G
    | some (some w) => match asgT tg w σ with
      | none => .bad
      | some σ1 => match evSs n d b σ1 G with
        | .nx σ2 G2 => evF n d iv (i + 1) tg b σ2 G2
        | .cnt σ2 G2 => evF n d iv (i + 1) tg b σ2 G2
        | .brk σ2 G2 => .nx σ2 G2
        | r => r
def evW : Nat → Nat → E → List S → Sg → GH → F
  | 0, _, _, _, _, _ => .bad
  | n + 1, d, c, b, σ, G => (evE n d c σ G).toF σ fun x G1 => match tru G1 x with
    | some true => match evSs n d b σ G1 with
      | .nx σ2 G2 => evW n d c b σ2 G2
      | .cnt σ2 G2 => evW n d c b σ2 G2
      | .brk σ2 G2 => .nx σ2 G2
      | r => r
    | some false => .nx σ G1
    | none => .bad
end
end
end PM

set_option maxHeartbeats 4000000
/-! PmB: how our values and heap lie in the layer's. -/
namespace PM
open PySem PySem.Spec PyProof.Rows L2

/-- where the text's defs and classes stand -/
structure En where
  K : PySem.W.Frag
  fa : Nat → Addr
  ca : Nat → Addr
  nm : Nat → Str
/-- a list that is read alone: locked, or of the written part -/
def SqF (K : PySem.W.Frag) (H : Hp) (a : Addr) (xs : List V) : Prop := (∃ o, H a = some (.frz o (.lst xs))) ∨
    ∃ (o : Obj) (its : Array Value) (n : Nat), K.lookup a = some o ∧ o.cls = .type "list" ∧ o.dict = none ∧ o.data = .seq its n ∧ its.size ≤ sizeLine ∧ Vals xs its.toList
theorem SqF.l {K : PySem.W.Frag} {H : Hp} {a : Addr} {xs : List V} (h : SqF K H a xs) : SqL K H a xs := by
  rcases h with ⟨o, h⟩ | h
  · exact .inl (.inr ⟨o, h⟩)
  · exact .inr h
/-- a tuple: a tracked one, or of the written part -/
def SqU (K : PySem.W.Frag) (H : Hp) (a : Addr) (xs : List V) : Prop := H a = some (.tup xs) ∨
    ∃ (o : Obj) (its : Array Value) (n : Nat), K.lookup a = some o ∧ o.cls = .type "tuple" ∧ o.data = .seq its n ∧ its.size ≤ sizeLine ∧ Vals xs its.toList
theorem SqU.t {K : PySem.W.Frag} {H : Hp} {a : Addr} {xs : List V} (h : SqU K H a xs) : SqT K H a xs := by
  rcases h with h | h
  · exact .inl (.inl h)
  · exact .inr h
section
variable (N : En) (ρ : List Addr) (H : Hp)
mutual
def Rw : W → V → Prop
  | .non, v => v = .non
  | .bl b, v => v = .bl b
  | .int i, v => v = .int i
  | .str s, v => v = .str s
  | .ty n, v => v = .ty n
  | .fn f, v => v = .ref (N.fa f)
  | .cls c, v => v = .ref (N.ca c)
  | .ref n, v => ∃ a, ρ[n]? = some a ∧ v = .ref a
  | .tup ws, v => ∃ a xs, v = .ref a ∧ SqU N.K H a xs ∧ Rws ws xs
  | .rol ws, v => ∃ a xs, v = .ref a ∧ SqF N.K H a xs ∧ Rws ws xs
def Rws : List W → List V → Prop
  | [], vs => vs = []
  | w :: ws, vs => ∃ x xs, vs = x :: xs ∧ Rw w x ∧ Rws ws xs
end
end
/-- what may stand at a place of ours -/
def okHO : HO → Prop
  | .lst _ => True
  | .ins _ _ _ => True
  | _ => False
/-- fields -/
def Rfs (N : En) (ρ : List Addr) (H : Hp) : List (Nat × W) → List (Str × V) → Prop
  | [], xs => xs = []
  | (f, w) :: r, xs => ∃ v xs', xs = (N.nm f, v) :: xs' ∧ Rw N ρ H w v ∧ Rfs N ρ H r xs'
def Ro (N : En) (ρ : List Addr) (H : Hp) (a : Addr) : AO → Prop
  | .lst ws => ∃ xs, H a = some (.lst xs) ∧ Rws N ρ H ws xs
  | .ins c fs => ∃ dx xs, H a = some (.ins (N.ca c) dx xs) ∧ Rfs N ρ H fs xs
structure Rg (N : En) (ρ : List Addr) (G : GH) (H : Hp) : Prop where
  nd : ρ.Nodup
  sz : ρ.length = G.sz
  ok : ∀ a ∈ ρ, ∃ o, H a = some o ∧ okHO o
  at_ : ∀ n o, G.get n = some o → ∃ a, ρ[n]? = some a ∧ Ro N ρ H a o
/-- what may happen: new places, what is not ours stays -/
structure Stp (ρ : List Addr) (H : Hp) (ρ' : List Addr) (H' : Hp) : Prop where
  pre : ∃ r, ρ' = ρ ++ r
  new : ∀ a ∈ ρ', a ∉ ρ → H a = none
  keep : ∀ a o, H a = some o → a ∉ ρ → H' a = some o
def Rs (N : En) (ρ : List Addr) (H : Hp) (σw : Sg) (σ : L2.St) : Prop := σw.length = σ.length ∧ ∀ (i : Nat) (w : W), σw[i]? = some (some w) → ∃ v, σ[i]? = some (some v) ∧ Rw N ρ H w v

section
variable {N : En} {ρ ρ' ρ1 ρ2 : List Addr} {H H' H1 H2 : Hp} {G : GH} {a : Addr} {o : HO}
theorem Stp.refl (ρ : List Addr) (H : Hp) : Stp ρ H ρ H := ⟨⟨[], by simp⟩, fun _ h n => absurd h n, fun _ _ h _ => h⟩
theorem Stp.mem (s : Stp ρ H ρ' H') (h : a ∈ ρ) : a ∈ ρ' := by
  obtain ⟨r, rfl⟩ := s.pre
  exact List.mem_append_left _ h
theorem Stp.get (s : Stp ρ H ρ' H') {n : Nat} (h : ρ[n]? = some a) : ρ'[n]? = some a := by
  obtain ⟨r, rfl⟩ := s.pre
  obtain ⟨hn, e⟩ := List.getElem?_eq_some_iff.mp h
  rw [List.getElem?_append_left hn, h]
theorem Stp.out (s : Stp ρ H ρ' H') (h : H a = some o) (n : a ∉ ρ) : a ∉ ρ' := fun m => by
  rw [s.new a m n] at h
  cases h
theorem Stp.trans (s : Stp ρ H ρ1 H1) (t : Stp ρ1 H1 ρ2 H2) : Stp ρ H ρ2 H2 := by
  refine ⟨?_, fun a m n => ?_, fun a o h n => t.keep a o (s.keep a o h n) (s.out h n)⟩
  · obtain ⟨r, rfl⟩ := s.pre
    obtain ⟨r', rfl⟩ := t.pre
    exact ⟨r ++ r', by rw [List.append_assoc]⟩
  · by_cases m1 : a ∈ ρ1
    · exact s.new a m1 n
    · have z := t.new a m m1
      cases q : H a with
      | none => rfl
      | some o =>
        rw [s.keep a o q n] at z
        cases z
/-- a new object that is not ours (a tuple) -/
theorem Stp.laid (h : H a = none) : Stp ρ H ρ (upd H a o) := ⟨⟨[], by simp⟩, fun _ m n => absurd m n, fun b u e _ => by rw [upd_ne (ne_of_none e h)]; exact e⟩
/-- a new object of ours -/
theorem Stp.push (h : H a = none) : Stp ρ H (ρ ++ [a]) (upd H a o) := ⟨⟨[a], rfl⟩, fun b m n => by
    rcases List.mem_append.mp m with m | m
    · exact absurd m n
    · rw [List.mem_singleton.mp m]
      exact h, fun b u e _ => by rw [upd_ne (ne_of_none e h)]; exact e⟩
/-- an object of ours changed -/
theorem Stp.set (h : a ∈ ρ) : Stp ρ H ρ (upd H a o) := ⟨⟨[], by simp⟩, fun _ m n => absurd m n, fun b u e n => by
    rw [upd_ne (fun z => n (by rw [z]; exact h))]
    exact e⟩

theorem Rg.ntup (g : Rg N ρ G H) {u : HO} (h : H a = some u) (hu : okHO u → False) : a ∉ ρ := fun m => by
  obtain ⟨o, e, k⟩ := g.ok a m
  rw [h] at e
  cases e
  exact hu k
theorem sqU_stp (g : Rg N ρ G H) (s : Stp ρ H ρ' H') {xs : List V} (h : SqU N.K H a xs) : SqU N.K H' a xs := by
  rcases h with h | h
  · exact .inl (s.keep _ _ h (g.ntup h fun z => z))
  · exact .inr h
mutual
theorem Rw.stp (g : Rg N ρ G H) (s : Stp ρ H ρ' H') : ∀ (w : W) {v : V}, Rw N ρ H w v → Rw N ρ' H' w v
  | .non, _, h => h
  | .bl _, _, h => h
  | .int _, _, h => h
  | .str _, _, h => h
  | .ty _, _, h => h
  | .fn _, _, h => h
  | .cls _, _, h => h
  | .ref n, _, h => by
    obtain ⟨a, h1, h2⟩ := h
    exact ⟨a, s.get h1, h2⟩
  | .tup ws, _, h => by
    obtain ⟨a, xs, h1, h2, h3⟩ := h
    exact ⟨a, xs, h1, sqU_stp g s h2, Rws.stp g s ws h3⟩
  | .rol ws, _, h => by
    obtain ⟨a, xs, h1, h2, h3⟩ := h
    refine ⟨a, xs, h1, ?_, Rws.stp g s ws h3⟩
    rcases h2 with ⟨o, h2⟩ | h2
    · exact .inl ⟨o, s.keep _ _ h2 (g.ntup h2 fun z => z)⟩
    · exact .inr h2
theorem Rws.stp (g : Rg N ρ G H) (s : Stp ρ H ρ' H') : ∀ (ws : List W) {vs : List V}, Rws N ρ H ws vs → Rws N ρ' H' ws vs
  | [], _, h => h
  | w :: ws, _, h => by
    obtain ⟨x, xs, h1, h2, h3⟩ := h
    exact ⟨x, xs, h1, Rw.stp g s w h2, Rws.stp g s ws h3⟩
end
/-- less: what is fixed stays -/
structure StpW (ρ : List Addr) (H : Hp) (ρ' : List Addr) (H' : Hp) : Prop where
  pre : ∃ r, ρ' = ρ ++ r
  tup : ∀ a xs, H a = some (.tup xs) → H' a = some (.tup xs)
  frz : ∀ a o xs, H a = some (.frz o xs) → H' a = some (.frz o xs)
theorem Stp.w (g : Rg N ρ G H) (s : Stp ρ H ρ' H') : StpW ρ H ρ' H' := ⟨s.pre, fun a xs h => s.keep _ _ h (g.ntup h fun z => z), fun a o xs h => s.keep _ _ h (g.ntup h fun z => z)⟩
theorem StpW.trans (s : StpW ρ H ρ1 H1) (t : StpW ρ1 H1 ρ2 H2) : StpW ρ H ρ2 H2 := by
  refine ⟨?_, fun a xs h => t.tup a xs (s.tup a xs h), fun a o xs h => t.frz a o xs (s.frz a o xs h)⟩
  obtain ⟨r, rfl⟩ := s.pre
  obtain ⟨r', rfl⟩ := t.pre
  exact ⟨r ++ r', by rw [List.append_assoc]⟩
theorem StpW.refl : StpW ρ H ρ H := ⟨⟨[], by simp⟩, fun _ _ h => h, fun _ _ _ h => h⟩
/-- a list of nobody's changed -/
theorem StpW.lst {xs ys : List V} (e : H a = some (.lst xs)) : StpW ρ H ρ (upd H a (.lst ys)) := ⟨⟨[], by simp⟩, fun b zs h => by rw [upd_ne (fun z => by rw [z, e] at h; cases h)]; exact h, fun b o zs h => by rw [upd_ne (fun z => by rw [z, e] at h; cases h)]; exact h⟩
theorem StpW.get (s : StpW ρ H ρ' H') {n : Nat} (h : ρ[n]? = some a) : ρ'[n]? = some a := by
  obtain ⟨r, rfl⟩ := s.pre
  obtain ⟨hn, e⟩ := List.getElem?_eq_some_iff.mp h
  rw [List.getElem?_append_left hn, h]
theorem sqU_stpW (s : StpW ρ H ρ' H') {xs : List V} (h : SqU N.K H a xs) : SqU N.K H' a xs := by
  rcases h with h | h
  · exact .inl (s.tup _ _ h)
  · exact .inr h
theorem sqF_stpW (s : StpW ρ H ρ' H') {xs : List V} (h : SqF N.K H a xs) : SqF N.K H' a xs := by
  rcases h with ⟨o, h⟩ | h
  · exact .inl ⟨o, s.frz _ _ _ h⟩
  · exact .inr h
mutual
theorem Rw.stpW (s : StpW ρ H ρ' H') : ∀ (w : W) {v : V}, Rw N ρ H w v → Rw N ρ' H' w v
  | .non, _, h => h
  | .bl _, _, h => h
  | .int _, _, h => h
  | .str _, _, h => h
  | .ty _, _, h => h
  | .fn _, _, h => h
  | .cls _, _, h => h
  | .ref n, _, h => by
    obtain ⟨a, h1, h2⟩ := h
    exact ⟨a, s.get h1, h2⟩
  | .tup ws, _, h => by
    obtain ⟨a, xs, h1, h2, h3⟩ := h
    exact ⟨a, xs, h1, sqU_stpW s h2, Rws.stpW s ws h3⟩
  | .rol ws, _, h => by
    obtain ⟨a, xs, h1, h2, h3⟩ := h
    exact ⟨a, xs, h1, sqF_stpW s h2, Rws.stpW s ws h3⟩
theorem Rws.stpW (s : StpW ρ H ρ' H') : ∀ (ws : List W) {vs : List V}, Rws N ρ H ws vs → Rws N ρ' H' ws vs
  | [], _, h => h
  | w :: ws, _, h => by
    obtain ⟨x, xs, h1, h2, h3⟩ := h
    exact ⟨x, xs, h1, Rw.stpW s w h2, Rws.stpW s ws h3⟩
end
theorem Rs.stpW {σw : Sg} {σ : L2.St} (s : StpW ρ H ρ' H') (h : Rs N ρ H σw σ) : Rs N ρ' H' σw σ := ⟨h.1, fun i w e => by
  obtain ⟨v, h1, h2⟩ := h.2 i w e
  exact ⟨v, h1, h2.stpW s w⟩⟩
theorem Rfs.stp (g : Rg N ρ G H) (s : Stp ρ H ρ' H') : ∀ (fs : List (Nat × W)) {xs : List (Str × V)}, Rfs N ρ H fs xs → Rfs N ρ' H' fs xs
  | [], _, h => h
  | (f, w) :: r, _, h => by
    obtain ⟨v, xs', h1, h2, h3⟩ := h
    exact ⟨v, xs', h1, h2.stp g s w, Rfs.stp g s r h3⟩
theorem Rs.stp {σw : Sg} {σ : L2.St} (g : Rg N ρ G H) (s : Stp ρ H ρ' H') (h : Rs N ρ H σw σ) : Rs N ρ' H' σw σ := ⟨h.1, fun i w e => by
  obtain ⟨v, h1, h2⟩ := h.2 i w e
  exact ⟨v, h1, h2.stp g s w⟩⟩
/-- our objects as they were -/
theorem Ro.stp (g : Rg N ρ G H) (s : Stp ρ H ρ' H') {o : AO} (e : H' a = H a) (h : Ro N ρ H a o) : Ro N ρ' H' a o := by
  cases o with
  | lst ws =>
    obtain ⟨xs, h1, h2⟩ := h
    exact ⟨xs, e.trans h1, h2.stp g s ws⟩
  | ins c fs =>
    obtain ⟨dx, xs, h1, h2⟩ := h
    exact ⟨dx, xs, e.trans h1, h2.stp g s fs⟩
/-- a step that leaves our objects alone -/
theorem Rg.same (g : Rg N ρ G H) (s : Stp ρ H ρ H') (k : ∀ a ∈ ρ, H' a = H a) : Rg N ρ G H' := ⟨g.nd, g.sz, fun a m => by
    obtain ⟨o, e, q⟩ := g.ok a m
    exact ⟨o, (k a m).trans e, q⟩, fun n o e => by
    obtain ⟨a, h1, h2⟩ := g.at_ n o e
    exact ⟨a, h1, h2.stp g s (k a (List.mem_of_getElem? h1))⟩⟩
/-- a tuple laid -/
theorem Rg.laid (g : Rg N ρ G H) (h : H a = none) : Rg N ρ G (upd H a o) := g.same (Stp.laid h) fun b m => by
  obtain ⟨u, e, _⟩ := g.ok b m
  exact upd_ne (ne_of_none e h)
theorem Rg.fresh (g : Rg N ρ G H) (h : H a = none) : a ∉ ρ := fun m => by
  obtain ⟨u, e, _⟩ := g.ok a m
  rw [h] at e
  cases e
/-- a new object of ours -/
theorem Rg.push (g : Rg N ρ G H) (h : H a = none) (k : okHO o) {u : AO} (hu : Ro N (ρ ++ [a]) (upd H a o) a u) : Rg N (ρ ++ [a]) (G.push u) (upd H a o) := by
  have s : Stp ρ H (ρ ++ [a]) (upd H a o) := Stp.push h
  refine ⟨?_, ?_, fun b m => ?_, fun n q e => ?_⟩
  · rw [List.nodup_append]
    refine ⟨g.nd, by simp, fun x hx y hy e => ?_⟩
    rw [List.mem_singleton.mp hy] at e
    exact g.fresh h (e ▸ hx)
  · rw [List.length_append, g.sz]
    rfl
  · rcases List.mem_append.mp m with m | m
    · obtain ⟨q, e, z⟩ := g.ok b m
      exact ⟨q, by rw [upd_ne (ne_of_none e h)]; exact e, z⟩
    · rw [List.mem_singleton.mp m]
      exact ⟨o, upd_same, k⟩
  · rw [GH.get_push] at e
    by_cases hn : n = G.sz
    · rw [if_pos hn] at e
      cases e
      refine ⟨a, ?_, hu⟩
      rw [hn, ← g.sz, List.getElem?_append_right (Nat.le_refl _)]
      simp
    · rw [if_neg hn] at e
      obtain ⟨b, h1, h2⟩ := g.at_ n q e
      obtain ⟨w, e1, _⟩ := g.ok b (List.mem_of_getElem? h1)
      exact ⟨b, s.get h1, h2.stp g s (upd_ne (ne_of_none e1 h))⟩
/-- an object of ours changed -/
theorem Rg.set (g : Rg N ρ G H) {n : Nat} (h : ρ[n]? = some a) (k : okHO o) {u : AO} (hu : Ro N ρ (upd H a o) a u) : Rg N ρ (G.set n u) (upd H a o) := by
  have m := List.mem_of_getElem? h
  have s : Stp ρ H ρ (upd H a o) := Stp.set m
  refine ⟨g.nd, g.sz, fun b mb => ?_, fun j q e => ?_⟩
  · by_cases hb : b = a
    · rw [hb]
      exact ⟨o, upd_same, k⟩
    · rw [upd_ne hb]
      exact g.ok b mb
  · rw [GH.get_set] at e
    by_cases hj : j = n
    · rw [if_pos hj] at e
      cases e
      exact ⟨a, by rw [hj]; exact h, hu⟩
    · rw [if_neg hj] at e
      obtain ⟨b, h1, h2⟩ := g.at_ j q e
      refine ⟨b, h1, h2.stp g s (upd_ne fun z => hj ?_)⟩
      rw [z] at h1
      exact nd_ix g.nd h1 h
/-- what a number of ours names -/
theorem Rg.ref (g : Rg N ρ G H) {n : Nat} {o : AO} {v : V} (h : Rw N ρ H (.ref n) v) (e : G.get n = some o) : ∃ a, v = .ref a ∧ ρ[n]? = some a ∧ Ro N ρ H a o := by
  obtain ⟨a, h1, h2⟩ := h
  obtain ⟨b, h3, h4⟩ := g.at_ n o e
  rw [h1] at h3
  cases h3
  exact ⟨a, h2, h1, h4⟩
end

/-! ### lists of values -/
section
variable {N : En} {ρ ρ' : List Addr} {H H' : Hp} {G : GH}
theorem Rws.len : ∀ {ws : List W} {vs : List V}, Rws N ρ H ws vs → ws.length = vs.length
  | [], _, h => by
    have e : _ = [] := h
    rw [e]
    rfl
  | w :: ws, _, h => by
    obtain ⟨x, xs, h1, _, h3⟩ := h
    rw [h1, List.length_cons, List.length_cons, h3.len]
theorem Rws.get : ∀ {ws : List W} {vs : List V} {i : Nat} {w : W}, Rws N ρ H ws vs → ws[i]? = some w → ∃ v, vs[i]? = some v ∧ Rw N ρ H w v
  | [], _, _, _, _, e => by simp at e
  | w :: ws, _, 0, u, h, e => by
    obtain ⟨x, xs, h1, h2, _⟩ := h
    simp at e
    exact ⟨x, by rw [h1]; rfl, e ▸ h2⟩
  | w :: ws, _, i + 1, u, h, e => by
    obtain ⟨x, xs, h1, _, h3⟩ := h
    obtain ⟨v, e1, e2⟩ := h3.get (i := i) (by simpa using e)
    exact ⟨v, by rw [h1]; simpa using e1, e2⟩
theorem Rws.none : ∀ {ws : List W} {vs : List V} {i : Nat}, Rws N ρ H ws vs → ws[i]? = none → vs[i]? = none := fun h e => by
  rw [List.getElem?_eq_none_iff] at e ⊢
  rw [← h.len]
  exact e
theorem Rws.append : ∀ {ws us : List W} {vs xs : List V}, Rws N ρ H ws vs → Rws N ρ H us xs → Rws N ρ H (ws ++ us) (vs ++ xs)
  | [], _, _, _, h, k => by rw [show _ = _ from h]; exact k
  | w :: ws, _, _, _, h, k => by
    obtain ⟨x, xs, h1, h2, h3⟩ := h
    exact ⟨x, _, by rw [h1]; rfl, h2, h3.append k⟩
theorem Rws.one {w : W} {v : V} (h : Rw N ρ H w v) : Rws N ρ H [w] [v] := ⟨v, [], rfl, h, rfl⟩
theorem Rws.take : ∀ {ws : List W} {vs : List V} (n : Nat), Rws N ρ H ws vs → Rws N ρ H (ws.take n) (vs.take n)
  | _, _, 0, _ => rfl
  | [], _, _ + 1, h => by rw [show _ = _ from h]; rfl
  | w :: ws, _, n + 1, h => by
    obtain ⟨x, xs, h1, h2, h3⟩ := h
    rw [h1]
    exact ⟨x, _, rfl, h2, h3.take n⟩
theorem Rws.drop : ∀ {ws : List W} {vs : List V} (n : Nat), Rws N ρ H ws vs → Rws N ρ H (ws.drop n) (vs.drop n)
  | _, _, 0, h => h
  | [], _, _ + 1, h => by rw [show _ = _ from h]; rfl
  | w :: ws, _, n + 1, h => by
    obtain ⟨x, xs, h1, h2, h3⟩ := h
    rw [h1]
    exact h3.drop n
theorem Rws.set : ∀ {ws : List W} {vs : List V} {w : W} {v : V} (i : Nat), Rws N ρ H ws vs → Rw N ρ H w v → Rws N ρ H (ws.set i w) (vs.set i v)
  | [], _, _, _, _, h, _ => by rw [show _ = _ from h]; rfl
  | w :: ws, _, _, _, 0, h, k => by
    obtain ⟨x, xs, h1, h2, h3⟩ := h
    rw [h1]
    exact ⟨_, _, rfl, k, h3⟩
  | w :: ws, _, _, _, i + 1, h, k => by
    obtain ⟨x, xs, h1, h2, h3⟩ := h
    rw [h1]
    exact ⟨_, _, rfl, h2, h3.set i k⟩
theorem Rws.cut {ws : List W} {vs : List V} (lo hi : Option Int) (h : Rws N ρ H ws vs) : Rws N ρ H (cutW ws lo hi) (cutV vs lo hi) := by
  unfold cutW cutV
  rw [h.len]
  exact (h.drop _).take _
theorem Rws.at_ {ws : List W} {vs : List V} {i : Int} {w : W} (h : Rws N ρ H ws vs) (e : atI ws i = some w) : ∃ v, atI vs i = some v ∧ Rw N ρ H w v := by
  unfold atI at e ⊢
  rw [← h.len]
  cases q : ixN ws.length i with
  | none => rw [q] at e; cases e
  | some j =>
    rw [q] at e
    exact h.get e
/-- slots -/
theorem Rs.set {σw : Sg} {σ : L2.St} {w : W} {v : V} (i : Nat) (h : Rs N ρ H σw σ) (k : Rw N ρ H w v) : Rs N ρ H (σw.set i (some w)) (σ.set i (some v)) := by
  refine ⟨by rw [List.length_set, List.length_set]; exact h.1, fun j u e => ?_⟩
  by_cases hj : i = j
  · rw [← hj] at e ⊢
    by_cases hl : i < σw.length
    · rw [List.getElem?_set_self hl] at e
      cases e
      exact ⟨v, List.getElem?_set_self (by rw [← h.1]; exact hl), k⟩
    · rw [List.getElem?_eq_none (by rw [List.length_set]; omega)] at e
      cases e
  · rw [List.getElem?_set_ne hj] at e ⊢
    exact h.2 j u e
theorem Rs.wipe {σw : Sg} {σ : L2.St} (h : Rs N ρ H σw σ) : ∀ vs : List Nat, Rs N ρ H (wipeW σw vs) (wipe σ vs)
  | [] => h
  | i :: vs => by
    have ih := Rs.wipe h vs
    unfold wipeW L2.wipe
    refine ⟨by rw [List.length_set, List.length_set]; exact ih.1, fun j u e => ?_⟩
    by_cases hj : i = j
    · rw [← hj] at e
      by_cases hl : i < (wipeW σw vs).length
      · rw [List.getElem?_set_self hl] at e
        cases e
      · rw [List.getElem?_eq_none (by rw [List.length_set]; omega)] at e
        cases e
    · rw [List.getElem?_set_ne hj] at e ⊢
      exact ih.2 j u e
end
end PM

set_option maxHeartbeats 4000000
/-! PmC: from the text's syntax to ours. -/
namespace PM
open PySem PySem.Spec PyProof.Rows L2

/-- the text's names -/
structure Gn where
  fns : List (Str × Nat)
  clss : List (Str × Nat)
  csts : List (Str × W)
  /-- built-in names that the text leaves alone -/
  free : List Str
  nms : List Str
  /-- calls of defs: def, written values, keywords -/
  sh : List ((Nat × Nat × List Str) × List Bd)
  /-- defs that take the rest -/
  shv : List Nat
  shc : List ((Nat × Nat × List Str) × List Bd)
/-- where an expression stands -/
structure Ct where
  N : List Str
  sc : Scope
  st : List Str
def ixS : List Str → Str → Option Nat
  | [], _ => none
  | y :: r, x => if y = x then some 0 else (ixS r x).map (· + 1)
theorem ixS_get : ∀ {N : List Str} {x : Str} {i : Nat}, ixS N x = some i → N[i]? = some x
  | [], _, _, h => by cases h
  | y :: r, x, i, h => by
    unfold ixS at h
    by_cases e : y = x
    · rw [if_pos e] at h
      cases h
      rw [e]
      rfl
    · rw [if_neg e] at h
      cases q : ixS r x with
      | none => rw [q] at h; cases h
      | some j =>
        rw [q] at h
        cases h
        simpa using ixS_get q
def visB (sc : Scope) (x : Str) : Bool := match sc.names.lookup x with
  | some .local => true
  | some .cell => true
  | some .free => true
  | _ => false
theorem visB_ok {sc : Scope} {x : Str} (h : visB sc x = true) : Vis sc x := by
  unfold visB at h
  unfold Vis
  cases e : sc.names.lookup x with
  | none => rw [e] at h; cases h
  | some k => cases k <;> first | exact .inl rfl | exact .inr (.inl rfl) | exact .inr (.inr rfl) | (rw [e] at h; cases h)
def locB (sc : Scope) (x : Str) : Bool := match sc.names.lookup x with
  | some .local => true
  | some .cell => true
  | _ => false
theorem locB_ok {sc : Scope} {x : Str} (h : locB sc x = true) : L2.Loc sc x := by
  unfold locB at h
  unfold L2.Loc
  cases e : sc.names.lookup x with
  | none => rw [e] at h; cases h
  | some k => cases k <;> first | exact .inl rfl | exact .inr rfl | (rw [e] at h; cases h)
def gloB (sc : Scope) (x : Str) : Bool := decide (sc.names.lookup x = some .globalImplicit)
def okName (x : Str) : Bool := !(x == ("__debug__" : Str)) && (!(x == ("__classdict__" : Str)) && !decide (x = "__name__"))
def tyName (x : Str) : Option String := if x = "int" then some "int" else if x = "str" then some "str" else if x = "list" then some "list" else if x = "tuple" then some "tuple" else if x = "bool" then some "bool" else none
def bfName (x : Str) : Option Bf := if x = "len" then some .len else if x = "int" then some .int else if x = "list" then some .list else if x = "tuple" then some .tuple else if x = "isinstance" then some .isinst else if x = "all" then some .all else if x = "any" then some .any else if x = "max" then some .max else if x = "str" then some .str else if x = "bool" then some .bool else none
/-- what a name of the module stands for, as a value -/
def glob (g : Gn) (x : Str) : Option W := match g.fns.lookup x with
  | some f => some (.fn f)
  | none => match g.clss.lookup x with
    | some c => some (.cls c)
    | none => match g.csts.lookup x with
      | some w => some w
      | none => if g.free.contains x then (tyName x).map .ty else none
def opB : Operator → Option BO
  | .Add => some .add | .Sub => some .sub | .Mult => some .mul | .FloorDiv => some .div | .Mod => some .mod | .Pow => some .pow
  | _ => none
def opA : Operator → Option BO
  | .Add => some .add | .Sub => some .sub
  | _ => none
def opC : CmpOp → Option CO
  | .Eq => some .eq | .NotEq => some .ne | .Lt => some .lt | .LtE => some .le | .Gt => some .gt | .GtE => some .ge | .In => some .isin | .NotIn => some .notin | .Is => some .is | .IsNot => some .isnot
def isSet : Expr → Bool
  | .Set _ _ _ => true
  | _ => false
def isStar : Expr → Bool
  | .Starred _ _ => true
  | _ => false
def isSlice : Expr → Bool
  | .Slice _ _ _ _ => true
  | _ => false
def isComp : Expr → Bool
  | .ListComp _ _ _ _ => true
  | .SetComp _ _ _ _ => true
  | .DictComp _ _ _ _ _ => true
  | _ => false
def superCall : Expr → Bool
  | .Call (.Name id _) [] [] _ => id == ("super" : Str)
  | _ => false
def isIfE : Expr → Bool
  | .IfExp _ _ _ _ => true
  | _ => false
/-- the own names of a comprehension that have a place -/
def ownOf (N : List Str) (sc : Scope) : List (Str × Nat) := sc.names.filterMap fun y => if (y.2 == .local || y.2 == .cell) then (ixS N y.1).map fun i => (y.1, i) else none
def blkCt (C : Ct) (scope : Scope) : Ct := ⟨C.N, relS scope C.sc, (ownOf C.N scope).map (·.1)⟩
def kwNames : List Keyword → List Str
  | [] => []
  | ⟨some x, _, _⟩ :: r => x :: kwNames r
  | ⟨none, _, _⟩ :: r => kwNames r
def kwAll : List Keyword → Bool
  | [] => true
  | ⟨some _, _, _⟩ :: r => kwAll r
  | ⟨none, _, _⟩ :: _ => false
def isDefault : List Keyword → Bool
  | [⟨some x, _, _⟩] => decide (x = "default")
  | _ => false
mutual
def tgIxs : Tg → List Nat
  | .v i => [i]
  | .t ts => tgsIxs ts
def tgsIxs : List Tg → List Nat
  | [] => []
  | t :: ts => tgIxs t ++ tgsIxs ts
end
def tgInB (vs : List Nat) (t : Tg) : Bool := (tgIxs t).all fun i => vs.contains i
section
variable (g : Gn)
def trT (C : Ct) : Nat → Expr → Option Tg
  | 0, _ => none
  | n + 1, e => match e with
    | .Name x _ => if C.st.contains x && locB C.sc x then (ixS C.N x).map .v else none
    | .Tuple ts _ _ => if ts.any isStar then none else (optAll (trT C n) ts).map .t
    | _ => none
mutual
def trE : Nat → Ct → Expr → Option E
  | 0, _, _ => none
  | n + 1, C, e => match e with
    | .Constant c _ _ => match c with
      | .none => some (.cst .non)
      | .bool b => some (.cst (.bl b))
      | .int i => some (.cst (.int i))
      | .str s => some (.cst (.str s))
      | _ => none
    | .Name x _ => if okName x then (if visB C.sc x then (ixS C.N x).map .var else if gloB C.sc x then (glob g x).map .cst else none) else none
    | .BinOp a op b _ => (opB op).bind fun o => (trE n C a).bind fun a' => (trE n C b).bind fun b' => some (.bin o a' b')
    | .UnaryOp op a _ => match op with
      | .Not => if isIfE a then none else (trE n C a).bind fun a' => some (.not a')
      | .USub => (trE n C a).bind fun a' => some (.neg a')
      | _ => none
    | .BoolOp op vs _ => trB n C op vs
    | .IfExp c a b _ => if isIfE c then none else (trE n C c).bind fun c' => (trE n C a).bind fun a' => (trE n C b).bind fun b' => some (.ife c' a' b')
    | .Compare a ops bs _ => match ops, bs with
      | [op], [b] => if isSet b then none else (opC op).bind fun o => (trE n C a).bind fun a' => (trE n C b).bind fun b' => some (.cmp o a' b')
      | [op, op2], [b, c] => if isSet c then none else (opC op).bind fun o => (opC op2).bind fun o2 => (trE n C a).bind fun a' => (trE n C b).bind fun b' => (trE n C c).bind fun c' => some (.chn o o2 a' b' c')
      | _, _ => none
    | .Tuple es _ _ => (trA n C es).bind fun es' => some (.tup es')
    | .List es _ => (trA n C es).bind fun es' => some (.lst es')
    | .Subscript a i _ => match i with
      | .Slice lo hi none _ => (trE n C a).bind fun a' => (trO n C lo).bind fun lo' => (trO n C hi).bind fun hi' => some (.sl a' lo' hi')
      | i => if isSlice i then none else (trE n C a).bind fun a' => (trE n C i).bind fun i' => some (.ix a' i')
    | .Attribute o f _ => if superCall o then none else (trE n C o).bind fun o' => (ixS g.nms f).bind fun f' => some (.att o' f')
    | .Call fe es kws pos => match fe with
      | .Name x _ => if okName x && gloB C.sc x then (match g.fns.lookup x with
          | some f => if g.shv.contains f && kws.isEmpty then (trEs n C es).bind fun es' => some (.call f es' []) else if kwAll kws then (g.sh.lookup (f, es.length, kwNames kws)).bind fun bd => (trEs n C es).bind fun es' => (trK n C kws).bind fun ks' => some (.call f (es' ++ ks') bd) else none
          | none => match g.clss.lookup x with
            | some c => if kwAll kws then (g.shc.lookup (c, es.length, kwNames kws)).bind fun bd => (trEs n C es).bind fun es' => (trK n C kws).bind fun ks' => some (.mk c (es' ++ ks') bd) else none
            | none => if g.free.contains x && (x = "max" && isDefault kws) then (match es, kws with
                | [a], [⟨_, bb, _⟩] => if isStar a then none else (trE n C a).bind fun a' => (trE n C bb).bind fun b' => some (.maxd a' b')
                | _, _ => none)
              else if g.free.contains x && kws.isEmpty then (bfName x).bind fun b => (trEs n C es).bind fun es' => some (.blt b es') else none)
        else none
      | .Attribute o m apos => if kws.isEmpty && (apos.endLine == pos.line && (!superCall o && decide (es.length < 20))) then (trE n C o).bind fun o' => (ixS g.nms m).bind fun m' => (trEs n C es).bind fun es' => some (.met o' m' es') else none
      | _ => none
    | .ListComp elt gens scope _ => match gens with
      | [⟨tg, iter, ifs, 0⟩] => if blkC C.N C.sc scope (ownOf C.N scope) && !isSet iter then
          (trI n C tg iter).bind fun it => (trT (blkCt C scope) n tg).bind fun tg' => (match ifs with
            | [] => some []
            | [c] => if isIfE c then none else (trE n (blkCt C scope) c).map fun x => [x]
            | _ => none : Option (List E)).bind fun ifs' => (trE n (blkCt C scope) elt).bind fun e' => some (.lc ((ownOf C.N scope).map (·.2)) tg' it ifs' e')
        else none
      | [⟨tg, iter, [], 0⟩, ⟨tg1, iter1, ifs1, 0⟩] => if blkC C.N C.sc scope (ownOf C.N scope) && (!isSet iter && !isSet iter1) then
          (trI n C tg iter).bind fun it => (trT (blkCt C scope) n tg).bind fun tg' => (trI n (blkCt C scope) tg1 iter1).bind fun it1 => (trT (blkCt C scope) n tg1).bind fun tg1' => (match ifs1 with
            | [] => some []
            | [c] => if isIfE c then none else (trE n (blkCt C scope) c).map fun x => [x]
            | _ => none : Option (List E)).bind fun ifs' => (trE n (blkCt C scope) elt).bind fun e' =>
              if tgInB ((ownOf C.N scope).map (·.2)) tg1' then some (.lc2 ((ownOf C.N scope).map (·.2)) tg' it [] (tgIxs tg1') tg1' it1 ifs' e') else none
        else none
      | _ => none
    | _ => none
def trO : Nat → Ct → Option Expr → Option E
  | 0, _, _ => none
  | n + 1, C, e => match e with
    | none => some (.cst .non)
    | some e => trE n C e
def trB : Nat → Ct → BoolOp → List Expr → Option E
  | 0, _, _, _ => none
  | n + 1, C, op, es => match es with
    | [] => none
    | [a] => if isIfE a then none else trE n C a
    | a :: r => if isIfE a then none else (trE n C a).bind fun a' => (trB n C op r).bind fun r' => match op with
      | .And => some (.and a' r')
      | .Or => some (.or a' r')
def trEs : Nat → Ct → List Expr → Option (List E)
  | 0, _, _ => none
  | n + 1, C, es => match es with
    | [] => some []
    | e :: r => if isStar e then none else (trE n C e).bind fun e' => (trEs n C r).bind fun r' => some (e' :: r')
def trK : Nat → Ct → List Keyword → Option (List E)
  | 0, _, _ => none
  | n + 1, C, es => match es with
    | [] => some []
    | e :: r => (trE n C e.value).bind fun e' => (trK n C r).bind fun r' => some (e' :: r')
def trA : Nat → Ct → List Expr → Option (List Ar)
  | 0, _, _ => none
  | n + 1, C, es => match es with
    | [] => some []
    | e :: r => match e with
      | .Starred x _ => (trE n C x).bind fun e' => (trA n C r).bind fun r' => some (.s e' :: r')
      | e => (trE n C e).bind fun e' => (trA n C r).bind fun r' => some (.e e' :: r')
def trI : Nat → Ct → Expr → Expr → Option It
  | 0, _, _, _ => none
  | n + 1, C, tg, e => match e with
    | .Call (.Name x _) es [] _ =>
      if okName x && gloB C.sc x && g.free.contains x then
        (if x = "range" then (if decide (es.length = 1) || decide (es.length = 2) then (trEs n C es).bind fun es' => some (.rng es') else none)
        else if x = "zip" then (match es, tg with
          | [a, b], .Tuple _ _ _ => if isStar a || isStar b then none else (trE n C a).bind fun a' => (trE n C b).bind fun b' => some (.zip a' b')
          | _, _ => none)
        else none)
      else (trE n C e).bind fun e' => some (.e e')
    | e => (trE n C e).bind fun e' => some (.e e')
end
/-- does name = comprehension store in another order -/
def swB (C : Ct) (e : Expr) (t : Str) (tp : Pos) : Bool := match e with
  | .ListComp _ _ scope pos => decide (C.sc.names.lookup t = some .local) && (tp.line == pos.line) && !(scope.names.any fun (n, k) => n == t && (k == .local || k == .cell))
  | _ => false
mutual
def trS : Nat → Ct → Stmt → Option S
  | 0, _, _ => none
  | n + 1, C, s => match s with
    | .Assign ts e pos => match ts with
      | [.Name x p] => (match e with
        | .ListComp _ gens _ _ => if decide (gens.length = 1) && (C.st.contains x && locB C.sc x) then (ixS C.N x).bind fun i => (trE g n C e).bind fun e' => some (.asg (.v i) e') else none
        | e => if isComp e then none else if C.st.contains x && locB C.sc x then (ixS C.N x).bind fun i => (trE g n C e).bind fun e' => some (.asg (.v i) e') else none)
      | [.Tuple ts k p] => (match e with
        | .Tuple es _ _ => (match ts, es with
          | [.Name x px, .Name y py], [a, b] => if isStar a || (isStar b || (decide (x = y) || (foldedForSure 8 a && foldedForSure 8 b || (constantsAlone 8 a && constantsAlone 8 b)))) then none else
            if decide (C.sc.names.lookup x = some .local) && (decide (C.sc.names.lookup y = some .local) && (py.line == px.line)) then
              (ixS C.N x).bind fun i => (ixS C.N y).bind fun j => (trE g n C a).bind fun a' => (trE g n C b).bind fun b' => some (.par [i, j] [a', b'])
            else none
          | _, _ => none)
        | e => if isComp e then none else match ts with
          | [.Name x _, .Starred (.Name y _) _] => if C.st.contains x && (locB C.sc x && (C.st.contains y && locB C.sc y)) then (ixS C.N x).bind fun i => (ixS C.N y).bind fun j => (trE g n C e).bind fun e' => some (.unp i j e') else none
          | _ => (trT C n (.Tuple ts k p)).bind fun t => (trE g n C e).bind fun e' => some (.asg t e'))
      | [.Subscript o i _] => if isComp e || isSlice i then none else (trE g n C e).bind fun e' => (trE g n C o).bind fun o' => (trE g n C i).bind fun i' => some (.sub o' i' e')
      | [.Attribute o f _] => if isComp e then none else (trE g n C e).bind fun e' => (trE g n C o).bind fun o' => (ixS g.nms f).bind fun f' => some (.att o' f' e')
      | _ => none
    | .Expr e _ => if isComp e then none else (trE g n C e).bind fun e' => some (.exp e')
    | .If c a b _ => if isIfE c then none else (trE g n C c).bind fun c' => (trSs n C a).bind fun a' => (trSs n C b).bind fun b' => some (.ife c' a' b')
    | .For tg it b els _ => match els with
      | [] => if isSet it then none else (trI g n C tg it).bind fun it' => (trT C n tg).bind fun tg' => (trSs n C b).bind fun b' => some (.for tg' it' b')
      | _ => none
    | .While c b els _ => match els with
      | [] => if isIfE c then none else (trE g n C c).bind fun c' => (trSs n C b).bind fun b' => some (.whl c' b')
      | _ => none
    | .Return e _ => match e with
      | some e => (trE g n C e).bind fun e' => some (.ret e')
      | none => some (.ret (.cst .non))
    | .Pass _ => some .pass
    | .Break _ => some .brk
    | .Continue _ => some .cnt
    | .AugAssign t op e _ => match t with
      | .Name x _ => if C.st.contains x && locB C.sc x then (opA op).bind fun o => (ixS C.N x).bind fun i => (trE g n C e).bind fun e' => some (.aug i o e') else none
      | _ => none
    | _ => none
def trSs : Nat → Ct → List Stmt → Option (List S)
  | 0, _, _ => none
  | n + 1, C, ss => match ss with
    | [] => some []
    | s :: r => (trSs n C r).bind fun r' => some ((trS n C s).getD .bad :: r')
end
end
end PM

set_option maxHeartbeats 4000000
/-! PmD: results, and what the operations on values do. -/
namespace PM
open PySem PySem.Spec PyProof.Rows L2

/-- an exception's class -/
def Rx (N : En) : W → Value → Prop
  | .cls c, v => v = .ref (N.ca c)
  | .ty n, v => v = .type n
  | _, _ => False
def Rd (ρ : List Addr) : Option Nat → Option Addr → Prop
  | none, d => d = none
  | some n, d => ∃ a, ρ[n]? = some a ∧ d = some a
/-- a result and what is wanted of it -/
def QG {α β : Type} (N : En) (rel : List Addr → Hp → α → β → Prop) (Q : β → Hp → Prop) (E : XK) (r : R α) (ρ : List Addr) (H : Hp) : Prop := match r with
  | .ok a G' => ∀ ρ' b H', Stp ρ H ρ' H' → Rg N ρ' G' H' → rel ρ' H' a b → Q b H'
  | .exc c dd G' => ∀ ρ' H' cls d, Stp ρ H ρ' H' → Rg N ρ' G' H' → Rx N c cls → Rd ρ' dd d → E cls d H'
  | .bad => False
abbrev QC (N : En) := QG (β := V) N (Rw N)
abbrev QL (N : En) := QG (β := List V) N (Rws N)
section
variable {α β γ δ : Type} {N : En} {rel : List Addr → Hp → α → β → Prop} {rel2 : List Addr → Hp → γ → δ → Prop} {Q Q' : β → Hp → Prop} {Q2 : δ → Hp → Prop} {E : XK} {r : R α} {ρ ρ' : List Addr} {H H' : Hp} {G : GH} {a : α} {b : β}
theorem QG.stp (h : QG N rel Q E r ρ H) (s : Stp ρ H ρ' H') : QG N rel Q E r ρ' H' := by
  cases r with
  | ok a G' => exact fun ρ2 b H2 s2 g2 x => h ρ2 b H2 (s.trans s2) g2 x
  | exc c dd G' => exact fun ρ2 H2 cls d s2 g2 x y => h ρ2 H2 cls d (s.trans s2) g2 x y
  | bad => exact h
theorem QG.mono (h : QG N rel Q E r ρ H) (k : ∀ b H, Q b H → Q' b H) : QG N rel Q' E r ρ H := by
  cases r with
  | ok a G' => exact fun ρ2 b H2 s2 g2 x => k _ _ (h ρ2 b H2 s2 g2 x)
  | exc c dd G' => exact h
  | bad => exact h
/-- what stands behind a first part -/
structure Pk (N : En) (rel : List Addr → Hp → α → β → Prop) (ρ : List Addr) (H : Hp) (r : R α) (P : α → GH → List Addr → Prop) (b : β) (H1 : Hp) : Prop where
  ex : ∃ ρ1 a G1, Stp ρ H ρ1 H1 ∧ Rg N ρ1 G1 H1 ∧ rel ρ1 H1 a b ∧ r = .ok a G1 ∧ P a G1 ρ1
theorem QG.bind {f : α → GH → R γ} (h : QG N rel2 Q2 E (r.bind f) ρ H) : QG N rel (fun b H1 => ∃ ρ1 a G1, Stp ρ H ρ1 H1 ∧ Rg N ρ1 G1 H1 ∧ rel ρ1 H1 a b ∧ QG N rel2 Q2 E (f a G1) ρ1 H1) E r ρ H := by
  cases r with
  | ok a G' => exact fun ρ2 b H2 s2 g2 x => ⟨ρ2, a, G', s2, g2, x, QG.stp h s2⟩
  | exc c dd G' => exact h
  | bad => exact h
theorem QG.done (h : QG N rel Q E (.ok a G) ρ H) (g : Rg N ρ G H) (x : rel ρ H a b) : Q b H := h ρ b H (Stp.refl ρ H) g x
theorem QG.ofO {o : Option α} (h : QG N rel Q E (ofO o G) ρ H) : ∃ a, o = some a ∧ QG N rel Q E (.ok a G) ρ H := by
  cases o with
  | none => exact h.elim
  | some a => exact ⟨a, rfl, h⟩
theorem QG.ofOG {o : Option (α × GH)} (h : QG N rel Q E (ofOG o) ρ H) : ∃ a G', o = some (a, G') ∧ QG N rel Q E (.ok a G') ρ H := by
  cases o with
  | none => exact h.elim
  | some p => exact ⟨p.1, p.2, rfl, h⟩
end
theorem szOk_le {n : Nat} (h : szOk n = true) : n ≤ sizeLine := of_decide_eq_true h

section
variable {N : En} {ρ : List Addr} {H : Hp} {G : GH}
/-- a new list -/
theorem new_lst {Q : VK} {E : XK} {ws : List W} {xs : List V} {a : Addr} (g : Rg N ρ G H) (h : QC N Q E (ofOG (newL G ws)) ρ H) (r : Rws N ρ H ws xs) (n : H a = none) : Q (.ref a) (upd H a (.lst xs)) := by
  obtain ⟨w, G', e, h⟩ := h.ofOG
  unfold newL at e
  split at e
  · cases e
    have s : Stp ρ H (ρ ++ [a]) (upd H a (.lst xs)) := Stp.push n
    refine h (ρ ++ [a]) _ _ s (g.push (o := .lst xs) n (show okHO (.lst xs) from True.intro) ⟨xs, upd_same, r.stp g s ws⟩) ⟨a, ?_, rfl⟩
    rw [← g.sz, List.getElem?_append_right (Nat.le_refl _)]
    simp
  · cases e
theorem newL_sz {ws : List W} {w : W} {G' : GH} (h : newL G ws = some (w, G')) : ws.length ≤ sizeLine := by
  unfold newL at h
  split at h
  · exact szOk_le (by assumption)
  · cases h
/-- a new tuple -/
theorem new_tup {Q : VK} {E : XK} {ws : List W} {xs : List V} {a : Addr} (g : Rg N ρ G H) (h : QC N Q E (.ok (.tup ws) G) ρ H) (r : Rws N ρ H ws xs) (n : H a = none) : Q (.ref a) (upd H a (.tup xs)) := by
  have s : Stp ρ H ρ (upd H a (.tup xs)) := Stp.laid n
  exact h ρ _ _ s (g.laid n) ⟨a, xs, rfl, .inl upd_same, r.stp g s ws⟩
/-- a list's items -/
theorem items_ok {w : W} {v : V} {ws : List W} (g : Rg N ρ G H) (r : Rw N ρ H w v) (e : items G w = some ws) : ∃ a xs, v = .ref a ∧ SqL N.K H a xs ∧ Rws N ρ H ws xs := by
  cases w with
  | rol us =>
    cases e
    obtain ⟨a, xs, h1, h2, h3⟩ := r
    exact ⟨a, xs, h1, h2.l, h3⟩
  | ref n =>
    have e2 : (match G.get n with
      | some (.lst ws) => some ws
      | _ => none) = some ws := e
    split at e2
    · rename_i us q2
      cases e2
      obtain ⟨a, h1, _, xs, h3, h4⟩ := g.ref r q2
      exact ⟨a, xs, h1, .inl (.inl h3), h4⟩
    · cases e2
  | _ => cases e
theorem lstOf_ok {w : W} {v : V} {ws : List W} (g : Rg N ρ G H) (r : Rw N ρ H w v) (e : lstOf G w = some ws) : ∃ a xs, v = .ref a ∧ H a = some (.lst xs) ∧ Rws N ρ H ws xs := by
  cases w with
  | ref n =>
    have e2 : (match G.get n with
      | some (.lst ws) => some ws
      | _ => none) = some ws := e
    split at e2
    · rename_i us q2
      cases e2
      obtain ⟨a, h1, _, xs, h3, h4⟩ := g.ref r q2
      exact ⟨a, xs, h1, h3, h4⟩
    · cases e2
  | _ => cases e
theorem seqOf_ok {w : W} {v : V} {ws : List W} (g : Rg N ρ G H) (r : Rw N ρ H w v) (e : seqOf G w = some ws) : ∃ a xs, v = .ref a ∧ (SqL N.K H a xs ∨ SqT N.K H a xs) ∧ Rws N ρ H ws xs := by
  unfold seqOf at e
  split at e
  · cases e
    obtain ⟨a, xs, h1, h2, h3⟩ := r
    exact ⟨a, xs, h1, .inr h2.t, h3⟩
  · obtain ⟨a, xs, h1, h2, h3⟩ := items_ok g r e
    exact ⟨a, xs, h1, .inl h2, h3⟩
theorem Rws.isEmpty {ws : List W} {xs : List V} (r : Rws N ρ H ws xs) : ws.isEmpty = xs.isEmpty := by
  have e := r.len
  cases ws <;> cases xs <;> first | rfl | (simp at e)
/-- truth -/
theorem tru_V {w : W} {v : V} {k : Bool} (g : Rg N ρ G H) (r : Rw N ρ H w v) (e : tru G w = some k) : TruV N.K v H k := by
  cases w with
  | non => rw [show v = .non from r]; cases e; rfl
  | bl b => rw [show v = .bl b from r]; cases e; rfl
  | int i => rw [show v = .int i from r]; cases e; rfl
  | str s =>
    rw [show v = .str s from r]
    have e2 : (if szOk s.length = true then some ((s.length : Int) != 0) else none) = some k := e
    split at e2
    · cases e2
      exact ⟨szOk_le (by assumption), rfl⟩
    · cases e2
  | tup ws =>
    obtain ⟨a, xs, h1, h2, h3⟩ := r
    rw [h1]
    cases e
    exact .inr (.inl ⟨xs, h2.t, by rw [h3.isEmpty]⟩)
  | rol ws =>
    obtain ⟨a, xs, h1, h2, h3⟩ := r
    rw [h1]
    cases e
    exact .inl ⟨xs, h2.l, by rw [h3.isEmpty]⟩
  | ref n =>
    have e2 : (match G.get n with
      | some (.lst ws) => some (!ws.isEmpty)
      | _ => none) = some k := e
    split at e2
    · rename_i us q2
      cases e2
      obtain ⟨a, h1, _, xs, h3, h4⟩ := g.ref r q2
      rw [h1]
      exact .inl ⟨xs, .inl (.inl h3), by rw [h4.isEmpty]⟩
    · cases e2
  | _ => cases e
/-- values as data -/
theorem dat_ok (g : Rg N ρ G H) : ∀ (n : Nat) (w : W) (v : V) (d : PyData), dat n G w = some d → Rw N ρ H w v → Dp N.K H v d
  | 0, _, _, _, e, _ => by cases e
  | n + 1, w, v, d, e, r => by
    have all : ∀ (ws : List W) (xs : List V) (ds : List PyData), optAll (dat n G) ws = some ds → Rws N ρ H ws xs → DpAll N.K H xs ds := by
      intro ws
      induction ws with
      | nil =>
        intro xs ds e1 r1
        cases e1
        rw [show xs = [] from r1]
        exact .nil
      | cons u us ih =>
        intro xs ds e1 r1
        obtain ⟨x, xs', h1, h2, h3⟩ := r1
        rw [h1]
        unfold optAll at e1
        split at e1
        · rename_i y ys q1 q2
          cases e1
          exact .cons (dat_ok g n u x y q1 h2) (ih xs' ys q2 h3)
        · cases e1
    cases w with
    | non => rw [show v = .non from r]; cases e; exact .non
    | bl b => rw [show v = .bl b from r]; cases e; exact .bl b
    | int i => rw [show v = .int i from r]; cases e; exact .int i
    | str s => rw [show v = .str s from r]; cases e; exact .str s
    | tup ws =>
      obtain ⟨a, xs, h1, h2, h3⟩ := r
      rw [h1]
      obtain ⟨ds, q1, q2⟩ := Option.map_eq_some_iff.mp (show (optAll (dat n G) ws).map PyData.tuple = some d from e)
      rw [← q2]
      exact .tup h2.t (all ws xs ds q1 h3)
    | rol ws =>
      obtain ⟨a, xs, h1, h2, h3⟩ := r
      rw [h1]
      obtain ⟨ds, q1, q2⟩ := Option.map_eq_some_iff.mp (show (optAll (dat n G) ws).map PyData.list = some d from e)
      rw [← q2]
      exact .lst h2.l (all ws xs ds q1 h3)
    | ref m =>
      have e2 : (match G.get m with
        | some (.lst ws) => (optAll (dat n G) ws).map PyData.list
        | _ => none) = some d := e
      split at e2
      · rename_i ws q0
        obtain ⟨ds, q1, q2⟩ := Option.map_eq_some_iff.mp e2
        obtain ⟨a, h1, _, xs, h3, h4⟩ := g.ref r q0
        rw [h1, ← q2]
        exact .lst (.inl (.inl h3)) (all ws xs ds q1 h4)
      · cases e2
    | _ => cases e
theorem flat_ok {w : W} {v : V} (r : Rw N ρ H w v) (f : flatW w = true) : flatV v = true := by
  cases w with
  | non => rw [show v = .non from r]; rfl
  | bl b => rw [show v = .bl b from r]; rfl
  | int i => rw [show v = .int i from r]; rfl
  | str s => rw [show v = .str s from r]; rfl
  | _ => cases f
theorem eqFl_ok {w u : W} {v x : V} (r : Rw N ρ H w v) (q : Rw N ρ H u x) (f : flatW w = true) (f2 : flatW u = true) : eqV v x = eqFl w u := by
  cases w with
  | non => rw [show v = .non from r]; cases u <;> first | (rw [show x = _ from q]; rfl) | cases f2
  | bl b => rw [show v = .bl b from r]; cases u <;> first | (rw [show x = _ from q]; rfl) | cases f2
  | int i => rw [show v = .int i from r]; cases u <;> first | (rw [show x = _ from q]; rfl) | cases f2
  | str s => rw [show v = .str s from r]; cases u <;> first | (rw [show x = _ from q]; rfl) | cases f2
  | _ => cases f
theorem flats_ok : ∀ {ws : List W} {xs : List V}, Rws N ρ H ws xs → ws.all flatW = true → xs.all flatV = true
  | [], _, h, _ => by
    have e : _ = [] := h
    rw [e]
    rfl
  | w :: ws, _, h, f => by
    obtain ⟨x, xs, h1, h2, h3⟩ := h
    rw [List.all_cons, Bool.and_eq_true] at f
    rw [h1, List.all_cons, flat_ok h2 f.1, flats_ok h3 f.2]
    rfl
theorem inFl_ok {w : W} {v : V} (r : Rw N ρ H w v) (f : flatW w = true) : ∀ {ws : List W} {xs : List V}, Rws N ρ H ws xs → ws.all flatW = true → inV v xs = inFl w ws
  | [], _, h, _ => by
    have e : _ = [] := h
    rw [e]
    rfl
  | u :: ws, _, h, f2 => by
    obtain ⟨x, xs, h1, h2, h3⟩ := h
    rw [List.all_cons, Bool.and_eq_true] at f2
    have ih := inFl_ok r f h3 f2.2
    rw [h1]
    unfold inV inFl at ih ⊢
    rw [List.any_cons, List.any_cons, eqFl_ok h2 r f2.1 f, ih]
theorem scal_ok {w u : W} {v x : V} (r : Rw N ρ H w v) (q : Rw N ρ H u x) (s : scalW w u = true) : scal v x = true ∧ decide (v = x) = eqScal w u := by
  cases w with
  | non => rw [show v = .non from r]; cases u <;> first | (rw [show x = _ from q]; exact ⟨rfl, by simp [eqScal]⟩) | cases s
  | bl b => rw [show v = .bl b from r]; cases u <;> first | (rw [show x = _ from q]; exact ⟨rfl, by simp [eqScal]⟩) | cases s
  | int i => rw [show v = .int i from r]; cases u <;> first | (rw [show x = _ from q]; exact ⟨rfl, by simp [eqScal]⟩) | cases s
  | str z => rw [show v = .str z from r]; cases u <;> first | (rw [show x = _ from q]; exact ⟨rfl, by simp [eqScal]⟩) | cases s
  | _ => cases s
end
end PM

set_option maxHeartbeats 4000000
/-! PmE: the operators, by values. -/
namespace PM
open PySem PySem.Spec PyProof.Rows L2

def unB : BO → Operator
  | .add => .Add | .sub => .Sub | .mul => .Mult | .div => .FloorDiv | .mod => .Mod | .pow => .Pow
def unC : CO → CmpOp
  | .eq => .Eq | .ne => .NotEq | .lt => .Lt | .le => .LtE | .gt => .Gt | .ge => .GtE | .isin => .In | .notin => .NotIn | .is => .Is | .isnot => .IsNot
theorem opB_un {op : Operator} {o : BO} (h : opB op = some o) : op = unB o := by
  cases op <;> cases h <;> rfl
theorem opC_un {op : CmpOp} {o : CO} (h : opC op = some o) : op = unC o := by
  cases op <;> cases h <;> rfl

/-- two values and what is wanted of an operation on them -/
def r2W (N : En) (f : W → W → GH → R W) : R2 := fun x y H Q => ∃ ρ G wx wy E, Rg N ρ G H ∧ Rw N ρ H wx x ∧ Rw N ρ H wy y ∧ QC N Q E (f wx wy G) ρ H
section
variable {X : Cx} {N : En}
theorem op_bin (hK : N.K = X.K) (o : BO) : OpR X (binaryOp (unB o)) (r2W N fun x y G => ofOG (binop o x y G)) := by
  intro pins s σ H x y v u Q I rx ry h
  obtain ⟨ρ, G, wx, wy, E, g, qx, qy, h0⟩ := h
  obtain ⟨w, G', e, h⟩ := h0.ofOG
  cases o with
  | add =>
    cases wx with
    | int i =>
      cases wy with
      | int j =>
        cases e
        exact op_add pins s σ H x y v u Q I rx ry ⟨i, j, qx, qy, h.done g rfl⟩
      | _ => cases e
    | str a =>
      cases wy with
      | str b =>
        have e2 : (if szOk (a.length + b.length) = true then some (W.str (a ++ b), G) else none) = some (w, G') := e
        split at e2
        · rename_i z
          cases e2
          exact op_add_str pins s σ H x y v u Q I rx ry ⟨a, b, qx, qy, szOk_le z, h.done g rfl⟩
        · cases e2
      | _ => cases e
    | tup ws =>
      cases wy with
      | tup us =>
        have e2 : (if (!ws.isEmpty && szOk (ws.length + us.length)) = true then some (W.tup (ws ++ us), G) else none) = some (w, G') := e
        split at e2
        · rename_i z
          cases e2
          obtain ⟨a, xs, rfl, h1, h2⟩ := qx
          obtain ⟨b, ys, rfl, h3, h4⟩ := qy
          rw [Bool.and_eq_true] at z
          have hz : xs.length + ys.length ≤ sizeLine := by rw [← h2.len, ← h4.len]; exact szOk_le z.2
          rw [hK] at h1 h3
          refine op_catA pins s σ H _ _ v u Q I rx ry ⟨a, b, xs, ys, rfl, rfl, h1.t, h3.t, hz, fun z1 => ?_, fun _ z1 => ?_, fun _ _ p hp => ?_⟩
          · have e3 : ws = [] := by
              cases ws with
              | nil => rfl
              | cons _ _ => obtain ⟨_, _, e4, _⟩ := h2; rw [e4] at z1; cases z1
            rw [e3] at h
            exact h.done g ⟨b, ys, rfl, by rw [hK]; exact h3, h4⟩
          · have e3 : us = [] := by
              cases us with
              | nil => rfl
              | cons _ _ => obtain ⟨_, _, e4, _⟩ := h4; rw [e4] at z1; cases z1
            rw [e3, List.append_nil] at h
            exact h.done g ⟨a, xs, rfl, by rw [hK]; exact h1, h2⟩
          · exact new_tup g h (h2.append h4) hp
        · cases e2
      | _ => cases e
    | ref n =>
      cases wy with
      | ref m =>
        have e2 : (match lstOf G (.ref n), lstOf G (.ref m) with
          | some xs, some ys => newL G (xs ++ ys)
          | _, _ => none) = some (w, G') := e
        split at e2
        · rename_i ws us z1 z2
          obtain ⟨a, xs, rfl, h1, h2⟩ := lstOf_ok g qx z1
          obtain ⟨b, ys, rfl, h3, h4⟩ := lstOf_ok g qy z2
          have hz : xs.length + ys.length ≤ sizeLine := by
            have := newL_sz e2
            rw [List.length_append, h2.len, h4.len] at this
            exact this
          refine op_cat pins s σ H _ _ v u Q I rx ry ⟨a, b, xs, ys, rfl, rfl, h1, h3, hz, fun p hp => ?_⟩
          refine new_lst (E := E) (ws := ws ++ us) g ?_ (h2.append h4) hp
          rw [e2]
          exact h
        · cases e2
      | _ => cases e
    | _ => cases e
  | sub =>
    cases wx with
    | int i =>
      cases wy with
      | int j =>
        cases e
        exact op_sub pins s σ H x y v u Q I rx ry ⟨i, j, qx, qy, h.done g rfl⟩
      | _ => cases e
    | _ => cases e
  | mul =>
    cases wx with
    | int i =>
      cases wy with
      | int j =>
        have e2 : (if (decide (i.natAbs < 18446744073709551616) || decide (j.natAbs < 18446744073709551616)) = true then some (W.int (i * j), G) else none) = some (w, G') := e
        split at e2
        · rename_i z
          cases e2
          have z : (-(2 ^ 64) < i ∧ i < 2 ^ 64) ∨ (-(2 ^ 64) < j ∧ j < 2 ^ 64) := by
            rcases Bool.or_eq_true .. ▸ z with z | z
            · have := of_decide_eq_true z
              exact .inl (by omega)
            · have := of_decide_eq_true z
              exact .inr (by omega)
          exact op_mul pins s σ H x y v u Q I rx ry ⟨i, j, qx, qy, z, h.done g rfl⟩
        · cases e2
      | _ => cases e
    | _ => cases e
  | div =>
    cases wx with
    | int i =>
      cases wy with
      | int j =>
        have e2 : (if (decide (j ≠ 0) && decide (j.natAbs < 1073741824)) = true then some (W.int (i.fdiv j), G) else none) = some (w, G') := e
        split at e2
        · rename_i z
          cases e2
          simp only [Bool.and_eq_true, decide_eq_true_eq] at z
          exact op_fdivN pins s σ H x y v u Q I rx ry ⟨i, j, qx, qy, z, h.done g rfl⟩
        · cases e2
      | _ => cases e
    | _ => cases e
  | mod =>
    cases wx with
    | int i =>
      cases wy with
      | int j =>
        have e2 : (if j ≠ 0 then some (W.int (i.fmod j), G) else none) = some (w, G') := e
        split at e2
        · rename_i z
          cases e2
          exact op_modN pins s σ H x y v u Q I rx ry ⟨i, j, qx, qy, z, h.done g rfl⟩
        · cases e2
      | _ => cases e
    | _ => cases e
  | pow =>
    cases wx with
    | int i =>
      cases wy with
      | int j =>
        have e2 : (if (decide (0 ≤ j) && (decide (j ≤ 1000000) && decide (i.natAbs < 2 ^ 64))) = true then some (W.int (i ^ j.toNat), G) else none) = some (w, G') := e
        split at e2
        · rename_i z
          cases e2
          simp only [Bool.and_eq_true, decide_eq_true_eq] at z
          exact op_pow pins s σ H x y v u Q I rx ry ⟨i, j, qx, qy, z, h.done g rfl⟩
        · cases e2
      | _ => cases e
    | _ => cases e

theorem eqW_op (hK : N.K = X.K) (hu : X.A.units + 64 < cLine) {pins : List (Addr × Obj)} {s : Shared} {σ : L2.St} {H : Hp} {x y : V} {v u : Value} {Q : VK} {ρ : List Addr} {G : GH} {wx wy : W} {b : Bool} (I : Inv X pins σ H s) (rx : RelV x v) (ry : RelV y u)
    (g : Rg N ρ G H) (qx : Rw N ρ H wx x) (qy : Rw N ρ H wy y) (e : eqW G wx wy = some b) :
    (Q (.bl b) H → wpAny (model X.prog X.w) X.A (compareOp .Eq v u) (EP X pins σ Q) X.xe s) ∧ (Q (.bl (!b)) H → wpAny (model X.prog X.w) X.A (compareOp .NotEq v u) (EP X pins σ Q) X.xe s) := by
  unfold eqW at e
  split at e
  · rename_i z
    cases e
    obtain ⟨h1, h2⟩ := scal_ok qx qy z
    exact ⟨fun h => op_eq pins s σ H x y v u Q I rx ry ⟨h1, by rw [h2]; exact h⟩, fun h => op_ne pins s σ H x y v u Q I rx ry ⟨h1, by rw [h2]; exact h⟩⟩
  · unfold eqD at e
    split at e
    · rename_i d d2 q1 q2
      split at e
      · rename_i z
        rw [Bool.and_eq_true] at z
        cases e
        have h1 := dat_ok g 60 wx x d q1 qx
        have h2 := dat_ok g 60 wy y d2 q2 qy
        rw [hK] at h1 h2
        exact ⟨fun h => op_eqD hu pins s σ H x y v u Q I rx ry ⟨d, d2, h1, h2, z.1, z.2, h⟩, fun h => op_neD hu pins s σ H x y v u Q I rx ry ⟨d, d2, h1, h2, z.1, z.2, h⟩⟩
      · cases e
    · cases e
theorem roomU {k : Nat} {A : Around} (r : Room k A) : A.units + 65 < cLine := by have := r.un; omega
theorem inW_op (hK : N.K = X.K) (hu : X.A.units + 65 < cLine) {pins : List (Addr × Obj)} {s : Shared} {σ : L2.St} {H : Hp} {x y : V} {v u : Value} {Q : VK} {ρ : List Addr} {G : GH} {wx wy : W} {b : Bool} (I : Inv X pins σ H s) (rx : RelV x v) (ry : RelV y u)
    (g : Rg N ρ G H) (qx : Rw N ρ H wx x) (qy : Rw N ρ H wy y) (e : inW G wx wy = some b) :
    (Q (.bl b) H → wpAny (model X.prog X.w) X.A (compareOp .In v u) (EP X pins σ Q) X.xe s) ∧ (Q (.bl (!b)) H → wpAny (model X.prog X.w) X.A (compareOp .NotIn v u) (EP X pins σ Q) X.xe s) := by
  unfold inW at e
  split at e
  · rename_i a c
    cases e
    exact ⟨fun h => op_in_str pins s σ H x y v u Q I rx ry ⟨a, c, qx, qy, h⟩, fun h => op_notin_str pins s σ H x y v u Q I rx ry ⟨a, c, qx, qy, h⟩⟩
  · split at e
    · rename_i ws q
      split at e
      · rename_i z
        rw [Bool.and_eq_true] at z
        cases e
        obtain ⟨p, xs, rfl, h1, h2⟩ := seqOf_ok g qy q
        rw [hK] at h1
        have f1 := flat_ok qx z.1
        have f2 := flats_ok h2 z.2
        have f3 := inFl_ok qx z.1 h2 z.2
        refine ⟨fun h => op_in_seq pins s σ H x _ v u Q I rx ry ⟨p, xs, rfl, h1, f1, f2, ?_⟩, fun h => op_notIn_seq pins s σ H x _ v u Q I rx ry ⟨p, xs, rfl, h1, f1, f2, ?_⟩⟩
        · rw [f3]; exact h
        · rw [f3]; exact h
      · unfold inD at e
        split at e
        · rename_i d ds q1 q2
          split at e
          · rename_i z
            rw [Bool.and_eq_true] at z
            cases e
            have h1 := dat_ok g 60 wx x d q1 qx
            have h2 := dat_ok g 60 wy y _ q2 qy
            rw [hK] at h1 h2
            exact ⟨fun h => op_inD hu pins s σ H x y v u Q I rx ry ⟨d, ds, h1, h2, z.1, z.2, h⟩, fun h => op_notInD hu pins s σ H x y v u Q I rx ry ⟨d, ds, h1, h2, z.1, z.2, h⟩⟩
          · cases e
        · cases e
    · cases e
theorem isN_op {w : W} {v : V} {ρ : List Addr} {H : Hp} (r : Rw N ρ H w v) : decide (v = .non) = isNon w := by
  cases w with
  | non => rw [show v = .non from r]; rfl
  | bl b => rw [show v = .bl b from r]; rfl
  | int i => rw [show v = .int i from r]; rfl
  | str s => rw [show v = .str s from r]; rfl
  | ty n => rw [show v = .ty n from r]; rfl
  | fn f => rw [show v = .ref _ from r]; rfl
  | cls f => rw [show v = .ref _ from r]; rfl
  | ref n => obtain ⟨a, _, h⟩ := r; rw [h]; rfl
  | tup ws => obtain ⟨a, _, h, _⟩ := r; rw [h]; rfl
  | rol ws => obtain ⟨a, _, h, _⟩ := r; rw [h]; rfl
theorem op_cmp (hK : N.K = X.K) (hu : X.A.units + 65 < cLine) (o : CO) : OpR X (compareOp (unC o)) (r2W N fun x y G => ofO ((cmpop o x y G).map .bl) G) := by
  intro pins s σ H x y v u Q I rx ry h
  obtain ⟨ρ, G, wx, wy, E, g, qx, qy, h0⟩ := h
  obtain ⟨w, e, h⟩ := h0.ofO
  obtain ⟨b, e1, ew⟩ := Option.map_eq_some_iff.mp e
  rw [← ew] at h
  clear ew
  have hq : Q (.bl b) H := h.done g rfl
  cases o with
  | eq => exact (eqW_op hK (by omega) I rx ry g qx qy e1).1 hq
  | ne =>
    obtain ⟨c, e2, e3⟩ := Option.map_eq_some_iff.mp (show (eqW G wx wy).map (!·) = some b from e1)
    rw [← e3] at hq
    exact (eqW_op hK (by omega) I rx ry g qx qy e2).2 hq
  | isin => exact (inW_op hK hu I rx ry g qx qy e1).1 hq
  | notin =>
    obtain ⟨c, e2, e3⟩ := Option.map_eq_some_iff.mp (show (inW G wx wy).map (!·) = some b from e1)
    rw [← e3] at hq
    exact (inW_op hK hu I rx ry g qx qy e2).2 hq
  | lt =>
    cases wx with
    | int i =>
      cases wy with
      | int j => cases e1; exact op_lt pins s σ H x y v u Q I rx ry ⟨i, j, qx, qy, hq⟩
      | _ => cases e1
    | str i =>
      cases wy with
      | str j => cases e1; exact op_lt_str pins s σ H x y v u Q I rx ry ⟨i, j, qx, qy, hq⟩
      | _ => cases e1
    | _ => cases e1
  | le =>
    cases wx with
    | int i =>
      cases wy with
      | int j => cases e1; exact op_le pins s σ H x y v u Q I rx ry ⟨i, j, qx, qy, hq⟩
      | _ => cases e1
    | _ => cases e1
  | gt =>
    cases wx with
    | int i =>
      cases wy with
      | int j => cases e1; exact op_gt pins s σ H x y v u Q I rx ry ⟨i, j, qx, qy, hq⟩
      | _ => cases e1
    | _ => cases e1
  | ge =>
    cases wx with
    | int i =>
      cases wy with
      | int j => cases e1; exact op_ge pins s σ H x y v u Q I rx ry ⟨i, j, qx, qy, hq⟩
      | _ => cases e1
    | _ => cases e1
  | is =>
    cases wy with
    | non =>
      cases e1
      refine op_isN pins s σ H x y v u Q I rx ry ⟨qy, ?_⟩
      rw [isN_op qx]
      exact hq
    | _ => cases e1
  | isnot =>
    cases wy with
    | non =>
      cases e1
      refine op_notN pins s σ H x y v u Q I rx ry ⟨qy, ?_⟩
      rw [isN_op qx]
      exact hq
    | _ => cases e1
theorem op_neg : UnR X (unaryOp .USub) (fun x H Q => ∃ ρ G w E, Rg N ρ G H ∧ Rw N ρ H w x ∧ QC N Q E (match w with | .int i => .ok (.int (-i)) G | _ => .bad) ρ H) := by
  intro pins s σ H x v Q I rx h
  obtain ⟨ρ, G, w, E, g, qx, h⟩ := h
  cases w with
  | int i => exact un_neg pins s σ H x v Q I rx ⟨i, qx, h.done g rfl⟩
  | _ => exact h.elim
/-- subscripts -/
theorem op_ix (hK : N.K = X.K) : IxR X (r2W N fun x y G => ofO (ixop G x y) G) := by
  intro value slice pins s σ H x y v u Q I rx ry h hs
  obtain ⟨ρ, G, wx, wy, E, g, qx, qy, h0⟩ := h
  obtain ⟨w, e, h⟩ := h0.ofO
  refine ix_seq value slice pins s σ H x y v u Q I rx ry ?_ hs
  cases wy with
  | int i =>
    cases wx with
    | str z =>
      have e2 : (if szOk z.length = true then (atI z.cps.toList i).map fun c => W.str ⟨#[c]⟩ else none) = some w := e
      split at e2
      · rename_i hz
        obtain ⟨c, e3, e4⟩ := Option.map_eq_some_iff.mp e2
        rw [← e4] at h
        exact .inr (.inr ⟨z, i, c, qx, qy, szOk_le hz, e3, h.done g rfl⟩)
      · cases e2
    | tup ws =>
      obtain ⟨a, xs, h1, h2, h3⟩ := qx
      obtain ⟨z, e3, e4⟩ := h3.at_ (show atI ws i = some w from e)
      rw [hK] at h2
      exact .inr (.inl ⟨a, xs, i, z, h1, qy, h2.t, e3, h.done g e4⟩)
    | rol ws =>
      obtain ⟨a, xs, h1, h2, h3⟩ := qx
      obtain ⟨z, e3, e4⟩ := h3.at_ (show atI ws i = some w from e)
      rw [hK] at h2
      exact .inl ⟨a, xs, i, z, h1, qy, h2.l, e3, h.done g e4⟩
    | ref n =>
      have e2 : (match seqOf G (.ref n) with
        | some ws => atI ws i
        | none => none) = some w := e
      split at e2
      · rename_i ws q
        obtain ⟨a, xs, h1, h2, h3⟩ := items_ok g qx q
        obtain ⟨z, e3, e4⟩ := h3.at_ e2
        rw [hK] at h2
        exact .inl ⟨a, xs, i, z, h1, qy, h2, e3, h.done g e4⟩
      · cases e2
    | _ => cases e
  | _ => cases wx <;> cases e
/-- slices -/
def r3W (N : En) : V → Option Int → Option Int → Hp → VK → Prop := fun x lo hi H Q => ∃ ρ G w E, Rg N ρ G H ∧ Rw N ρ H w x ∧ QC N Q E (ofOG (slop G w lo hi)) ρ H
theorem op_sl (hK : N.K = X.K) : SlR X (r3W N) := by
  intro pins s σ H x v vl vu lo hi sl Q I rx hs pl pu h
  obtain ⟨ρ, G, w, E, g, qx, h0⟩ := h
  obtain ⟨z, G', e, h⟩ := h0.ofOG
  cases w with
  | tup ws =>
    cases e
    obtain ⟨a, xs, rfl, h2, h3⟩ := qx
    rw [hK] at h2
    refine sl_tupA pins s σ H _ v vl vu lo hi sl Q I rx hs pl pu ⟨a, xs, rfl, h2.t, fun z => ?_, fun _ p hp => new_tup g h (h3.cut lo hi) hp⟩
    have e2 : cutW ws lo hi = ws := by
      unfold cutW
      rw [h3.len, z.1, z.2, List.drop_zero, Nat.sub_zero, ← h3.len, List.take_length]
    rw [e2] at h
    exact h.done g ⟨a, xs, rfl, by rw [hK]; exact h2, h3⟩
  | str y =>
    have e2 : (if szOk y.length = true then some (W.str (cutS y lo hi), G) else none) = some (z, G') := e
    split at e2
    · rename_i hz
      cases e2
      exact sl_str pins s σ H x v vl vu lo hi sl Q I rx hs pl pu ⟨y, qx, szOk_le hz, h.done g rfl⟩
    · cases e2
  | rol ws =>
    have e2 : newL G (cutW ws lo hi) = some (z, G') := e
    obtain ⟨a, xs, h1, h2, h3⟩ := qx
    rw [hK] at h2
    refine sl_list pins s σ H x v vl vu lo hi sl Q I rx hs pl pu ⟨a, xs, h1, h2.l, fun p hp => new_lst (E := E) (ws := cutW ws lo hi) g ?_ (h3.cut lo hi) hp⟩
    rw [e2]
    exact h
  | ref n =>
    have e2 : (match items G (.ref n) with
      | some ws => newL G (cutW ws lo hi)
      | none => none) = some (z, G') := e
    split at e2
    · rename_i ws q
      obtain ⟨a, xs, h1, h2, h3⟩ := items_ok g qx q
      rw [hK] at h2
      refine sl_list pins s σ H x v vl vu lo hi sl Q I rx hs pl pu ⟨a, xs, h1, h2, fun p hp => new_lst (E := E) (ws := cutW ws lo hi) g ?_ (h3.cut lo hi) hp⟩
      rw [e2]
      exact h
    · cases e2
  | _ => cases e
end
end PM

set_option maxHeartbeats 4000000
/-! PmF: built-in functions, methods, what is walked. -/
namespace PM
open PySem PySem.Spec PyProof.Rows L2

def tyV' (N : En) : Ty → Value
  | .b n => .type n
  | .c i => .ref (N.ca i)
/-- what is asked of the text's isinstance table -/
structure IsiOk (N : En) (T : Tb) : Prop where
  one : ∀ t u b, T.isi.lookup (t, u) = some b → PySem.W.kitOne N.K (tyV' N t) (tyV' N u) = some b
  cl : ∀ c u b, T.isi.lookup (.c c, u) = some b → Cls N.K (N.ca c) ∧ PySem.W.findIn N.K (.ref (N.ca c)) "__class__" = some (some (.builtin "object.__class__")) ∧
    PySem.W.specialIn N.K (.builtin "object.__class__") "__get__" = some (some (.builtin "getset_descriptor.__get__")) ∧ PySem.W.takesIn N.K (.builtin "object.__class__") = some true ∧ PySem.W.mroIn N.K (N.ca c) (.type "object") = some true
def bfV : Bf → Value
  | .len => .builtin "len" | .int => .type "int" | .list => .type "list" | .tuple => .type "tuple" | .isinst => .builtin "isinstance" | .all => .builtin "all"
  | .any => .builtin "any" | .max => .builtin "max" | .str => .type "str" | .bool => .type "bool"
section
variable {X : Cx} {N : En} {T : Tb} {ρ : List Addr} {H : Hp} {G : GH}
theorem Rws.inv1 {w : W} {vs : List V} (r : Rws N ρ H [w] vs) : ∃ v, vs = [v] ∧ Rw N ρ H w v := by
  obtain ⟨v, xs, h1, h2, h3⟩ := r
  rw [show xs = [] from h3] at h1
  exact ⟨v, h1, h2⟩
theorem Rws.inv2 {w u : W} {vs : List V} (r : Rws N ρ H [w, u] vs) : ∃ v x, vs = [v, x] ∧ Rw N ρ H w v ∧ Rw N ρ H u x := by
  obtain ⟨v, xs, h1, h2, h3⟩ := r
  obtain ⟨x, h4, h5⟩ := h3.inv1
  rw [h4] at h1
  exact ⟨v, x, h1, h2, h5⟩
theorem bools_ok : ∀ {ws : List W} {xs : List V} {bs : List Bool}, Rws N ρ H ws xs → bools ws = some bs → xs = bs.map V.bl
  | [], xs, bs, r, e => by
    cases e
    rw [show xs = [] from r]
    rfl
  | w :: ws, xs, bs, r, e => by
    obtain ⟨x, xs', h1, h2, h3⟩ := r
    cases w with
    | bl b =>
      obtain ⟨cs, e1, e2⟩ := Option.map_eq_some_iff.mp (show (bools ws).map (b :: ·) = some bs from e)
      rw [h1, ← e2, bools_ok h3 e1, show x = .bl b from h2]
      rfl
    | _ => cases e
theorem intsW_ok : ∀ {ws : List W} {xs : List V} {ns : List Int}, Rws N ρ H ws xs → intsW ws = some ns → xs = ns.map V.int
  | [], _, _, h, e => by
    cases e
    exact h
  | w :: ws, _, _, h, e => by
    obtain ⟨x, xs, rfl, h2, h3⟩ := h
    cases w with
    | int i =>
      obtain ⟨b2, e1, e2⟩ := Option.map_eq_some_iff.mp (show (intsW ws).map (i :: ·) = _ from e)
      rw [intsW_ok h3 e1, ← e2, show x = .int i from h2]
      rfl
    | _ => cases e
theorem maxI_of : ∀ {ns : List Int} {m : Int}, m ∈ ns → (∀ y ∈ ns, y ≤ m) → maxI ns = some m
  | [], _, h, _ => nomatch h
  | i :: r, m, h, hm => by
    show some (r.foldl max i) = some m
    congr 1
    have key : ∀ (r : List Int) (a : Int), (r.foldl max a = a ∨ r.foldl max a ∈ r) ∧ a ≤ r.foldl max a ∧ ∀ y ∈ r, y ≤ r.foldl max a := by
      intro r
      induction r with
      | nil => intro a; exact ⟨.inl rfl, Int.le_refl _, fun _ h => nomatch h⟩
      | cons b r ih =>
        intro a
        obtain ⟨h1, h2, h3⟩ := ih (max a b)
        refine ⟨?_, ?_, ?_⟩
        · show r.foldl max (max a b) = a ∨ r.foldl max (max a b) ∈ b :: r
          rcases h1 with h1 | h1
          · rw [h1]
            rcases Int.le_total a b with c | c
            · rw [Int.max_eq_right c]
              exact .inr List.mem_cons_self
            · rw [Int.max_eq_left c]
              exact .inl rfl
          · exact .inr (List.mem_cons_of_mem _ h1)
        · show a ≤ r.foldl max (max a b)
          omega
        · intro y hy
          show y ≤ r.foldl max (max a b)
          rcases List.mem_cons.mp hy with e | e
          · rw [e]; omega
          · exact h3 y e
    obtain ⟨h1, h2, h3⟩ := key r i
    have le1 : m ≤ r.foldl max i := by
      rcases List.mem_cons.mp h with e | e
      · rw [e]; exact h2
      · exact h3 m e
    have le2 : r.foldl max i ≤ m := by
      rcases h1 with e | e
      · rw [e]; exact hm i List.mem_cons_self
      · exact hm _ (List.mem_cons_of_mem _ e)
    omega
theorem allStr_ok : ∀ {ws : List W} {xs : List V} {bs : List Str}, Rws N ρ H ws xs → allStr ws = some bs → xs = bs.map V.str
  | [], xs, bs, r, e => by
    cases e
    rw [show xs = [] from r]
    rfl
  | w :: ws, xs, bs, r, e => by
    obtain ⟨x, xs', h1, h2, h3⟩ := r
    cases w with
    | str b =>
      obtain ⟨cs, e1, e2⟩ := Option.map_eq_some_iff.mp (show (allStr ws).map (b :: ·) = some bs from e)
      rw [h1, ← e2, allStr_ok h3 e1, show x = .str b from h2]
      rfl
    | _ => cases e
theorem sqL_len {K : PySem.W.Frag} {H : Hp} {P : Program} {w : World} {h : Heap} {a : Addr} {xs : List V} (ok : HOk P w H h) (s : SqL K H a xs) : xs.length ≤ sizeLine := by
  rcases s with (s | ⟨o, s⟩) | ⟨o, its, n, h1, h2, h3, h4, h5, h6⟩
  · exact (ok a _ s).1
  · exact (ok a _ s).2.1
  · rw [h6.length, Array.length_toList]
    exact h5
theorem sqT_len {K : PySem.W.Frag} {H : Hp} {P : Program} {w : World} {h : Heap} {a : Addr} {xs : List V} (ok : HOk P w H h) (s : SqT K H a xs) : xs.length ≤ sizeLine := by
  rcases s with (s | ⟨o, s⟩) | ⟨o, its, n, h1, h2, h4, h5, h6⟩
  · exact (ok a _ s).1
  · exact (ok a _ s).2.1
  · rw [h6.length, Array.length_toList]
    exact h5
/-- a value's type -/
theorem tyOf_ok (iso : IsiOk N T) (g : Rg N ρ G H) {w : W} {v : V} {t : Ty} (r : Rw N ρ H w v) (e : tyOf G w = some t) (u : Ty) (b : Bool) (hb : T.isi.lookup (t, u) = some b) : TyX N.K H v (tyV' N t) := by
  cases w with
  | non => rw [show v = .non from r]; cases e; exact .base .non
  | bl x => rw [show v = .bl x from r]; cases e; exact .base (.bl x)
  | int i => rw [show v = .int i from r]; cases e; exact .base (.int i)
  | str x => rw [show v = .str x from r]; cases e; exact .base (.str x)
  | tup ws =>
    obtain ⟨a, xs, h1, h2, h3⟩ := r
    rw [h1]
    cases e
    rcases h2 with h2 | ⟨o, its, n, k1, k2, _⟩
    · exact .base (.tup h2)
    · exact .kTuple k1 k2
  | rol ws =>
    obtain ⟨a, xs, h1, h2, h3⟩ := r
    rw [h1]
    cases e
    rcases h2 with ⟨o, h2⟩ | ⟨o, its, n, k1, k2, _⟩
    · exact .base (.frz h2)
    · exact .kList k1 k2
  | ref n =>
    have e2 : (match G.get n with
      | some (.lst _) => some (Ty.b "list")
      | some (.ins c _) => some (.c c)
      | _ => none) = some t := e
    split at e2
    · rename_i us q2
      cases e2
      obtain ⟨a, h1, _, xs, h3, h4⟩ := g.ref r q2
      rw [h1]
      exact .base (.lst h3)
    · rename_i c fs q2
      cases e2
      obtain ⟨a, h1, _, dx, xs, h3, h4⟩ := g.ref r q2
      obtain ⟨c1, c2, c3, c4, c5⟩ := iso.cl c u b hb
      rw [h1]
      exact .base (.ins h3 c1 c2 c3 c4 c5)
    · cases e2
  | _ => cases e
theorem isiOne_ok (iso : IsiOk N T) {t : Ty} {c : W} {cv : V} {b : Bool} (r : Rw N ρ H c cv) (e : isiOne T t c = some b) : ∃ u : Ty, ClsV cv (tyV' N u) ∧ PySem.W.kitOne N.K (tyV' N t) (tyV' N u) = some b ∧ T.isi.lookup (t, u) = some b := by
  cases c with
  | ty n =>
    rw [show cv = .ty n from r]
    exact ⟨.b n, .ty n, iso.one t (.b n) b e, e⟩
  | cls c =>
    rw [show cv = .ref (N.ca c) from r]
    exact ⟨.c c, .own _, iso.one t (.c c) b e, e⟩
  | _ => cases e
theorem isiAny_ok (iso : IsiOk N T) {t : Ty} : ∀ {cs : List W} {cvs : List V} {b : Bool}, Rws N ρ H cs cvs → isiAny T t cs = some b → ∃ us, Paired ClsV cvs us ∧ PySem.W.kitAny N.K (tyV' N t) us = some b ∧ (cs ≠ [] → ∃ u b', T.isi.lookup (t, u) = some b')
  | [], cvs, b, r, e => by
    rw [show cvs = [] from r]
    cases e
    exact ⟨[], .nil, rfl, fun z => absurd rfl z⟩
  | c :: cs, cvs, b, r, e => by
    obtain ⟨x, xs, h1, h2, h3⟩ := r
    rw [h1]
    unfold isiAny at e
    split at e
    · rename_i z q1 q2
      cases e
      obtain ⟨u, k1, k2, k3⟩ := isiOne_ok iso h2 q1
      obtain ⟨us, k4, k5, _⟩ := isiAny_ok iso h3 q2
      exact ⟨_ :: us, .cons k1 k4, kitAny_cons k2 (fun z => nomatch z) (fun _ => rfl), fun _ => ⟨u, _, k3⟩⟩
    · rename_i z q1 q2
      cases e
      obtain ⟨u, k1, k2, k3⟩ := isiOne_ok iso h2 q1
      obtain ⟨us, k4, k5, _⟩ := isiAny_ok iso h3 q2
      exact ⟨_ :: us, .cons k1 k4, kitAny_cons k2 (fun _ => k5) (fun z => nomatch z), fun _ => ⟨u, _, k3⟩⟩
    · cases e
/-- a call on values and what is wanted of it -/
def rcW (N : En) (f : List W → GH → R W) : List V → Hp → VK → Prop := fun vs H Q => ∃ ρ G ws E, Rg N ρ G H ∧ Rws N ρ H ws vs ∧ QC N Q E (f ws G) ρ H
theorem call_bf (hK : N.K = X.K) (hc : X.calm = true) (iso : IsiOk N T) (b : Bf) : CallR X (bfV b) (rcW N fun ws G => ofOG (bfop T b ws G)) := by
  intro pins s σ H xs us Q I rx h0
  obtain ⟨ρ, G, ws, E, g, r, h1⟩ := h0
  obtain ⟨w, G', e, h⟩ := h1.ofOG
  unfold bfop at e
  split at e
  · rename_i z
    obtain ⟨v, rfl, q⟩ := r.inv1
    split at e
    · rename_i hz
      cases e
      exact call_len pins s σ H _ us Q I rx ⟨v, z.length, rfl, by rw [show v = .str z from q]; exact ⟨szOk_le hz, rfl⟩, h.done g rfl⟩
    · cases e
  · rename_i u _
    obtain ⟨v, rfl, q⟩ := r.inv1
    obtain ⟨ys, e1, e2⟩ := Option.map_eq_some_iff.mp e
    cases e2
    obtain ⟨a, vs, rfl, h2, h3⟩ := seqOf_ok g q e1
    rw [hK] at h2
    refine call_len_seq pins s σ H _ us Q I rx ⟨a, vs, rfl, h2, ?_⟩
    rw [h3.len] at h
    exact h.done g rfl
  · rename_i i
    obtain ⟨v, rfl, q⟩ := r.inv1
    cases e
    exact call_int1 pins s σ H _ us Q I rx (.inl ⟨i, by rw [show v = .int i from q], h.done g rfl⟩)
  · rename_i k
    obtain ⟨v, rfl, q⟩ := r.inv1
    cases e
    exact call_int1 pins s σ H _ us Q I rx (.inr ⟨k, by rw [show v = .bl k from q], h.done g rfl⟩)
  · rename_i u
    obtain ⟨v, rfl, q⟩ := r.inv1
    split at e
    · rename_i ys e1
      obtain ⟨a, vs, rfl, h2, h3⟩ := seqOf_ok g q e1
      rw [hK] at h2
      refine call_list_of pins s σ H _ us Q I rx ⟨a, vs, rfl, h2, fun p hp => new_lst (E := E) (ws := ys) g ?_ h3 hp⟩
      rw [e]
      exact h
    · cases e
  · rename_i ys
    obtain ⟨v, rfl, q⟩ := r.inv1
    cases e
    have q' := q
    obtain ⟨a, vs, rfl, h2, h3⟩ := q
    rw [hK] at h2
    exact call_tupleT pins s σ H _ us Q I rx ⟨a, vs, rfl, h2.t, h.done g q'⟩
  · rename_i u _
    obtain ⟨v, rfl, q⟩ := r.inv1
    obtain ⟨ys, e1, e2⟩ := Option.map_eq_some_iff.mp e
    cases e2
    obtain ⟨a, vs, rfl, h2, h3⟩ := items_ok g q e1
    rw [hK] at h2
    exact call_tuple_of pins s σ H _ us Q I rx ⟨a, vs, rfl, .inl ⟨h2, fun p hp => new_tup g h h3 hp⟩⟩
  · rename_i x c
    obtain ⟨v, cv, rfl, q1, q2⟩ := r.inv2
    obtain ⟨k, e1, e2⟩ := Option.map_eq_some_iff.mp e
    cases e2
    have hq : Q (.bl k) H := h.done g rfl
    unfold isinst at e1
    split at e1
    · rename_i t ht
      split at e1
      · rename_i cs
        split at e1
        · cases e1
        rename_i hne
        obtain ⟨a, cvs, rfl, h2, h3⟩ := q2
        obtain ⟨vs, k1, k2, k3⟩ := isiAny_ok iso h3 e1
        obtain ⟨u, b', k4⟩ := k3 (fun z => hne (by rw [z]; rfl))
        have ty := tyOf_ok iso g q1 ht u b' k4
        rw [hK] at ty k2 h2
        rcases h2 with h2 | ⟨⟨oc, od, dt, sl⟩, its, n, l1, l2, l3, l4, l5⟩
        · exact call_isiT pins s σ H _ us Q I rx ⟨v, a, cvs, _, vs, k, rfl, h2, k1, ty, k2, hq⟩
        · have e3 := ClsV.all k1 l5
          simp only at l2 l3
          refine call_isiK pins s σ H _ us Q I rx ⟨v, a, od, vs, n, sl, _, k, rfl, ?_, ty, k2, hq⟩
          rw [l1, l2, l3, ← e3, Array.toArray_toList]
      · obtain ⟨u, k1, k2, k3⟩ := isiOne_ok iso q2 e1
        have ty := tyOf_ok iso g q1 ht u k k3
        rw [hK] at ty k2
        exact call_isi pins s σ H _ us Q I rx ⟨v, cv, _, _, k, rfl, k1, ty, k2, hq⟩
    · cases e1
  · rename_i u
    obtain ⟨v, rfl, q⟩ := r.inv1
    split at e
    · rename_i ys e1
      obtain ⟨bs, e2, e3⟩ := Option.map_eq_some_iff.mp e
      cases e3
      obtain ⟨a, vs, rfl, h2, h3⟩ := items_ok g q e1
      rw [hK, bools_ok h3 e2] at h2
      exact cr_all hc pins s σ H _ us Q I rx ⟨a, bs, rfl, h2, h.done g rfl⟩
    · cases e
  · rename_i u
    obtain ⟨v, rfl, q⟩ := r.inv1
    split at e
    · rename_i ys e1
      obtain ⟨bs, e2, e3⟩ := Option.map_eq_some_iff.mp e
      cases e3
      obtain ⟨a, vs, rfl, h2, h3⟩ := items_ok g q e1
      rw [hK, bools_ok h3 e2] at h2
      exact cr_any hc pins s σ H _ us Q I rx ⟨a, bs, rfl, h2, h.done g rfl⟩
    · cases e
  · rename_i u
    obtain ⟨v, rfl, q⟩ := r.inv1
    split at e
    · rename_i ys e1
      split at e
      · rename_i ns e2
        obtain ⟨i, e3, e4⟩ := Option.map_eq_some_iff.mp e
        cases e4
        obtain ⟨a, vs, rfl, h2, h3⟩ := items_ok g q e1
        rw [hK, intsW_ok h3 e2] at h2
        refine cr_max hc pins s σ H _ us Q I rx ⟨a, ns, rfl, h2, ?_, fun m h4 h5 => ?_⟩
        · cases ns with
          | nil => cases e3
          | cons _ _ => exact Nat.succ_pos _
        · rw [maxI_of h4 h5] at e3
          cases e3
          exact h.done g rfl
      · cases e
    · cases e
  · rename_i i
    obtain ⟨v, rfl, q⟩ := r.inv1
    split at e
    · rename_i hz
      cases e
      refine call_str_int pins s σ H _ us Q I rx ⟨i, by rw [show v = .int i from q], ?_, h.done g rfl⟩
      have := of_decide_eq_true hz
      by_cases h0 : i.natAbs = 0
      · rw [h0]; decide
      · exact Nat.lt_of_lt_of_le ((Nat.log2_lt h0).mpr (show i.natAbs < 2 ^ 20 by omega)) (by decide)
    · cases e
  · rename_i k
    obtain ⟨v, rfl, q⟩ := r.inv1
    cases e
    exact call_bool1 pins s σ H _ us Q I rx (.inr ⟨k, by rw [show v = .bl k from q], h.done g rfl⟩)
  · rename_i i
    obtain ⟨v, rfl, q⟩ := r.inv1
    cases e
    exact call_bool1 pins s σ H _ us Q I rx (.inl ⟨i, by rw [show v = .int i from q], h.done g rfl⟩)
  · cases e
end
end PM

set_option maxHeartbeats 4000000
/-! PmG: methods of built-in types; what is walked. -/
namespace PM
open PySem PySem.Spec PyProof.Rows L2

def bmId : Bm → String
  | .append => "list.append"
  | .join => "str.join"
  | .clear => "list.clear"
  | .extend => "list.extend"
def btS : Bt → String
  | .lst => "list"
  | .str => "str"
section
variable {X : Cx} {N : En} {T : Tb}
def rmW (N : En) (f : W → List W → GH → R W) : V → List V → Hp → VK → Prop := fun x vs H Q => ∃ ρ G w ws E, Rg N ρ G H ∧ Rw N ρ H w x ∧ Rws N ρ H ws vs ∧ QC N Q E (f w ws G) ρ H
theorem mt_bm (hK : N.K = X.K) (m : Bm) : MtR X (bmId m) (rmW N fun w ws G => ofOG (bmop m w ws G)) := by
  intro pins s σ H x xs v us Q I rx rs h0
  obtain ⟨ρ, G, w, ws, E, g, r, rr, h1⟩ := h0
  obtain ⟨z, G', e, h⟩ := h1.ofOG
  unfold bmop at e
  split at e
  · rename_i n u
    split at e
    · rename_i ys q
      split at e
      · rename_i hz
        cases e
        obtain ⟨a, rfl, hn, vs, k1, k2⟩ := g.ref r q
        obtain ⟨y, rfl, ry⟩ := rr.inv1
        have hl : vs.length < sizeLine := by rw [← k2.len]; exact of_decide_eq_true hz
        have m := List.mem_of_getElem? hn
        have st : Stp ρ H ρ (upd H a (.lst (vs ++ [y]))) := Stp.set m
        refine mt_append pins s σ H _ _ v us Q I rx rs ⟨a, vs, y, rfl, rfl, k1, hl, h ρ _ _ st ?_ rfl⟩
        exact g.set hn (show okHO (.lst (vs ++ [y])) from True.intro) ⟨vs ++ [y], upd_same, (k2.append (Rws.one ry)).stp g st⟩
      · cases e
    · cases e
  · rename_i n
    split at e
    · rename_i ys q
      cases e
      obtain ⟨a, rfl, hn, vs, k1, k2⟩ := g.ref r q
      have e0 : xs = [] := rr
      subst e0
      have m := List.mem_of_getElem? hn
      have st : Stp ρ H ρ (upd H a (.lst [])) := Stp.set m
      refine mt_clear pins s σ H _ _ v us Q I rx rs ⟨a, vs, rfl, rfl, k1, h ρ _ _ st ?_ rfl⟩
      exact g.set hn (show okHO (.lst []) from True.intro) ⟨[], upd_same, rfl⟩
    · cases e
  · rename_i n k
    split at e
    · rename_i ys zs q q2
      split at e
      · rename_i hz
        cases e
        obtain ⟨a, rfl, hn, vs, k1, k2⟩ := g.ref r q
        obtain ⟨y, rfl, ry⟩ := rr.inv1
        obtain ⟨b, us2, rfl, k3, k4⟩ := lstOf_ok g ry q2
        have hl : vs.length + us2.length ≤ sizeLine := by rw [← k2.len, ← k4.len]; exact szOk_le hz
        have m := List.mem_of_getElem? hn
        have st : Stp ρ H ρ (upd H a (.lst (vs ++ us2))) := Stp.set m
        refine mt_extend pins s σ H _ _ v us Q I rx rs ⟨a, b, vs, us2, rfl, rfl, k1, k3, hl, h ρ _ _ st ?_ rfl⟩
        exact g.set hn (show okHO (.lst (vs ++ us2)) from True.intro) ⟨vs ++ us2, upd_same, (k2.append k4).stp g st⟩
      · cases e
    · cases e
  · rename_i z u
    split at e
    · rename_i ys q
      split at e
      · rename_i bs q2
        split at e
        · rename_i hz
          cases e
          obtain ⟨y, rfl, ry⟩ := rr.inv1
          obtain ⟨a, vs, rfl, k1, k2⟩ := seqOf_ok g ry q
          rw [allStr_ok k2 q2, hK] at k1
          exact mt_join pins s σ H _ _ v us Q I rx rs ⟨z, a, bs, r, rfl, k1, of_decide_eq_true hz, h.done g rfl⟩
        · cases e
      · cases e
    · cases e
  · cases e
theorem btOf_ty (hK : N.K = X.K) {ρ : List Addr} {G : GH} {H : Hp} {w : W} {x : V} {t : Bt} (g : Rg N ρ G H) (r : Rw N ρ H w x) (e : btOf G w = some t) : tyV X.K (btS t) x H := by
  unfold btOf at e
  split at e
  · cases e
    rw [show x = _ from r]
    rfl
  · cases e
    obtain ⟨a, xs, rfl, h, _⟩ := r
    rw [hK] at h
    exact .inl ⟨rfl, xs, h.l⟩
  · split at e
    · rename_i q
      cases e
      obtain ⟨a, rfl, _, xs, k, _⟩ := g.ref r q
      exact .inl ⟨rfl, xs, .inl (.inl k)⟩
    · cases e
  · cases e
end

/-! ### zip -/
inductive Zc where
  | cl (a : Addr) | ct (a : Addr) | cs (x : Str) (t : Tok)
def chV (x : Str) : List V := x.cps.toList.map fun c => .str ⟨#[c]⟩
def Zc.v : Zc → Value
  | .cl a => .ref a
  | .ct a => .ref a
  | .cs x t => .str x t
def Zc.o : Zc → Obj
  | .cl a => { cls := .type "list_iterator", data := .fields #[.ref a, .int 0 0] }
  | .ct a => { cls := .type "tuple_iterator", data := .fields #[.ref a, .int 0 0] }
  | .cs x t => { cls := .type (strIterType x), data := .fields #[.str x t, .int 0 0] }
def Zc.q (K : PySem.W.Frag) (H : Hp) : Zc → List V → Prop
  | .cl a, xs => SqL K H a xs
  | .ct a, xs => SqT K H a xs
  | .cs x _, xs => xs = chV x
def Zc.no : Zc → Addr → Prop
  | .cl a, b => a ≠ b
  | .ct a, b => a ≠ b
  | .cs _ _, _ => True
def Zc.st (it : Addr) (i : Nat) (h : Heap) : Zc → Prop
  | .cl a => h.IsListIter it a i
  | .ct a => h.IsTupleIter it a i
  | .cs x t => h.IsStrIter it (strIterType x) x t i
theorem Zc.st_keep {it : Addr} {i : Nat} {h h' : Heap} {c : Zc} (st : c.st it i h) (k : ∀ o, h.get? it = some o → h'.get? it = some o) : c.st it i h' := by
  cases c with
  | cl a => exact PySem.Heap.IsListIter.at st fun o e => k o e
  | ct a => exact PySem.Heap.IsTupleIter.at st fun o e => k o e
  | cs x t =>
    obtain ⟨o, ho, r⟩ := (show h.IsStrIter it (strIterType x) x t i from st)
    exact (show h'.IsStrIter it (strIterType x) x t i from ⟨o, k o ho, r⟩)
theorem Zc.st_obj {it : Addr} {i : Nat} {h : Heap} {c : Zc} (st : c.st it i h) : ∃ o, h.get? it = some o ∧ ∀ v, o.data ≠ .cell v := by
  cases c with
  | cl a =>
    obtain ⟨o, e, c, d⟩ := (show h.IsListIter it a i from st)
    exact ⟨o, e, fun v z => by rw [d] at z; cases z⟩
  | ct a =>
    obtain ⟨o, e, c, d⟩ := (show h.IsTupleIter it a i from st)
    exact ⟨o, e, fun v z => by rw [d] at z; cases z⟩
  | cs x t =>
    obtain ⟨o, e, c, d⟩ := (show h.IsStrIter it (strIterType x) x t i from st)
    exact ⟨o, e, fun v z => by rw [d] at z; cases z⟩
theorem chV_get {x : Str} {i c : Nat} (h : x.cps[i]? = some c) : (chV x)[i]? = some (.str ⟨#[c]⟩) := by
  unfold chV
  rw [List.getElem?_map, Array.getElem?_toList, h]
  rfl
section
variable {X : Cx} {pins : List (Addr × Obj)} {σ : L2.St} {H : Hp} {s : Shared}
/-- what an iterator draws -/
structure ZD (X : Cx) (s : Shared) (A : Around) (c : Zc) (it : Addr) (i : Nat) (xs : List V) (fp : List Addr) (P : Nat → Value → Prop) (St : Nat → Heap → Prop) : Prop where
  D : Draws X.prog X.w A it fp xs.length P St
  now : St i s.heap
  val : ∀ j v, P j v → ∃ x, xs[j]? = some x ∧ RelV x v
  st : ∀ j h, St j h → c.st it j h
  mem : it ∈ fp
  no : ∀ b, b ≠ it → c.no b → b ∉ fp
theorem zc_draws (I : Inv X pins σ H s) (A : Around) (hh : A.handled = none) {c : Zc} {it : Addr} {i : Nat} {xs : List V} (hq : c.q X.K H xs) (hn : c.no it) (st : c.st it i s.heap) : ∃ fp P St, ZD X s A c it i xs fp P St := by
  cases c with
  | cl a =>
    obtain ⟨its, rv, p, hz⟩ := I.list hq
    have e : its.toArray.size = xs.length := by rw [List.size_toArray, rv.length]
    have D := Draws.list (prog := X.prog) (w := X.w) hh it a hn its.toArray
    rw [e] at D
    refine ⟨_, _, _, D, ⟨st, p.isList⟩, fun j v hv => ?_, fun j h q => q.1, by simp, fun b h1 h2 h3 => ?_⟩
    · have hv2 : its[j]? = some v := by simpa using hv
      have hj : j < xs.length := by rw [rv.length]; exact (List.getElem?_eq_some_iff.mp hv2).1
      obtain ⟨u, e1, e2⟩ := rv.get (List.getElem?_eq_getElem hj)
      rw [hv2] at e1
      cases e1
      exact ⟨_, List.getElem?_eq_getElem hj, e2⟩
    · have : b = it ∨ b = a := by simpa using h3
      rcases this with z | z
      · exact h1 z
      · exact h2 z.symm
  | ct a =>
    obtain ⟨its, rv, p, hz⟩ := I.tuple hq
    have e : its.toArray.size = xs.length := by rw [List.size_toArray, rv.length]
    have D := Draws.tuple (prog := X.prog) (w := X.w) hh it a hn its.toArray
    rw [e] at D
    refine ⟨_, _, _, D, ⟨st, p⟩, fun j v hv => ?_, fun j h q => q.1, by simp, fun b h1 h2 h3 => ?_⟩
    · have hv2 : its[j]? = some v := by simpa using hv
      have hj : j < xs.length := by rw [rv.length]; exact (List.getElem?_eq_some_iff.mp hv2).1
      obtain ⟨u, e1, e2⟩ := rv.get (List.getElem?_eq_getElem hj)
      rw [hv2] at e1
      cases e1
      exact ⟨_, List.getElem?_eq_getElem hj, e2⟩
    · have : b = it ∨ b = a := by simpa using h3
      rcases this with z | z
      · exact h1 z
      · exact h2 z.symm
  | cs x t =>
    have D := Draws.text (prog := X.prog) (w := X.w) hh it x t
    have e : x.cps.size = xs.length := by
      rw [show xs = chV x from hq]
      unfold chV
      rw [List.length_map, Array.length_toList]
    rw [e] at D
    refine ⟨_, _, _, D, st, fun j v hv => ?_, fun j h q => q, by simp, fun b h1 h2 h3 => h1 (by simpa using h3)⟩
    obtain ⟨c, u, h1, rfl⟩ := hv
    rw [show xs = chV x from hq]
    exact ⟨_, chV_get h1, u, rfl⟩
theorem zc_inj (I : Inv X pins σ H s) {c : Zc} {xs ys : List V} (h : c.q X.K H xs) (k : c.q X.K H ys) : xs = ys := by
  cases c with
  | cl a => exact I.list_inj h k
  | ct a => exact I.tuple_inj h k
  | cs x t => exact (show xs = chV x from h).trans (show ys = chV x from k).symm
theorem zc_begins (I : Inv X pins σ H s) {c : Zc} {xs : List V} (h : c.q X.K H xs) : (∃ R, Begins c.v c.o R ∧ R s.heap) ∧ ∀ b, s.heap.objs.size ≤ b → c.no b := by
  cases c with
  | cl a =>
    obtain ⟨its, rv, p, hz⟩ := I.list h
    refine ⟨⟨_, begins_list a its.toArray, p.isList⟩, fun b hb => ?_⟩
    exact Nat.ne_of_lt (Nat.lt_of_lt_of_le p.lt hb)
  | ct a =>
    obtain ⟨its, rv, p, hz⟩ := I.tuple h
    obtain ⟨o, ho, _⟩ := id p
    refine ⟨⟨_, begins_tuple a its.toArray, p⟩, fun b hb => ?_⟩
    exact Nat.ne_of_lt (Nat.lt_of_lt_of_le (Heap.lt_size ho) hb)
  | cs x t => exact ⟨⟨_, begins_text x t, trivial⟩, fun b _ => trivial⟩
theorem zc_first {c : Zc} {it : Addr} {h : Heap} (e : h.get? it = some c.o) : c.st it 0 h := by
  cases c with
  | cl a => exact (show h.IsListIter it a 0 from ⟨_, e, rfl, rfl⟩)
  | ct a => exact (show h.IsTupleIter it a 0 from ⟨_, e, rfl, rfl⟩)
  | cs x t => exact (show h.IsStrIter it (strIterType x) x t 0 from ⟨_, e, rfl, rfl⟩)
end
/-- the pairs -/
def Itz2 (K : PySem.W.Frag) (c1 c2 : Zc) : L2.It :=
  ⟨fun i H => ∃ (xs ys : List V) (x y : V), c1.q K H xs ∧ c2.q K H ys ∧ xs[i]? = some x ∧ ys[i]? = some y,
    fun i H v H' => ∃ T x y, v = .ref T ∧ H T = none ∧ H' = upd H T (.tup [x, y]) ∧ (∀ xs, c1.q K H xs → xs[i]? = some x) ∧ ∀ ys, c2.q K H ys → ys[i]? = some y,
    fun i H => ∃ xs ys : List V, c1.q K H xs ∧ c2.q K H ys ∧ i ≤ xs.length ∧ i ≤ ys.length ∧ (i = xs.length ∨ i = ys.length)⟩
/-- five cells apart -/
structure Zs (z TI TO i1 i2 : Addr) (c1 c2 : Zc) : Prop where
  TIz : TI ≠ z
  TOz : TO ≠ z
  TITO : TI ≠ TO
  TIi1 : TI ≠ i1
  TIi2 : TI ≠ i2
  zi1 : z ≠ i1
  zi2 : z ≠ i2
  Ti1 : TO ≠ i1
  Ti2 : TO ≠ i2
  i12 : i1 ≠ i2
  n1 : ∀ b, b = z ∨ b = TO ∨ b = i1 ∨ b = i2 → c1.no b
  n2 : ∀ b, b = z ∨ b = TO ∨ b = i1 ∨ b = i2 → c2.no b
theorem turn_zip2 {P : Program} {w : World} {K : PySem.W.Frag} {elts : List Expr} {kk : Nat} {tpos : Pos} {z TI TO i1 i2 : Addr} {c1 c2 : Zc} (D : Zs z TI TO i1 i2 c1 c2) :
    Turn P w K (.Tuple elts kk tpos) (Itz2 K c1 c2) [z, TI, TO, i1, i2] z (fun i h => IsZip h z TI TO .none ∧ IsTupOf2 h TI (.ref i1) (.ref i2) ∧ (∃ x y, IsTupOf2 h TO x y) ∧ c1.st i1 i h ∧ c2.st i2 i h) where
  mem := by simp
  obj := fun i h st c hc => by
    obtain ⟨hz, hTI, ⟨x, y, hTO⟩, h1, h2⟩ := st
    have e' : c = z ∨ c = TI ∨ c = TO ∨ c = i1 ∨ c = i2 := by simpa using hc
    rcases e' with q | q | q | q | q
    · rw [q]; exact ⟨_, hz, fun v q => nomatch q⟩
    · rw [q]; exact ⟨_, hTI, fun v q => nomatch q⟩
    · rw [q]; exact ⟨_, hTO, fun v q => nomatch q⟩
    · rw [q]; exact Zc.st_obj h1
    · rw [q]; exact Zc.st_obj h2
  keep := fun i h h' st k => by
    obtain ⟨hz, hTI, ⟨x, y, hTO⟩, h1, h2⟩ := st
    exact ⟨k z (by simp) _ hz, k TI (by simp) _ hTI, ⟨x, y, k TO (by simp) _ hTO⟩, Zc.st_keep (c := c1) h1 fun o q => k i1 (by simp) o q, Zc.st_keep (c := c2) h2 fun o q => k i2 (by simp) o q⟩
  item := by
    intro X hP hw hK hc i pins s σ H E I hf st hg
    subst hP hw hK
    obtain ⟨hz, hTI, ⟨x0, y0, hTO⟩, h1, h2⟩ := st
    obtain ⟨xs, ys, x, y, hqx, hqy, hx, hy⟩ := hg
    obtain ⟨fp1, P1, St1, Z1⟩ := zc_draws I X.A.in1 (I.ok.hd hc) hqx (D.n1 i1 (by simp)) h1
    obtain ⟨fp2, P2, St2, Z2⟩ := zc_draws I X.A.in1 (I.ok.hd hc) hqy (D.n2 i2 (by simp)) h2
    have S : ZipSep2 z TI TO i1 i2 fp1 fp2 := ⟨D.TIz, D.TOz, D.TITO, D.TIi1, Z1.mem, Z1.no z D.zi1 (D.n1 z (by simp)), Z1.no TO D.Ti1 (D.n1 TO (by simp)), D.TIi2, Z2.mem, Z2.no z D.zi2 (D.n2 z (by simp)), Z2.no TO D.Ti2 (D.n2 TO (by simp)), Z2.no i1 D.i12 (D.n2 i1 (by simp)), Z1.no i2 D.i12.symm (D.n1 i2 (by simp))⟩
    have l1 : i < xs.length := (List.getElem?_eq_some_iff.mp hx).1
    have l2 : i < ys.length := (List.getElem?_eq_some_iff.mp hy).1
    have hzl : z < s.heap.objs.size := Heap.lt_size hz
    refine wpAny_pyNext_zipD2_item S Z1.D Z2.D hz hTI hTO Z1.now Z2.now l1 l2 fun u u2 h' tk pu pu2 z' TO' st1 st2 hT hsz hk => ?_
    obtain ⟨x', ex, ru⟩ := Z1.val i u pu
    obtain ⟨y', ey, ru2⟩ := Z2.val i u2 pu2
    rw [hx] at ex
    rw [hy] at ey
    cases ex
    cases ey
    refine ⟨_, rfl, wpAny_letOwnedTupleGo_zip (s := { s with heap := h', toks := tk }) z' fun h'' z'' sb => ?_⟩
    have hT2 : h''.get? s.heap.objs.size = some { cls := .type "tuple", data := .seq #[u, u2] } := (sb.2 _ (Nat.ne_of_gt hzl)).trans hT
    have new : ObjOk X.prog X.w (upd H s.heap.objs.size (.tup [x, y])) h'' s.heap.objs.size (.tup [x, y]) :=
      ⟨by show 2 ≤ sizeLine; decide, [u, u2], .cons ru (.cons ru2 .nil), ⟨_, hT2, rfl, _, rfl⟩⟩
    have I1 : Inv X pins σ (upd H s.heap.objs.size (.tup [x, y])) { s with heap := h'', toks := tk } :=
      I.turnedNew (t' := tk) (ch := [z, TI, TO, i1, i2]) (fun c o hb q => (sb.2 c (fun q' => hb (by simp [q']))).trans (hk c o (fun q' => hb (by simp [q'])) (fun q' => hb (by simp [q'])) (fun q' => hb (by simp [q'])) (fun q' => hb (by simp [q'])) q)) hf (Nat.le_refl _) new
    refine ⟨.ref s.heap.objs.size, _, I1, rfl, ⟨_, x, y, rfl, I.hok.fresh (Nat.le_refl _), rfl, fun l hl => by rw [zc_inj I hl hqx]; exact hx, fun l hl => by rw [zc_inj I hl hqy]; exact hy⟩, ⟨z'', ?_, ⟨u, u2, ?_⟩, ?_, ?_⟩, fun c hcm => ?_⟩
    · exact (sb.2 _ D.TIz).trans (hk _ _ D.TIz D.TITO D.TIi1 D.TIi2 hTI)
    · exact (sb.2 _ D.TOz).trans TO'
    · exact Zc.st_keep (c := c1) (Z1.st _ _ st1) fun o q => (sb.2 _ D.zi1.symm).trans q
    · exact Zc.st_keep (c := c2) (Z2.st _ _ st2) fun o q => (sb.2 _ D.zi2.symm).trans q
    · have hlt : c < s.heap.objs.size := by
        have e' : c = z ∨ c = TI ∨ c = TO ∨ c = i1 ∨ c = i2 := by simpa using hcm
        rcases e' with q | q | q | q | q
        · rw [q]; exact hzl
        · rw [q]; exact Heap.lt_size hTI
        · rw [q]; exact Heap.lt_size hTO
        · rw [q]; obtain ⟨_, e1, _⟩ := Zc.st_obj h1; exact Heap.lt_size e1
        · rw [q]; obtain ⟨_, e2, _⟩ := Zc.st_obj h2; exact Heap.lt_size e2
      rw [upd_ne (Nat.ne_of_lt hlt)]
      exact (hf c hcm).1
  done := by
    intro X hP hw hK hc i pins s σ H E I hf st hg
    subst hP hw hK
    obtain ⟨hz, hTI, ⟨x0, y0, hTO⟩, h1, h2⟩ := st
    obtain ⟨xs, ys, hqx, hqy, l1, l2, hend⟩ := hg
    obtain ⟨fp1, P1, St1, Z1⟩ := zc_draws I X.A.in1 (I.ok.hd hc) hqx (D.n1 i1 (by simp)) h1
    obtain ⟨fp2, P2, St2, Z2⟩ := zc_draws I X.A.in1 (I.ok.hd hc) hqy (D.n2 i2 (by simp)) h2
    have S : ZipSep2 z TI TO i1 i2 fp1 fp2 := ⟨D.TIz, D.TOz, D.TITO, D.TIi1, Z1.mem, Z1.no z D.zi1 (D.n1 z (by simp)), Z1.no TO D.Ti1 (D.n1 TO (by simp)), D.TIi2, Z2.mem, Z2.no z D.zi2 (D.n2 z (by simp)), Z2.no TO D.Ti2 (D.n2 TO (by simp)), Z2.no i1 D.i12 (D.n2 i1 (by simp)), Z1.no i2 D.i12.symm (D.n1 i2 (by simp))⟩
    exact wpAny_pyNext_zipD2_end S Z1.D Z2.D hz hTI hTO Z1.now Z2.now l1 l2 hend fun h' tk hk => ⟨rfl, I.turnedL (t' := tk) (ch := [z, TI, TO, i1, i2]) (fun c o hb q =>
      hk c o (fun q' => hb (by simp [q'])) (fun q' => hb (by simp [q'])) (fun q' => hb (by simp [q'])) (fun q' => hb (by simp [q'])) q) hf⟩
  self := fun A i s Q E st h => wpAny_pyIter_zip st.1 h
theorem ne5 {n i j : Nat} (h : i ≠ j) : n + i ≠ n + j := by omega
/-- the reading of a value that zip walks -/
def Zc.of (x : V) (v : Value) (c : Zc) : Prop := RelV x v → c.v = v
def iZip2 (K : PySem.W.Frag) (ta : TA) : TI := fun σ H R => ta σ H fun vs H1 => ∃ x y, vs = [x, y] ∧ ∀ v u, RelV x v → RelV y u → ∃ c1 c2 xs ys, c1.v = v ∧ c2.v = u ∧ c1.q K H1 xs ∧ c2.q K H1 ys ∧ R (Itz2 K c1 c2) H1
theorem pi_zip2 {X : Cx} {e e2 : Expr} {ta : TA} {p pos tpos : Pos} {elts : List Expr} {kk : Nat} (hg : Gl X "zip") (hm : X.mg "zip" = none) (ha : PA X [e, e2] ta)
    (hs : starEach [e, e2] X.env = (false, eval e X.env) :: starEach [e2] X.env := by rfl) (hpl : (backTo pos (starEach [e2] X.env)).any (·.1) = false := by rfl) :
    PI X (.Tuple elts kk tpos) (.Call (.Name "zip" p) [e, e2] [] pos) (iZip2 X.K ta) := by
  refine ⟨fun pins s σ H R I h => ?_⟩
  refine Call_ (ld_blt I hg hm PyProof.Rows.boot_zip (PyProof.Rows.callWith_type1 (thn (ha.run pos pins s σ H _ I h) fun us s1 ⟨vs, H1, I1, r1, q1⟩ => ?_) hs hpl))
  obtain ⟨x, y, ex, q1⟩ := q1
  subst ex
  cases r1 with
  | cons r rr =>
    cases rr with
    | cons r' rr =>
      cases rr
      obtain ⟨c1, c2, xs, ys, e1, e2, k1, k2, q⟩ := q1 _ _ r r'
      rw [← e1, ← e2]
      obtain ⟨⟨R1, B1, b1⟩, n1⟩ := zc_begins I1 k1
      obtain ⟨⟨R2, B2, b2⟩, n2⟩ := zc_begins I1 k2
      refine zip_begins2 B1 B2 b1 b2 fun h' hz hTI hTO h1 h2 hsz hk => wpAny_pyIter_zip hz ?_
      have I2 : Inv X pins σ H1 { s1 with heap := h' } := I1.kept (t' := s1.toks) hk
      have le : ∀ c, c = s1.heap.objs.size + 4 ∨ c = s1.heap.objs.size + 2 ∨ c = s1.heap.objs.size + 3 ∨ c = s1.heap.objs.size ∨ c = s1.heap.objs.size + 1 → s1.heap.objs.size ≤ c := by
        intro c h; omega
      have D : Zs (s1.heap.objs.size + 4) (s1.heap.objs.size + 2) (s1.heap.objs.size + 3) s1.heap.objs.size (s1.heap.objs.size + 1) c1 c2 := by
        exact ⟨ne5 (by decide), ne5 (by decide), ne5 (by decide), ne5 (j := 0) (by decide), ne5 (by decide), ne5 (j := 0) (by decide), ne5 (by decide), ne5 (j := 0) (by decide), ne5 (by decide), ne5 (i := 0) (by decide), fun b hb => n1 b (le b (by rcases hb with h | h | h | h <;> simp [h])), fun b hb => n2 b (le b (by rcases hb with h | h | h | h <;> simp [h]))⟩
      refine ⟨s1.heap.objs.size + 4, [s1.heap.objs.size + 4, s1.heap.objs.size + 2, s1.heap.objs.size + 3, s1.heap.objs.size, s1.heap.objs.size + 1], _, _, H1, rfl, I2, turn_zip2 (c1 := c1) (c2 := c2) D,
        ⟨hz, hTI, ⟨_, _, hTO⟩, zc_first h1, zc_first h2⟩, fun c hcm => ?_, q⟩
      have hle := le c (by simpa using hcm)
      exact I1.fpOk hle (I1.hok.fresh hle)

/-! ### a value walked by itself -/
def iAny (K : PySem.W.Frag) (tl : TE) : TI := fun σ H R => tl σ H fun x H1 =>
  (∃ a, x = .ref a ∧ (∃ xs, SqL K H1 a xs) ∧ R (Itl K a) H1) ∨ (∃ a, x = .ref a ∧ (∃ xs, SqT K H1 a xs) ∧ R (Itt K a) H1) ∨ ∃ z, x = .str z ∧ R (Its z) H1
theorem pi_any {X : Cx} {tg l : Expr} {tl : TE} (hl : PE X l tl) : PI X tg l (iAny X.K tl) := by
  refine ⟨fun pins s σ H R I h => ?_⟩
  refine thn (hl.run pins s σ H _ I h) fun v s1 ⟨x, H1, I1, r1, q1⟩ => ?_
  rcases q1 with ⟨a, e, ⟨xs, hq⟩, q⟩ | ⟨a, e, ⟨xs, hq⟩, q⟩ | ⟨z, e, q⟩
  · subst e
    cases r1
    obtain ⟨its, rv, p, hz⟩ := I1.list hq
    refine wpAny_pyIter_list p.isList ?_
    refine ⟨s1.heap.objs.size, [s1.heap.objs.size], _, _, H1, rfl, I1.kept (t' := s1.toks) fun b o e => Heap.get?_push_of_some _ e, turn_list a _, ⟨_, Heap.get?_push_size _ rfl, rfl, rfl⟩, fun b hb => ?_, q⟩
    have e : b = s1.heap.objs.size := by simpa using hb
    subst e
    exact I1.fpOk (Nat.le_refl _) (I1.hok.fresh (Nat.le_refl _))
  · subst e
    cases r1
    obtain ⟨its, rv, p, hz⟩ := I1.tuple hq
    refine wpAny_pyIter_tuple (show s1.heap.IsTuple a its.toArray from p) ?_
    refine ⟨s1.heap.objs.size, [s1.heap.objs.size], _, _, H1, rfl, I1.kept (t' := s1.toks) fun b o e => Heap.get?_push_of_some _ e, turn_tuple a _, ⟨_, Heap.get?_push_size _ rfl, rfl, rfl⟩, fun b hb => ?_, q⟩
    have e : b = s1.heap.objs.size := by simpa using hb
    subst e
    exact I1.fpOk (Nat.le_refl _) (I1.hok.fresh (Nat.le_refl _))
  · subst e
    obtain ⟨t, rfl⟩ := r1
    cases ha : z.cps.all (· < 128)
    · exact wpAny_pyIter_wide ha (pi_one (tk := s1.toks) I1 _ (turn_str _ z t "str_iterator" (.inr rfl)) ⟨_, Heap.get?_push_size _ rfl, rfl, rfl⟩ q)
    · exact wpAny_pyIter_ascii ha (pi_one (tk := s1.toks) I1 _ (turn_str _ z t "str_ascii_iterator" (.inl rfl)) ⟨_, Heap.get?_push_size _ rfl, rfl, rfl⟩ q)
end PM

set_option maxHeartbeats 4000000
/-! PmH: the text's facts, a place's facts, readings; small rules. -/
namespace PM
open PySem PySem.Spec PyProof.Rows L2

/-- a def as it stands -/
structure Df where
  x : Str
  qual : Str
  params : Arguments
  body : List Stmt
  scope : Scope
  dvs : List V
  kws : List (Str × V)
  fd : FuncData
  ps : List Str
  N : List Str
/-- the text in its place -/
structure Pg where
  P : Program
  w : World
  mg : Str → Option Value
  base : Heap
  N : En
  T : Tb
  g : Gn
  df : Nat → Df
def bmNm : Bm → Str
  | .append => "append"
  | .join => "join"
  | .clear => "clear"
  | .extend => "extend"
/-- a reading: there are our state and what is wanted of our result -/
def tR {α β : Type} (N : En) (rel : List Addr → Hp → α → β → Prop) (W : WX) (ev : Nat → Sg → GH → R α) : L2.St → Hp → (β → Hp → Prop) → Prop := fun σ H Q =>
  ∃ n ρ σw G, Rg N ρ G H ∧ Rs N ρ H σw σ ∧ QG N rel Q (WE W σ) (ev n σw G) ρ H
def QF (N : En) (D : Ends) (W : WX) (r : F) (ρ : List Addr) (H : Hp) : Prop := match r with
  | .nx σw G' => ∀ ρ' σ' H', Stp ρ H ρ' H' → Rg N ρ' G' H' → Rs N ρ' H' σw σ' → D.nx σ' H'
  | .ret w G' => ∀ ρ' v H', Stp ρ H ρ' H' → Rg N ρ' G' H' → Rw N ρ' H' w v → D.rt v H'
  | .brk σw G' => ∀ ρ' σ' H', Stp ρ H ρ' H' → Rg N ρ' G' H' → Rs N ρ' H' σw σ' → D.bk σ' H'
  | .cnt σw G' => ∀ ρ' σ' H', Stp ρ H ρ' H' → Rg N ρ' G' H' → Rs N ρ' H' σw σ' → D.ct σ' H'
  | .exc c dd σw G' => ∀ ρ' σ' H' cls d, Stp ρ H ρ' H' → Rg N ρ' G' H' → Rs N ρ' H' σw σ' → Rx N c cls → Rd ρ' dd d → W cls d σ' H'
  | .bad => False
def tRS (N : En) (W : WX) (ev : Nat → Sg → GH → F) : TS := fun D σ H => ∃ n ρ σw G, Rg N ρ G H ∧ Rs N ρ H σw σ ∧ QF N D W (ev n σw G) ρ H
def Rb : List Addr → Hp → Bool → Bool → Prop := fun _ _ a b => a = b
def Ri : List Addr → Hp → Option Int → Option Int → Prop := fun _ _ a b => a = b
/-- an iterator against what is walked -/
def JR (N : En) : List Addr → Hp → IV → L2.It → Prop := fun ρ0 H0 iv J => ∀ ρ G H i, StpW ρ0 H0 ρ H → Rg N ρ G H → match iv.at G i with
  | none => True
  | some none => J.stop i H
  | some (some w) => J.go i H ∧ ∀ v H', J.yld i H v H' → Stp ρ H ρ H' ∧ Rg N ρ G H' ∧ Rw N ρ H' w v
section
variable (L : Pg)
abbrev tE (d : Nat) (W : WX) (e : E) : TE := tR L.N (Rw L.N) W fun n σ G => evE L.T n d e σ G
abbrev tT (d : Nat) (W : WX) (e : E) : TT := tR L.N Rb W fun n σ G => (evE L.T n d e σ G).bind fun x G1 => ofO (tru G1 x) G1
abbrev tO (d : Nat) (W : WX) (e : E) : TO := tR L.N Ri W fun n σ G => (evE L.T n d e σ G).bind fun x G1 => ofO (optI x) G1
abbrev tEs (d : Nat) (W : WX) (es : List E) : TA := tR L.N (Rws L.N) W fun n σ G => evEs L.T n d es σ G
abbrev tA (d : Nat) (W : WX) (es : List Ar) : TA := tR L.N (Rws L.N) W fun n σ G => evA L.T n d es σ G
abbrev tI (d : Nat) (W : WX) (it : PM.It) : TI := tR L.N (JR L.N) W fun n σ G => evI L.T n d it σ G
abbrev tS (d : Nat) (W : WX) (s : S) : TS := tRS L.N W fun n σ G => evS L.T n d s σ G
abbrev tSs (d : Nat) (W : WX) (ss : List S) : TS := tRS L.N W fun n σ G => evSs L.T n d ss σ G
def spF (d f : Nat) : Sp := fun vs H Q E => ∃ n ρ G ws, Rg L.N ρ G H ∧ Rws L.N ρ H ws vs ∧ QC L.N Q E (evC L.T n d f ws G) ρ H
/-- how our values are bound -/
def BdOk (bd : List Bd) (n m : Nat) (gV : List V → List V → List V) : Prop := ∀ ρ H ws us vs zs, vs.length = n → zs.length = m → Rws L.N ρ H ws (vs ++ zs) → bindA bd ws = some us → Rws L.N ρ H us (gV vs zs)
/-- a def without a rest -/
def Fx (T : Tb) (f : Nat) : Prop := ∃ fd, T.fn f = some fd ∧ fd.va = false
/-- binding, where the last parameter takes the rest -/
def BindV (fd : FuncData) (ps : List Str) : Prop := ∃ ps' pv, ps = ps' ++ [pv] ∧ ∀ us rest : List Value, us.length = ps'.length → bindArgs fd ⟨us ++ rest, []⟩ = (newTuple rest >>= fun t => pure (ps'.zip us ++ [(pv, t)]))
/-- what must be true of the text -/
structure Lk : Prop where
  nmI : ∀ i j, L.N.nm i = L.N.nm j → i = j
  nmE : ∀ x i, ixS L.g.nms x = some i → L.N.nm i = x
  fn : ∀ x f, L.g.fns.lookup x = some f → L.mg x = some (.ref (L.N.fa f)) ∧ PySem.W.keepIn L.N.K (.ref (L.N.fa f)) = true
  df : ∀ f fd, L.T.fn f = some fd → FunD L.N.K (L.df f).x (L.df f).qual (L.df f).params (L.df f).body (L.df f).scope (L.df f).dvs (L.df f).kws (L.N.fa f) (L.df f).fd ∧
    FnScope (L.df f).N (L.df f).ps (L.df f).scope ∧ (∃ m, trSs L.g m ⟨(L.df f).N, (L.df f).scope, (L.df f).N⟩ (L.df f).body = some fd.body) ∧ fd.np = (L.df f).ps.length ∧ fd.ns = (L.df f).N.length ∧ (fd.va = true → BindV (L.df f).fd (L.df f).ps)
  shv : ∀ f, L.g.shv.contains f = true → ∃ fd, L.T.fn f = some fd ∧ fd.va = true
  sh : ∀ f n ks bd, L.g.sh.lookup (f, n, ks) = some bd → ∃ gg gV, KBn L.N.K (L.df f).fd (L.df f).ps n ks gg gV ∧ BdOk L bd n ks.length gV ∧ Fx L.T f
  cl : ∀ x c, L.g.clss.lookup x = some c → L.mg x = some (.ref (L.N.ca c))
  mkc : ∀ c f, L.T.ini.lookup c = some f → L2.Mk L.N.K (L.N.ca c) (L.N.fa f) ∧ Fx L.T f
  shc : ∀ c n ks bd f, L.g.shc.lookup (c, n, ks) = some bd → L.T.ini.lookup c = some f → ∃ gg gV, KBn L.N.K (L.df f).fd (L.df f).ps (n + 1) ks gg gV ∧ BdOk L bd (n + 1) ks.length gV
  ms : ∀ c m f, L.T.ms.lookup (c, m) = some f → Cls L.N.K (L.N.ca c) ∧ Meth L.N.K (L.N.ca c) (L.N.nm m) (L.N.fa f) ∧ Binds L.N.K (L.df f).fd (L.df f).ps [] ∧ Fx L.T f
  fl : ∀ c f, L.T.fl.contains (c, f) = true → Cls L.N.K (L.N.ca c) ∧ NoAttr L.N.K (L.N.ca c) (L.N.nm f)
  cst : ∀ x w, L.g.csts.lookup x = some w → ∃ v u, L.mg x = some u ∧ RelV v u ∧ ∀ ρ H, Rw L.N ρ H w v
  free : ∀ x, L.g.free.contains x = true → L.mg x = none
  bm : ∀ t m k, L.T.bm.lookup (t, m) = some k → bmTy k = t ∧ L.N.nm m = bmNm k
  isi : IsiOk L.N L.T
/-- the defs keep their promises, d calls deep -/
def All1 (d : Nat) : Prop := ∀ f fd, L.T.fn f = some fd → (fd.va = false → FnOk L.P L.w L.N.K L.mg L.base (L2.CX L.P L.w) d (L.N.fa f) (L.df f).fd (L.df f).ps (spF L d f)) ∧ (fd.va = true → FnR L.P L.w L.N.K L.mg L.base (L2.CX L.P L.w) d (L.N.fa f) (spF L d f))
/-- a place's facts -/
structure Bk (X : Cx) (C : Ct) (W : WX) (d : Nat) : Prop where
  k : X.K = L.N.K
  p : X.prog = L.P
  w : X.w = L.w
  mg : X.mg = L.mg
  base : X.base = L.base
  n : X.N = C.N
  nd : X.N.Nodup
  sc : X.env.scope = C.sc
  calm : X.calm = true
  kind : X.env.scope.kind = .function
  room : Room d X.A
  st : ∀ x ∈ C.st, X.fn x = true ∨ X.env.scope.names.lookup x = some .local
  tk : Takes X W
  all : ∀ j, j ≤ d → All1 L j
end

/-! ### readings weakened -/
section
variable {X : Cx} {e : Expr} {es : List Expr} {sts : List Stmt} {st : Stmt}
theorem peI {t t' : TE} (h : PE X e t) (k : ∀ σ H Q, t' σ H Q → t σ H Q) : PE X e t' := ⟨fun pins s σ H Q I q => h.run pins s σ H Q I (k σ H Q q)⟩
theorem ptI {t t' : TT} (h : PT X e t) (k : ∀ σ H Q, t' σ H Q → t σ H Q) : PT X e t' := ⟨fun pins s σ H Q I q => h.run pins s σ H Q I (k σ H Q q)⟩
theorem pwI {t t' : TT} (h : PW X e t) (k : ∀ σ H Q, t' σ H Q → t σ H Q) : PW X e t' := ⟨fun wh pins s σ H Q I q => h.run wh pins s σ H Q I (k σ H Q q)⟩
theorem paI {t t' : TA} (h : PA X es t) (k : ∀ σ H Q, t' σ H Q → t σ H Q) : PA X es t' := ⟨fun pos pins s σ H Q I q => h.run pos pins s σ H Q I (k σ H Q q)⟩
theorem pkI {kws : List Keyword} {t t' : TA} (h : PK X kws t) (k : ∀ σ H Q, t' σ H Q → t σ H Q) : PK X kws t' := ⟨fun pos pins s σ H Q I q => h.run pos pins s σ H Q I (k σ H Q q)⟩
theorem poI {e : Option Expr} {t t' : TO} (h : PO X e t) (k : ∀ σ H Q, t' σ H Q → t σ H Q) : PO X e t' := ⟨fun pins s σ H Q I q => h.run pins s σ H Q I (k σ H Q q)⟩
theorem piI {tg : Expr} {t t' : TI} (h : PI X tg e t) (k : ∀ σ H Q, t' σ H Q → t σ H Q) : PI X tg e t' := ⟨fun pins s σ H Q I q => h.run pins s σ H Q I (k σ H Q q)⟩
theorem psI {t t' : TS} (h : PS X st t) (k : ∀ D σ H, t' D σ H → t D σ H) : PS X st t' := ⟨fun pins s σ H D I q => h.run pins s σ H D I (k D σ H q)⟩
theorem pssI {t t' : TS} (h : PSs X sts t) (k : ∀ D σ H, t' D σ H → t D σ H) : PSs X sts t' := ⟨fun pins s σ H D I q => h.run pins s σ H D I (k D σ H q)⟩
def tPart2 (t : TE) : TO := fun σ H Q => t σ H fun x H1 => (x = .non ∧ Q none H1) ∨ ∃ i, x = .int i ∧ Q (some i) H1
theorem po_some2 {te : TE} (h : PE X e te) : PO X (some e) (tPart2 te) := by
  refine ⟨fun pins s σ H Q I hw => ?_⟩
  rw [evalPart_some]
  refine thn (h.run pins s σ H _ I hw) fun u s1 ⟨x, H1, I1, r1, q1⟩ => ?_
  rcases q1 with ⟨rfl, q⟩ | ⟨i, rfl, q⟩
  · cases r1
    exact ⟨none, H1, I1, .none, q⟩
  · obtain ⟨t, rfl⟩ := r1
    exact ⟨some i, H1, I1, .int i t, q⟩
end
section
variable {α β γ δ : Type} {N : En} {rel : List Addr → Hp → α → β → Prop} {rel2 : List Addr → Hp → γ → δ → Prop} {W : WX} {ev : Nat → Sg → GH → R α} {n : Nat} {ρ : List Addr} {H : Hp} {G : GH} {σw : Sg} {σ : L2.St}
theorem tR_bind {Q2 : δ → Hp → Prop} {Q : β → Hp → Prop} {f : α → GH → R γ} (g : Rg N ρ G H) (s : Rs N ρ H σw σ) (h : QG N rel2 Q2 (WE W σ) ((ev n σw G).bind f) ρ H)
    (k : ∀ ρ1 a G1 b H1, Stp ρ H ρ1 H1 → Rg N ρ1 G1 H1 → Rs N ρ1 H1 σw σ → rel ρ1 H1 a b → QG N rel2 Q2 (WE W σ) (f a G1) ρ1 H1 → Q b H1) : tR N rel W ev σ H Q :=
  ⟨n, ρ, σw, G, g, s, (QG.bind h).mono fun b H1 ⟨ρ1, a, G1, s1, g1, r1, h1⟩ => k ρ1 a G1 b H1 s1 g1 (s.stp g s1) r1 h1⟩
theorem QF.stp {D : Ends} {r : F} {ρ' : List Addr} {H' : Hp} (h : QF N D W r ρ H) (s : Stp ρ H ρ' H') : QF N D W r ρ' H' := by
  cases r with
  | nx _ _ => exact fun ρ2 b H2 s2 g2 x => h ρ2 b H2 (s.trans s2) g2 x
  | ret _ _ => exact fun ρ2 b H2 s2 g2 x => h ρ2 b H2 (s.trans s2) g2 x
  | brk _ _ => exact fun ρ2 b H2 s2 g2 x => h ρ2 b H2 (s.trans s2) g2 x
  | cnt _ _ => exact fun ρ2 b H2 s2 g2 x => h ρ2 b H2 (s.trans s2) g2 x
  | exc _ _ _ _ => exact fun ρ2 σ2 H2 cls d s2 g2 x y z => h ρ2 σ2 H2 cls d (s.trans s2) g2 x y z
  | bad => exact h
theorem tR_toF {D : Ends} {Q : β → Hp → Prop} {f : α → GH → F} (g : Rg N ρ G H) (s : Rs N ρ H σw σ) (h : QF N D W ((ev n σw G).toF σw f) ρ H)
    (k : ∀ ρ1 a G1 b H1, Stp ρ H ρ1 H1 → Rg N ρ1 G1 H1 → Rs N ρ1 H1 σw σ → rel ρ1 H1 a b → QF N D W (f a G1) ρ1 H1 → Q b H1) : tR N rel W ev σ H Q := by
  refine ⟨n, ρ, σw, G, g, s, ?_⟩
  cases q : ev n σw G with
  | ok a G' =>
    rw [q] at h
    exact fun ρ2 b H2 s2 g2 x => k ρ2 a G' b H2 s2 g2 (s.stp g s2) x (QF.stp h s2)
  | exc c dd G' =>
    rw [q] at h
    exact fun ρ2 H2 cls d s2 g2 x y => h ρ2 σ H2 cls d s2 g2 (s.stp g s2) x y
  | bad =>
    rw [q] at h
    exact h
end
/-! ### names -/
theorem star_cons {e : Expr} {es : List Expr} {env : Env} (h : isStar e = false) : starEach (e :: es) env = (false, eval e env) :: starEach es env := by
  cases e <;> first | rfl | cases h
theorem star_no {env : Env} {pos : Pos} : ∀ {es : List Expr}, es.any isStar = false → (backTo pos (starEach es env)).any (·.1) = false
  | [], _ => rfl
  | e :: es, h => by
    rw [List.any_cons, Bool.or_eq_false_iff] at h
    rw [star_cons h.1]
    show (false || (backTo pos (starEach es env)).any (·.1)) = false
    rw [star_no h.2] <;> rfl
theorem star_all {env : Env} {pos : Pos} : ∀ {es : List Expr}, es.any isStar = false → (backTo pos (starEach es env)).all (!·.1) = true
  | [], _ => rfl
  | e :: es, h => by
    rw [List.any_cons, Bool.or_eq_false_iff] at h
    rw [star_cons h.1]
    show (true && (backTo pos (starEach es env)).all (!·.1)) = true
    rw [star_all h.2] <;> rfl
theorem kw_some {env : Env} {pos : Pos} : ∀ {kws : List Keyword}, kwAll kws = true → (backToKw pos (keywordEach kws env)).all (·.1.isSome) = true ∧ (backToKw pos (keywordEach kws env)).filterMap (·.1) = kwNames kws ∧ (backToKw pos (keywordEach kws env)).any (·.1.isNone) = false
  | [], _ => ⟨rfl, rfl, rfl⟩
  | ⟨some x, _, _⟩ :: r, h => by
    obtain ⟨h1, h2, h3⟩ := kw_some (env := env) (pos := pos) (kws := r) h
    refine ⟨?_, ?_, ?_⟩
    · show (true && (backToKw pos (keywordEach r env)).all (·.1.isSome)) = true
      rw [h1] <;> rfl
    · show x :: (backToKw pos (keywordEach r env)).filterMap (·.1) = x :: kwNames r
      rw [h2]
    · show (false || (backToKw pos (keywordEach r env)).any (·.1.isNone)) = false
      rw [h3] <;> rfl
  | ⟨none, _, _⟩ :: r, h => by cases h
theorem okName_ok {x : Str} (h : okName x = true) : (x == ("__debug__" : Str)) = false ∧ (x == ("__classdict__" : Str)) = false ∧ x ≠ "__name__" := by
  unfold okName at h
  rw [Bool.and_eq_true, Bool.and_eq_true] at h
  refine ⟨by simpa using h.1, by simpa using h.2.1, by simpa using h.2.2⟩
theorem attrBase {o : Expr} {m : Str} {env : Env} {whole : Sem Value} (h : superCall o = false) : attributeBase o m env whole = whole := by
  unfold attributeBase
  split
  · rename_i id p pos
    have h2 : (id == ("super" : Str)) = false := h
    rw [if_pos (by rw [show (id != ("super" : Str)) = true from by unfold bne; rw [h2]; rfl]; rfl)]
  · rfl
section
variable {L : Pg} {X : Cx} {C : Ct} {W : WX} {d : Nat}
theorem Bk.gl (b : Bk L X C W d) {x : Str} (h : gloB C.sc x = true) : Gl X x := by
  unfold Gl Env.kindOf
  rw [b.sc]
  exact of_decide_eq_true h
theorem Bk.vis (b : Bk L X C W d) {x : Str} (h : visB C.sc x = true) : Vis X.env.scope x := by
  rw [b.sc]
  exact visB_ok h
theorem Bk.loc (b : Bk L X C W d) {x : Str} (h : locB C.sc x = true) : L2.Loc X.env.scope x := by
  rw [b.sc]
  exact locB_ok h
theorem Bk.ix (b : Bk L X C W d) {x : Str} {i : Nat} (h : ixS C.N x = some i) : X.N[i]? = some x := by
  rw [b.n]
  exact ixS_get h
theorem Bk.pass (b : Bk L X C W d) (σ : L2.St) : PassesAt (L2.CX L.P L.w) X σ (WE W σ) := by
  have := passAt b.tk σ
  rw [b.p, b.w] at this
  exact this
theorem Bk.fnOk (b : Bk L X C W d) {j f : Nat} (hj : j ≤ d) (hf : Fx L.T f) : FnOk X.prog X.w X.K X.mg X.base (L2.CX L.P L.w) j (L.N.fa f) (L.df f).fd (L.df f).ps (spF L j f) := by
  rw [b.p, b.w, b.k, b.mg, b.base]
  obtain ⟨fd, hf, hv⟩ := hf
  exact (b.all j hj f fd hf).1 hv
theorem Bk.fnR (b : Bk L X C W d) {f : Nat} (hf : ∃ fd, L.T.fn f = some fd ∧ fd.va = true) : FnR X.prog X.w X.K X.mg X.base (L2.CX L.P L.w) d (L.N.fa f) (spF L d f) := by
  rw [b.p, b.w, b.k, b.mg, b.base]
  obtain ⟨fd, hf, hv⟩ := hf
  exact (b.all d (Nat.le_refl _) f fd hf).2 hv
theorem Bk.blk (b : Bk L X C W d) {scope : Scope} (ok : blkC C.N C.sc scope (ownOf C.N scope) = true) (s : Shared) (H : Hp) (D : Addr) (cl : List (Str × Addr)) (fp : List Addr) :
    Bk L (X.blk s H scope (compEnvC scope cl D X.env) fp) (blkCt C scope) (fun _ _ _ _ => False) d := by
  have sc : (compEnvC scope cl D X.env).scope = relS scope C.sc := by rw [← b.sc]; rfl
  have bo := blkOk_by ok
  refine ⟨b.k, b.p, b.w, b.mg, b.base, b.n, b.nd, sc, b.calm, bo.kind, b.room, fun x hx => ?_, fun u s' ⟨a, B, sI, pins, σ, H, cls, d, e, I, nb, up, sky, na, os, ag, w⟩ => w, b.all⟩
  obtain ⟨p, hp, rfl⟩ := List.mem_map.mp hx
  obtain ⟨y, hy, e⟩ := List.mem_filterMap.mp hp
  split at e
  · rename_i hk
    obtain ⟨i, _, e2⟩ := Option.map_eq_some_iff.mp e
    have e3 := bo.uniq y hy
    rw [← e2]
    rcases Bool.or_eq_true .. ▸ hk with hk | hk
    · right
      show (compEnvC scope cl D X.env).scope.names.lookup y.1 = _
      rw [sc]
      have h1 : y.2 = .local := by simpa using hk
      rw [h1] at e3
      exact lookup_relS_keep (by decide) e3
    · left
      have h1 : y.2 = .cell := by simpa using hk
      rw [h1] at e3
      show (scope.names.lookup y.1 == some .cell) = true
      rw [e3]
      rfl
  · cases e
end
end PM

set_option maxHeartbeats 4000000
/-! PmI: calls; targets; tests. -/
namespace PM
open PySem PySem.Spec PyProof.Rows L2

theorem R.assoc {α β γ : Type} (r : R α) (f : α → GH → R β) (k : β → GH → R γ) : (r.bind f).bind k = r.bind fun a G => (f a G).bind k := by cases r <;> rfl
theorem R.bind_ok {α : Type} (r : R α) : (r.bind fun a G => .ok a G) = r := by cases r <;> rfl
theorem evEs_append (T : Tb) (d : Nat) (ks : List E) (σ : Sg) : ∀ (es : List E) (n : Nat) (G : GH), evEs T n d (es ++ ks) σ G = (evEs T n d es σ G).bind fun ws G1 => (evEs T (n - es.length) d ks σ G1).bind fun zs G2 => .ok (ws ++ zs) G2
  | [], 0, G => by
    show evEs T 0 d ks σ G = _
    simp only [evEs]
    rfl
  | [], n + 1, G => by
    show evEs T (n + 1) d ks σ G = R.bind (evEs T (n + 1) d [] σ G) _
    rw [show evEs T (n + 1) d [] σ G = .ok [] G from by simp only [evEs]]
    exact (R.bind_ok _).symm
  | e :: r, 0, G => by
    simp only [evEs]
    rfl
  | e :: r, n + 1, G => by
    have h1 : ∀ xs, evEs T (n + 1) d (e :: xs) σ G = (evE T n d e σ G).bind fun w G1 => (evEs T n d xs σ G1).bind fun ws G2 => .ok (w :: ws) G2 := fun xs => by simp only [evEs]
    rw [List.cons_append, h1, h1, R.assoc]
    congr 1
    funext w G1
    rw [evEs_append T d ks σ r n G1, R.assoc, R.assoc]
    congr 1
    funext ws G2
    show _ = R.bind (evEs T (n + 1 - (r.length + 1)) d ks σ G2) _
    rw [Nat.add_sub_add_right, R.assoc]
    rfl
section
variable {X : Cx} {CX : CXT} {k n : Nat} {f C : Addr} {fd : FuncData} {ps ks : List Str} {sp : Sp} {E : XK} {g : List Value → List Value → List Value} {gV : List V → List V → List V} {pins : List (Addr × Obj)} {σ : L2.St} {H : Hp} {s : Shared}
theorem run_own {Q : VK} {us ws : List Value} {vs zs : List V} (F : FnOk X.prog X.w X.K X.mg X.base CX k f fd ps sp) (hr : Room k X.A) (hb : KBn X.K fd ps n ks g gV) (hx : PassesAt CX X σ E)
    (I : Inv X pins σ H s) (r : Vals vs us) (rz : Vals zs ws) (l1 : vs.length = n) (l2 : zs.length = ks.length) (h : sp (gV vs zs) H Q E) : wpAny (model X.prog X.w) X.A (call (.ref f) us (ks.zip ws)) (EP X pins σ Q) X.xe s := by
  have r2 := hb.rel r rz
  refine wpAny_call (codeAny_mono (F.run X.A X.stack s H ⟨us, ks.zip ws⟩ (g us ws) (gV vs zs) Q E hr I.env0 (hb.to s us ws I.kIn (r.length.symm.trans l1) (rz.length.symm.trans l2)) r2 h) fun r s' hq => ?_)
  cases r with
  | error e => exact hx pins H s e s' I hq
  | ok fl =>
    cases fl with
    | ret u => exact I.after hq
    | next => exact False.elim hq
    | brk => exact False.elim hq
    | cont => exact False.elim hq
theorem run_mko {Q : VK} {us ws : List Value} {vs zs : List V} (M : L2.Mk X.K C f) (F : FnOk X.prog X.w X.K X.mg X.base CX k f fd ps sp) (hr : Room (k + 1) X.A) (hb : KBn X.K fd ps (n + 1) ks g gV)
    (hx : PassesAt CX X σ E) (I : Inv X pins σ H s) (r : Vals vs us) (rz : Vals zs ws) (l1 : vs.length = n) (l2 : zs.length = ks.length)
    (h : ∀ x dx, H x = none → H dx = none → dx ≠ x → sp (gV (.ref x :: vs) zs) (upd (upd H dx (.own x)) x (.ins C dx [])) (fun v H2 => v = .non ∧ Q (.ref x) H2) E) :
    wpAny (model X.prog X.w) X.A (call (.ref C) us (ks.zip ws)) (EP X pins σ Q) X.xe s := by
  have hq := h (s.heap.objs.size + 1) s.heap.objs.size (I.hok.fresh (Nat.le_succ _)) (I.hok.fresh (Nat.le_refl _)) (Nat.ne_of_lt (Nat.lt_succ_self _))
  have I2 := Inv.made (C := C) I
  have r1 : Vals (V.ref (s.heap.objs.size + 1) :: vs) (Value.ref (s.heap.objs.size + 1) :: us) := .cons rfl r
  have r2 := hb.rel r1 rz
  have e1 : (Value.ref (s.heap.objs.size + 1) :: us).length = n + 1 := r1.length.symm.trans (congrArg Nat.succ l1)
  have e2 : ws.length = ks.length := rz.length.symm.trans l2
  refine wpAny_call (make_map (f := f) I.kIn M.makes M.init (beq_iff_eq.mp M.fn) (codeAny_mono (F.run _ X.stack _ _ ⟨Value.ref (s.heap.objs.size + 1) :: us, ks.zip ws⟩ (g (Value.ref (s.heap.objs.size + 1) :: us) ws) _ _ E (hr.make C us (ks.zip ws))
    (I2.env0.make C us (ks.zip ws)) (hb.to _ (Value.ref (s.heap.objs.size + 1) :: us) ws I2.kIn e1 e2) r2 hq) fun r s' hq' => ?_))
  cases r with
  | error e => exact hx pins _ _ e s' I2 hq'
  | ok fl =>
    cases fl with
    | ret u =>
      obtain ⟨v, H', I3, rv, ev, q3⟩ := I2.after hq'
      subst ev
      exact ⟨rv, ⟨V.ref (s.heap.objs.size + 1), H', I3, rfl, q3⟩⟩
    | next => exact False.elim hq'
    | brk => exact False.elim hq'
    | cont => exact False.elim hq'
/-- all arguments -/
theorem cw_all {es : List Expr} {kws : List Keyword} {t tk : TA} {pos : Pos} {fv : Value} {first : List Value} {Qm : List V → List V → Hp → Prop} {Q : Value → Shared → Prop} (I : Inv X pins σ H s) (hk : PySem.W.keepIn X.K fv = true)
    (hes : es.any isStar = false) (hkw : kwAll kws = true) (ha : PA X es t) (hK : PK X kws tk) (h0 : es = [] → ∀ Qt, t σ H Qt → Qt [] H) (h : t σ H fun vs H1 => tk σ H1 fun zs H2 => Qm vs zs H2)
    (q : ∀ us ws vs zs s2 H2, Inv X pins σ H2 s2 → Vals vs us → Vals zs ws → Qm vs zs H2 → wpAny (model X.prog X.w) X.A (call fv (first ++ us) ((kwNames kws).zip ws)) Q X.xe s2) :
    wpAny (model X.prog X.w) X.A (callWith pos fv first (backTo pos (starEach es X.env)) (backToKw pos (keywordEach kws X.env))) Q X.xe s := by
  obtain ⟨k1, k2, k3⟩ := kw_some (env := X.env) (pos := pos) hkw
  cases es with
  | nil =>
    refine PySem.W.callWith_KW0 (h₀ := X.base) I.ok.mod.kin hk k1 (thn (hK.run pos pins s σ H _ I (h0 rfl _ h)) fun ws s2 ⟨zs, H2, I2, rz, q2⟩ => ⟨I2.kIn, ?_⟩) (by rw [k3] <;> rfl)
    rw [k2]
    exact q [] ws [] zs s2 H2 I2 .nil rz q2
  | cons e r =>
    have he : isStar e = false := by
      rw [List.any_cons, Bool.or_eq_false_iff] at hes
      exact hes.1
    refine PySem.W.callWith_KW (h₀ := X.base) I.ok.mod.kin hk k1 (thn (ha.run pos pins s σ H _ I h) fun us s1 ⟨vs, H1, I1, r1, q1⟩ => ?_) (by rw [star_no hes, k3] <;> rfl) (star_cons he)
    refine thn (hK.run pos pins s1 σ H1 _ I1 q1) fun ws s2 ⟨zs, H2, I2, rz, q2⟩ => ⟨I2.kIn, ?_⟩
    rw [k2]
    exact q us ws vs zs s2 H2 I2 r1 rz q2
end
/-! ### tests -/
def plainT : Expr → Bool
  | .UnaryOp .Not _ _ => false
  | .BoolOp _ _ _ => false
  | .IfExp _ _ _ _ => false
  | .Compare _ _ _ _ => false
  | _ => true
theorem isTrue_of {a : Expr} {env : Env} (h : plainT a = true) (whole : Sem Value) : isTrue a env whole = (do let v ← whole; standAt a.pos; holding [v] (truthy v)) := by
  cases a <;> first | rfl | cases h | (rename_i op _ _; cases op <;> first | rfl | cases h)
section
variable {L : Pg} {X : Cx} {C : Ct} {W : WX} {d : Nat}
theorem tE_zero {e : E} {σ : L2.St} {H : Hp} {Q : VK} {t : Prop} (h : tE L d W e σ H Q) (k : ∀ n ρ σw G, Rg L.N ρ G H → Rs L.N ρ H σw σ → QC L.N Q (WE W σ) (evE L.T (n + 1) d e σw G) ρ H → t) : t := by
  obtain ⟨n, ρ, σw, G, g, s, h⟩ := h
  cases n with
  | zero =>
    simp only [evE] at h
    exact (show False from h).elim
  | succ n => exact k n ρ σw G g s h
/-- an expression's test, by its truth -/
theorem pt_of (b : Bk L X C W d) {a : Expr} {e : E} (hp : plainT a = true) (h : PE X a (tE L d W e)) : PT X a (tT L d W e) := by
  refine ptI (pt_truth h (isTrue_of hp)) fun σ H Q ⟨n, ρ, σw, G, g, s, h1⟩ => ?_
  refine tR_bind (ev := fun n σ G => evE L.T n d e σ G) g s h1 fun ρ1 w G1 x H1 s1 g1 sl r h2 => ?_
  obtain ⟨k, e1, h2⟩ := QG.ofO h2
  refine ⟨k, ?_, h2.done g1 rfl⟩
  rw [b.k]
  exact tru_V g1 r e1
/-! ### targets -/
mutual
def gT (K : PySem.W.Frag) : Tg → TG
  | .v i => gName i
  | .t ts => gTup K ts.length (gTs K ts)
def gTs (K : PySem.W.Frag) : List Tg → TGs
  | [] => gNil
  | t :: ts => gCons (gT K t) (gTs K ts)
end
theorem optAll_cons {α β : Type} {f : α → Option β} {a : α} {r : List α} {ys : List β} (h : optAll f (a :: r) = some ys) : ∃ y ys', ys = y :: ys' ∧ f a = some y ∧ optAll f r = some ys' := by
  unfold optAll at h
  split at h
  · rename_i y ys' h1 h2
    cases h
    exact ⟨y, ys', rfl, h1, h2⟩
  · cases h
theorem optAll_len {α β : Type} {f : α → Option β} : ∀ {r : List α} {ys : List β}, optAll f r = some ys → ys.length = r.length
  | [], _, h => by cases h; rfl
  | a :: r, _, h => by
    obtain ⟨y, ys', rfl, _, h2⟩ := optAll_cons h
    rw [List.length_cons, List.length_cons, optAll_len h2]
theorem asg_map {env : Env} : ∀ {ts : List Expr}, ts.any isStar = false → (assignEach ts env).map (·.2) = ts.map (assign · env) ∧ (assignEach ts env).length = ts.length ∧ (assignEach ts env).findIdx? (·.1) = none
  | [], _ => ⟨rfl, rfl, rfl⟩
  | e :: r, h => by
    rw [List.any_cons, Bool.or_eq_false_iff] at h
    obtain ⟨h1, h2, h3⟩ := asg_map (env := env) h.2
    have e1 : assignEach (e :: r) env = (false, assign e env) :: assignEach r env := by
      have := h.1
      cases e <;> first | rfl | cases this
    rw [e1]
    refine ⟨by rw [List.map_cons, h1, List.map_cons], by rw [List.length_cons, h2, List.length_cons], ?_⟩
    rw [List.findIdx?_cons, h3]
    rfl
theorem trT_pg (b : Bk L X C W d) : ∀ (n : Nat) (e : Expr) (t : Tg), trT C n e = some t → PG X e (gT X.K t)
  | 0, _, _, h => by cases h
  | n + 1, e, t, h => by
    unfold trT at h
    split at h
    · rename_i x p
      split at h
      · rename_i hc
        obtain ⟨i, hi, rfl⟩ := Option.map_eq_some_iff.mp h
        rw [Bool.and_eq_true] at hc
        exact pg_name b.nd (b.ix hi) (b.loc hc.2) (b.st x (by simpa using hc.1))
      · cases h
    · rename_i ts k p
      split at h
      · cases h
      · rename_i hs
        obtain ⟨us, hu, rfl⟩ := Option.map_eq_some_iff.mp h
        have hs2 : ts.any isStar = false := by simpa using hs
        have all : ∀ (ts : List Expr) (us : List Tg), ts.any isStar = false → optAll (trT C n) ts = some us → PGs X ts (gTs X.K us) := by
          intro ts
          induction ts with
          | nil =>
            intro us _ hu
            cases hu
            exact pgs_nil
          | cons a r ih =>
            intro us hs hu
            obtain ⟨y, ys', rfl, h1, h2⟩ := optAll_cons hu
            have hs' := hs
            rw [List.any_cons, Bool.or_eq_false_iff] at hs'
            refine pgs_cons (trT_pg b n a y h1) (ih ys' hs'.2 h2) ?_
            rw [(asg_map hs).1, (asg_map hs'.2).1, List.map_cons]
        obtain ⟨_, h2, h3⟩ := asg_map (env := X.env) hs2
        exact pg_tup b.calm (all ts us hs2 hu) (by rw [h2, optAll_len hu]) h3
    · cases h
/-- x, *y = a tuple -/
def gStar (K : PySem.W.Frag) (i j : Nat) : TG := fun v σ H Q => ∃ (a : Addr) (x : V) (xs : List V), v = .ref a ∧ SqT K H a (x :: xs) ∧ ∀ p, H p = none → Q ((σ.set i (some x)).set j (some (.ref p))) (upd H p (.lst xs))
theorem unpack1 {prog : Program} {w : World} {A : Around} {E : Value → Shared → Prop} {s : Shared} {t : Addr} {u0 : Value} {us : List Value} {Q : List Value → Shared → Prop} (hh : A.handled = none) (ht : IsTup s.heap t (u0 :: us).toArray) (hz : us.length + 1 ≤ sizeLine)
    (hQ : ∀ (h' : Heap) (tk : Nat), (∀ b o, s.heap.get? b = some o → h'.get? b = some o) → Q [u0, .ref h'.objs.size] { s with heap := h'.push { cls := .type "list", data := .seq us.toArray }, toks := tk }) : wpAny (model prog w) A (unpackItems (.ref t) 2 (some 1)) Q E s := by
  have hlt : t ≠ s.heap.objs.size := by obtain ⟨o, ho, _⟩ := ht; exact Nat.ne_of_lt (Heap.lt_size ho)
  have hsz : (u0 :: us).toArray.size = us.length + 1 := by simp
  unfold unpackItems
  refine wpAny_bind ?_
  unfold notIterableAtAll
  refine wpAny_bind (wpAny_specialOf ht.typeIs slot_tuple_iter.lookup ?_)
  refine wpAny_pure ?_
  simp only [Bool.false_eq_true, if_false]
  refine wpAny_bind (wpAny_holding (iter_tuple ht ?_))
  refine wpAny_bind (wpAny_holding (draw_tuple hlt 1 0 _ _ ⟨_, Heap.get?_push_size _ rfl, rfl, rfl⟩ (ht.push _) (by rw [hsz]; omega) fun h₁ hit₁ hs₁ => ?_))
  have hl₁ : IsTup h₁ t (u0 :: us).toArray := (ht.push _).extBut hs₁.extBut hlt
  rw [Nat.zero_add] at hit₁
  have hit₁' := hit₁
  obtain ⟨oi, hoi, _⟩ := hit₁'
  have hl₁' := hl₁
  obtain ⟨ol, hol, _⟩ := hl₁'
  show wpAny _ _ (if [u0].length < 1 then _ else _) _ _ _
  rw [if_neg (show ¬ [u0].length < 1 from Nat.lt_irrefl 1)]
  refine wpAny_bind (wpAny_holding (PySem.W.kun_collect (s := { s with heap := h₁ }) (T := "tuple_iterator") (.inr (.inr (.inr rfl))) (Walks.tuple (A := A.in1) hh s.heap.objs.size t hlt (u0 :: us).toArray) (fun j u st => st.1.typeIs) (k := 1) (by rw [hsz]; omega) ⟨hit₁, hl₁⟩ (Heap.lt_size hoi) (Heap.lt_size hol) (fun h₂ tk hk => ?_) (by rw [hsz]; exact hz)))
  show wpAny _ _ (if us.length < 0 then _ else _) _ _ _
  rw [if_neg (Nat.not_lt_zero _)]
  show wpAny _ _ (newList (us.take us.length) >>= fun d => pure ([u0] ++ [d] ++ us.drop us.length)) _ _ _
  rw [List.take_length, List.drop_length]
  refine wpAny_bind (wpAny_newList (wpAny_pure ?_) (by omega))
  exact hQ h₂ tk fun b o e => hk b o (Nat.ne_of_lt (Heap.lt_size e)) (hs₁.extBut b o (Nat.ne_of_lt (Heap.lt_size e)) (Heap.get?_push_of_some _ e))
theorem pg_star {X : Cx} {x y : Str} {i j k : Nat} {px py sp pos : Pos} (hc : X.calm = true) (hN : X.N.Nodup) (hi : X.N[i]? = some x) (hj : X.N[j]? = some y) (hx : L2.Loc X.env.scope x) (hy : L2.Loc X.env.scope y)
    (fx : X.fn x = true ∨ X.env.scope.names.lookup x = some .local) (fy : X.fn y = true ∨ X.env.scope.names.lookup y = some .local) : PG X (.Tuple [.Name x px, .Starred (.Name y py) sp] k pos) (gStar X.K i j) := by
  refine ⟨fun pins s σ H v u Q I r hw => ?_⟩
  obtain ⟨a, x0, xs, e1, hq, hw⟩ := hw
  subst e1
  cases r
  obtain ⟨its, rv, ht, hz⟩ := I.tuple hq
  cases rv with
  | cons r0 rr =>
    rename_i u0 us
    have hz1 : us.length + 1 ≤ sizeLine := by
      have h1 : xs.length + 1 ≤ sizeLine := by simpa using hz
      rw [← rr.length]
      exact h1
    rw [assign_Tuple]
    refine wpAny_bind (wpAny_standAt ?_)
    unfold unpack
    show wpAny _ _ (holding [Value.ref a] (unpackItems (.ref a) 2 (some 1)) >>= fun vs => assignInOrder [assign (.Name x px) X.env, assign (.Name y py) X.env] vs) _ _ _
    refine wpAny_bind (wpAny_holding (unpack1 (I.ok.hd hc) ht hz1 fun h' tk hk => ?_))
    have I2 : Inv X pins σ H { s with heap := h', toks := tk } := I.kept (t' := tk) hk
    have hf : H h'.objs.size = none := I2.hok.fresh (Nat.le_refl _)
    have zl : xs.length ≤ sizeLine := by
      have h1 : xs.length + 1 ≤ sizeLine := by simpa using hz
      omega
    have I3 : Inv X pins σ (upd H h'.objs.size (.lst xs)) { s with heap := h'.push { cls := .type "list", data := .seq us.toArray }, toks := tk } := I2.laid (t' := tk) (fun b u e => Heap.get?_push_of_some _ e) (Nat.le_refl _) ⟨zl, us, 0, rr, Heap.get?_push_size _ rfl⟩
    refine assignInOrder_cons (wpAny_assign_Name (store_ok I3 hN hi hx r0 (fun s2 I4 => ?_) fx))
    exact assignInOrder_cons (wpAny_assign_Name (store_ok (v := .ref h'.objs.size) I4 hN hj hy rfl (fun s3 I5 => assignInOrder_nil ⟨_, _, I5, hw _ hf⟩) fy))
/-- a def's call, by its wish -/
theorem run_va {X : Cx} {CX : CXT} {k : Nat} {f : Addr} {sp : Sp} {E : XK} {pins : List (Addr × Obj)} {σ : L2.St} {H : Hp} {s : Shared} {Q : VK} {us : List Value} {vs : List V} (F : FnR X.prog X.w X.K X.mg X.base CX k f sp) (hr : Room k X.A) (hx : PassesAt CX X σ E) (I : Inv X pins σ H s) (r : Vals vs us) (h : sp vs H Q E) :
    wpAny (model X.prog X.w) X.A (call (.ref f) us []) (EP X pins σ Q) X.xe s := by
  refine wpAny_call (codeAny_mono (F X.A X.stack s H us vs Q E hr I.env0 r h) fun r s' hq => ?_)
  cases r with
  | error e => exact hx pins H s e s' I hq
  | ok fl =>
    cases fl with
    | ret u => exact I.after hq
    | next => exact False.elim hq
    | brk => exact False.elim hq
    | cont => exact False.elim hq
end
end PM

set_option maxHeartbeats 4000000
/-! PmJ: expressions keep to the small Python. -/
namespace PM
open PySem PySem.Spec PyProof.Rows L2

theorem Rfs.look {N : En} {ρ : List Addr} {H : Hp} (inj : ∀ i j, N.nm i = N.nm j → i = j) {f : Nat} : ∀ {fs : List (Nat × W)} {xs : List (Str × V)}, Rfs N ρ H fs xs → (∀ w, fs.lookup f = some w → ∃ v, xs.lookup (N.nm f) = some v ∧ Rw N ρ H w v) ∧ (fs.lookup f = none → xs.lookup (N.nm f) = none)
  | [], _, h => by
    have e : _ = [] := h
    rw [e]
    exact ⟨fun _ h => by (simp at h), fun _ => rfl⟩
  | (g, w) :: r, _, h => by
    obtain ⟨v, xs', rfl, h2, h3⟩ := h
    obtain ⟨i1, i2⟩ := h3.look inj (f := f)
    by_cases e : f = g
    · rw [e]
      simp only [List.lookup_cons, beq_self_eq_true]
      exact ⟨fun w' h => ⟨v, rfl, by cases h; exact h2⟩, fun h => by cases h⟩
    · have e1 : (f == g) = false := by simpa using e
      have e2 : (N.nm f == N.nm g) = false := by
        have : N.nm f ≠ N.nm g := fun z => e (inj _ _ z)
        simpa using this
      simp only [List.lookup_cons, e1, e2]
      exact ⟨i1, i2⟩
section
variable {α β γ δ : Type} {N : En} {rel : List Addr → Hp → α → β → Prop} {rel2 : List Addr → Hp → γ → δ → Prop} {Q2 : δ → Hp → Prop} {E E' : XK} {r : R α} {ρ ρ0 : List Addr} {H H0 : Hp}
theorem QG.bind0 {f : α → GH → R γ} (h : QG N rel2 Q2 E (r.bind f) ρ0 H0) (s : Stp ρ0 H0 ρ H) : QG N rel (fun b H1 => ∃ ρ1 a G1, Stp ρ H ρ1 H1 ∧ Rg N ρ1 G1 H1 ∧ rel ρ1 H1 a b ∧ QG N rel2 Q2 E (f a G1) ρ0 H0) E r ρ H := by
  cases r with
  | ok a G' => exact fun ρ2 b H2 s2 g2 x => ⟨ρ2, a, G', s2, g2, x, h⟩
  | exc c dd G' => exact fun ρ2 H2 cls d s2 g2 x y => h ρ2 H2 cls d (s.trans s2) g2 x y
  | bad => exact h
/-- nothing is raised behind nox -/
theorem QG.bindN {β' : Type} {f : α → GH → R β'} {k : β' → GH → R γ} (h : QG N rel2 Q2 E ((r.bind f).nox.bind k) ρ0 H0) (s : Stp ρ0 H0 ρ H) : QG N rel (fun b H1 => ∃ ρ1 a G1, Stp ρ H ρ1 H1 ∧ Rg N ρ1 G1 H1 ∧ rel ρ1 H1 a b ∧ QG N rel2 Q2 E ((f a G1).nox.bind k) ρ0 H0) E' r ρ H := by
  cases r with
  | ok a G' => exact fun ρ2 b H2 s2 g2 x => ⟨ρ2, a, G', s2, g2, x, h⟩
  | exc c dd G' => exact (show False from h).elim
  | bad => exact (show False from h).elim
end
/-! ### slots wiped -/
theorem wipe_at (σ : L2.St) (j : Nat) : ∀ vs : List Nat, (L2.wipe σ vs)[j]? = if j ∈ vs ∧ j < σ.length then some none else σ[j]?
  | [] => by
    rw [if_neg (by simp)]
    rfl
  | v :: vs => by
    unfold L2.wipe
    by_cases e : v = j
    · rw [e]
      by_cases hl : j < σ.length
      · rw [List.getElem?_set_self (by rw [wipe_length]; exact hl), if_pos ⟨List.mem_cons_self, hl⟩]
      · rw [if_neg (fun h => hl h.2), List.getElem?_eq_none (by rw [List.length_set, wipe_length]; omega), List.getElem?_eq_none (by omega)]
    · rw [List.getElem?_set_ne e, wipe_at σ j vs]
      have q : j ∈ v :: vs ↔ j ∈ vs := by
        rw [List.mem_cons]
        simp [Ne.symm e]
      by_cases c : j ∈ vs ∧ j < σ.length
      · rw [if_pos c, if_pos ⟨q.mpr c.1, c.2⟩]
      · rw [if_neg c, if_neg fun z => c ⟨q.mp z.1, z.2⟩]
theorem wipe_set {σ : L2.St} {i : Nat} {x : Option V} {vs : List Nat} (h : i ∈ vs) : L2.wipe (σ.set i x) vs = L2.wipe σ vs := by
  apply List.ext_getElem?
  intro j
  rw [wipe_at, wipe_at, List.length_set]
  by_cases c : j ∈ vs ∧ j < σ.length
  · rw [if_pos c, if_pos c]
  · rw [if_neg c, if_neg c]
    by_cases e : i = j
    · rw [← e] at c ⊢
      have : ¬ i < σ.length := fun z => c ⟨h, z⟩
      rw [List.getElem?_eq_none (by rw [List.length_set]; omega), List.getElem?_eq_none (by omega)]
    · rw [List.getElem?_set_ne e]
mutual
def tgIn (vs : List Nat) : Tg → Prop
  | .v i => i ∈ vs
  | .t ts => tgsIn vs ts
def tgsIn (vs : List Nat) : List Tg → Prop
  | [] => True
  | t :: ts => tgIn vs t ∧ tgsIn vs ts
end
mutual
/-- what a target does to slots -/
theorem gT_ok {N : En} {ρ : List Addr} {G : GH} {H : Hp} (g : Rg N ρ G H) : ∀ (t : Tg) {w : PM.W} {σw σ1 : Sg} {σ : L2.St} {x : V} {Q : L2.St → Hp → Prop}, Rs N ρ H σw σ → Rw N ρ H w x → asgT t w σw = some σ1 →
    (∀ σ', Rs N ρ H σ1 σ' → (∀ vs, tgIn vs t → L2.wipe σ' vs = L2.wipe σ vs) → Q σ' H) → gT N.K t x σ H Q
  | .v i, w, σw, σ1, σ, x, Q, s, r, h, q => by
    cases h
    exact q _ (s.set i r) fun vs hv => wipe_set hv
  | .t ts, w, σw, σ1, σ, x, Q, s, r, h, q => by
    cases w with
    | tup ws =>
      have h2 : asgTs ts ws σw = some σ1 := h
      obtain ⟨a, xs, h3, h4, h5⟩ := r
      refine ⟨a, xs, h3, h4.t, ?_, gTs_ok g ts s h5 h2 q⟩
      rw [← h5.len]
      clear h h3 h4 h5 s q
      induction ts generalizing ws σw with
      | nil =>
        cases ws with
        | nil => rfl
        | cons _ _ => cases h2
      | cons t ts ih =>
        cases ws with
        | nil => cases h2
        | cons w ws =>
          unfold asgTs at h2
          split at h2
          · rw [List.length_cons, List.length_cons, ih _ _ h2]
          · cases h2
    | _ => cases h
theorem gTs_ok {N : En} {ρ : List Addr} {G : GH} {H : Hp} (g : Rg N ρ G H) : ∀ (ts : List Tg) {ws : List PM.W} {σw σ1 : Sg} {σ : L2.St} {xs : List V} {Q : L2.St → Hp → Prop}, Rs N ρ H σw σ → Rws N ρ H ws xs → asgTs ts ws σw = some σ1 →
    (∀ σ', Rs N ρ H σ1 σ' → (∀ vs, tgsIn vs ts → L2.wipe σ' vs = L2.wipe σ vs) → Q σ' H) → gTs N.K ts xs σ H Q
  | [], ws, σw, σ1, σ, xs, Q, s, r, h, q => by
    cases ws with
    | nil =>
      cases h
      exact ⟨r, q _ s fun _ _ => rfl⟩
    | cons _ _ => cases h
  | t :: us, ws, σw, σ1, σ, xs, Q, s, r, h, q => by
    cases ws with
    | nil => cases h
    | cons w ws =>
      obtain ⟨x, xs', e1, e2, e3⟩ := r
      unfold asgTs at h
      split at h
      · rename_i σ2 h1
        exact ⟨x, xs', e1, gT_ok g t s e2 h1 fun σ' s' k => gTs_ok g us s' e3 h fun σ2 s2 k2 => q σ2 s2 fun vs hv => (k2 vs hv.2).trans (k vs hv.1)⟩
      · cases h
end
/-! ### what is walked -/
def Jc (N : En) (ρ : List Addr) (H : Hp) : I1 → Zc → Prop
  | .sq ws, c => ∃ xs, Rws N ρ H ws xs ∧ (match c with
    | .cl a => SqF N.K H a xs
    | .ct a => SqU N.K H a xs
    | .cs x _ => xs = chV x)
  | .live n, c => ∃ a, ρ[n]? = some a ∧ c = .cl a
section
variable {N : En} {ρ ρ' : List Addr} {G : GH} {H H' : Hp}
theorem Jc.stp (g : Rg N ρ G H) (s : Stp ρ H ρ' H') {u : I1} {c : Zc} (h : Jc N ρ H u c) : Jc N ρ' H' u c := by
  cases u with
  | sq ws =>
    obtain ⟨xs, h1, h2⟩ := h
    refine ⟨xs, h1.stp g s ws, ?_⟩
    cases c with
    | cl a =>
      rcases h2 with ⟨o, h2⟩ | h2
      · exact .inl ⟨o, s.keep _ _ h2 (g.ntup h2 fun z => z)⟩
      · exact .inr h2
    | ct a => exact sqU_stp g s h2
    | cs x t => exact h2
  | live n =>
    obtain ⟨a, h1, h2⟩ := h
    exact ⟨a, s.get h1, h2⟩
theorem Jc.stpW (s : StpW ρ H ρ' H') {u : I1} {c : Zc} (h : Jc N ρ H u c) : Jc N ρ' H' u c := by
  cases u with
  | sq ws =>
    obtain ⟨xs, h1, h2⟩ := h
    refine ⟨xs, h1.stpW s ws, ?_⟩
    cases c with
    | cl a => exact sqF_stpW s h2
    | ct a => exact sqU_stpW s h2
    | cs x t => exact h2
  | live n =>
    obtain ⟨a, h1, h2⟩ := h
    exact ⟨a, s.get h1, h2⟩
theorem Jc.at_ (g : Rg N ρ G H) {u : I1} {c : Zc} (h : Jc N ρ H u c) {i : Nat} {o : Option W} (e : u.at G i = some o) : ∃ xs ws, c.q N.K H xs ∧ Rws N ρ H ws xs ∧ o = ws[i]? ∧ u.len G = some ws.length := by
  cases u with
  | sq ws =>
    obtain ⟨xs, h1, h2⟩ := h
    cases e
    refine ⟨xs, ws, ?_, h1, rfl, rfl⟩
    cases c with
    | cl a => exact SqF.l h2
    | ct a => exact SqU.t h2
    | cs x t => exact h2
  | live n =>
    obtain ⟨a, h1, rfl⟩ := h
    have e2 : (match G.get n with
      | some (.lst ws) => some ws[i]?
      | _ => none) = some o := e
    split at e2
    · rename_i ws q
      cases e2
      obtain ⟨b, k1, xs, k2, k3⟩ := g.at_ n _ q
      rw [h1] at k1
      cases k1
      refine ⟨xs, ws, .inl (.inl k2), k3, rfl, ?_⟩
      show (match G.get n with
        | some (.lst ws) => some ws.length
        | _ => none) = _
      rw [q]
    · cases e2
theorem chW_ok (x : Str) : Rws N ρ H (x.cps.toList.map fun c => W.str ⟨#[c]⟩) (chV x) := by
  unfold chV
  induction x.cps.toList with
  | nil => rfl
  | cons c r ih => exact ⟨_, _, rfl, rfl, ih⟩
/-- an iterator over a value -/
theorem ivOf_ok (g : Rg N ρ G H) {w : W} {x : V} {u : I1} (r : Rw N ρ H w x) (e : ivOf G w = some u) :
    (∃ a, x = .ref a ∧ (∃ xs, SqL N.K H a xs) ∧ Jc N ρ H u (.cl a)) ∨ (∃ a, x = .ref a ∧ (∃ xs, SqT N.K H a xs) ∧ Jc N ρ H u (.ct a)) ∨ ∃ z, x = .str z ∧ ∀ t, Jc N ρ H u (.cs z t) := by
  cases w with
  | tup ws =>
    cases e
    obtain ⟨a, xs, h1, h2, h3⟩ := r
    exact .inr (.inl ⟨a, h1, ⟨xs, h2.t⟩, xs, h3, h2⟩)
  | rol ws =>
    cases e
    obtain ⟨a, xs, h1, h2, h3⟩ := r
    exact .inl ⟨a, h1, ⟨xs, h2.l⟩, xs, h3, h2⟩
  | str z =>
    cases e
    exact .inr (.inr ⟨z, r, fun t => ⟨chV z, chW_ok z, rfl⟩⟩)
  | ref n =>
    have e2 : (match G.get n with
      | some (.lst _) => some (I1.live n)
      | _ => none) = some u := e
    split at e2
    · rename_i ws q
      cases e2
      obtain ⟨a, h1, h0, xs, h2, h3⟩ := g.ref r q
      exact .inl ⟨a, h1, ⟨xs, .inl (.inl h2)⟩, a, h0, rfl⟩
    · cases e2
  | _ => cases e
/-- one iterator -/
theorem jr_one (g : Rg N ρ G H) {u : I1} {c : Zc} {J : L2.It} (h : Jc N ρ H u c)
    (hg : ∀ H i xs x, c.q N.K H xs → xs[i]? = some x → J.go i H) (hs : ∀ H i xs, c.q N.K H xs → xs[i]? = none → J.stop i H) (hy : ∀ H i xs v H', c.q N.K H xs → J.yld i H v H' → H' = H ∧ xs[i]? = some v) : JR N ρ H (.one u) J := by
  intro ρ' G' H' i s g'
  have h' := h.stpW s
  show (match u.at G' i with
    | none => True
    | some none => J.stop i H'
    | some (some w) => J.go i H' ∧ ∀ v H'', J.yld i H' v H'' → Stp ρ' H' ρ' H'' ∧ Rg N ρ' G' H'' ∧ Rw N ρ' H'' w v)
  cases e : u.at G' i with
  | none => trivial
  | some o =>
    obtain ⟨xs, ws, h1, h2, h3, _⟩ := h'.at_ g' e
    cases o with
    | none => exact hs _ _ xs h1 (h2.none h3.symm)
    | some w =>
      obtain ⟨x, k1, k2⟩ := h2.get h3.symm
      refine ⟨hg _ _ xs x h1 k1, fun v H'' y => ?_⟩
      obtain ⟨e1, e2⟩ := hy _ _ xs v H'' h1 y
      rw [e1]
      rw [k1] at e2
      cases e2
      exact ⟨Stp.refl _ _, g', k2⟩
theorem jr_list (g : Rg N ρ G H) {u : I1} {a : Addr} (h : Jc N ρ H u (.cl a)) : JR N ρ H (.one u) (Itl N.K a) :=
  jr_one g h (fun H i xs x q e => ⟨xs, x, q, e⟩) (fun H i xs q e => ⟨xs, q, List.getElem?_eq_none_iff.mp e⟩) fun H i xs v H' q y => ⟨y.1, y.2 xs q⟩
theorem jr_tup (g : Rg N ρ G H) {u : I1} {a : Addr} (h : Jc N ρ H u (.ct a)) : JR N ρ H (.one u) (Itt N.K a) :=
  jr_one g h (fun H i xs x q e => ⟨xs, x, q, e⟩) (fun H i xs q e => ⟨xs, q, List.getElem?_eq_none_iff.mp e⟩) fun H i xs v H' q y => ⟨y.1, y.2 xs q⟩
theorem jr_str (g : Rg N ρ G H) {u : I1} {z : Str} {t : Tok} (h : Jc N ρ H u (.cs z t)) : JR N ρ H (.one u) (Its z) := by
  have len : (chV z).length = z.cps.size := by
    unfold chV
    rw [List.length_map, Array.length_toList]
  refine jr_one g h (fun H i xs x q e => ?_) (fun H i xs q e => ?_) fun H i xs v H' q y => ?_
  · rw [show xs = chV z from q] at e
    show i < z.cps.size
    rw [← len]
    exact (List.getElem?_eq_some_iff.mp e).1
  · rw [show xs = chV z from q] at e
    show z.cps.size ≤ i
    rw [← len]
    exact List.getElem?_eq_none_iff.mp e
  · obtain ⟨e1, c, e2, e3⟩ := y
    rw [show xs = chV z from q, e3]
    exact ⟨e1, chV_get e2⟩
theorem jr_rng (lo : Int) (n : Nat) : JR N ρ H (.one (.sq (rngW lo n))) (Itr lo n) := by
  intro ρ' G' H' i s g'
  show (match some (rngW lo n)[i]? with
    | none => True
    | some none => (Itr lo n).stop i H'
    | some (some w) => (Itr lo n).go i H' ∧ ∀ v H'', (Itr lo n).yld i H' v H'' → Stp ρ' H' ρ' H'' ∧ Rg N ρ' G' H'' ∧ Rw N ρ' H'' w v)
  unfold rngW
  rw [List.getElem?_map]
  by_cases hi : i < n
  · rw [List.getElem?_range hi]
    refine ⟨hi, fun v H'' y => ?_⟩
    obtain ⟨e1, e2⟩ := y
    rw [e1, e2]
    exact ⟨Stp.refl _ _, g', rfl⟩
  · rw [List.getElem?_eq_none (by rw [List.length_range]; omega)]
    exact Nat.le_of_not_lt hi
theorem jr_zip (g : Rg N ρ G H) {u u2 : I1} {c c2 : Zc} (h : Jc N ρ H u c) (h2 : Jc N ρ H u2 c2) : JR N ρ H (.zip u u2) (Itz2 N.K c c2) := by
  intro ρ' G' H' i s g'
  have k1 := h.stpW s
  have k2 := h2.stpW s
  have hat : IV.at G' (.zip u u2) i = (match u.at G' i, u2.at G' i with
    | some (some u), some (some v) => some (some (.tup [u, v]))
    | some _, some _ => match u.len G', u2.len G' with
      | some n, some m => if decide (i ≤ n) && decide (i ≤ m) then some none else none
      | _, _ => none
    | _, _ => none) := rfl
  rw [hat]
  have stop : ∀ o1 o2 : Option W, u.at G' i = some o1 → u2.at G' i = some o2 → (o1 = none ∨ o2 = none) → match (match u.len G', u2.len G' with
      | some n, some m => if decide (i ≤ n) && decide (i ≤ m) then some (none : Option W) else none
      | _, _ => none) with
    | none => True
    | some none => (Itz2 N.K c c2).stop i H'
    | some (some w) => (Itz2 N.K c c2).go i H' ∧ ∀ v H'', (Itz2 N.K c c2).yld i H' v H'' → Stp ρ' H' ρ' H'' ∧ Rg N ρ' G' H'' ∧ Rw N ρ' H'' w v := by
    intro o1 o2 e1 e2 hne
    obtain ⟨xs, ws, a1, a2, a3, a4⟩ := k1.at_ g' e1
    obtain ⟨ys, us, b1, b2, b3, b4⟩ := k2.at_ g' e2
    rw [a4, b4]
    show match (if (decide (i ≤ ws.length) && decide (i ≤ us.length)) = true then some (none : Option W) else none) with
      | none => True
      | some none => (Itz2 N.K c c2).stop i H'
      | some (some w) => (Itz2 N.K c c2).go i H' ∧ ∀ v H'', (Itz2 N.K c c2).yld i H' v H'' → Stp ρ' H' ρ' H'' ∧ Rg N ρ' G' H'' ∧ Rw N ρ' H'' w v
    by_cases hle : (decide (i ≤ ws.length) && decide (i ≤ us.length)) = true
    · rw [if_pos hle]
      rw [Bool.and_eq_true] at hle
      have l1 : i ≤ ws.length := of_decide_eq_true hle.1
      have l2 : i ≤ us.length := of_decide_eq_true hle.2
      refine ⟨xs, ys, a1, b1, by rw [← a2.len]; exact l1, by rw [← b2.len]; exact l2, ?_⟩
      rw [← a2.len, ← b2.len]
      rcases hne with z | z
      · rw [z] at a3
        have := List.getElem?_eq_none_iff.mp a3.symm
        exact .inl (by omega)
      · rw [z] at b3
        have := List.getElem?_eq_none_iff.mp b3.symm
        exact .inr (by omega)
    · rw [if_neg hle]
      trivial
  cases e1 : u.at G' i with
  | none => trivial
  | some o1 =>
    cases e2 : u2.at G' i with
    | none => cases o1 <;> trivial
    | some o2 =>
      cases o1 with
      | none => exact stop none o2 e1 e2 (.inl rfl)
      | some x =>
        cases o2 with
        | none => exact stop (some x) none e1 e2 (.inr rfl)
        | some y =>
          obtain ⟨xs, ws, a1, a2, a3, _⟩ := k1.at_ g' e1
          obtain ⟨ys, us, b1, b2, b3, _⟩ := k2.at_ g' e2
          obtain ⟨v1, m1, m2⟩ := a2.get a3.symm
          obtain ⟨v2, m3, m4⟩ := b2.get b3.symm
          refine ⟨⟨xs, ys, v1, v2, a1, b1, m1, m3⟩, fun v H'' yy => ?_⟩
          obtain ⟨T, x', y', rfl, hT, rfl, q1, q2⟩ := yy
          have n1 := q1 xs a1
          have n2 := q2 ys b1
          rw [m1] at n1
          rw [m3] at n2
          cases n1
          cases n2
          have st : Stp ρ' H' ρ' (upd H' T (.tup [v1, v2])) := Stp.laid hT
          exact ⟨st, g'.laid hT, T, [v1, v2], rfl, .inl upd_same, v1, [v2], rfl, m2.stp g' st _, v2, [], rfl, m4.stp g' st _, rfl⟩
end
end PM

set_option maxHeartbeats 4000000
/-! PmK: expressions keep to the small Python: the cases. -/
namespace PM
open PySem PySem.Spec PyProof.Rows L2

theorem QG.bindE {α β γ δ : Type} {N : En} {rel : List Addr → Hp → α → β → Prop} {rel2 : List Addr → Hp → γ → δ → Prop} {Q2 : δ → Hp → Prop} {E : XK} {r : R α} {ρ : List Addr} {H : Hp} {f : α → GH → R γ} (h : QG N rel2 Q2 E (r.bind f) ρ H) :
    QG N rel (fun b H1 => ∃ ρ1 a G1, Stp ρ H ρ1 H1 ∧ Rg N ρ1 G1 H1 ∧ rel ρ1 H1 a b ∧ QG N rel2 Q2 E (f a G1) ρ1 H1 ∧ r = .ok a G1) E r ρ H := by
  cases r with
  | ok a G' => exact fun ρ2 b H2 s2 g2 x => ⟨ρ2, a, G', s2, g2, x, QG.stp h s2, rfl⟩
  | exc c dd G' => exact h
  | bad => exact h
theorem tR_bindE {α β γ δ : Type} {N : En} {rel : List Addr → Hp → α → β → Prop} {rel2 : List Addr → Hp → γ → δ → Prop} {W : WX} {ev : Nat → Sg → GH → R α} {n : Nat} {ρ : List Addr} {H : Hp} {G : GH} {σw : Sg} {σ : L2.St} {Q2 : δ → Hp → Prop} {Q : β → Hp → Prop} {f : α → GH → R γ}
    (g : Rg N ρ G H) (s : Rs N ρ H σw σ) (h : QG N rel2 Q2 (WE W σ) ((ev n σw G).bind f) ρ H)
    (k : ∀ ρ1 a G1 b H1, Stp ρ H ρ1 H1 → Rg N ρ1 G1 H1 → Rs N ρ1 H1 σw σ → rel ρ1 H1 a b → QG N rel2 Q2 (WE W σ) (f a G1) ρ1 H1 → ev n σw G = .ok a G1 → Q b H1) : tR N rel W ev σ H Q :=
  ⟨n, ρ, σw, G, g, s, (QG.bindE h).mono fun b H1 ⟨ρ1, a, G1, s1, g1, r1, h1, e⟩ => k ρ1 a G1 b H1 s1 g1 (s.stp g s1) r1 h1 e⟩
theorem R.bind_eq {α β : Type} {r : R α} {f : α → GH → R β} {b : β} {G' : GH} (h : r.bind f = .ok b G') : ∃ a G1, r = .ok a G1 ∧ f a G1 = .ok b G' := by
  cases r with
  | ok a G1 => exact ⟨a, G1, rfl, h⟩
  | exc _ _ _ => cases h
  | bad => cases h
theorem evEs_len {T : Tb} {d : Nat} {σ : Sg} : ∀ {n : Nat} {es : List E} {G G' : GH} {ws : List W}, evEs T n d es σ G = .ok ws G' → ws.length = es.length
  | 0, _, _, _, _, h => by simp only [evEs] at h; cases h
  | n + 1, [], _, _, _, h => by simp only [evEs] at h; cases h; rfl
  | n + 1, e :: r, G, G', ws, h => by
    simp only [evEs] at h
    obtain ⟨w, G1, h1, h2⟩ := R.bind_eq h
    obtain ⟨us, G2, h3, h4⟩ := R.bind_eq h2
    cases h4
    rw [List.length_cons, List.length_cons, evEs_len h3]
theorem trEs_len {g : Gn} {C : Ct} : ∀ {m : Nat} {es : List Expr} {es' : List E}, trEs g m C es = some es' → es'.length = es.length
  | 0, _, _, h => by simp only [trEs] at h; cases h
  | m + 1, [], _, h => by simp only [trEs] at h; cases h; rfl
  | m + 1, e :: r, es', h => by
    simp only [trEs] at h
    split at h
    · cases h
    · obtain ⟨a, h1, h2⟩ := Option.bind_eq_some_iff.mp h
      obtain ⟨as, h3, h4⟩ := Option.bind_eq_some_iff.mp h2
      cases h4
      rw [List.length_cons, List.length_cons, trEs_len h3]
theorem trK_len {g : Gn} {C : Ct} : ∀ {m : Nat} {es : List Keyword} {es' : List E}, kwAll es = true → trK g m C es = some es' → es'.length = (kwNames es).length
  | 0, _, _, _, h => by simp only [trK] at h; cases h
  | m + 1, [], _, _, h => by simp only [trK] at h; cases h; rfl
  | m + 1, ⟨some x, v, q⟩ :: r, es', hk, h => by
    simp only [trK] at h
    obtain ⟨a, h1, h2⟩ := Option.bind_eq_some_iff.mp h
    obtain ⟨as, h3, h4⟩ := Option.bind_eq_some_iff.mp h2
    cases h4
    show as.length + 1 = (kwNames r).length + 1
    rw [trK_len (es := r) hk h3]
  | m + 1, ⟨none, v, q⟩ :: r, es', hk, h => by cases hk
structure Sd (L : Pg) (m : Nat) : Prop where
  e : ∀ {X C W d e e'}, Bk L X C W d → trE L.g m C e = some e' → PE X e (tE L d W e')
  t : ∀ {X C W d e e'}, Bk L X C W d → isIfE e = false → trE L.g m C e = some e' → PT X e (tT L d W e')
  o : ∀ {X C W d e e'}, Bk L X C W d → trO L.g m C e = some e' → PO X e (tO L d W e')
  b : ∀ {X C W d op es e' pos}, Bk L X C W d → trB L.g m C op es = some e' → PE X (.BoolOp op es pos) (tE L d W e')
  w : ∀ {X C W d op es e' pos}, Bk L X C W d → trB L.g m C op es = some e' → PW X (.BoolOp op es pos) (tT L d W e')
  es : ∀ {X C W d es es'}, Bk L X C W d → trEs L.g m C es = some es' → PA X es (tEs L d W es') ∧ es.any isStar = false
  k : ∀ {X C W d kws es'}, Bk L X C W d → trK L.g m C kws = some es' → PK X kws (tEs L d W es')
  a : ∀ {X C W d es es'}, Bk L X C W d → trA L.g m C es = some es' → PA X es (tA L d W es')
  i : ∀ {X C W d tg it it'}, Bk L X C W d → trI L.g m C tg it = some it' → PI X tg it (tI L d W it')
theorem bd1 {α β : Type} {o : Option α} {f : α → Option β} {b : β} (h : o.bind f = some b) : ∃ a, o = some a ∧ f a = some b := Option.bind_eq_some_iff.mp h
section
variable {L : Pg} {X : Cx} {C : Ct} {W : WX} {d m : Nat}
/-- a fixed value -/
theorem cst_ok {w : PM.W} {v : V} {e : Expr} (h : PE X e (tC v)) (r : ∀ ρ H, Rw L.N ρ H w v) : PE X e (tE L d W (.cst w)) :=
  peI h fun σ H Q q => tE_zero q fun n ρ σw G g s h => by
    simp only [evE] at h
    exact h.done g (r ρ H)
theorem glob_ok (lk : Lk L) (b : Bk L X C W d) {x : Str} {p : Pos} {w : PM.W} (hn : okName x = true) (hg : gloB C.sc x = true) (h : glob L.g x = some w) : PE X (.Name x p) (tE L d W (.cst w)) := by
  obtain ⟨n1, n2, n3⟩ := okName_ok hn
  have gl := b.gl hg
  unfold glob at h
  split at h
  · rename_i f hf
    cases h
    refine cst_ok (v := .ref (L.N.fa f)) (pe_glob gl (by rw [b.mg]; exact (lk.fn x f hf).1) rfl n1) fun ρ H => rfl
  · split at h
    · rename_i c hc
      cases h
      exact cst_ok (v := .ref (L.N.ca c)) (pe_glob gl (by rw [b.mg]; exact lk.cl x c hc) rfl n1) fun ρ H => rfl
    · split at h
      · rename_i w' hc
        cases h
        obtain ⟨v, u, h1, h2, h3⟩ := lk.cst x _ hc
        exact cst_ok (pe_glob gl (by rw [b.mg]; exact h1) h2 n1) h3
      · split at h
        · rename_i hf
          obtain ⟨n, e, rfl⟩ := Option.map_eq_some_iff.mp h
          have hm : X.mg x = none := by rw [b.mg]; exact lk.free x hf
          refine cst_ok (v := .ty n) ⟨fun pins s σ H Q I h => ld_blt I gl hm ?_ ⟨.ty n, H, I, rfl, h⟩ n3 n1⟩ fun ρ H => rfl
          unfold tyName at e
          split at e
          · rename_i z
            cases e
            rw [z]
            decide +kernel
          · split at e
            · rename_i z
              cases e
              rw [z]
              decide +kernel
            · split at e
              · rename_i z
                cases e
                rw [z]
                decide +kernel
              · split at e
                · rename_i z
                  cases e
                  rw [z]
                  decide +kernel
                · split at e
                  · rename_i z
                    cases e
                    rw [z]
                    decide +kernel
                  · cases e
        · cases h
/-- a call of a def -/
theorem call_ok (lk : Lk L) (b : Bk L X C W d) (sd : Sd L m) {x : Str} {p pos : Pos} {es : List Expr} {kws : List Keyword} {f : Nat} {bd : List Bd} {es' ks' : List E} (hn : okName x = true) (hg : gloB C.sc x = true) (hf : L.g.fns.lookup x = some f) (hk : kwAll kws = true)
    (hs : L.g.sh.lookup (f, es.length, kwNames kws) = some bd) (h1 : trEs L.g m C es = some es') (h2 : trK L.g m C kws = some ks') : PE X (.Call (.Name x p) es kws pos) (tE L d W (.call f (es' ++ ks') bd)) := by
  obtain ⟨n1, n2, n3⟩ := okName_ok hn
  obtain ⟨pa, ns⟩ := sd.es b h1
  obtain ⟨gg, gV, kb, bo, hlt⟩ := lk.sh f _ _ bd hs
  refine ⟨fun pins s σ H Q I h => ?_⟩
  refine tE_zero h fun n ρ σw G g sl h => ?_
  simp only [evE] at h
  rw [evEs_append, R.assoc] at h
  refine wpAny_Call_Name_kw (ld_glob I (b.gl hg) (by rw [b.mg]; exact (lk.fn x f hf).1) ?_ n1)
  refine cw_all (t := tEs L d W es') (tk := tEs L d W ks') (Qm := fun vs zs H2 => vs.length = es.length ∧ zs.length = (kwNames kws).length ∧ spF L d f (gV vs zs) H2 Q (WE W σ)) I (by rw [b.k]; exact (lk.fn x f hf).2) ns hk pa (sd.k b h2) ?_ ?_ fun us ws vs zs s2 H2 I2 r1 r2 q => ?_
  · intro e Qt q
    subst e
    have e1 : es' = [] := by
      cases m with
      | zero => simp only [trEs] at h1; cases h1
      | succ m => simp only [trEs] at h1; cases h1; rfl
    subst e1
    obtain ⟨n, ρ, σw, G, g, s, h⟩ := q
    cases n with
    | zero => simp only [evEs] at h; exact h.elim
    | succ n => simp only [evEs] at h; exact h.done g rfl
  · refine tR_bindE (ev := fun n σ G => evEs L.T n d es' σ G) g sl h fun ρ1 ws G1 vs H1 s1 g1 sl1 r1 h3 q1 => ?_
    refine ⟨n - es'.length, ρ1, σw, G1, g1, sl1, ?_⟩
    rw [R.assoc] at h3
    refine (QG.bindE h3).mono fun zs H2 ⟨ρ2, us, G2, s2, g2, r2, h4, q2⟩ => ?_
    have r1' := r1.stp g1 s2 ws
    have h5 : QG L.N (Rw L.N) Q (WE W σ) (match bindA bd (ws ++ us) with
      | some us => evC L.T n d f us G2
      | none => .bad) ρ2 H2 := h4
    split at h5
    · rename_i ts hb
      have l1 : vs.length = es.length := by
        rw [← r1.len, evEs_len q1, trEs_len h1]
      have l2 : zs.length = (kwNames kws).length := by
        rw [← r2.len, evEs_len q2, trK_len hk h2]
      exact ⟨l1, l2, n, ρ2, G2, ts, g2, bo ρ2 H2 (ws ++ us) ts vs zs l1 l2 (r1'.append r2) hb, h5⟩
    · exact h5.elim
  · obtain ⟨l1, l2, q⟩ := q
    exact run_own (b.fnOk (Nat.le_refl _) hlt) b.room (by rw [b.k]; exact kb) (b.pass σ) I2 r1 r2 l1 l2 q

/-- a call of a def that takes the rest -/
theorem callv_ok (lk : Lk L) (b : Bk L X C W d) (sd : Sd L m) {x : Str} {p pos : Pos} {es : List Expr} {f : Nat} {es' : List E} (hn : okName x = true) (hg : gloB C.sc x = true) (hf : L.g.fns.lookup x = some f) (hv : L.g.shv.contains f = true)
    (h1 : trEs L.g m C es = some es') : PE X (.Call (.Name x p) es [] pos) (tE L d W (.call f es' [])) := by
  obtain ⟨n1, n2, n3⟩ := okName_ok hn
  obtain ⟨pa, ns⟩ := sd.es b h1
  refine ⟨fun pins s σ H Q I h => ?_⟩
  refine tE_zero h fun n ρ σw G g sl h => ?_
  simp only [evE] at h
  refine wpAny_Call_Name_kw (ld_glob I (b.gl hg) (by rw [b.mg]; exact (lk.fn x f hf).1) ?_ n1)
  refine cw_all (kws := []) (t := tEs L d W es') (tk := fun _ H Q => Q [] H) (Qm := fun vs zs H2 => spF L d f vs H2 Q (WE W σ)) I (by rw [b.k]; exact (lk.fn x f hf).2) ns rfl pa pk_nil ?_ ?_ fun us ws vs zs s2 H2 I2 r1 r2 q => ?_
  · intro e Qt q
    subst e
    have e1 : es' = [] := by
      cases m with
      | zero => simp only [trEs] at h1; cases h1
      | succ m => simp only [trEs] at h1; cases h1; rfl
    subst e1
    obtain ⟨n, ρ, σw, G, g, s, h⟩ := q
    cases n with
    | zero => simp only [evEs] at h; exact h.elim
    | succ n => simp only [evEs] at h; exact h.done g rfl
  · refine tR_bind (ev := fun n σ G => evEs L.T n d es' σ G) g sl h fun ρ1 ws G1 vs H1 s1 g1 sl1 r1 h3 => ?_
    have h3 : QG L.N (Rw L.N) Q (WE W σ) (match bindA [] ws with
      | some us => evC L.T n d f us G1
      | none => .bad) ρ1 H1 := h3
    exact ⟨n, ρ1, G1, ws, g1, r1, h3⟩
  · exact run_va (b.fnR (lk.shv f hv)) b.room (b.pass σ) I2 r1 q
theorem evC_d0 {T : Tb} {n f : Nat} {us : List PM.W} {G : GH} : evC T n 0 f us G = .bad := by
  cases n <;> simp only [evC]
/-- an instance made -/
theorem mk_ok (lk : Lk L) (b : Bk L X C W d) (sd : Sd L m) {x : Str} {p pos : Pos} {es : List Expr} {kws : List Keyword} {c : Nat} {bd : List Bd} {es' ks' : List E} (hn : okName x = true) (hg : gloB C.sc x = true) (hf : L.g.clss.lookup x = some c) (hk : kwAll kws = true)
    (hs : L.g.shc.lookup (c, es.length, kwNames kws) = some bd) (h1 : trEs L.g m C es = some es') (h2 : trK L.g m C kws = some ks') : PE X (.Call (.Name x p) es kws pos) (tE L d W (.mk c (es' ++ ks') bd)) := by
  obtain ⟨n1, n2, n3⟩ := okName_ok hn
  obtain ⟨pa, ns⟩ := sd.es b h1
  refine ⟨fun pins s σ H Q I h => ?_⟩
  refine tE_zero h fun n ρ σw G g sl h => ?_
  simp only [evE] at h
  cases hi : L.T.ini.lookup c with
  | none => rw [hi] at h; exact h.elim
  | some f =>
    rw [hi] at h
    have h : QC L.N Q (WE W σ) ((evEs L.T n d (es' ++ ks') σw G).bind fun ws G1 => match bindA bd (PM.W.ref G1.sz :: ws) with
        | some us => (evC L.T n (d - 1) f us (G1.push (.ins c []))).bind fun w G2 => if isNon w then R.ok (PM.W.ref G1.sz) G2 else .bad
        | none => .bad) ρ H := h
    obtain ⟨gg, gV, kb, bo⟩ := lk.shc c _ _ bd f hs hi
    obtain ⟨mk, hlt⟩ := lk.mkc c f hi
    rw [evEs_append, R.assoc] at h
    refine wpAny_Call_Name_kw (ld_glob I (b.gl hg) (by rw [b.mg]; exact lk.cl x c hf) ?_ n1)
    refine cw_all (t := tEs L d W es') (tk := tEs L d W ks') (Qm := fun vs zs H2 => 0 < d ∧ vs.length = es.length ∧ zs.length = (kwNames kws).length ∧ ∀ x dx, H2 x = none → H2 dx = none → dx ≠ x →
      spF L (d - 1) f (gV (.ref x :: vs) zs) (upd (upd H2 dx (.own x)) x (.ins (L.N.ca c) dx [])) (fun v H3 => v = .non ∧ Q (.ref x) H3) (WE W σ)) I (by rw [b.k]; exact mk.kp) ns hk pa (sd.k b h2) ?_ ?_ fun us ws vs zs s2 H2 I2 r1 r2 q => ?_
    · intro e Qt q
      subst e
      have e1 : es' = [] := List.eq_nil_of_length_eq_zero (trEs_len h1)
      subst e1
      obtain ⟨n, ρ, σw, G, g, s, h⟩ := q
      cases n with
      | zero => simp only [evEs] at h; exact h.elim
      | succ n => simp only [evEs] at h; exact h.done g rfl
    · refine tR_bindE (ev := fun n σ G => evEs L.T n d es' σ G) g sl h fun ρ1 ws G1 vs H1 s1 g1 sl1 r1 h3 q1 => ?_
      refine ⟨n - es'.length, ρ1, σw, G1, g1, sl1, ?_⟩
      rw [R.assoc] at h3
      refine (QG.bindE h3).mono fun zs H2 ⟨ρ2, us, G2, s2, g2, r2, h4, q2⟩ => ?_
      have r1' := r1.stp g1 s2 ws
      have l1 : vs.length = es.length := by
        rw [← r1.len, evEs_len q1, trEs_len h1]
      have l2 : zs.length = (kwNames kws).length := by
        rw [← r2.len, evEs_len q2, trK_len hk h2]
      have h5 : QG L.N (Rw L.N) Q (WE W σ) (match bindA bd (.ref G2.sz :: (ws ++ us)) with
        | some us => (evC L.T n (d - 1) f us (G2.push (.ins c []))).bind fun w G2' => if isNon w then .ok (.ref G2.sz) G2' else .bad
        | none => .bad) ρ2 H2 := h4
      split at h5
      · rename_i ts hb
        have hd : 0 < d := by
          refine Nat.pos_of_ne_zero fun z => ?_
          rw [z] at h5
          have : ∀ us G', evC L.T n (0 - 1) f us G' = .bad := fun us G' => evC_d0
          rw [this] at h5
          exact h5
        refine ⟨hd, l1, l2, fun a dx ha hdx hne => ?_⟩
        have e1 : (upd H2 dx (.own a)) a = none := by rw [upd_ne (Ne.symm hne)]; exact ha
        have st1 : Stp ρ2 H2 ρ2 (upd H2 dx (.own a)) := Stp.laid hdx
        have g3 := g2.laid (o := .own a) hdx
        have st2 : Stp ρ2 (upd H2 dx (.own a)) (ρ2 ++ [a]) (upd (upd H2 dx (.own a)) a (.ins (L.N.ca c) dx [])) := Stp.push e1
        have st := st1.trans st2
        have g4 : Rg L.N (ρ2 ++ [a]) (G2.push (.ins c [])) (upd (upd H2 dx (.own a)) a (.ins (L.N.ca c) dx [])) := g3.push e1 (show okHO (.ins (L.N.ca c) dx []) from True.intro) ⟨dx, [], upd_same, rfl⟩
        have rr : Rw L.N (ρ2 ++ [a]) (upd (upd H2 dx (.own a)) a (.ins (L.N.ca c) dx [])) (.ref G2.sz) (.ref a) := by
          refine ⟨a, ?_, rfl⟩
          rw [← g2.sz, List.getElem?_append_right (Nat.le_refl _)]
          simp
        refine ⟨n, _, _, ts, g4, bo _ _ (.ref G2.sz :: (ws ++ us)) ts (.ref a :: vs) zs (by rw [List.length_cons, l1]) l2 ⟨_, _, rfl, rr, (r1'.append r2).stp g2 st _⟩ hb, ?_⟩
        refine (QG.bind0 h5 st).mono fun v H3 ⟨ρ3, w, G3, s3, g3', r3, h6⟩ => ?_
        split at h6
        · rename_i hw
          have ev : v = .non := by
            cases w <;> first | exact r3 | cases hw
          refine ⟨ev, h6 ρ3 (.ref a) H3 (st.trans s3) g3' ?_⟩
          obtain ⟨a', k1, k2⟩ := rr
          cases k2
          exact ⟨a, s3.get k1, rfl⟩
        · exact h6.elim
      · exact h5.elim
    · obtain ⟨hd, l1, l2, q⟩ := q
      refine run_mko (by rw [b.k]; exact mk) (b.fnOk (Nat.sub_le _ _) hlt) (by rw [Nat.sub_add_cancel hd]; exact b.room) (by rw [b.k]; exact kb) (b.pass σ) I2 r1 r2 l1 l2 q
/-- o.m(..) -/
theorem met_ok (lk : Lk L) (b : Bk L X C W d) (sd : Sd L m) {o : Expr} {nm : Str} {apos pos : Pos} {es : List Expr} {o' : E} {m' : Nat} {es' : List E} (hl : (apos.endLine == pos.line) = true) (hs : superCall o = false) (hlen : es.length < 20)
    (h1 : trE L.g m C o = some o') (h2 : ixS L.g.nms nm = some m') (h3 : trEs L.g m C es = some es') : PE X (.Call (.Attribute o nm apos) es [] pos) (tE L d W (.met o' m' es')) := by
  obtain ⟨pa, ns⟩ := sd.es b h3
  have po := sd.e b h1
  have hf : methodCallForm (es.length + ([] : List Keyword).length) (backTo pos (starEach es X.env)) (backToKw pos (keywordEach [] X.env)) = true := by
    unfold methodCallForm
    rw [star_all ns]
    show (true && true && decide (es.length + 0 + 0 < 30)) = true
    rw [decide_eq_true (by omega)]
    rfl
  refine ⟨fun pins s σ H Q I h => ?_⟩
  refine tE_zero h fun n ρ σw G g sl h => ?_
  simp only [evE] at h
  rw [mcall_of (attrBase hs) fun ov => mcall_line hf hl]
  have t1 : tE L d W o' σ H fun x H1 => ∃ ρ1 w G1, Stp ρ H ρ1 H1 ∧ Rg L.N ρ1 G1 H1 ∧ Rs L.N ρ1 H1 σw σ ∧ Rw L.N ρ1 H1 w x ∧ QC L.N Q (WE W σ) (match mkOf L.T G1 w m' with
      | some (.b k) => (evEs L.T n d es' σw G1).bind fun ws G2 => ofOG (bmop k w ws G2)
      | some (.f f) => (evEs L.T n d es' σw G1).bind fun ws G2 => evC L.T n d f (w :: ws) G2
      | none => .bad) ρ1 H1 :=
    tR_bind (ev := fun n σ G => evE L.T n d o' σ G) g sl h fun ρ1 w G1 x H1 s1 g1 sl1 r1 h4 => ⟨ρ1, w, G1, s1, g1, sl1, r1, h4⟩
  refine wpAny_bind (thn (po.run pins s σ H _ I t1) fun v s1 ⟨x, H1, I1, rx, ρ1, w, G1, s1', g1, sl1, r1, h4⟩ => ?_)
  refine wpAny_bind (wpAny_standAt ?_)
  split at h4
  · rename_i k hk
    unfold mkOf at hk
    split at hk
    · rename_i t ht
      obtain ⟨k', e1, e2⟩ := Option.map_eq_some_iff.mp hk
      cases e2
      obtain ⟨e2, e3⟩ := lk.bm t m' k e1
      obtain ⟨hT, hd⟩ := tyV_is I1 rx (btOf_ty b.k.symm g1 r1 ht)
      rw [lk.nmE nm m' h2] at e3
      have hcall : wpAny (model X.prog X.w) X.A (callWith pos (.builtin (bmId k)) [v] (backTo pos (starEach es X.env)) (backToKw pos (keywordEach [] X.env))) (EP X pins σ Q) X.xe s1 := by
        have h4' : tEs L d W es' σ H1 fun vs H2 => rmW L.N (fun w ws G => ofOG (bmop k w ws G)) x vs H2 Q :=
          tR_bind (ev := fun n σ G => evEs L.T n d es' σ G) g1 sl1 h4 fun ρ2 ws G2 vs H2 s2 g2 sl2 r2 h5 => ⟨ρ2, G2, w, ws, _, g2, r1.stp g1 s2 _, r2, h5⟩
        cases es with
        | nil =>
          have e1 : es' = [] := List.eq_nil_of_length_eq_zero (trEs_len h3)
          subst e1
          obtain ⟨n, ρ, σw, G, g, s, h⟩ := h4'
          have q : rmW L.N (fun w ws G => ofOG (bmop k w ws G)) x [] H1 Q := by
            cases n with
            | zero => simp only [evEs] at h; exact h.elim
            | succ n => simp only [evEs] at h; exact h.done g rfl
          exact Calls.callWith_builtin rfl (PySem.evalArgs_none (mt_bm b.k.symm k pins s1 σ H1 x [] v [] Q I1 rx .nil q))
        | cons e r =>
          have he : isStar e = false := by
            rw [List.any_cons, Bool.or_eq_false_iff] at ns
            exact ns.1
          have hA := pa.run pos pins s1 σ H1 _ I1 h4'
          have hp := star_no (env := X.env) (pos := pos) ns
          rw [star_cons he] at hA hp ⊢
          refine Calls.callWith_builtin hp (Calls.evalArgs_plain ?_)
          exact thn hA fun us s2 ⟨vs, H2, I2, rv, q⟩ => mt_bm b.k.symm k pins s2 σ H2 x vs v us Q I2 rx rv q
      rw [e3]
      cases k with
      | append =>
        cases e2
        exact wpAny_bind (wpAny_holding (getMethod_builtin hT PySem.F.plainAttrs_list PySem.F.slot_list_append PySem.F.type_list_append hd hcall))
      | clear =>
        cases e2
        exact wpAny_bind (wpAny_holding (getMethod_builtin hT PySem.F.plainAttrs_list PySem.F.slot_list_clear PySem.F.type_list_clear hd hcall))
      | extend =>
        cases e2
        exact wpAny_bind (wpAny_holding (getMethod_builtin hT PySem.F.plainAttrs_list PySem.F.slot_list_extend PySem.F.type_list_extend hd hcall))
      | join =>
        cases e2
        exact wpAny_bind (wpAny_holding (getMethod_builtin hT PySem.F.plainAttrs_str PySem.F.slot_str_join PySem.F.type_str_join hd hcall))
    · split at hk
      · split at hk
        · split at hk <;> cases hk
        · cases hk
      · cases hk
  · rename_i f hk
    unfold mkOf at hk
    split at hk
    · obtain ⟨k', e1, e2⟩ := Option.map_eq_some_iff.mp hk
      cases e2
    · split at hk
      · rename_i a
        split at hk
        · rename_i c fs hG
          split at hk
          · rename_i f' e1 e2
            cases hk
            obtain ⟨ad, rfl, k1, dx, xs, k2, k3⟩ := g1.ref r1 hG
            obtain ⟨c1, c2, c3, hlt⟩ := lk.ms c m' f e2
            rw [lk.nmE nm m' h2] at c2
            have hn : xs.lookup nm = none := by
              have := (k3.look lk.nmI (f := m')).2 e1
              rw [lk.nmE nm m' h2] at this
              exact this
            cases rx
            rw [← b.k] at c1 c2 c3
            refine wpAny_bind (wpAny_holding (getmeth_ok I1 k2 c1 c2 hn ?_))
            have h4' : tEs L d W es' σ H1 fun vs H2 => spF L d f (V.ref ad :: vs) H2 Q (WE W σ) :=
              tR_bind (ev := fun n σ G => evEs L.T n d es' σ G) g1 sl1 h4 fun ρ2 ws G2 vs H2 s2 g2 sl2 r2 h5 => ⟨n, ρ2, G2, (PM.W.ref _) :: ws, g2, ⟨_, _, rfl, r1.stp g1 s2 _, r2⟩, h5⟩
            have fin : ∀ us s2 vs H2, Inv X pins σ H2 s2 → Vals vs us → spF L d f (V.ref ad :: vs) H2 Q (WE W σ) → wpAny (model X.prog X.w) X.A (call (.ref (L.N.fa f)) (.ref ad :: us)) (EP X pins σ Q) X.xe s2 := fun us s2 vs H2 I2 rv q =>
              run_fnSD (us := .ref ad :: us) (vs := .ref ad :: vs) (ds := []) (dvs := []) (b.fnOk (Nat.le_refl _) hlt) b.room c3 .nil (b.pass σ) I2 (.cons rfl rv) (by rw [List.append_nil]; exact q)
            cases es with
            | nil =>
              have e1 : es' = [] := List.eq_nil_of_length_eq_zero (trEs_len h3)
              subst e1
              obtain ⟨n, ρ, σw, G, g, s, h⟩ := h4'
              have q : spF L d f [V.ref ad] H1 Q (WE W σ) := by
                cases n with
                | zero => simp only [evEs] at h; exact h.elim
                | succ n => simp only [evEs] at h; exact h.done g rfl
              exact PySem.W.callWith_K0 (first := [.ref ad]) I1.kIn c2.kp (fin [] s1 [] H1 I1 .nil q)
            | cons e r =>
              have he : isStar e = false := by
                rw [List.any_cons, Bool.or_eq_false_iff] at ns
                exact ns.1
              have hr : r.any isStar = false := by
                rw [List.any_cons, Bool.or_eq_false_iff] at ns
                exact ns.2
              exact PySem.W.callWith_K (first := [.ref ad]) (h₀ := X.base) I.ok.mod.kin c2.kp (thn (pa.run pos pins s1 σ H1 _ I1 h4') fun us s2 ⟨vs, H2, I2, rv, q⟩ => ⟨I2.kIn, fin us s2 vs H2 I2 rv q⟩) (star_cons he) (star_no hr)
          · cases hk
        · cases hk
      · cases hk
  · exact h4.elim
end
end PM

set_option maxHeartbeats 4000000
/-! PmL: expressions keep to the small Python: the rest and the induction. -/
namespace PM
open PySem PySem.Spec PyProof.Rows L2
section
variable {L : Pg} {X : Cx} {C : Ct} {W : WX} {d m : Nat}
theorem blt_ok (lk : Lk L) (b : Bk L X C W d) (sd : Sd L m) {x : Str} {p pos : Pos} {es : List Expr} {f : Bf} {es' : List E} (hn : okName x = true) (hg : gloB C.sc x = true) (hf : L.g.free.contains x = true) (hb : bfName x = some f)
    (h1 : trEs L.g m C es = some es') : PE X (.Call (.Name x p) es [] pos) (tE L d W (.blt f es')) := by
  obtain ⟨n1, n2, n3⟩ := okName_ok hn
  obtain ⟨pa, ns⟩ := sd.es b h1
  have hm : X.mg x = none := by rw [b.mg]; exact lk.free x hf
  cases es with
  | nil =>
    have e1 : es' = [] := List.eq_nil_of_length_eq_zero (trEs_len h1)
    subst e1
    refine ⟨fun pins s σ H Q I h => ?_⟩
    refine tE_zero h fun n ρ σw G g sl h => ?_
    simp only [evE] at h
    cases n with
    | zero => simp only [evEs] at h; exact h.elim
    | succ n =>
      simp only [evEs] at h
      cases f <;> exact (show False from h).elim
  | cons e r =>
    have he : isStar e = false := by
      rw [List.any_cons, Bool.or_eq_false_iff] at ns
      exact ns.1
    have hr : r.any isStar = false := by
      rw [List.any_cons, Bool.or_eq_false_iff] at ns
      exact ns.2
    have cb := call_bf (T := L.T) b.k.symm b.calm lk.isi f
    have imp : ∀ σ H Q, tE L d W (.blt f es') σ H Q → tEs L d W es' σ H fun vs H1 => rcW L.N (fun ws G => ofOG (bfop L.T f ws G)) vs H1 Q := fun σ H Q h =>
      tE_zero h fun n ρ σw G g sl h => by
        simp only [evE] at h
        exact tR_bind (ev := fun n σ G => evEs L.T n d es' σ G) g sl h fun ρ1 ws G1 vs H1 s1 g1 sl1 r1 h2 => ⟨ρ1, G1, ws, _, g1, r1, h2⟩
    have B : ∀ id, bfV f = .builtin id → bootBuiltins x = some (.builtin id) → PE X (.Call (.Name x p) (e :: r) [] pos) (tE L d W (.blt f es')) := fun id e1 e2 => by
      rw [e1] at cb
      exact peI (pe_callB cb (b.gl hg) hm e2 pa n3 n1 (star_cons he) (star_no hr)) imp
    have Ty : ∀ id, bfV f = .type id → bootBuiltins x = some (.type id) → PE X (.Call (.Name x p) (e :: r) [] pos) (tE L d W (.blt f es')) := fun id e1 e2 => by
      rw [e1] at cb
      exact peI (pe_callTy cb (b.gl hg) hm e2 pa n3 n1 (star_cons he) (star_no hr)) imp
    unfold bfName at hb
    split at hb
    · rename_i z; cases hb; exact B "len" rfl (by rw [z]; decide +kernel)
    · split at hb
      · rename_i z; cases hb; exact Ty "int" rfl (by rw [z]; decide +kernel)
      · split at hb
        · rename_i z; cases hb; exact Ty "list" rfl (by rw [z]; decide +kernel)
        · split at hb
          · rename_i z; cases hb; exact Ty "tuple" rfl (by rw [z]; decide +kernel)
          · split at hb
            · rename_i z; cases hb; exact B "isinstance" rfl (by rw [z]; decide +kernel)
            · split at hb
              · rename_i z; cases hb; exact B "all" rfl (by rw [z]; decide +kernel)
              · split at hb
                · rename_i z; cases hb; exact B "any" rfl (by rw [z]; decide +kernel)
                · split at hb
                  · rename_i z; cases hb; exact B "max" rfl (by rw [z]; decide +kernel)
                  · split at hb
                    · rename_i z; cases hb; exact Ty "str" rfl (by rw [z]; decide +kernel)
                    · split at hb
                      · rename_i z; cases hb; exact Ty "bool" rfl (by rw [z]; decide +kernel)
                      · cases hb
/-- max(xs, default=d) -/
def rMaxD (K : PySem.W.Frag) : List V → List V → Hp → VK → Prop := fun vs zs H Q => ∃ (a : Addr) (ns : List Int) (y : V), vs = [V.ref a] ∧ zs = [y] ∧ SqL K H a (ns.map V.int) ∧ (maxI ns = none → Q y H) ∧ ∀ i, maxI ns = some i → Q (.int i) H
theorem dpInts {K : PySem.W.Frag} {H : Hp} : ∀ ns : List Int, DpAll K H (ns.map V.int) (ns.map PyData.int)
  | [] => .nil
  | n :: r => .cons (.int n) (dpInts r)
theorem depthInts : ∀ ns : List Int, PyData.depthAll (ns.map PyData.int) = 0
  | [] => by simp [PyData.depthAll]
  | n :: r => by
    have := depthInts r
    simp [PyData.depthAll, PyData.depth] at this ⊢
    exact this
theorem cr_maxD {X : Cx} (hc : X.calm = true) (hu : X.A.units + 65 < cLine) : CallRK X (.builtin "max") ["default"] (rMaxD X.K) := by
  intro pins s σ H xs zs us ws Q I r1 r2 h
  obtain ⟨a, ns, y, rfl, rfl, hs, q0, q⟩ := h
  obtain ⟨its, rv, hl, _⟩ := I.list hs
  rw [Vals.ref1 r1]
  obtain ⟨w, rfl, rw'⟩ := r2.one
  obtain ⟨as, hr⟩ := Dp.readsAll I _ _ _ (dpInts ns) rv
  show wpAny (model X.prog X.w) X.A (call (.builtin "max") [.ref a] [(Str.ofString "default", w)]) (EP X pins σ Q) X.xe s
  refine PySem.W.max_list_default (I.ok.hd hc) hl.isList (by simpa using hr) ⟨fun x hx z hz => ?_, fun x hx => ?_⟩ (by rw [depthInts]; omega) (fun e h' tk hk => ⟨y, H, I.kept hk, rw', q0 ?_⟩) (fun y0 ys i v h' tk bs e hv hR hk => ?_)
  · obtain ⟨i, _, rfl⟩ := List.mem_map.mp hx
    obtain ⟨j, _, rfl⟩ := List.mem_map.mp hz
    rfl
  · obtain ⟨i, _, rfl⟩ := List.mem_map.mp hx
    exact fun z => nomatch z
  · cases ns with
    | nil => rfl
    | cons _ _ => cases e
  · cases ns with
    | nil => cases e
    | cons n r =>
      obtain ⟨rfl, rfl⟩ : PyData.int n = y0 ∧ r.map PyData.int = ys := by
        rw [List.map_cons] at e
        exact List.cons.inj e
      rw [PySem.W.maxD_ints] at hR
      cases hR with
      | int _ t => exact ⟨.int _, H, I.kept hk, ⟨t, rfl⟩, q _ rfl⟩
theorem maxd_ok (lk : Lk L) (b : Bk L X C W d) {p pos kp : Pos} {a bb : Expr} {a' b' : E} (hg : gloB C.sc "max" = true) (hf : L.g.free.contains "max" = true) (hs : isStar a = false) (pa : PE X a (tE L d W a')) (pb : PE X bb (tE L d W b')) :
    PE X (.Call (.Name "max" p) [a] [⟨some "default", bb, kp⟩] pos) (tE L d W (.maxd a' b')) := by
  have hm : X.mg "max" = none := by rw [b.mg]; exact lk.free _ hf
  refine peI (pe_callBK (ks := ["default"]) (cr_maxD b.calm (roomU b.room)) (b.gl hg) hm (by decide +kernel) (pa_cons pa pa_nil (star_cons hs)) (pk_cons pb pk_nil) (by decide) (by decide) (by rw [star_cons hs]; rfl) (by rw [star_cons hs]; rfl)) fun σ H Q h => tE_zero h fun n ρ σw G g sl h => ?_
  simp only [evE] at h
  refine tR_bind (ev := fun n σ G => evE L.T n d a' σ G) g sl h fun ρ1 wx G1 x H1 s1 g1 sl1 r1 h1 => ?_
  refine tR_bind (ev := fun n σ G => evE L.T n d b' σ G) g1 sl1 h1 fun ρ2 wy G2 y H2 s2 g2 sl2 r2 h2 => ?_
  have h2 : QC L.N Q (WE W σ) (match items G2 wx with
      | some xs => match intsW xs with
        | some ns => .ok (match maxI ns with | some i => .int i | none => wy) G2
        | none => .bad
      | none => .bad) ρ2 H2 := h2
  split at h2
  · rename_i xs e1
    split at h2
    · rename_i ns e2
      obtain ⟨ad, vs, rfl, k2, k3⟩ := items_ok g2 (r1.stp g1 s2 _) e1
      rw [b.k.symm, intsW_ok k3 e2] at k2
      refine ⟨ad, ns, y, rfl, rfl, k2, fun e => ?_, fun i e => ?_⟩
      · rw [e] at h2
        exact QG.done h2 g2 r2
      · rw [e] at h2
        exact QG.done h2 g2 rfl
    · exact (show False from h2).elim
  · exact (show False from h2).elim
/-- o.f -/
theorem att_ok (lk : Lk L) (b : Bk L X C W d) {o : Expr} {f : Str} {pos : Pos} {o' : E} {f' : Nat} (hs : superCall o = false) (po : PE X o (tE L d W o')) (h2 : ixS L.g.nms f = some f') : PE X (.Attribute o f pos) (tE L d W (.att o' f')) := by
  refine peI (pe_fld po (attrBase hs)) fun σ H Q h => tE_zero h fun n ρ σw G g sl h => ?_
  simp only [evE] at h
  refine tR_bind (ev := fun n σ G => evE L.T n d o' σ G) g sl h fun ρ1 w G1 x H1 s1 g1 sl1 r1 h3 => ?_
  split at h3
  · rename_i a
    split at h3
    · rename_i c fs hG
      split at h3
      · rename_i hfl
        obtain ⟨w, e, h4⟩ := QG.ofO h3
        obtain ⟨ad, rfl, k1, dx, xs, k2, k3⟩ := g1.ref r1 hG
        obtain ⟨c1, c2⟩ := lk.fl c f' hfl
        obtain ⟨v, k4, k5⟩ := (k3.look lk.nmI (f := f')).1 w e
        rw [lk.nmE f f' h2] at c2 k4
        rw [b.k]
        exact ⟨ad, _, dx, xs, v, rfl, k2, c1, c2, k4, h4.done g1 k5⟩
      · exact h3.elim
    · exact h3.elim
  · exact h3.elim
/-- an element outside of ours changed: ours stay -/
theorem Rg.other {N : En} {ρ : List Addr} {G : GH} {H : Hp} {D : Addr} {xs ys : List V} (g : Rg N ρ G H) (hD : D ∉ ρ) (e : H D = some (.lst xs)) : Rg N ρ G (upd H D (.lst ys)) ∧ ∀ ws vs, Rws N ρ H ws vs → Rws N ρ (upd H D (.lst ys)) ws vs := by
  have sq : ∀ a zs, SqU N.K H a zs → SqU N.K (upd H D (.lst ys)) a zs := fun a zs h => by
    rcases h with h | h
    · exact .inl (by rw [upd_ne (ne_of h e (fun z => nomatch z))]; exact h)
    · exact .inr h
  have sf : ∀ a zs, SqF N.K H a zs → SqF N.K (upd H D (.lst ys)) a zs := fun a zs h => by
    rcases h with ⟨o, h⟩ | h
    · exact .inl ⟨o, by rw [upd_ne (ne_of h e (fun z => nomatch z))]; exact h⟩
    · exact .inr h
  have all : ∀ n : Nat, (∀ (w : PM.W) (v : V), sizeOf w < n → Rw N ρ H w v → Rw N ρ (upd H D (.lst ys)) w v) ∧ (∀ (ws : List PM.W) (vs : List V), sizeOf ws < n → Rws N ρ H ws vs → Rws N ρ (upd H D (.lst ys)) ws vs) := by
    intro n
    induction n with
    | zero => exact ⟨fun _ _ h => absurd h (Nat.not_lt_zero _), fun _ _ h => absurd h (Nat.not_lt_zero _)⟩
    | succ n ih =>
      refine ⟨fun w v hs h => ?_, fun ws vs hs h => ?_⟩
      · cases w with
        | tup us =>
          obtain ⟨a, zs, h1, h2, h3⟩ := h
          exact ⟨a, zs, h1, sq a zs h2, ih.2 us zs (by simp at hs; omega) h3⟩
        | rol us =>
          obtain ⟨a, zs, h1, h2, h3⟩ := h
          exact ⟨a, zs, h1, sf a zs h2, ih.2 us zs (by simp at hs; omega) h3⟩
        | _ => exact h
      · cases ws with
        | nil => exact h
        | cons w us =>
          obtain ⟨x, zs, h1, h2, h3⟩ := h
          exact ⟨x, zs, h1, ih.1 w x (by simp at hs; omega) h2, ih.2 us zs (by simp at hs; omega) h3⟩
  have rws : ∀ ws vs, Rws N ρ H ws vs → Rws N ρ (upd H D (.lst ys)) ws vs := fun ws vs h => (all (sizeOf ws + 1)).2 ws vs (Nat.lt_succ_self _) h
  have rw1 : ∀ w v, Rw N ρ H w v → Rw N ρ (upd H D (.lst ys)) w v := fun w v h => (all (sizeOf w + 1)).1 w v (Nat.lt_succ_self _) h
  have rfs : ∀ (fs : List (Nat × PM.W)) (xs : List (Str × V)), Rfs N ρ H fs xs → Rfs N ρ (upd H D (.lst ys)) fs xs := by
    intro fs
    induction fs with
    | nil => exact fun _ h => h
    | cons p r ih =>
      intro xs h
      obtain ⟨v, xs', h1, h2, h3⟩ := h
      exact ⟨v, xs', h1, rw1 _ _ h2, ih _ h3⟩
  refine ⟨⟨g.nd, g.sz, fun a m => ?_, fun n o e1 => ?_⟩, rws⟩
  · obtain ⟨o, e2, k⟩ := g.ok a m
    exact ⟨o, by rw [upd_ne (fun z : a = D => hD (z ▸ m))]; exact e2, k⟩
  · obtain ⟨a, h1, h2⟩ := g.at_ n o e1
    have hne : a ≠ D := fun z => hD (z ▸ List.mem_of_getElem? h1)
    refine ⟨a, h1, ?_⟩
    cases o with
    | lst ws =>
      obtain ⟨xs, k1, k2⟩ := h2
      exact ⟨xs, by rw [upd_ne hne]; exact k1, rws _ _ k2⟩
    | ins c fs =>
      obtain ⟨dx, xs, k1, k2⟩ := h2
      exact ⟨dx, xs, by rw [upd_ne hne]; exact k1, rfs _ _ k2⟩
theorem Rws.inv {N : En} {ρ : List Addr} {H : Hp} {w : PM.W} {ws : List PM.W} {vs : List V} (h : Rws N ρ H (w :: ws) vs) : ∃ x xs, vs = x :: xs ∧ Rw N ρ H w x ∧ Rws N ρ H ws xs := h
theorem ownOf_ix {N : List Str} {sc : Scope} {x : Str} {i : Nat} (h : x ∈ (ownOf N sc).map (·.1)) (hi : ixS N x = some i) : i ∈ (ownOf N sc).map (·.2) := by
  obtain ⟨p, hp, rfl⟩ := List.mem_map.mp h
  refine List.mem_map.mpr ⟨p, hp, ?_⟩
  obtain ⟨y, hy, e⟩ := List.mem_filterMap.mp hp
  split at e
  · obtain ⟨j, e1, e2⟩ := Option.map_eq_some_iff.mp e
    rw [← e2] at hi ⊢
    rw [e1] at hi
    cases hi
    rfl
  · cases e
theorem trT_in {C : Ct} {vs : List Nat} (hv : ∀ x ∈ C.st, ∀ i, ixS C.N x = some i → i ∈ vs) : ∀ (n : Nat) (e : Expr) (t : Tg), trT C n e = some t → tgIn vs t
  | 0, _, _, h => by cases h
  | n + 1, e, t, h => by
    unfold trT at h
    split at h
    · rename_i x p
      split at h
      · rename_i hc
        obtain ⟨i, hi, rfl⟩ := Option.map_eq_some_iff.mp h
        rw [Bool.and_eq_true] at hc
        exact hv x (by simpa using hc.1) i hi
      · cases h
    · rename_i ts k p
      split at h
      · cases h
      · obtain ⟨us, hu, rfl⟩ := Option.map_eq_some_iff.mp h
        have all : ∀ (ts : List Expr) (us : List Tg), optAll (trT C n) ts = some us → tgsIn vs us := by
          intro ts
          induction ts with
          | nil =>
            intro us hu
            cases hu
            trivial
          | cons a r ih =>
            intro us hu
            obtain ⟨y, ys', rfl, h1, h2⟩ := optAll_cons hu
            exact ⟨trT_in hv n a y h1, ih ys' h2⟩
        exact all ts us hu
    · cases h
mutual
theorem Rw.grow {N : En} {ρ r : List Addr} {H : Hp} : ∀ (w : PM.W) {v : V}, Rw N ρ H w v → Rw N (ρ ++ r) H w v
  | .non, _, h => h
  | .bl _, _, h => h
  | .int _, _, h => h
  | .str _, _, h => h
  | .ty _, _, h => h
  | .fn _, _, h => h
  | .cls _, _, h => h
  | .ref n, _, h => by
    obtain ⟨a, h1, h2⟩ := h
    obtain ⟨hn, _⟩ := List.getElem?_eq_some_iff.mp h1
    exact ⟨a, by rw [List.getElem?_append_left hn]; exact h1, h2⟩
  | .tup ws, _, h => by
    obtain ⟨a, xs, h1, h2, h3⟩ := h
    exact ⟨a, xs, h1, h2, Rws.grow ws h3⟩
  | .rol ws, _, h => by
    obtain ⟨a, xs, h1, h2, h3⟩ := h
    exact ⟨a, xs, h1, h2, Rws.grow ws h3⟩
theorem Rws.grow {N : En} {ρ r : List Addr} {H : Hp} : ∀ (ws : List PM.W) {vs : List V}, Rws N ρ H ws vs → Rws N (ρ ++ r) H ws vs
  | [], _, h => h
  | w :: ws, _, h => by
    obtain ⟨x, xs, h1, h2, h3⟩ := h
    exact ⟨x, xs, h1, Rw.grow w h2, Rws.grow ws h3⟩
end
theorem Rfs.grow {N : En} {ρ r : List Addr} {H : Hp} : ∀ (fs : List (Nat × PM.W)) {xs : List (Str × V)}, Rfs N ρ H fs xs → Rfs N (ρ ++ r) H fs xs
  | [], _, h => h
  | (f, w) :: fs, _, h => by
    obtain ⟨v, xs', h1, h2, h3⟩ := h
    exact ⟨v, xs', h1, h2.grow w, h3.grow fs⟩
theorem Ro.grow {N : En} {ρ r : List Addr} {H : Hp} {a : Addr} {o : AO} (h : Ro N ρ H a o) : Ro N (ρ ++ r) H a o := by
  cases o with
  | lst ws =>
    obtain ⟨xs, h1, h2⟩ := h
    exact ⟨xs, h1, h2.grow ws⟩
  | ins c fs =>
    obtain ⟨dx, xs, h1, h2⟩ := h
    exact ⟨dx, xs, h1, h2.grow fs⟩
theorem Stp.over {ρ ρ' : List Addr} {H H' : Hp} {D : Addr} {o : HO} (s : Stp ρ H ρ' H') (hD : H D = none) : Stp ρ H ρ' (upd H' D o) := ⟨s.pre, s.new, fun a u e n => by
  rw [upd_ne (ne_of_none e hD)]
  exact s.keep a u e n⟩
section
variable {T : Tb} {n : Nat} {iv : IV} {i : Nat} {tg : Tg} {ifs : List E} {e : E} {σ σ1 : Sg} {vs : List Nat} {acc : List PM.W} {G : GH} {w : PM.W}
theorem evL_bad (h : iv.at G i = none) : evL T (n + 1) d iv i tg ifs e σ vs acc G = .bad := by simp only [evL, h]
theorem evL_end (h : iv.at G i = some none) : evL T (n + 1) d iv i tg ifs e σ vs acc G = .ok acc G := by simp only [evL, h]
theorem evL_asg (h : iv.at G i = some (some w)) (k : asgT tg w σ = none) : evL T (n + 1) d iv i tg ifs e σ vs acc G = .bad := by simp only [evL, h, k]
theorem evL_go0 (h : iv.at G i = some (some w)) (k : asgT tg w σ = some σ1) : evL T (n + 1) d iv i tg [] e σ vs acc G = (evE T n d e σ1 G).bind fun u G1 => if decide (acc.length < sizeLine) then evL T n d iv (i + 1) tg [] e σ vs (acc ++ [u]) G1 else .bad := by
  simp only [evL, h, k]
theorem evL_go1 {c : E} (h : iv.at G i = some (some w)) (k : asgT tg w σ = some σ1) : evL T (n + 1) d iv i tg [c] e σ vs acc G = ((evE T n d c σ1 G).bind fun x G1 => ofO (tru G1 x) G1).bind fun k G1 => if k then (evE T n d e σ1 G1).bind fun u G2 => (if decide (acc.length < sizeLine) then evL T n d iv (i + 1) tg [c] e σ vs (acc ++ [u]) G2 else .bad) else evL T n d iv (i + 1) tg [c] e σ vs acc G1 := by
  simp only [evL, h, k]
  rw [R.assoc]
theorem evL_go2 {c c' : E} {r : List E} (h : iv.at G i = some (some w)) (k : asgT tg w σ = some σ1) : evL T (n + 1) d iv i tg (c :: c' :: r) e σ vs acc G = .bad := by
  simp only [evL, h, k]
end
/-- a comprehension's conditions -/
def tIfs (L : Pg) (d : Nat) : List E → TT
  | [c] => tT L d (fun _ _ _ _ => False) c
  | _ => tYes
theorem lc_ok (b : Bk L X C W d) {tg : Expr} {scope : Scope} {it : PM.It} {tg' : Tg} {ifs' : List E} {e' : E} (h2 : trT (blkCt C scope) m tg = some tg') :
    (∀ σ H Q, tE L d W (.lc ((ownOf C.N scope).map (·.2)) tg' it ifs' e') σ H Q → tLc (tI L d W it) (gT X.K tg') (tIfs L d ifs') (tE L d (fun _ _ _ _ => False) e') ((ownOf C.N scope).map (·.2)) σ H Q) := by
  intro σ H Q h
  refine tE_zero h fun n ρ σw G g sl h => ?_
  simp only [evE] at h
  generalize hvs : (ownOf C.N scope).map (·.2) = vs at *
  have tin : tgIn vs tg' := trT_in (C := blkCt C scope) (vs := vs) (fun x hx i hi => by rw [← hvs]; exact ownOf_ix hx hi) m tg tg' h2
  refine tR_bind (ev := fun n σ G => evI L.T n d it σ G) g sl h fun ρ1 iv G1 J H1 s1 g1 sl1 jr h => ?_
  intro D hD
  have slv : Rs L.N ρ1 H1 (wipeW σw vs) (L2.wipe σ vs) := sl1.wipe vs
  refine ⟨fun i fuel H => ∃ ρ2 G2 acc xs, Stp ρ1 H1 ρ2 H ∧ Rg L.N ρ2 G2 H ∧ D ∉ ρ2 ∧ H D = some (.lst xs) ∧ Rws L.N ρ2 H acc xs ∧
    QG L.N (Rw L.N) Q (WE W σ) ((evL L.T fuel d iv i tg' ifs' e' (wipeW σw vs) vs acc G2).nox.bind fun ws G3 => ofOG (newL G3 ws)) ρ1 H1, ⟨n, ρ1, G1, [], [], Stp.laid hD, g1.laid hD, g1.fresh hD, upd_same, rfl, h⟩, ?_⟩
  rintro i fuel H2 ⟨ρ2, G2, acc, xs, s2, g2, nD, eD, ra, h⟩
  cases fuel with
  | zero => simp only [evL] at h; exact h.elim
  | succ fuel =>
    have jr2 := jr ρ2 G2 H2 i (s2.w g1) g2
    cases hat : iv.at G2 i with
    | none => rw [evL_bad hat] at h; exact h.elim
    | some ow =>
      rw [hat] at jr2
      cases ow with
      | none =>
        refine .inl ⟨jr2, ?_⟩
        rw [evL_end hat] at h
        have h : QG L.N (Rw L.N) Q (WE W σ) (ofOG (newL G2 acc)) ρ1 H1 := h
        obtain ⟨w, G', e, h5⟩ := QG.ofOG h
        unfold newL at e
        split at e
        · cases e
          have st : Stp ρ1 H1 (ρ2 ++ [D]) H2 := by
            refine ⟨?_, fun a ma na => ?_, s2.keep⟩
            · obtain ⟨r, rfl⟩ := s2.pre
              exact ⟨r ++ [D], by rw [List.append_assoc]⟩
            · rcases List.mem_append.mp ma with ma | ma
              · exact s2.new a ma na
              · rw [List.mem_singleton.mp ma]
                exact hD
          refine h5 (ρ2 ++ [D]) (.ref D) H2 st ⟨?_, ?_, fun a ma => ?_, fun k o e => ?_⟩ ⟨D, ?_, rfl⟩
          · rw [List.nodup_append]
            refine ⟨g2.nd, by simp, fun x hx y hy e => ?_⟩
            rw [List.mem_singleton.mp hy] at e
            exact nD (e ▸ hx)
          · rw [List.length_append, g2.sz]
            rfl
          · rcases List.mem_append.mp ma with ma | ma
            · exact g2.ok a ma
            · rw [List.mem_singleton.mp ma]
              exact ⟨_, eD, (show okHO (.lst xs) from True.intro)⟩
          · rw [GH.get_push] at e
            by_cases hk : k = G2.sz
            · rw [if_pos hk] at e
              cases e
              refine ⟨D, ?_, xs, eD, Rws.grow _ ra⟩
              rw [hk, ← g2.sz, List.getElem?_append_right (Nat.le_refl _)]
              simp
            · rw [if_neg hk] at e
              obtain ⟨a, k1, k2⟩ := g2.at_ k o e
              obtain ⟨hn, _⟩ := List.getElem?_eq_some_iff.mp k1
              exact ⟨a, by rw [List.getElem?_append_left hn]; exact k1, Ro.grow k2⟩
          · rw [← g2.sz, List.getElem?_append_right (Nat.le_refl _)]
            simp
        · cases e
      | some w =>
        obtain ⟨hgo, hy⟩ := jr2
        refine .inr ⟨hgo, fun H' => ∃ ρ2 G2 acc xs, Stp ρ1 H1 ρ2 H' ∧ Rg L.N ρ2 G2 H' ∧ D ∉ ρ2 ∧ H' D = some (.lst xs) ∧ Rws L.N ρ2 H' acc xs ∧
          QG L.N (Rw L.N) Q (WE W σ) ((evL L.T fuel d iv (i + 1) tg' ifs' e' (wipeW σw vs) vs acc G2).nox.bind fun ws G3 => ofOG (newL G3 ws)) ρ1 H1, fun H' hn => ⟨fuel, Nat.lt_succ_self _, hn⟩, fun x H3 yy => ?_⟩
        obtain ⟨s3, g3, rx⟩ := hy x H3 yy
        have eD3 : H3 D = some (.lst xs) := s3.keep D _ eD nD
        have ra3 := ra.stp g2 s3 acc
        have slv3 := slv.stp g1 (s2.trans s3)
        cases hasg : asgT tg' w (wipeW σw vs) with
        | none =>
          rw [evL_asg hat hasg] at h
          exact h.elim
        | some σ1 =>
          rw [b.k]
          refine gT_ok g3 tg' slv3 rx hasg fun σ2 sl2 wip => ⟨?_, ?_⟩
          · rw [wip vs tin]
            apply List.ext_getElem?
            intro j
            rw [wipe_at, wipe_length]
            rw [wipe_at]
            by_cases c : j ∈ vs ∧ j < σ.length
            · rw [if_pos c, if_pos c]
            · rw [if_neg c, if_neg c]
          · have s13 := s2.trans s3
            have elem : ∀ (ρ4 : List Addr) (G4 : GH) (H4 : Hp), Stp ρ2 H3 ρ4 H4 → Rg L.N ρ4 G4 H4 →
                QG L.N (Rw L.N) Q (WE W σ) (((evE L.T fuel d e' σ1 G4).bind fun u G1 => if decide (acc.length < sizeLine) then evL L.T fuel d iv (i + 1) tg' ifs' e' (wipeW σw vs) vs (acc ++ [u]) G1 else .bad).nox.bind fun ws G3 => ofOG (newL G3 ws)) ρ1 H1 →
                tE L d (fun _ _ _ _ => False) e' σ2 H4 (fun y H5 => ∃ acc', H5 D = some (.lst acc') ∧ acc'.length < sizeLine ∧ ∃ ρ2 G2 acc xs, Stp ρ1 H1 ρ2 (upd H5 D (.lst (acc' ++ [y]))) ∧ Rg L.N ρ2 G2 (upd H5 D (.lst (acc' ++ [y]))) ∧ D ∉ ρ2 ∧ (upd H5 D (.lst (acc' ++ [y]))) D = some (.lst xs) ∧ Rws L.N ρ2 (upd H5 D (.lst (acc' ++ [y]))) acc xs ∧
                  QG L.N (Rw L.N) Q (WE W σ) ((evL L.T fuel d iv (i + 1) tg' ifs' e' (wipeW σw vs) vs acc G2).nox.bind fun ws G3 => ofOG (newL G3 ws)) ρ1 H1) := by
              intro ρ4 G4 H4 s4 g4 h
              refine ⟨fuel, ρ4, σ1, G4, g4, sl2.stp g3 s4, (QG.bindN h (s13.trans s4)).mono fun y H5 ⟨ρ5, u, G5, s5, g5, r5, h5⟩ => ?_⟩
              have nD4 := s4.out eD3 nD
              have eD4 := s4.keep D _ eD3 nD
              have nD5 := s5.out eD4 nD4
              have eD5 := s5.keep D _ eD4 nD4
              have ra5 := (ra3.stp g3 s4 acc).stp g4 s5 acc
              have st5 := (s13.trans s4).trans s5
              by_cases hlt : decide (acc.length < sizeLine) = true
              · rw [if_pos hlt] at h5
                obtain ⟨o1, o2⟩ := g5.other (ys := xs ++ [y]) nD5 eD5
                exact ⟨xs, eD5, by rw [← ra5.len]; exact of_decide_eq_true hlt, ρ5, G5, acc ++ [u], xs ++ [y], st5.over hD, o1, nD5, upd_same, o2 _ _ (ra5.append (Rws.one r5)), h5⟩
              · rw [if_neg hlt] at h5
                exact h5.elim
            cases ifs' with
            | nil =>
              rw [evL_go0 hat hasg] at h
              exact elem ρ2 G2 H3 (Stp.refl _ _) g3 h
            | cons c r =>
              cases r with
              | nil =>
                rw [evL_go1 hat hasg] at h
                refine ⟨fuel, ρ2, σ1, G2, g3, sl2, (QG.bindN h s13).mono fun k H4 ⟨ρ4, k', G4, s4, g4, r4, h4⟩ => ?_⟩
                rw [← show k' = k from r4]
                cases k' with
                | true => exact elem ρ4 G4 H4 s4 g4 h4
                | false =>
                  have nD4 := s4.out eD3 nD
                  have eD4 := s4.keep D _ eD3 nD
                  exact ⟨ρ4, G4, acc, xs, s13.trans s4, g4, nD4, eD4, ra3.stp g3 s4 acc, h4⟩
              | cons c' r =>
                rw [evL_go2 hat hasg] at h
                exact h.elim
theorem evK_bad {ifs : List E} {tg1 : Tg} {it1 : PM.It} {ifs1 : List E} {T : Tb} {n : Nat} {iv : IV} {i : Nat} {tg : Tg} {e : E} {σ : Sg} {vs : List Nat} {acc : List PM.W} {G : GH} (h : iv.at G i = none) : evK T (n + 1) d iv i tg ifs tg1 it1 ifs1 e σ vs acc G = .bad := by simp only [evK, h]
theorem evK_end {ifs : List E} {tg1 : Tg} {it1 : PM.It} {ifs1 : List E} {T : Tb} {n : Nat} {iv : IV} {i : Nat} {tg : Tg} {e : E} {σ : Sg} {vs : List Nat} {acc : List PM.W} {G : GH} (h : iv.at G i = some none) : evK T (n + 1) d iv i tg ifs tg1 it1 ifs1 e σ vs acc G = .ok acc G := by simp only [evK, h]
theorem evK_asg {ifs : List E} {tg1 : Tg} {it1 : PM.It} {ifs1 : List E} {T : Tb} {n : Nat} {iv : IV} {i : Nat} {tg : Tg} {e : E} {σ : Sg} {vs : List Nat} {acc : List PM.W} {G : GH} {w : PM.W} (h : iv.at G i = some (some w)) (k : asgT tg w σ = none) : evK T (n + 1) d iv i tg ifs tg1 it1 ifs1 e σ vs acc G = .bad := by simp only [evK, h, k]
theorem evK_no {tg1 : Tg} {it1 : PM.It} {ifs1 : List E} {T : Tb} {n : Nat} {iv : IV} {i : Nat} {tg : Tg} {e c : E} {r : List E} {σ σ1 : Sg} {vs : List Nat} {acc : List PM.W} {G : GH} {w : PM.W} (h : iv.at G i = some (some w)) (k : asgT tg w σ = some σ1) : evK T (n + 1) d iv i tg (c :: r) tg1 it1 ifs1 e σ vs acc G = .bad := by simp only [evK, h, k]
theorem evK_go {tg1 : Tg} {it1 : PM.It} {ifs1 : List E} {T : Tb} {n : Nat} {iv : IV} {i : Nat} {tg : Tg} {e : E} {σ σ1 : Sg} {vs : List Nat} {acc : List PM.W} {G : GH} {w : PM.W} (h : iv.at G i = some (some w)) (k : asgT tg w σ = some σ1) : evK T (n + 1) d iv i tg [] tg1 it1 ifs1 e σ vs acc G =
    (evI T n d it1 σ1 G).bind fun iv1 G1 => (evL T n d iv1 0 tg1 ifs1 e (wipeW σ1 vs) vs acc G1).bind fun acc' G2 => evK T n d iv (i + 1) tg [] tg1 it1 ifs1 e σ vs acc' G2 := by simp only [evK, h, k]
mutual
theorem tgIn_self : ∀ (t : Tg) (vs : List Nat), (∀ i ∈ tgIxs t, i ∈ vs) → tgIn vs t
  | .v i, vs, h => h i (by unfold tgIxs; exact List.mem_singleton.mpr rfl)
  | .t ts, vs, h => tgsIn_self ts vs (by unfold tgIxs at h; exact h)
theorem tgsIn_self : ∀ (ts : List Tg) (vs : List Nat), (∀ i ∈ tgsIxs ts, i ∈ vs) → tgsIn vs ts
  | [], _, _ => trivial
  | t :: ts, vs, h => by
    unfold tgsIxs at h
    exact ⟨tgIn_self t vs fun i hi => h i (List.mem_append_left _ hi), tgsIn_self ts vs fun i hi => h i (List.mem_append_right _ hi)⟩
end
theorem wipe_idem {σ : L2.St} {vs : List Nat} : L2.wipe (L2.wipe σ vs) vs = L2.wipe σ vs := by
  apply List.ext_getElem?
  intro j
  rw [wipe_at, wipe_length]
  rw [wipe_at]
  by_cases c : j ∈ vs ∧ j < σ.length
  · rw [if_pos c, if_pos c]
  · rw [if_neg c, if_neg c]
theorem lc_fin {Q : VK} {E : XK} {ρ1 ρ2 : List Addr} {H1 H2 : Hp} {G2 : GH} {D : Addr} {acc : List PM.W} {xs : List V} (hD : H1 D = none) (s2 : Stp ρ1 H1 ρ2 H2) (g2 : Rg L.N ρ2 G2 H2) (nD : D ∉ ρ2) (eD : H2 D = some (.lst xs)) (ra : Rws L.N ρ2 H2 acc xs)
    (h : QG L.N (Rw L.N) Q E (ofOG (newL G2 acc)) ρ1 H1) : Q (.ref D) H2 := by
  obtain ⟨w, G', e, h5⟩ := QG.ofOG h
  unfold newL at e
  split at e
  · cases e
    have st : Stp ρ1 H1 (ρ2 ++ [D]) H2 := by
      refine ⟨?_, fun a ma na => ?_, s2.keep⟩
      · obtain ⟨r, rfl⟩ := s2.pre
        exact ⟨r ++ [D], by rw [List.append_assoc]⟩
      · rcases List.mem_append.mp ma with ma | ma
        · exact s2.new a ma na
        · rw [List.mem_singleton.mp ma]
          exact hD
    refine h5 (ρ2 ++ [D]) (.ref D) H2 st ⟨?_, ?_, fun a ma => ?_, fun k o e => ?_⟩ ⟨D, ?_, rfl⟩
    · rw [List.nodup_append]
      refine ⟨g2.nd, by simp, fun x hx y hy e => ?_⟩
      rw [List.mem_singleton.mp hy] at e
      exact nD (e ▸ hx)
    · rw [List.length_append, g2.sz]
      rfl
    · rcases List.mem_append.mp ma with ma | ma
      · exact g2.ok a ma
      · rw [List.mem_singleton.mp ma]
        exact ⟨_, eD, (show okHO (.lst xs) from True.intro)⟩
    · rw [GH.get_push] at e
      by_cases hk : k = G2.sz
      · rw [if_pos hk] at e
        cases e
        refine ⟨D, ?_, xs, eD, Rws.grow _ ra⟩
        rw [hk, ← g2.sz, List.getElem?_append_right (Nat.le_refl _)]
        simp
      · rw [if_neg hk] at e
        obtain ⟨a, k1, k2⟩ := g2.at_ k o e
        obtain ⟨hn, _⟩ := List.getElem?_eq_some_iff.mp k1
        exact ⟨a, by rw [List.getElem?_append_left hn]; exact k1, Ro.grow k2⟩
    · rw [← g2.sz, List.getElem?_append_right (Nat.le_refl _)]
      simp
  · cases e
theorem lc2_ok (b : Bk L X C W d) {tg : Expr} {scope : Scope} {it it1 : PM.It} {tg' tg1' : Tg} {ifs1 : List E} {e' : E} (h2 : trT (blkCt C scope) m tg = some tg') :
    (∀ σ H Q, tE L d W (.lc2 ((ownOf C.N scope).map (·.2)) tg' it [] (tgIxs tg1') tg1' it1 ifs1 e') σ H Q → tLc2 (tI L d W it) (gT X.K tg') tYes (tI L d (fun _ _ _ _ => False) it1) (gT X.K tg1') (tIfs L d ifs1) (tE L d (fun _ _ _ _ => False) e') ((ownOf C.N scope).map (·.2)) (tgIxs tg1') σ H Q) := by
  intro σ H Q h
  refine tE_zero h fun n ρ σw G g sl h => ?_
  simp only [evE] at h
  generalize hvs : (ownOf C.N scope).map (·.2) = vs at *
  generalize hvs1 : tgIxs tg1' = vs1 at *
  have tin : tgIn vs tg' := trT_in (C := blkCt C scope) (vs := vs) (fun x hx i hi => by rw [← hvs]; exact ownOf_ix hx hi) m tg tg' h2
  have tin1 : tgIn vs1 tg1' := tgIn_self tg1' vs1 fun i hi => by rw [← hvs1]; exact hi
  refine tR_bind (ev := fun n σ G => evI L.T n d it σ G) g sl h fun ρ1 iv G1 J H1 s1 g1 sl1 jr h => ?_
  intro D hD
  have slv : Rs L.N ρ1 H1 (wipeW σw vs) (L2.wipe σ vs) := sl1.wipe vs
  refine ⟨fun i fuel H => ∃ ρ2 G2 acc xs, Stp ρ1 H1 ρ2 H ∧ Rg L.N ρ2 G2 H ∧ D ∉ ρ2 ∧ H D = some (.lst xs) ∧ Rws L.N ρ2 H acc xs ∧
    QG L.N (Rw L.N) Q (WE W σ) ((evK L.T fuel d iv i tg' [] tg1' it1 ifs1 e' (wipeW σw vs) vs1 acc G2).nox.bind fun ws G3 => ofOG (newL G3 ws)) ρ1 H1, ⟨n, ρ1, G1, [], [], Stp.laid hD, g1.laid hD, g1.fresh hD, upd_same, rfl, h⟩, ?_⟩
  rintro i fuel H2 ⟨ρ2, G2, acc, xs, s2, g2, nD, eD, ra, h⟩
  cases fuel with
  | zero => simp only [evK] at h; exact h.elim
  | succ fuel =>
    have jr2 := jr ρ2 G2 H2 i (s2.w g1) g2
    cases hat : iv.at G2 i with
    | none => rw [evK_bad hat] at h; exact h.elim
    | some ow =>
      rw [hat] at jr2
      cases ow with
      | none =>
        rw [evK_end hat] at h
        exact .inl ⟨jr2, lc_fin hD s2 g2 nD eD ra h⟩
      | some w =>
        obtain ⟨hgo, hy⟩ := jr2
        refine .inr ⟨hgo, fun H' => ∃ ρ2 G2 acc xs, Stp ρ1 H1 ρ2 H' ∧ Rg L.N ρ2 G2 H' ∧ D ∉ ρ2 ∧ H' D = some (.lst xs) ∧ Rws L.N ρ2 H' acc xs ∧
          QG L.N (Rw L.N) Q (WE W σ) ((evK L.T fuel d iv (i + 1) tg' [] tg1' it1 ifs1 e' (wipeW σw vs) vs1 acc G2).nox.bind fun ws G3 => ofOG (newL G3 ws)) ρ1 H1, fun H' hn => ⟨fuel, Nat.lt_succ_self _, hn⟩, fun x H3 yy => ?_⟩
        obtain ⟨s3, g3, rx⟩ := hy x H3 yy
        have eD3 : H3 D = some (.lst xs) := s3.keep D _ eD nD
        have ra3 := ra.stp g2 s3 acc
        have slv3 := slv.stp g1 (s2.trans s3)
        cases hasg : asgT tg' w (wipeW σw vs) with
        | none =>
          rw [evK_asg hat hasg] at h
          exact h.elim
        | some σ1 =>
          rw [b.k]
          refine gT_ok g3 tg' slv3 rx hasg fun σ2 sl2 wip => ⟨by rw [wip vs tin]; exact wipe_idem, ?_⟩
          rw [tYes, if_pos rfl]
          rw [evK_go hat hasg] at h
          have s13 := s2.trans s3
          refine ⟨fuel, ρ2, σ1, G2, g3, sl2, (QG.bindN h s13).mono fun J1 H4 ⟨ρ4, iv1, G4, s4, g4, jr1, h4⟩ => ?_⟩
          have nD4 := s4.out eD3 nD
          have eD4 := s4.keep D _ eD3 nD
          have ra4 := ra3.stp g3 s4 acc
          have s14 := s13.trans s4
          have sl4 : Rs L.N ρ4 H4 (wipeW σ1 vs1) (L2.wipe σ2 vs1) := (sl2.stp g3 s4).wipe vs1
          refine ⟨fun j k H => ∃ ρ5 G5 acc xs, Stp ρ1 H1 ρ5 H ∧ StpW ρ4 H4 ρ5 H ∧ Rg L.N ρ5 G5 H ∧ D ∉ ρ5 ∧ H D = some (.lst xs) ∧ Rws L.N ρ5 H acc xs ∧
            QG L.N (Rw L.N) Q (WE W σ) (((evL L.T k d iv1 j tg1' ifs1 e' (wipeW σ1 vs1) vs1 acc G5).bind fun acc' G6 => evK L.T fuel d iv (i + 1) tg' [] tg1' it1 ifs1 e' (wipeW σw vs) vs1 acc' G6).nox.bind fun ws G3 => ofOG (newL G3 ws)) ρ1 H1,
            ⟨fuel, ρ4, G4, acc, xs, s14, StpW.refl, g4, nD4, eD4, ra4, h4⟩, ?_⟩
          rintro j k H5 ⟨ρ5, G5, acc5, xs5, s5, w5, g5, nD5, eD5, ra5, h5⟩
          cases k with
          | zero => simp only [evL] at h5; exact h5.elim
          | succ k =>
            have jr5 := jr1 ρ5 G5 H5 j w5 g5
            cases hat1 : iv1.at G5 j with
            | none => rw [evL_bad hat1] at h5; exact h5.elim
            | some ow1 =>
              rw [hat1] at jr5
              cases ow1 with
              | none =>
                rw [evL_end hat1] at h5
                exact .inl ⟨jr5, ρ5, G5, acc5, xs5, s5, g5, nD5, eD5, ra5, h5⟩
              | some w1 =>
                obtain ⟨hgo1, hy1⟩ := jr5
                refine .inr ⟨hgo1, fun H' => ∃ ρ5 G5 acc xs, Stp ρ1 H1 ρ5 H' ∧ StpW ρ4 H4 ρ5 H' ∧ Rg L.N ρ5 G5 H' ∧ D ∉ ρ5 ∧ H' D = some (.lst xs) ∧ Rws L.N ρ5 H' acc xs ∧
                  QG L.N (Rw L.N) Q (WE W σ) (((evL L.T k d iv1 (j + 1) tg1' ifs1 e' (wipeW σ1 vs1) vs1 acc G5).bind fun acc' G6 => evK L.T fuel d iv (i + 1) tg' [] tg1' it1 ifs1 e' (wipeW σw vs) vs1 acc' G6).nox.bind fun ws G3 => ofOG (newL G3 ws)) ρ1 H1,
                  fun H' hn => ⟨k, Nat.lt_succ_self _, hn⟩, fun x1 H6 yy1 => ?_⟩
                obtain ⟨s6, g6, rx1⟩ := hy1 x1 H6 yy1
                have eD6 : H6 D = some (.lst xs5) := s6.keep D _ eD5 nD5
                have ra6 := ra5.stp g5 s6 acc5
                have w6 := w5.trans (s6.w g5)
                have sl6 := sl4.stpW w6
                cases hasg1 : asgT tg1' w1 (wipeW σ1 vs1) with
                | none =>
                  rw [evL_asg hat1 hasg1] at h5
                  exact h5.elim
                | some σ3w =>
                  refine gT_ok g6 tg1' sl6 rx1 hasg1 fun σ3 sl3 wip1 => ⟨by rw [wip1 vs1 tin1]; exact wipe_idem, ?_⟩
                  have s16 := s5.trans s6
                  have elem : ∀ (ρ7 : List Addr) (G7 : GH) (H7 : Hp), Stp ρ5 H6 ρ7 H7 → Rg L.N ρ7 G7 H7 →
                      QG L.N (Rw L.N) Q (WE W σ) ((((evE L.T k d e' σ3w G7).bind fun u G1 => if decide (acc5.length < sizeLine) then evL L.T k d iv1 (j + 1) tg1' ifs1 e' (wipeW σ1 vs1) vs1 (acc5 ++ [u]) G1 else .bad).bind fun acc' G6 => evK L.T fuel d iv (i + 1) tg' [] tg1' it1 ifs1 e' (wipeW σw vs) vs1 acc' G6).nox.bind fun ws G3 => ofOG (newL G3 ws)) ρ1 H1 →
                      tE L d (fun _ _ _ _ => False) e' σ3 H7 (fun y H8 => ∃ acc', H8 D = some (.lst acc') ∧ acc'.length < sizeLine ∧ ∃ ρ5 G5 acc xs, Stp ρ1 H1 ρ5 (upd H8 D (.lst (acc' ++ [y]))) ∧ StpW ρ4 H4 ρ5 (upd H8 D (.lst (acc' ++ [y]))) ∧ Rg L.N ρ5 G5 (upd H8 D (.lst (acc' ++ [y]))) ∧ D ∉ ρ5 ∧ (upd H8 D (.lst (acc' ++ [y]))) D = some (.lst xs) ∧ Rws L.N ρ5 (upd H8 D (.lst (acc' ++ [y]))) acc xs ∧
                        QG L.N (Rw L.N) Q (WE W σ) (((evL L.T k d iv1 (j + 1) tg1' ifs1 e' (wipeW σ1 vs1) vs1 acc G5).bind fun acc' G6 => evK L.T fuel d iv (i + 1) tg' [] tg1' it1 ifs1 e' (wipeW σw vs) vs1 acc' G6).nox.bind fun ws G3 => ofOG (newL G3 ws)) ρ1 H1) := by
                    intro ρ7 G7 H7 s7 g7 h
                    rw [R.assoc] at h
                    refine ⟨k, ρ7, σ3w, G7, g7, sl3.stp g6 s7, (QG.bindN h (s16.trans s7)).mono fun y H8 ⟨ρ8, u, G8, s8, g8, r8, h8⟩ => ?_⟩
                    have nD7 := s7.out eD6 nD5
                    have eD7 := s7.keep D _ eD6 nD5
                    have nD8 := s8.out eD7 nD7
                    have eD8 := s8.keep D _ eD7 nD7
                    have ra8 := (ra6.stp g6 s7 acc5).stp g7 s8 acc5
                    have st8 := (s16.trans s7).trans s8
                    by_cases hlt : decide (acc5.length < sizeLine) = true
                    · rw [if_pos hlt] at h8
                      obtain ⟨o1, o2⟩ := g8.other (ys := xs5 ++ [y]) nD8 eD8
                      exact ⟨xs5, eD8, by rw [← ra8.len]; exact of_decide_eq_true hlt, ρ8, G8, acc5 ++ [u], xs5 ++ [y], st8.over hD, ((w6.trans (s7.w g6)).trans (s8.w g7)).trans (StpW.lst eD8), o1, nD8, upd_same, o2 _ _ (ra8.append (Rws.one r8)), h8⟩
                    · rw [if_neg hlt] at h8
                      exact h8.elim
                  cases ifs1 with
                  | nil =>
                    rw [evL_go0 hat1 hasg1] at h5
                    exact elem ρ5 G5 H6 (Stp.refl _ _) g6 h5
                  | cons c r =>
                    cases r with
                    | nil =>
                      rw [evL_go1 hat1 hasg1, R.assoc] at h5
                      refine ⟨k, ρ5, σ3w, G5, g6, sl3, (QG.bindN h5 s16).mono fun kk H7 ⟨ρ7, kk', G7, s7, g7, r7, h7⟩ => ?_⟩
                      rw [← show kk' = kk from r7]
                      cases kk' with
                      | true => exact elem ρ7 G7 H7 s7 g7 h7
                      | false =>
                        have nD7 := s7.out eD6 nD5
                        have eD7 := s7.keep D _ eD6 nD5
                        exact ⟨ρ7, G7, acc5, xs5, s16.trans s7, w6.trans (s7.w g6), g7, nD7, eD7, ra6.stp g6 s7 acc5, h7⟩
                    | cons c' r =>
                      rw [evL_go2 hat1 hasg1] at h5
                      exact h5.elim
end
end PM

set_option maxHeartbeats 4000000
/-! PmM: expressions keep to the small Python: the induction. -/
namespace PM
open PySem PySem.Spec PyProof.Rows L2
section
variable {L : Pg} {X : Cx} {C : Ct} {W : WX} {d m : Nat}
theorem sd_zero : Sd L 0 where
  e := fun _ h => by simp only [trE] at h; cases h
  t := fun _ _ h => by simp only [trE] at h; cases h
  o := fun _ h => by simp only [trO] at h; cases h
  b := fun _ h => by simp only [trB] at h; cases h
  w := fun _ h => by simp only [trB] at h; cases h
  es := fun _ h => by simp only [trEs] at h; cases h
  k := fun _ h => by simp only [trK] at h; cases h
  a := fun _ h => by simp only [trA] at h; cases h
  i := fun _ h => by simp only [trI] at h; cases h
theorem plainIx_of {b : Expr} (h : isSlice b = false) : PlainIx b := by
  intro o i
  cases b <;> first | rfl | cases h
theorem qg_bind_ofO {α γ δ : Type} {N : En} {rel2 : List Addr → Hp → γ → δ → Prop} {Q2 : δ → Hp → Prop} {E : XK} {ρ : List Addr} {H : Hp} {G : GH} {o : Option α} {f : α → GH → R γ} (h : QG N rel2 Q2 E ((PM.ofO o G).bind f) ρ H) : ∃ a, o = some a ∧ QG N rel2 Q2 E (f a G) ρ H := by
  cases o with
  | none => exact (show False from h).elim
  | some a => exact ⟨a, rfl, h⟩
theorem lc_pe (sd : Sd L m) (b : Bk L X C W d) {elt tg iter : Expr} {ifs : List Expr} {scope : Scope} {pos : Pos} {it : PM.It} {tg' : Tg} {ifs' : List E} {e' : E} (ok : blkC C.N C.sc scope (ownOf C.N scope) = true) (hset : isSet iter = false)
    (h1 : trI L.g m C tg iter = some it) (h2 : trT (blkCt C scope) m tg = some tg') (h3 : (ifs = [] ∧ ifs' = []) ∨ ∃ c c', ifs = [c] ∧ ifs' = [c'] ∧ isIfE c = false ∧ trE L.g m (blkCt C scope) c = some c') (h4 : trE L.g m (blkCt C scope) elt = some e') :
    (∀ (s : Shared) (H : Hp) (D : Addr) (cl : List (Str × Addr)) (fp : List Addr), PG (X.blk s H scope (compEnvC scope cl D X.env) fp) tg (gT X.K tg')) ∧
    (∀ (s : Shared) (H : Hp) (D : Addr) (cl : List (Str × Addr)) (fp : List Addr), PTs (X.blk s H scope (compEnvC scope cl D X.env) fp) ifs (tIfs L d ifs')) ∧
    (∀ (s : Shared) (H : Hp) (D : Addr) (cl : List (Str × Addr)) (fp : List Addr), PE (X.blk s H scope (compEnvC scope cl D X.env) fp) elt (tE L d (fun _ _ _ _ => False) e')) ∧ (∀ x, foldedSetIterable iter X.env x = pure x) ∧ BlkOk X.N X.env.scope scope (ownOf C.N scope) := by
  refine ⟨fun s H D cl fp => trT_pg (b.blk ok s H D cl fp) m tg tg' h2, fun s H D cl fp => ?_, fun s H D cl fp => sd.e (b.blk ok s H D cl fp) h4, fun x => ?_, ?_⟩
  · rcases h3 with ⟨rfl, rfl⟩ | ⟨c, c', rfl, rfl, hi, h3⟩
    · exact pts_nil
    · exact pts_one (sd.t (b.blk ok s H D cl fp) hi h3)
  · cases iter <;> first | rfl | cases hset
  · rw [b.n, b.sc]
    exact blkOk_by ok
theorem chn_imp (b : Bk L X C W d) {o o2 : CO} {a' b' c' : E} {σ : L2.St} {H : Hp} {Q : VK} (h : tE L d W (.chn o o2 a' b' c') σ H Q) :
    tChain (r2W L.N fun x y G => ofO ((cmpop o x y G).map .bl) G) (r2W L.N fun x y G => ofO ((cmpop o2 x y G).map .bl) G) (tE L d W a') (tE L d W b') (tE L d W c') σ H Q := by
  refine tE_zero h fun n ρ σw G g s h => ?_
  simp only [evE] at h
  refine tR_bind (ev := fun n σ G => evE L.T n d a' σ G) g s h fun ρ1 wx G1 x H1 s1 g1 sl1 r1 h1 => ?_
  refine tR_bind (ev := fun n σ G => evE L.T n d b' σ G) g1 sl1 h1 fun ρ2 wy G2 y H2 s2 g2 sl2 r2 h2 => ?_
  obtain ⟨k, e, h3⟩ := qg_bind_ofO h2
  refine ⟨ρ2, G2, wx, wy, WE W σ, g2, r1.stp g1 s2 _, r2, ?_⟩
  dsimp only
  rw [e]
  show ∀ ρ' v H', Stp ρ2 H2 ρ' H' → Rg L.N ρ' G2 H' → Rw L.N ρ' H' (.bl k) v → _
  intro ρ3 v H3 s3 g3 r3
  refine ⟨k, r3, ?_⟩
  cases k with
  | false =>
    rw [if_neg (by decide)]
    have h3 : QC L.N Q (WE W σ) (.ok (.bl false) G2) ρ2 H2 := h3
    exact (QG.stp h3 s3).done g3 rfl
  | true =>
    rw [if_pos rfl]
    have h3 : QC L.N Q (WE W σ) ((evE L.T n d c' σw G2).bind fun z G3 => ofO ((cmpop o2 wy z G3).map .bl) G3) ρ2 H2 := h3
    refine tR_bind (ev := fun n σ G => evE L.T n d c' σ G) g3 (sl2.stp g2 s3) (QG.stp h3 s3) fun ρ4 wz G4 z H4 s4 g4 sl4 r4 h4 => ?_
    exact ⟨ρ4, G4, wy, wz, _, g4, (r2.stp g2 s3 _).stp g3 s4 _, r4, h4⟩
theorem chn_bl {T : Tb} {n : Nat} {o o2 : CO} {a b c : E} {σ : Sg} {G G' : GH} {x : PM.W} (h : evE T n d (.chn o o2 a b c) σ G = .ok x G') : ∃ k, x = .bl k := by
  cases n with
  | zero => simp only [evE] at h; cases h
  | succ n =>
    simp only [evE] at h
    obtain ⟨x1, G1, _, h⟩ := R.bind_eq h
    obtain ⟨x2, G2, _, h⟩ := R.bind_eq h
    obtain ⟨k, G3, _, h⟩ := R.bind_eq h
    cases k with
    | false =>
      rw [if_neg (by decide)] at h
      cases h
      exact ⟨_, rfl⟩
    | true =>
      rw [if_pos rfl] at h
      obtain ⟨x3, G4, _, h⟩ := R.bind_eq h
      cases e : cmpop o2 x2 x3 G4 with
      | none => rw [e] at h; cases h
      | some k =>
        rw [e] at h
        cases h
        exact ⟨_, rfl⟩
theorem chn_test {o o2 : CO} {a b c : E} {σ : L2.St} {H : Hp} {Q : Bool → Hp → Prop} (h : tT L d W (.chn o o2 a b c) σ H Q) : tE L d W (.chn o o2 a b c) σ H fun x H' => ∃ k, x = .bl k ∧ Q k H' := by
  obtain ⟨n, ρ, σw, G, g, s, h⟩ := h
  refine ⟨n, ρ, σw, G, g, s, ?_⟩
  dsimp only at h ⊢
  cases e : evE L.T n d (.chn o o2 a b c) σw G with
  | ok x G' =>
    obtain ⟨k, rfl⟩ := chn_bl e
    rw [e] at h
    have h : QG L.N Rb Q (WE W σ) (.ok k G') ρ H := h
    exact fun ρ3 v H3 s3 g3 r3 => ⟨k, r3, h ρ3 k H3 s3 g3 rfl⟩
  | exc c dd G' =>
    rw [e] at h
    exact h
  | bad =>
    rw [e] at h
    exact h
theorem lastM {o o2 : CO} {b c : Expr} (h : isSet c = false) : lastMarks [unC o, unC o2] [b, c] = false := by
  show behindInMarks (unC o2) c = false
  cases c <;> first | rfl | cases h
/-- expressions -/
theorem step_e (lk : Lk L) (sd : Sd L m) (b : Bk L X C W d) {e : Expr} {e' : E} (h : trE L.g (m + 1) C e = some e') : PE X e (tE L d W e') := by
  cases e with
  | Constant c k pos =>
    cases c with
    | none => simp only [trE] at h; cases h; exact cst_ok pe_non fun _ _ => rfl
    | bool x => simp only [trE] at h; cases h; exact cst_ok pe_bl fun _ _ => rfl
    | int x => simp only [trE] at h; cases h; exact cst_ok pe_int fun _ _ => rfl
    | str x => simp only [trE] at h; cases h; exact cst_ok pe_str fun _ _ => rfl
    | _ => simp only [trE] at h; cases h
  | Name x pos =>
    simp only [trE] at h
    split at h
    · rename_i hn
      obtain ⟨n1, n2, n3⟩ := okName_ok hn
      split at h
      · rename_i hv
        obtain ⟨i, hi, rfl⟩ := Option.map_eq_some_iff.mp h
        refine peI (pe_var (b.ix hi) (b.vis hv) n1 n2) fun σ H Q h => tE_zero h fun n ρ σw G g s h => ?_
        simp only [evE] at h
        split at h
        · rename_i w e
          obtain ⟨v, e1, r⟩ := s.2 i w e
          exact ⟨v, e1, h.done g r⟩
        · exact h.elim
      · split at h
        · rename_i hg
          obtain ⟨w, hw, rfl⟩ := Option.map_eq_some_iff.mp h
          exact glob_ok lk b hn hg hw
        · cases h
    · cases h
  | BinOp a op c pos =>
    simp only [trE] at h
    obtain ⟨o, ho, h⟩ := bd1 h
    obtain ⟨a', ha, h⟩ := bd1 h
    obtain ⟨c', hc, h⟩ := bd1 h
    cases h
    rw [opB_un ho]
    refine peI (pe_op (op_bin b.k.symm o) (sd.e b ha) (sd.e b hc)) fun σ H Q h => tE_zero h fun n ρ σw G g s h => ?_
    simp only [evE] at h
    refine tR_bind (ev := fun n σ G => evE L.T n d a' σ G) g s h fun ρ1 wx G1 x H1 s1 g1 sl1 r1 h1 => ?_
    refine tR_bind (ev := fun n σ G => evE L.T n d c' σ G) g1 sl1 h1 fun ρ2 wy G2 y H2 s2 g2 sl2 r2 h2 => ?_
    exact ⟨ρ2, G2, wx, wy, _, g2, r1.stp g1 s2 _, r2, h2⟩
  | UnaryOp op a pos =>
    simp only [trE] at h
    cases op with
    | Not =>
      have h : (if isIfE a = true then none else (trE L.g m C a).bind fun a' => some (.not a')) = some e' := h
      split at h
      · cases h
      obtain ⟨a', ha, h⟩ := bd1 h
      cases h
      refine peI (pe_notT (sd.e b ha)) fun σ H Q h => tE_zero h fun n ρ σw G g s h => ?_
      simp only [evE] at h
      refine tR_bind (ev := fun n σ G => evE L.T n d a' σ G) g s h fun ρ1 wx G1 x H1 s1 g1 sl1 r1 h1 => ?_
      obtain ⟨k, e, h2⟩ := qg_bind_ofO h1
      refine ⟨k, ?_, h2.done g1 rfl⟩
      rw [b.k]
      exact tru_V g1 r1 e
    | USub =>
      obtain ⟨a', ha, h⟩ := bd1 h
      cases h
      refine peI (pe_un (op_neg (N := L.N)) (sd.e b ha)) fun σ H Q h => tE_zero h fun n ρ σw G g s h => ?_
      simp only [evE] at h
      refine tR_bind (ev := fun n σ G => evE L.T n d a' σ G) g s h fun ρ1 wx G1 x H1 s1 g1 sl1 r1 h1 => ?_
      exact ⟨ρ1, G1, wx, _, g1, r1, h1⟩
    | _ => cases h
  | BoolOp op vs pos =>
    simp only [trE] at h
    exact sd.b b h
  | IfExp c x y pos =>
    simp only [trE] at h
    split at h
    · cases h
    · rename_i hi
      obtain ⟨c', hc, h⟩ := bd1 h
      obtain ⟨x', hx, h⟩ := bd1 h
      obtain ⟨y', hy, h⟩ := bd1 h
      cases h
      refine peI (pe_ifExp (sd.t b (by simpa using hi) hc) (sd.e b hx) (sd.e b hy)) fun σ H Q h => tE_zero h fun n ρ σw G g s h => ?_
      simp only [evE] at h
      rw [← R.assoc] at h
      refine tR_bind (ev := fun n σ G => (evE L.T n d c' σ G).bind fun x G1 => ofO (tru G1 x) G1) g s h fun ρ1 k G1 k' H1 s1 g1 sl1 r1 h1 => ?_
      rw [← show k = k' from r1]
      cases k with
      | true => exact ⟨n, ρ1, σw, G1, g1, sl1, h1⟩
      | false => exact ⟨n, ρ1, σw, G1, g1, sl1, h1⟩
  | Compare a ops bs pos =>
    simp only [trE] at h
    split at h
    · rename_i op c
      split at h
      · cases h
      · rename_i hset
        obtain ⟨o, ho, h⟩ := bd1 h
        obtain ⟨a', ha, h⟩ := bd1 h
        obtain ⟨c', hc, h⟩ := bd1 h
        cases h
        rw [opC_un ho]
        have hm : behindInMarks (unC o) c = false := by
          cases c <;> first | rfl | (exact absurd rfl hset)
        refine peI (pe_cmpR (op_cmp b.k.symm (roomU b.room) o) (sd.e b ha) (sd.e b hc) hm) fun σ H Q h => tE_zero h fun n ρ σw G g s h => ?_
        simp only [evE] at h
        refine tR_bind (ev := fun n σ G => evE L.T n d a' σ G) g s h fun ρ1 wx G1 x H1 s1 g1 sl1 r1 h1 => ?_
        refine tR_bind (ev := fun n σ G => evE L.T n d c' σ G) g1 sl1 h1 fun ρ2 wy G2 y H2 s2 g2 sl2 r2 h2 => ?_
        exact ⟨ρ2, G2, wx, wy, _, g2, r1.stp g1 s2 _, r2, h2⟩
    · rename_i op op2 bb c
      split at h
      · cases h
      · rename_i hset
        obtain ⟨o, ho, h⟩ := bd1 h
        obtain ⟨o2, ho2, h⟩ := bd1 h
        obtain ⟨a', ha, h⟩ := bd1 h
        obtain ⟨b', hb, h⟩ := bd1 h
        obtain ⟨c', hc, h⟩ := bd1 h
        cases h
        rw [opC_un ho, opC_un ho2]
        exact peI (pe_chain (op_cmp b.k.symm (roomU b.room) o) (op_cmp b.k.symm (roomU b.room) o2) (sd.e b ha) (sd.e b hb) (sd.e b hc) (lastM (by simpa using hset))) fun σ H Q h => chn_imp b h
    · cases h
  | Tuple es k pos =>
    simp only [trE] at h
    obtain ⟨es', h1, h⟩ := bd1 h
    cases h
    refine peI (pe_tup (sd.a b h1)) fun σ H Q h => tE_zero h fun n ρ σw G g s h => ?_
    simp only [evE] at h
    refine tR_bind (ev := fun n σ G => evA L.T n d es' σ G) g s h fun ρ1 ws G1 vs H1 s1 g1 sl1 r1 h2 => ?_
    split at h2
    · rename_i hz
      exact ⟨by rw [← r1.len]; exact szOk_le hz, fun p hp => new_tup g1 h2 r1 hp⟩
    · exact h2.elim
  | List es pos =>
    simp only [trE] at h
    obtain ⟨es', h1, h⟩ := bd1 h
    cases h
    refine peI (pe_lst (sd.a b h1)) fun σ H Q h => tE_zero h fun n ρ σw G g s h => ?_
    simp only [evE] at h
    refine tR_bind (ev := fun n σ G => evA L.T n d es' σ G) g s h fun ρ1 ws G1 vs H1 s1 g1 sl1 r1 h2 => ?_
    obtain ⟨w, G', e, _⟩ := QG.ofOG h2
    exact ⟨by rw [← r1.len]; exact newL_sz e, fun p hp => new_lst g1 h2 r1 hp⟩
  | Subscript a i pos =>
    have two : isSlice i = false → (trE L.g m C a).bind (fun a' => (trE L.g m C i).bind fun i' => some (.ix a' i')) = some e' → PE X (.Subscript a i pos) (tE L d W e') := by
      intro hi h
      obtain ⟨a', ha, h⟩ := bd1 h
      obtain ⟨i', hi', h⟩ := bd1 h
      cases h
      refine peI (pe_ix (op_ix b.k.symm) (sd.e b ha) (sd.e b hi') (plainIx_of hi)) fun σ H Q h => tE_zero h fun n ρ σw G g s h => ?_
      simp only [evE] at h
      refine tR_bind (ev := fun n σ G => evE L.T n d a' σ G) g s h fun ρ1 wx G1 x H1 s1 g1 sl1 r1 h1 => ?_
      refine tR_bind (ev := fun n σ G => evE L.T n d i' σ G) g1 sl1 h1 fun ρ2 wy G2 y H2 s2 g2 sl2 r2 h2 => ?_
      exact ⟨ρ2, G2, wx, wy, _, g2, r1.stp g1 s2 _, r2, h2⟩
    cases i with
    | Slice lo hi st p2 =>
      cases st with
      | none =>
        simp only [trE] at h
        obtain ⟨a', ha, h⟩ := bd1 h
        obtain ⟨lo', hlo, h⟩ := bd1 h
        obtain ⟨hi', hhi, h⟩ := bd1 h
        cases h
        refine peI (pe_slice (op_sl b.k.symm) (sd.e b ha) (sd.o b hlo) (sd.o b hhi)) fun σ H Q h => tE_zero h fun n ρ σw G g s h => ?_
        simp only [evE] at h
        refine tR_bind (ev := fun n σ G => evE L.T n d a' σ G) g s h fun ρ1 wx G1 x H1 s1 g1 sl1 r1 h1 => ?_
        refine tR_bind (ev := fun n σ G => (evE L.T n d lo' σ G).bind fun x G1 => ofO (optI x) G1) g1 sl1 h1 fun ρ2 l G2 l' H2 s2 g2 sl2 r2 h2 => ?_
        refine tR_bind (ev := fun n σ G => (evE L.T n d hi' σ G).bind fun x G1 => ofO (optI x) G1) g2 sl2 h2 fun ρ3 u G3 u' H3 s3 g3 sl3 r3 h3 => ?_
        rw [← show l = l' from r2, ← show u = u' from r3]
        exact ⟨ρ3, G3, wx, _, g3, (r1.stp g1 s2 _).stp g2 s3 _, h3⟩
      | some st => simp [trE, isSlice] at h
    | _ =>
      simp only [trE, isSlice, Bool.false_eq_true, if_false] at h
      exact two rfl h
  | Attribute o f pos =>
    simp only [trE] at h
    split at h
    · cases h
    · rename_i hs
      obtain ⟨o', ho, h⟩ := bd1 h
      obtain ⟨f', hf, h⟩ := bd1 h
      cases h
      exact att_ok lk b (by simpa using hs) (sd.e b ho) hf
  | Call fe es kws pos =>
    cases fe with
    | Name x p =>
      simp only [trE] at h
      split at h
      · rename_i hng
        rw [Bool.and_eq_true] at hng
        split at h
        · rename_i f hf
          split at h
          · rename_i hv
            rw [Bool.and_eq_true] at hv
            obtain ⟨es', h1, h⟩ := bd1 h
            cases h
            have : kws = [] := List.isEmpty_iff.mp hv.2
            subst this
            exact callv_ok lk b sd hng.1 hng.2 hf hv.1 h1
          split at h
          · rename_i hk
            obtain ⟨bd, hs, h⟩ := bd1 h
            obtain ⟨es', h1, h⟩ := bd1 h
            obtain ⟨ks', h2, h⟩ := bd1 h
            cases h
            exact call_ok lk b sd hng.1 hng.2 hf hk hs h1 h2
          · cases h
        · split at h
          · rename_i c hc
            split at h
            · rename_i hk
              obtain ⟨bd, hs, h⟩ := bd1 h
              obtain ⟨es', h1, h⟩ := bd1 h
              obtain ⟨ks', h2, h⟩ := bd1 h
              cases h
              exact mk_ok lk b sd hng.1 hng.2 hc hk hs h1 h2
            · cases h
          · split at h
            · rename_i hf
              rw [Bool.and_eq_true, Bool.and_eq_true] at hf
              obtain ⟨hf1, hx, hk⟩ := hf
              have hx : x = "max" := of_decide_eq_true hx
              subst hx
              split at h
              · rename_i a _ nm bb kp
                split at h
                · cases h
                · rename_i hst
                  obtain ⟨a', ha, h⟩ := bd1 h
                  obtain ⟨b', hb, h⟩ := bd1 h
                  cases h
                  have : nm = some "default" := by
                    cases nm with
                    | none => cases hk
                    | some y => exact congrArg some (of_decide_eq_true hk)
                  subst this
                  exact maxd_ok lk b hng.2 hf1 (by simpa using hst) (sd.e b ha) (sd.e b hb)
              · cases h
            split at h
            · rename_i hf
              rw [Bool.and_eq_true] at hf
              obtain ⟨f, hb, h⟩ := bd1 h
              obtain ⟨es', h1, h⟩ := bd1 h
              cases h
              have : kws = [] := List.isEmpty_iff.mp hf.2
              subst this
              exact blt_ok lk b sd hng.1 hng.2 hf.1 hb h1
            · cases h
      · cases h
    | Attribute o nm apos =>
      simp only [trE] at h
      split at h
      · rename_i hc
        rw [Bool.and_eq_true, Bool.and_eq_true, Bool.and_eq_true] at hc
        obtain ⟨o', ho, h⟩ := bd1 h
        obtain ⟨m', hm, h⟩ := bd1 h
        obtain ⟨es', h1, h⟩ := bd1 h
        cases h
        have : kws = [] := List.isEmpty_iff.mp hc.1
        subst this
        exact met_ok lk b sd hc.2.1 (by simpa using hc.2.2.1) (of_decide_eq_true hc.2.2.2) ho hm h1
      · cases h
    | _ => simp only [trE] at h; cases h
  | ListComp elt gens scope pos =>
    simp only [trE] at h
    split at h
    · rename_i tg iter ifs
      split at h
      · rename_i hc
        rw [Bool.and_eq_true] at hc
        obtain ⟨it, h1, h⟩ := bd1 h
        obtain ⟨tg', h2, h⟩ := bd1 h
        obtain ⟨ifs', h3, h⟩ := bd1 h
        obtain ⟨e1, h4, h⟩ := bd1 h
        cases h
        have hset : isSet iter = false := by simpa using hc.2
        have h3' : (ifs = [] ∧ ifs' = []) ∨ ∃ c c', ifs = [c] ∧ ifs' = [c'] ∧ isIfE c = false ∧ trE L.g m (blkCt C scope) c = some c' := by
          clear h h1 h2 h4
          cases ifs with
          | nil =>
            cases h3
            exact .inl ⟨rfl, rfl⟩
          | cons c r =>
            cases r with
            | nil =>
              have h3 : (if isIfE c = true then none else (trE L.g m (blkCt C scope) c).map fun x => [x]) = some ifs' := h3
              split at h3
              · cases h3
              · rename_i hi
                obtain ⟨c', e1, rfl⟩ := Option.map_eq_some_iff.mp h3
                exact .inr ⟨c, c', rfl, rfl, by simpa using hi, e1⟩
            | cons _ _ => cases h3
        obtain ⟨p1, p2, p3, p4, p5⟩ := lc_pe (pos := pos) sd b hc.1 hset h1 h2 h3' h4
        exact peI (pe_lc b.calm b.nd (sd.i b h1) p5 p1 p2 p3 p4) (lc_ok b h2)
      · cases h
    · rename_i tg iter tg1 iter1 ifs1
      split at h
      · rename_i hc
        rw [Bool.and_eq_true, Bool.and_eq_true] at hc
        obtain ⟨it, h1, h⟩ := bd1 h
        obtain ⟨tg', h2, h⟩ := bd1 h
        obtain ⟨it1, h3, h⟩ := bd1 h
        obtain ⟨tg1', h4, h⟩ := bd1 h
        obtain ⟨ifs', h5, h⟩ := bd1 h
        obtain ⟨e1, h6, h⟩ := bd1 h
        split at h
        · rename_i hin
          cases h
          have hset : isSet iter = false := by simpa using hc.2.1
          have hset1 : isSet iter1 = false := by simpa using hc.2.2
          have bk : ∀ (s : Shared) (H : Hp) (D : Addr) (cl : List (Str × Addr)) (fp : List Addr), _ := fun s H D cl fp => b.blk hc.1 s H D cl fp
          have pts : ∀ (s : Shared) (H : Hp) (D : Addr) (cl : List (Str × Addr)) (fp : List Addr), PTs (X.blk s H scope (compEnvC scope cl D X.env) fp) ifs1 (tIfs L d ifs') := fun s H D cl fp => by
            cases ifs1 with
            | nil =>
              cases h5
              exact pts_nil
            | cons c r =>
              cases r with
              | nil =>
                have h5 : (if isIfE c = true then none else (trE L.g m (blkCt C scope) c).map fun x => [x]) = some ifs' := h5
                split at h5
                · cases h5
                · rename_i hi
                  obtain ⟨c', e2, rfl⟩ := Option.map_eq_some_iff.mp h5
                  exact pts_one (sd.t (bk s H D cl fp) (by simpa using hi) e2)
              | cons _ _ => cases h5
          refine peI (pe_lc2 b.calm b.nd (sd.i b h1) (by rw [b.n, b.sc]; exact blkOk_by hc.1) (fun i hi => ?_) (fun s H D cl fp => trT_pg (bk s H D cl fp) m tg tg' h2) (fun _ _ _ _ _ => pts_nil) (fun s H D cl fp => sd.i (bk s H D cl fp) h3) (fun s H D cl fp => trT_pg (bk s H D cl fp) m tg1 tg1' h4) pts
            (fun s H D cl fp => sd.e (bk s H D cl fp) h6) (fun x => ?_) fun env x => ?_) (lc2_ok b h2)
          · exact List.contains_iff_mem.mp (List.all_eq_true.mp hin i hi)
          · cases iter <;> first | rfl | cases hset
          · cases iter1 <;> first | rfl | cases hset1
        · cases h
      · cases h
    · cases h
  | _ => simp only [trE] at h; cases h

/-- tests -/
theorem step_t (lk : Lk L) (sd : Sd L m) (b : Bk L X C W d) {e : Expr} {e' : E} (hi : isIfE e = false) (h : trE L.g (m + 1) C e = some e') : PT X e (tT L d W e') := by
  by_cases hp : plainT e = true
  · exact pt_of b hp (step_e lk sd b h)
  · cases e with
    | UnaryOp op a pos =>
      cases op with
      | Not =>
        simp only [trE] at h
        have h : (if isIfE a = true then none else (trE L.g m C a).bind fun a' => some (.not a')) = some e' := h
        split at h
        · cases h
        rename_i hia
        obtain ⟨a', ha, h⟩ := bd1 h
        cases h
        refine ptI (pt_not (sd.t b (by simpa using hia) ha)) fun σ H Q ⟨n, ρ, σw, G, g, s, h⟩ => ?_
        cases n with
        | zero => simp only [evE] at h; exact (show False from h).elim
        | succ n =>
          simp only [evE] at h
          rw [R.assoc] at h
          have h' : QG L.N Rb Q (WE W σ) (((evE L.T n d a' σw G).bind fun x G1 => PM.ofO (tru G1 x) G1).bind fun k G1 => .ok (!k) G1) ρ H := by
            rw [R.assoc]
            have e : ∀ (x : PM.W) (G1 : GH), ((PM.ofO (tru G1 x) G1).bind fun k G1 => (R.ok (PM.W.bl (!k)) G1)).bind (fun x G1 => PM.ofO (tru G1 x) G1) = (PM.ofO (tru G1 x) G1).bind fun k G1 => .ok (!k) G1 := fun x G1 => by
              cases tru G1 x <;> rfl
            simp only [e] at h
            exact h
          refine tR_bind (ev := fun n σ G => (evE L.T n d a' σ G).bind fun x G1 => ofO (tru G1 x) G1) g s h' fun ρ1 k G1 k' H1 s1 g1 sl1 r1 h1 => ?_
          rw [← show k = k' from r1]
          exact h1.done g1 rfl
      | _ => exact absurd rfl hp
    | BoolOp op vs pos =>
      simp only [trE] at h
      exact (sd.w b h).pt
    | IfExp _ _ _ _ => cases hi
    | Compare a ops bs pos =>
      simp only [trE] at h
      split at h
      · rename_i op c
        split at h
        · cases h
        · rename_i hset
          obtain ⟨o, ho, h⟩ := bd1 h
          obtain ⟨a', ha, h⟩ := bd1 h
          obtain ⟨c', hc, h⟩ := bd1 h
          cases h
          rw [opC_un ho]
          have hm : behindInMarks (unC o) c = false := by
            cases c <;> first | rfl | (exact absurd rfl hset)
          refine ptI (pt_cmpR (op_cmp b.k.symm (roomU b.room) o) (sd.e b ha) (sd.e b hc) hm) fun σ H Q ⟨n, ρ, σw, G, g, s, h⟩ => ?_
          cases n with
          | zero => simp only [evE] at h; exact (show False from h).elim
          | succ n =>
            simp only [evE] at h
            rw [R.assoc] at h
            refine tR_bind (ev := fun n σ G => evE L.T n d a' σ G) g s h fun ρ1 wx G1 x H1 s1 g1 sl1 r1 h1 => ?_
            rw [R.assoc] at h1
            refine tR_bind (ev := fun n σ G => evE L.T n d c' σ G) g1 sl1 h1 fun ρ2 wy G2 y H2 s2 g2 sl2 r2 h2 => ?_
            refine ⟨ρ2, G2, wx, wy, WE W σ, g2, r1.stp g1 s2 _, r2, ?_⟩
            have h2 : QG L.N Rb Q (WE W σ) ((PM.ofO ((cmpop o wx wy G2).map PM.W.bl) G2).bind fun x G1 => PM.ofO (tru G1 x) G1) ρ2 H2 := h2
            cases e : cmpop o wx wy G2 with
            | none =>
              rw [e] at h2
              exact (show False from h2).elim
            | some k =>
              rw [e] at h2
              have h2 : QG L.N Rb Q (WE W σ) (.ok k G2) ρ2 H2 := h2
              show QC L.N (fun x H' => ∃ k, x = V.bl k ∧ Q k H') (WE W σ) (PM.ofO ((cmpop o wx wy G2).map PM.W.bl) G2) ρ2 H2
              rw [e]
              show ∀ ρ' b H', Stp ρ2 H2 ρ' H' → Rg L.N ρ' G2 H' → Rw L.N ρ' H' (.bl k) b → ∃ k, b = V.bl k ∧ Q k H'
              exact fun ρ3 v H3 s3 g3 r3 => ⟨k, r3, h2 ρ3 k H3 s3 g3 rfl⟩
      · rename_i op op2 bb c
        split at h
        · cases h
        · rename_i hset
          obtain ⟨o, ho, h⟩ := bd1 h
          obtain ⟨o2, ho2, h⟩ := bd1 h
          obtain ⟨a', ha, h⟩ := bd1 h
          obtain ⟨b', hb, h⟩ := bd1 h
          obtain ⟨c', hc, h⟩ := bd1 h
          cases h
          rw [opC_un ho, opC_un ho2]
          exact ptI (pt_chain (op_cmp b.k.symm (roomU b.room) o) (op_cmp b.k.symm (roomU b.room) o2) (sd.e b ha) (sd.e b hb) (sd.e b hc) (lastM (by simpa using hset))) fun σ H Q h => chn_imp b (chn_test h)
      · cases h
    | _ => exact absurd rfl hp
theorem step_o (sd : Sd L m) (b : Bk L X C W d) {e : Option Expr} {e' : E} (h : trO L.g (m + 1) C e = some e') : PO X e (tO L d W e') := by
  cases e with
  | none =>
    simp only [trO] at h
    cases h
    refine poI po_none fun σ H Q ⟨n, ρ, σw, G, g, s, h⟩ => ?_
    cases n with
    | zero => simp only [evE] at h; exact (show False from h).elim
    | succ n => simp only [evE] at h; exact QG.done h g rfl
  | some e =>
    simp only [trO] at h
    refine poI (po_some2 (sd.e b h)) fun σ H Q ⟨n, ρ, σw, G, g, s, h⟩ => ?_
    refine tR_bind (ev := fun n σ G => evE L.T n d e' σ G) g s h fun ρ1 w G1 x H1 s1 g1 sl1 r1 h1 => ?_
    obtain ⟨k, e, h2⟩ := QG.ofO h1
    cases w with
    | non =>
      cases e
      exact .inl ⟨r1, h2.done g1 rfl⟩
    | int i =>
      cases e
      exact .inr ⟨i, r1, h2.done g1 rfl⟩
    | _ => cases e
theorem step_b (sd : Sd L m) (b : Bk L X C W d) {op : BoolOp} {es : List Expr} {e' : E} {pos : Pos} (h : trB L.g (m + 1) C op es = some e') : PE X (.BoolOp op es pos) (tE L d W e') := by
  cases es with
  | nil => simp only [trB] at h; cases h
  | cons a r =>
    cases r with
    | nil =>
      simp only [trB] at h
      split at h
      · cases h
      · exact pe_one (sd.e b h)
    | cons a2 r =>
      simp only [trB] at h
      split at h
      · cases h
      · obtain ⟨a', ha, h⟩ := bd1 h
        obtain ⟨r', hr, h⟩ := bd1 h
        cases op with
        | And =>
          cases h
          refine peI (pe_andT (sd.e b ha) (sd.b b hr)) fun σ H Q h => tE_zero h fun n ρ σw G g s h => ?_
          simp only [evE] at h
          refine tR_bind (ev := fun n σ G => evE L.T n d a' σ G) g s h fun ρ1 wx G1 x H1 s1 g1 sl1 r1 h1 => ?_
          obtain ⟨k, e, h2⟩ := qg_bind_ofO h1
          refine ⟨k, by rw [b.k]; exact tru_V g1 r1 e, ?_⟩
          cases k with
          | true => exact ⟨n, ρ1, σw, G1, g1, sl1, h2⟩
          | false => exact QG.done h2 g1 r1
        | Or =>
          cases h
          refine peI (pe_orT (sd.e b ha) (sd.b b hr)) fun σ H Q h => tE_zero h fun n ρ σw G g s h => ?_
          simp only [evE] at h
          refine tR_bind (ev := fun n σ G => evE L.T n d a' σ G) g s h fun ρ1 wx G1 x H1 s1 g1 sl1 r1 h1 => ?_
          obtain ⟨k, e, h2⟩ := qg_bind_ofO h1
          refine ⟨k, by rw [b.k]; exact tru_V g1 r1 e, ?_⟩
          cases k with
          | true => exact QG.done h2 g1 r1
          | false => exact ⟨n, ρ1, σw, G1, g1, sl1, h2⟩
theorem step_w (sd : Sd L m) (b : Bk L X C W d) {op : BoolOp} {es : List Expr} {e' : E} {pos : Pos} (h : trB L.g (m + 1) C op es = some e') : PW X (.BoolOp op es pos) (tT L d W e') := by
  cases es with
  | nil => simp only [trB] at h; cases h
  | cons a r =>
    cases r with
    | nil =>
      simp only [trB] at h
      split at h
      · cases h
      · rename_i hi
        cases op with
        | And => exact pw_and1 (sd.t b (by simpa using hi) h)
        | Or => exact pw_or1 (sd.t b (by simpa using hi) h)
    | cons a2 r =>
      simp only [trB] at h
      split at h
      · cases h
      · rename_i hi
        obtain ⟨a', ha, h⟩ := bd1 h
        obtain ⟨r', hr, h⟩ := bd1 h
        have key : ∀ (n : Nat) (σw : Sg) (G : GH) (F : Bool → PM.W → GH → R PM.W), (((evE L.T n d a' σw G).bind fun x G1 => (PM.ofO (tru G1 x) G1).bind fun k G1 => F k x G1).bind fun x G1 => PM.ofO (tru G1 x) G1) = (evE L.T n d a' σw G).bind fun x G1 => (PM.ofO (tru G1 x) G1).bind fun k G1 => (F k x G1).bind fun x G1 => PM.ofO (tru G1 x) G1 := fun n σw G F => by
          rw [R.assoc]
          congr 1
          funext x G1
          rw [R.assoc]
        cases op with
        | And =>
          cases h
          refine pwI (pw_and (sd.t b (by simpa using hi) ha) (sd.w b hr)) fun σ H Q ⟨n, ρ, σw, G, g, s, h⟩ => ?_
          cases n with
          | zero => simp only [evE] at h; exact (show False from h).elim
          | succ n =>
            simp only [evE] at h
            rw [key n σw G fun k x G1 => if k then evE L.T n d r' σw G1 else .ok x G1] at h
            have h' : QG L.N Rb Q (WE W σ) (((evE L.T n d a' σw G).bind fun x G1 => PM.ofO (tru G1 x) G1).bind fun k G1 => if k then (evE L.T n d r' σw G1).bind fun x G1 => PM.ofO (tru G1 x) G1 else .ok false G1) ρ H := by
              rw [R.assoc]
              have e : ∀ (x : PM.W) (G1 : GH), ((PM.ofO (tru G1 x) G1).bind fun k G1 => (if k then evE L.T n d r' σw G1 else R.ok x G1).bind fun x G1 => PM.ofO (tru G1 x) G1) = (PM.ofO (tru G1 x) G1).bind fun k G1 => if k then (evE L.T n d r' σw G1).bind fun x G1 => PM.ofO (tru G1 x) G1 else .ok false G1 := fun x G1 => by
                cases e : tru G1 x with
                | none => rfl
                | some k =>
                  cases k with
                  | true => rfl
                  | false =>
                    show PM.ofO (tru G1 x) G1 = R.ok false G1
                    rw [e]
                    rfl
              simp only [e] at h
              exact h
            refine tR_bind (ev := fun n σ G => (evE L.T n d a' σ G).bind fun x G1 => ofO (tru G1 x) G1) g s h' fun ρ1 k G1 k' H1 s1 g1 sl1 r1 h1 => ?_
            · rw [← show k = k' from r1]
              cases k with
              | true => exact ⟨n, ρ1, σw, G1, g1, sl1, h1⟩
              | false => exact QG.done h1 g1 rfl
        | Or =>
          cases h
          refine pwI (pw_or (sd.t b (by simpa using hi) ha) (sd.w b hr)) fun σ H Q ⟨n, ρ, σw, G, g, s, h⟩ => ?_
          cases n with
          | zero => simp only [evE] at h; exact (show False from h).elim
          | succ n =>
            simp only [evE] at h
            rw [key n σw G fun k x G1 => if k then .ok x G1 else evE L.T n d r' σw G1] at h
            have h' : QG L.N Rb Q (WE W σ) (((evE L.T n d a' σw G).bind fun x G1 => PM.ofO (tru G1 x) G1).bind fun k G1 => if k then .ok true G1 else (evE L.T n d r' σw G1).bind fun x G1 => PM.ofO (tru G1 x) G1) ρ H := by
              rw [R.assoc]
              have e : ∀ (x : PM.W) (G1 : GH), ((PM.ofO (tru G1 x) G1).bind fun k G1 => (if k then R.ok x G1 else evE L.T n d r' σw G1).bind fun x G1 => PM.ofO (tru G1 x) G1) = (PM.ofO (tru G1 x) G1).bind fun k G1 => if k then .ok true G1 else (evE L.T n d r' σw G1).bind fun x G1 => PM.ofO (tru G1 x) G1 := fun x G1 => by
                cases e : tru G1 x with
                | none => rfl
                | some k =>
                  cases k with
                  | false => rfl
                  | true =>
                    show PM.ofO (tru G1 x) G1 = R.ok true G1
                    rw [e]
                    rfl
              simp only [e] at h
              exact h
            refine tR_bind (ev := fun n σ G => (evE L.T n d a' σ G).bind fun x G1 => ofO (tru G1 x) G1) g s h' fun ρ1 k G1 k' H1 s1 g1 sl1 r1 h1 => ?_
            · rw [← show k = k' from r1]
              cases k with
              | false => exact ⟨n, ρ1, σw, G1, g1, sl1, h1⟩
              | true => exact QG.done h1 g1 rfl
theorem step_es (sd : Sd L m) (b : Bk L X C W d) {es : List Expr} {es' : List E} (h : trEs L.g (m + 1) C es = some es') : PA X es (tEs L d W es') ∧ es.any isStar = false := by
  cases es with
  | nil =>
    simp only [trEs] at h
    cases h
    refine ⟨paI pa_nil fun σ H Q ⟨n, ρ, σw, G, g, s, h⟩ => ?_, rfl⟩
    cases n with
    | zero => simp only [evEs] at h; exact (show False from h).elim
    | succ n => simp only [evEs] at h; exact QG.done h g rfl
  | cons e r =>
    simp only [trEs] at h
    split at h
    · cases h
    · rename_i hs
      obtain ⟨e1, he, h⟩ := bd1 h
      obtain ⟨r1, hr, h⟩ := bd1 h
      cases h
      obtain ⟨p1, p2⟩ := sd.es b hr
      have hs2 : isStar e = false := by simpa using hs
      refine ⟨paI (pa_cons (sd.e b he) p1 (star_cons hs2)) fun σ H Q ⟨n, ρ, σw, G, g, s, h⟩ => ?_, by rw [List.any_cons, hs2, p2]; rfl⟩
      cases n with
      | zero => simp only [evEs] at h; exact (show False from h).elim
      | succ n =>
        simp only [evEs] at h
        refine tR_bind (ev := fun n σ G => evE L.T n d e1 σ G) g s h fun ρ1 w G1 x H1 s1 g1 sl1 rw1 h1 => ?_
        refine tR_bind (ev := fun n σ G => evEs L.T n d r1 σ G) g1 sl1 h1 fun ρ2 ws G2 xs H2 s2 g2 sl2 rws h2 => ?_
        exact QG.done h2 g2 ⟨x, xs, rfl, rw1.stp g1 s2 _, rws⟩
theorem step_k (sd : Sd L m) (b : Bk L X C W d) {kws : List Keyword} {es' : List E} (h : trK L.g (m + 1) C kws = some es') : PK X kws (tEs L d W es') := by
  cases kws with
  | nil =>
    simp only [trK] at h
    cases h
    refine pkI pk_nil fun σ H Q ⟨n, ρ, σw, G, g, s, h⟩ => ?_
    cases n with
    | zero => simp only [evEs] at h; exact (show False from h).elim
    | succ n => simp only [evEs] at h; exact QG.done h g rfl
  | cons e r =>
    obtain ⟨nm, e, kp⟩ := e
    simp only [trK] at h
    obtain ⟨e1, he, h⟩ := bd1 h
    obtain ⟨r1, hr, h⟩ := bd1 h
    cases h
    refine pkI (pk_cons (sd.e b he) (sd.k b hr)) fun σ H Q ⟨n, ρ, σw, G, g, s, h⟩ => ?_
    cases n with
    | zero => simp only [evEs] at h; exact (show False from h).elim
    | succ n =>
      simp only [evEs] at h
      refine tR_bind (ev := fun n σ G => evE L.T n d e1 σ G) g s h fun ρ1 w G1 x H1 s1 g1 sl1 rw1 h1 => ?_
      refine tR_bind (ev := fun n σ G => evEs L.T n d r1 σ G) g1 sl1 h1 fun ρ2 ws G2 xs H2 s2 g2 sl2 rws h2 => ?_
      exact QG.done h2 g2 ⟨x, xs, rfl, rw1.stp g1 s2 _, rws⟩
theorem step_a (sd : Sd L m) (b : Bk L X C W d) {es : List Expr} {es' : List Ar} (h : trA L.g (m + 1) C es = some es') : PA X es (tA L d W es') := by
  cases es with
  | nil =>
    simp only [trA] at h
    cases h
    refine paI pa_nil fun σ H Q ⟨n, ρ, σw, G, g, s, h⟩ => ?_
    cases n with
    | zero => simp only [evA] at h; exact (show False from h).elim
    | succ n => simp only [evA] at h; exact QG.done h g rfl
  | cons e r =>
    have one : isStar e = false → ((trE L.g m C e).bind fun e' => (trA L.g m C r).bind fun r' => some (Ar.e e' :: r')) = some es' → PA X (e :: r) (tA L d W es') := by
      intro hs h
      obtain ⟨e1, he, h⟩ := bd1 h
      obtain ⟨r1, hr, h⟩ := bd1 h
      cases h
      refine paI (pa_cons (sd.e b he) (sd.a b hr) (star_cons hs)) fun σ H Q ⟨n, ρ, σw, G, g, s, h⟩ => ?_
      cases n with
      | zero => simp only [evA] at h; exact (show False from h).elim
      | succ n =>
        simp only [evA] at h
        refine tR_bind (ev := fun n σ G => evE L.T n d e1 σ G) g s h fun ρ1 w G1 x H1 s1 g1 sl1 rw1 h1 => ?_
        refine tR_bind (ev := fun n σ G => evA L.T n d r1 σ G) g1 sl1 h1 fun ρ2 ws G2 xs H2 s2 g2 sl2 rws h2 => ?_
        exact QG.done h2 g2 ⟨x, xs, rfl, rw1.stp g1 s2 _, rws⟩
    cases e with
    | Starred x sp =>
      simp only [trA] at h
      obtain ⟨e1, he, h⟩ := bd1 h
      obtain ⟨r1, hr, h⟩ := bd1 h
      cases h
      refine paI (StX.pa_star (sd.e b he) (sd.a b hr)) fun σ H Q ⟨n, ρ, σw, G, g, s, h⟩ => ?_
      cases n with
      | zero => simp only [evA] at h; exact (show False from h).elim
      | succ n =>
        simp only [evA] at h
        refine tR_bind (ev := fun n σ G => evE L.T n d e1 σ G) g s h fun ρ1 w G1 y H1 s1 g1 sl1 rw1 h1 => ?_
        obtain ⟨us, e, h2⟩ := qg_bind_ofO h1
        obtain ⟨a, xs, rfl, k1, k2⟩ := seqOf_ok g1 rw1 e
        rw [b.k]
        refine ⟨a, xs, rfl, k1.symm, ?_⟩
        refine tR_bind (ev := fun n σ G => evA L.T n d r1 σ G) g1 sl1 h2 fun ρ2 ws G2 zs H2 s2 g2 sl2 rws h3 => ?_
        exact QG.done h3 g2 ((k2.stp g1 s2 _).append rws)
    | _ =>
      simp only [trA] at h
      exact one rfl h
theorem step_i (lk : Lk L) (sd : Sd L m) (b : Bk L X C W d) {tg it : Expr} {it' : PM.It} (h : trI L.g (m + 1) C tg it = some it') : PI X tg it (tI L d W it') := by
  have gen : ∀ {e : Expr} {e' : E}, PE X e (tE L d W e') → PI X tg e (tI L d W (.e e')) := fun {e e'} he => by
    refine piI (pi_any he) fun σ H R ⟨n, ρ, σw, G, g, s, h⟩ => ?_
    cases n with
    | zero => simp only [evI] at h; exact (show False from h).elim
    | succ n =>
      simp only [evI] at h
      refine tR_bind (ev := fun n σ G => evE L.T n d e' σ G) g s h fun ρ1 w G1 x H1 s1 g1 sl1 r1 h1 => ?_
      obtain ⟨iv, e, h2⟩ := QG.ofO h1
      obtain ⟨u, e2, rfl⟩ := Option.map_eq_some_iff.mp e
      rw [b.k]
      rcases ivOf_ok g1 r1 e2 with ⟨a, e3, hx, j⟩ | ⟨a, e3, hx, j⟩ | ⟨z, e3, j⟩
      · exact .inl ⟨a, e3, hx, QG.done h2 g1 (jr_list g1 j)⟩
      · exact .inr (.inl ⟨a, e3, hx, QG.done h2 g1 (jr_tup g1 j)⟩)
      · exact .inr (.inr ⟨z, e3, QG.done h2 g1 (jr_str g1 (j 0))⟩)
  have dflt : (trE L.g m C it).bind (fun e' => some (PM.It.e e')) = some it' → PI X tg it (tI L d W it') := fun h => by
    obtain ⟨e', he, h⟩ := bd1 h
    cases h
    exact gen (sd.e b he)
  unfold trI at h
  split at h
  · rename_i x p es pos
    split at h
    · rename_i hc
      rw [Bool.and_eq_true, Bool.and_eq_true] at hc
      obtain ⟨n1, n2, n3⟩ := okName_ok hc.1.1
      have gl := b.gl hc.1.2
      have hm : X.mg x = none := by rw [b.mg]; exact lk.free x hc.2
      split at h
      · rename_i hx
        subst hx
        split at h
        · rename_i hl
          obtain ⟨es', he, h⟩ := bd1 h
          cases h
          obtain ⟨p1, p2⟩ := sd.es b he
          cases es with
          | nil => simp at hl
          | cons a r =>
            rw [List.any_cons, Bool.or_eq_false_iff] at p2
            cases r with
            | nil =>
              refine piI (pi_range1 gl hm p1 (star_cons p2.1)) fun σ H R ⟨n, ρ, σw, G, g, s, h⟩ => ?_
              cases n with
              | zero => simp only [evI] at h; exact (show False from h).elim
              | succ n =>
                simp only [evI] at h
                refine tR_bindE (ev := fun n σ G => evEs L.T n d es' σ G) g s h fun ρ1 ws G1 vs H1 s1 g1 sl1 r1 h1 q1 => ?_
                obtain ⟨iv, e, h2⟩ := QG.ofO h1
                obtain ⟨l, e2, rfl⟩ := Option.map_eq_some_iff.mp e
                have hlen := (evEs_len q1).trans (trEs_len he)
                unfold rngOf at e2
                split at e2
                · rename_i j
                  split at e2
                  · rename_i hj
                    cases e2
                    obtain ⟨v, rfl, rv⟩ := r1.inv1
                    exact ⟨j, by rw [show v = .int j from rv], (in62_ok hj).1, (in62_ok hj).2, QG.done h2 g1 (jr_rng 0 j.toNat)⟩
                  · cases e2
                · simp at hlen
                · cases e2
            | cons a2 r =>
              cases r with
              | nil =>
                have p3 := p2.2
                rw [List.any_cons, Bool.or_eq_false_iff] at p3
                refine piI (pi_range2 gl hm p1 (by rw [star_cons p2.1, star_cons p3.1]; rfl) (by rw [star_cons p3.1]; rfl)) fun σ H R ⟨n, ρ, σw, G, g, s, h⟩ => ?_
                cases n with
                | zero => simp only [evI] at h; exact (show False from h).elim
                | succ n =>
                  simp only [evI] at h
                  refine tR_bindE (ev := fun n σ G => evEs L.T n d es' σ G) g s h fun ρ1 ws G1 vs H1 s1 g1 sl1 r1 h1 q1 => ?_
                  obtain ⟨iv, e, h2⟩ := QG.ofO h1
                  obtain ⟨l, e2, rfl⟩ := Option.map_eq_some_iff.mp e
                  have hlen := (evEs_len q1).trans (trEs_len he)
                  unfold rngOf at e2
                  split at e2
                  · simp at hlen
                  · rename_i i j
                    split at e2
                    · rename_i hj
                      cases e2
                      obtain ⟨v, u, rfl, rv, ru⟩ := r1.inv2
                      rw [Bool.and_eq_true] at hj
                      exact ⟨i, j, by rw [show v = .int i from rv, show u = .int j from ru], ⟨(in62_ok hj.1).1, (in62_ok hj.1).2, (in62_ok hj.2).1, (in62_ok hj.2).2⟩, QG.done h2 g1 (jr_rng i (j - i).toNat)⟩
                    · cases e2
                  · cases e2
              | cons _ _ => simp at hl
        · cases h
      · split at h
        · rename_i hx
          subst hx
          split at h
          · rename_i a c elts k tp
            split at h
            · cases h
            · rename_i hst
              obtain ⟨a', ha, h⟩ := bd1 h
              obtain ⟨c', hc', h⟩ := bd1 h
              cases h
              have hs1 : isStar a = false := by
                cases q : isStar a with
                | false => rfl
                | true => rw [q] at hst; exact absurd rfl hst
              have hs2 : isStar c = false := by
                cases q : isStar c with
                | false => rfl
                | true => rw [q, Bool.or_true] at hst; exact absurd rfl hst
              refine piI (pi_zip2 gl hm (pa_cons (sd.e b ha) (pa_cons (sd.e b hc') pa_nil (star_cons hs2)) (star_cons hs1)) (star_cons hs1) (by rw [star_cons hs2]; rfl)) fun σ H R ⟨n, ρ, σw, G, g, s, h⟩ => ?_
              cases n with
              | zero => simp only [evI] at h; exact (show False from h).elim
              | succ n =>
                simp only [evI] at h
                refine tR_bind (ev := fun n σ G => evE L.T n d a' σ G) g s h fun ρ1 wx G1 x H1 s1 g1 sl1 r1 h1 => ?_
                refine tR_bind (ev := fun n σ G => evE L.T n d c' σ G) g1 sl1 h1 fun ρ2 wy G2 y H2 s2 g2 sl2 r2 h2 => ?_
                have r1' := r1.stp g1 s2 _
                refine ⟨x, y, rfl, fun v u rv ru => ?_⟩
                split at h2
                · rename_i u1 u2 e1 e2
                  have one : ∀ {w : PM.W} {x : V} {v : Value} {u : I1}, Rw L.N ρ2 H2 w x → ivOf G2 w = some u → RelV x v → ∃ c xs, c.v = v ∧ c.q X.K H2 xs ∧ Jc L.N ρ2 H2 u c := fun {w x v u} r e rv => by
                    rw [b.k]
                    rcases ivOf_ok g2 r e with ⟨a, e3, ⟨xs, hx⟩, j⟩ | ⟨a, e3, ⟨xs, hx⟩, j⟩ | ⟨z, e3, j⟩
                    · rw [e3] at rv
                      exact ⟨.cl a, xs, (show v = .ref a from rv).symm, hx, j⟩
                    · rw [e3] at rv
                      exact ⟨.ct a, xs, (show v = .ref a from rv).symm, hx, j⟩
                    · rw [e3] at rv
                      obtain ⟨t, rfl⟩ := rv
                      exact ⟨.cs z t, chV z, rfl, rfl, j t⟩
                  obtain ⟨c1, xs, k1, k2, k3⟩ := one r1' e1 rv
                  obtain ⟨c2, ys, k4, k5, k6⟩ := one r2 e2 ru
                  refine ⟨c1, c2, xs, ys, k1, k4, k2, k5, ?_⟩
                  rw [b.k]
                  exact QG.done h2 g2 (jr_zip g2 k3 k6)
                · exact (show False from h2).elim
          · cases h
        · cases h
    · exact dflt h
  · exact dflt h
end
end PM

set_option maxHeartbeats 4000000
/-! PmN: statements and defs keep to the small Python. -/
namespace PM
open PySem PySem.Spec PyProof.Rows L2

theorem sd_all {L : Pg} (lk : Lk L) : ∀ m, Sd L m
  | 0 => sd_zero
  | m + 1 => ⟨fun b h => step_e lk (sd_all lk m) b h, fun b hi h => step_t lk (sd_all lk m) b hi h, fun b h => step_o (sd_all lk m) b h, fun b h => step_b (sd_all lk m) b h, fun b h => step_w (sd_all lk m) b h,
      fun b h => step_es (sd_all lk m) b h, fun b h => step_k (sd_all lk m) b h, fun b h => step_a (sd_all lk m) b h, fun b h => step_i lk (sd_all lk m) b h⟩
theorem sw_no {e : Expr} {t : Option Expr} {n : Nat} {env : Env} (h : isComp e = false) : swapsWith e t n env = pure false := by
  cases e <;> first | rfl | cases h
theorem sws_no {tg e : Expr} {n : Nat} {env : Env} (h : isComp e = false) : swapsWithSole [tg] e n env = pure false := sw_no h
structure Sq (L : Pg) (m : Nat) : Prop where
  s : ∀ {X C W d st s'}, Bk L X C W d → PassesOwn (model X.prog X.w) X.A X.env X.xe → trS L.g m C st = some s' → PS X st (tS L d W s')
  ss : ∀ {X C W d st s'}, Bk L X C W d → PassesOwn (model X.prog X.w) X.A X.env X.xe → trSs L.g m C st = some s' → PSs X st (tSs L d W s')
section
variable {L : Pg} {X : Cx} {C : Ct} {W : WX} {d m : Nat}
theorem tS_zero {s : S} {D : Ends} {σ : L2.St} {H : Hp} {t : Prop} (h : tS L d W s D σ H) (k : ∀ n ρ σw G, Rg L.N ρ G H → Rs L.N ρ H σw σ → QF L.N D W (evS L.T (n + 1) d s σw G) ρ H → t) : t := by
  obtain ⟨n, ρ, σw, G, g, s, h⟩ := h
  cases n with
  | zero => simp only [evS] at h; exact (show False from h).elim
  | succ n => exact k n ρ σw G g s h
theorem QF.nx {N : En} {D : Ends} {σw : Sg} {σ : L2.St} {G : GH} {ρ : List Addr} {H : Hp} (h : QF N D W (.nx σw G) ρ H) (g : Rg N ρ G H) (s : Rs N ρ H σw σ) : D.nx σ H := h ρ σ H (Stp.refl _ _) g s
/-- t = e -/
theorem asg_ok {e : E} {t : Tg} {K : PySem.W.Frag} (hK : K = L.N.K) {D : Ends} {σ : L2.St} {H : Hp} (h : tS L d W (.asg t e) D σ H) : tE L d W e σ H fun x H1 => gT K t x σ H1 D.nx := by
  refine tS_zero h fun n ρ σw G g s h => ?_
  simp only [evS] at h
  refine tR_toF (ev := fun n σ G => evE L.T n d e σ G) g s h fun ρ1 w G1 x H1 s1 g1 sl1 r1 h1 => ?_
  split at h1
  · rename_i σ' ha
    rw [hK]
    exact gT_ok g1 t sl1 r1 ha fun σ2 sl2 _ => QF.nx h1 g1 sl2
  · exact (show False from h1).elim
theorem inv_lc {g : Gn} {elt : Expr} {gens : List Comprehension} {scope : Scope} {pos : Pos} {e' : E} (hl : gens.length = 1) (h : trE g m C (.ListComp elt gens scope pos) = some e') :
    ∃ m' tg iter ifs it tg' ifs' e1, gens = [⟨tg, iter, ifs, 0⟩] ∧ e' = .lc ((ownOf C.N scope).map (·.2)) tg' it ifs' e1 ∧ blkC C.N C.sc scope (ownOf C.N scope) = true ∧ isSet iter = false ∧ trI g m' C tg iter = some it ∧ trT (blkCt C scope) m' tg = some tg' ∧
      ((ifs = [] ∧ ifs' = []) ∨ ∃ c c', ifs = [c] ∧ ifs' = [c'] ∧ isIfE c = false ∧ trE g m' (blkCt C scope) c = some c') ∧ trE g m' (blkCt C scope) elt = some e1 := by
  cases m with
  | zero => simp only [trE] at h; cases h
  | succ m =>
    simp only [trE] at h
    split at h
    · rename_i tg iter ifs
      split at h
      · rename_i hc
        rw [Bool.and_eq_true] at hc
        obtain ⟨it, h1, h⟩ := bd1 h
        obtain ⟨tg', h2, h⟩ := bd1 h
        obtain ⟨ifs', h3, h⟩ := bd1 h
        obtain ⟨e1, h4, h⟩ := bd1 h
        cases h
        have hset : isSet iter = false := by simpa using hc.2
        refine ⟨m, tg, iter, ifs, it, tg', ifs', e1, rfl, rfl, hc.1, hset, h1, h2, ?_, h4⟩
        clear h h1 h2 h4
        cases ifs with
        | nil =>
          cases h3
          exact .inl ⟨rfl, rfl⟩
        | cons c r =>
          cases r with
          | nil =>
            have h3 : (if isIfE c = true then none else (trE g m (blkCt C scope) c).map fun x => [x]) = some ifs' := h3
            split at h3
            · cases h3
            · rename_i hi
              obtain ⟨c', e1, rfl⟩ := Option.map_eq_some_iff.mp h3
              exact .inr ⟨c, c', rfl, rfl, by simpa using hi, e1⟩
          | cons _ _ => cases h3
      · cases h
    · simp at hl
    · cases h
/-- name = e -/
theorem set_ok (lk : Lk L) (b : Bk L X C W d) {x : Str} {p pos : Pos} {e : Expr} {i : Nat} {e' : E} (hst : C.st.contains x = true) (hl : locB C.sc x = true) (hi : ixS C.N x = some i) (he : trE L.g m C e = some e') (hc : isComp e = false ∨ ∃ elt gens scope cp, e = .ListComp elt gens scope cp ∧ gens.length = 1) :
    PS X (.Assign [.Name x p] e pos) (tS L d W (.asg (.v i) e')) := by
  have imp : ∀ D σ H, tS L d W (.asg (.v i) e') D σ H → tAsg (tE L d W e') (gName i) D σ H := fun D σ H h => asg_ok (K := L.N.K) rfl h
  have hf := b.st x (by simpa using hst)
  rcases hc with hc | ⟨elt, gens, scope, cp, rfl, hgl⟩
  · exact psI (ps_set b.nd (b.ix hi) (b.loc hl) ((sd_all lk m).e b he) (sw_no hc) hf) imp
  · obtain ⟨m', tg, iter, ifs, it, tg', ifs', e1, rfl, rfl, c1, c2, c3, c4, c5, c6⟩ := inv_lc hgl he
    obtain ⟨p1, p2, p3, p4, p5⟩ := lc_pe (pos := cp) (sd_all lk m') b c1 c2 c3 c4 c5 c6
    have hsw : swapsWith (.ListComp elt [⟨tg, iter, ifs, 0⟩] scope cp) (some (.Name x p)) pos.line X.env = pure (X.env.blockKind == .function && X.env.kindOf x == some .local && p.line == cp.line && !(scope.names.any fun (n, k) => n == x && (k == .local || k == .cell))) := rfl
    cases q : (X.env.blockKind == .function && X.env.kindOf x == some .local && p.line == cp.line && !(scope.names.any fun (n, k) => n == x && (k == .local || k == .cell))) with
    | false =>
      rw [q] at hsw
      exact psI (ps_set b.nd (b.ix hi) (b.loc hl) ((sd_all lk m).e b he) hsw hf) imp
    | true =>
      rw [q] at hsw
      rw [Bool.and_eq_true, Bool.and_eq_true, Bool.and_eq_true] at q
      have hloc : X.env.scope.names.lookup x = some .local := by simpa [Env.kindOf] using q.1.1.2
      refine psI (ps_setLc b.calm b.nd (b.ix hi) hloc hsw ((sd_all lk m').i b c3) p5 p1 p2 p3 p4) fun D σ H h => ?_
      exact lc_ok b c4 σ H _ (imp D σ H h)
theorem Rfs.put {N : En} {ρ : List Addr} {H : Hp} (inj : ∀ i j, N.nm i = N.nm j → i = j) {f : Nat} {w : PM.W} {v : V} (r : Rw N ρ H w v) : ∀ {fs : List (Nat × PM.W)} {xs : List (Str × V)}, Rfs N ρ H fs xs → Rfs N ρ H (putFW f w fs) (putF (N.nm f) v xs)
  | [], _, h => by
    have e : _ = [] := h
    rw [e]
    exact ⟨v, [], rfl, r, rfl⟩
  | (g, u) :: fs, _, h => by
    obtain ⟨x, xs', rfl, h2, h3⟩ := h
    unfold putFW putF
    by_cases e : g = f
    · rw [if_pos e, if_pos (by rw [e])]
      exact ⟨v, xs', rfl, r, h3⟩
    · rw [if_neg e, if_neg (fun z => e (inj _ _ z))]
      exact ⟨x, _, rfl, h2, Rfs.put inj r h3⟩
theorem Rfs.len {N : En} {ρ : List Addr} {H : Hp} : ∀ {fs : List (Nat × PM.W)} {xs : List (Str × V)}, Rfs N ρ H fs xs → fs.length = xs.length
  | [], _, h => by
    have e : _ = [] := h
    rw [e]
    rfl
  | (g, u) :: fs, _, h => by
    obtain ⟨x, xs', rfl, h2, h3⟩ := h
    rw [List.length_cons, List.length_cons, h3.len]
/-- a loop's body -/
theorem QF.loop {N : En} {D : Ends} {r : F} {f : Sg → GH → F} {ρ : List Addr} {H : Hp} {Nx : L2.St → Hp → Prop} (h : QF N D W (match r with
      | .nx σ2 G2 => f σ2 G2
      | .cnt σ2 G2 => f σ2 G2
      | .brk σ2 G2 => .nx σ2 G2
      | r => r) ρ H) (k : ∀ ρ4 σ4 H4 σw' G', Stp ρ H ρ4 H4 → Rg N ρ4 G' H4 → Rs N ρ4 H4 σw' σ4 → QF N D W (f σw' G') ρ4 H4 → Nx σ4 H4) : QF N { D with nx := Nx, ct := Nx, bk := D.nx } W r ρ H := by
  cases r with
  | nx σ' G' => exact fun ρ4 σ4 H4 s4 g4 sl4 => k ρ4 σ4 H4 σ' G' s4 g4 sl4 (QF.stp h s4)
  | cnt σ' G' => exact fun ρ4 σ4 H4 s4 g4 sl4 => k ρ4 σ4 H4 σ' G' s4 g4 sl4 (QF.stp h s4)
  | brk σ' G' => exact h
  | ret w' G' => exact h
  | exc c dd σ' G' => exact h
  | bad => exact h
/-- a loop's turns -/
theorem for_ok {iv : IV} {J : L2.It} {t : Tg} {body : List S} {D : Ends} {ρ1 : List Addr} {H1 : Hp} {G1 : GH} {σw : Sg} {σ : L2.St} {n : Nat} (g1 : Rg L.N ρ1 G1 H1) (sl : Rs L.N ρ1 H1 σw σ) (jr : JR L.N ρ1 H1 iv J) (h : QF L.N D W (evF L.T n d iv 0 t body σw G1) ρ1 H1) :
    ∃ Iv : Nat → Nat → L2.St → Hp → Prop, (∃ m, Iv 0 m σ H1) ∧ ∀ i m σ H, Iv i m σ H →
      (J.stop i H ∧ D.nx σ H) ∨ (J.go i H ∧ ∃ N : L2.St → Hp → Prop, (∀ σ' H', N σ' H' → ∃ m', m' < m ∧ Iv (i + 1) m' σ' H') ∧ ∀ x H', J.yld i H x H' → gT L.N.K t x σ H' fun σ2 H2 => tSs L d W body { D with nx := N, ct := N, bk := D.nx } σ2 H2) := by
  refine ⟨fun i m σ H => ∃ ρ G σw, Stp ρ1 H1 ρ H ∧ Rg L.N ρ G H ∧ Rs L.N ρ H σw σ ∧ QF L.N D W (evF L.T m d iv i t body σw G) ρ H, ⟨n, ρ1, G1, σw, Stp.refl _ _, g1, sl, h⟩, ?_⟩
  clear h sl
  rintro i m σ H ⟨ρ, G, σw, s, g, sl, h⟩
  cases m with
  | zero => simp only [evF] at h; exact (show False from h).elim
  | succ m =>
    have jr2 := jr ρ G H i (s.w g1) g
    cases hat : iv.at G i with
    | none => simp only [evF, hat] at h; exact (show False from h).elim
    | some ow =>
      rw [hat] at jr2
      cases ow with
      | none =>
        simp only [evF, hat] at h
        exact .inl ⟨jr2, QF.nx h g sl⟩
      | some w =>
        obtain ⟨hgo, hy⟩ := jr2
        refine .inr ⟨hgo, fun σ' H' => ∃ ρ G σw, Stp ρ1 H1 ρ H' ∧ Rg L.N ρ G H' ∧ Rs L.N ρ H' σw σ' ∧ QF L.N D W (evF L.T m d iv (i + 1) t body σw G) ρ H', fun σ' H' hn => ⟨m, Nat.lt_succ_self _, hn⟩, fun x H3 yy => ?_⟩
        obtain ⟨s3, g3, rx⟩ := hy x H3 yy
        cases hasg : asgT t w σw with
        | none => simp only [evF, hat, hasg] at h; exact (show False from h).elim
        | some σ1 =>
          simp only [evF, hat, hasg] at h
          refine gT_ok g3 t (sl.stp g s3) rx hasg fun σ2 sl2 _ => ⟨m, ρ, σ1, G, g3, sl2, ?_⟩
          have h := QF.stp h s3
          have s13 := s.trans s3
          exact QF.loop h fun ρ4 σ4 H4 σ' G' s4 g4 sl4 h4 => ⟨ρ4, G', σ', s13.trans s4, g4, sl4, h4⟩
theorem while_ok {c : E} {body : List S} {D : Ends} {ρ1 : List Addr} {H1 : Hp} {G1 : GH} {σw : Sg} {σ : L2.St} {n : Nat} (g1 : Rg L.N ρ1 G1 H1) (sl : Rs L.N ρ1 H1 σw σ) (h : QF L.N D W (evW L.T n d c body σw G1) ρ1 H1) : tWhile (tT L d W c) (tSs L d W body) D σ H1 := by
  refine ⟨fun m σ H => ∃ ρ G σw, Rg L.N ρ G H ∧ Rs L.N ρ H σw σ ∧ QF L.N D W (evW L.T m d c body σw G) ρ H, ⟨n, ρ1, G1, σw, g1, sl, h⟩, ?_⟩
  clear h sl
  rintro m σ H ⟨ρ, G, σw, g, sl, h⟩
  cases m with
  | zero => simp only [evW] at h; exact (show False from h).elim
  | succ m =>
    simp only [evW] at h
    have h' : QF L.N D W (((evE L.T m d c σw G).bind fun x G1 => PM.ofO (tru G1 x) G1).toF σw fun k G1 => if k then (match evSs L.T m d body σw G1 with
      | .nx σ2 G2 => evW L.T m d c body σ2 G2
      | .cnt σ2 G2 => evW L.T m d c body σ2 G2
      | .brk σ2 G2 => .nx σ2 G2
      | r => r) else .nx σw G1) ρ H := by
      cases q : evE L.T m d c σw G with
      | ok x G' =>
        rw [q] at h
        have h : QF L.N D W (match tru G' x with
          | some true => match evSs L.T m d body σw G' with
            | .nx σ2 G2 => evW L.T m d c body σ2 G2
            | .cnt σ2 G2 => evW L.T m d c body σ2 G2
            | .brk σ2 G2 => .nx σ2 G2
            | r => r
          | some false => .nx σw G'
          | none => .bad) ρ H := h
        show QF L.N D W ((PM.ofO (tru G' x) G').toF σw _) ρ H
        cases q2 : tru G' x with
        | none => rw [q2] at h; exact h
        | some k =>
          rw [q2] at h
          cases k with
          | true => exact h
          | false => exact h
      | exc c dd G' => rw [q] at h; exact h
      | bad => rw [q] at h; exact h
    refine tR_toF (ev := fun n σ G => (evE L.T n d c σ G).bind fun x G1 => ofO (tru G1 x) G1) g sl h' fun ρ2 k G2 k' H2 s2 g2 sl2 r2 h2 => ?_
    rw [← show k = k' from r2]
    cases k with
    | false => exact QF.nx h2 g2 sl2
    | true =>
      refine ⟨fun σ' H' => ∃ ρ G σw, Rg L.N ρ G H' ∧ Rs L.N ρ H' σw σ' ∧ QF L.N D W (evW L.T m d c body σw G) ρ H', fun σ' H' hn => ⟨m, Nat.lt_succ_self _, hn⟩, m, ρ2, σw, G2, g2, sl2, ?_⟩
      exact QF.loop h2 fun ρ4 σ4 H4 σ' G' s4 g4 sl4 h4 => ⟨ρ4, G', σ', g4, sl4, h4⟩
end
end PM

set_option maxHeartbeats 4000000
/-! PmO: statements' induction; every def keeps its promise. -/
namespace PM
open PySem PySem.Spec PyProof.Rows L2
section
variable {L : Pg} {X : Cx} {C : Ct} {W : WX} {d m : Nat}
theorem sq_zero : Sq L 0 where
  s := fun _ _ h => by simp only [trS] at h; cases h
  ss := fun _ _ h => by simp only [trSs] at h; cases h
theorem comp_cases {e : Expr} : isComp e = false ∨ isComp e = true := by cases isComp e <;> simp
theorem par_stores {X : Cx} {x y : Str} {px py p pt : Pos} {k k2 : Nat} {a c : Expr} (kx : X.env.kindOf x = some .local) (ky : X.env.kindOf y = some .local) (hxy : x ≠ y) (hl : (py.line == px.line) = true) (hk : X.env.scope.kind = .function) (hs1 : isStar a = false) (hs2 : isStar c = false)
    (f1 : (foldedForSure 8 a && (foldedForSure 8 c && true)) = false) (f2 : (constantsAlone 8 a && (constantsAlone 8 c && true)) = false) : swappedStores [.Tuple [.Name x px, .Name y py] k p] (.Tuple [a, c] k2 pt) X.env = pure (some [x, y]) := by
  have hbk : X.env.blockKind = .function := by
    unfold Env.blockKind
    rw [hk]
    rfl
  have e1 : (x == y) = false := by simpa using hxy
  have e2 : (y == x) = false := by simpa using Ne.symm hxy
  have kx' : (X.env.kindOf x == some NameKind.local) = true := by rw [kx]; rfl
  have ky' : (X.env.kindOf y == some NameKind.local) = true := by rw [ky]; rfl
  have hd : [x, y].eraseDups.length = 2 := by
    simp [List.eraseDups, List.eraseDupsBy, List.eraseDupsBy.loop, e1, e2]
  have hstar : ∀ (p : Expr → Bool), (∀ e, p e = isStar e) → [a, c].any p = false := fun p hp => by
    rw [List.any_cons, List.any_cons, hp, hp, hs1, hs2]
    rfl
  unfold swappedStores
  simp only [hbk]
  refine Eq.trans (if_neg ?_) ?_
  · exact fun h => Bool.false_ne_true h
  refine Eq.trans (if_neg ?_) ?_
  · rw [hstar _ (fun e => by cases e <;> rfl)]
    exact Bool.false_ne_true
  simp only [List.filterMap_cons, List.filterMap_nil, List.head?_cons, Option.map_some, Option.getD_some, Expr.pos, kx', ky', hl, beq_self_eq_true, Bool.and_self, if_true, hd, List.length_cons, List.length_nil, List.all_cons, List.all_nil, f1, f2]
  rfl
/-- x, y = a, c -/
theorem toF_bind {α β : Type} (r : R α) (f : α → GH → R β) (σ : Sg) (k : β → GH → F) : (r.bind f).toF σ k = r.toF σ fun a G => (f a G).toF σ k := by cases r <;> rfl
theorem par_ok {a c : E} {i j : Nat} {D : Ends} {σ : L2.St} {σw : Sg} {ρ : List Addr} {H : Hp} {G : GH} {n : Nat} (g : Rg L.N ρ G H) (s : Rs L.N ρ H σw σ)
    (h : QF L.N D W ((evEs L.T n d [a, c] σw G).toF σw fun ws G1 => match parS [i, j] ws σw with
      | some σ' => .nx σ' G1
      | none => .bad) ρ H) : tPar i j (tCons (tE L d W a) (tCons (tE L d W c) tNil)) D σ H := by
  cases n with
  | zero => simp only [evEs] at h; exact (show False from h).elim
  | succ n =>
    simp only [evEs] at h
    rw [toF_bind] at h
    refine tR_toF (ev := fun n σ G => evE L.T n d a σ G) g s h fun ρ1 w G1 v H1 s1 g1 sl1 r1 h1 => ?_
    cases n with
    | zero => simp only [evEs] at h1; exact (show False from h1).elim
    | succ n =>
      simp only [evEs] at h1
      rw [toF_bind, toF_bind] at h1
      refine tR_toF (ev := fun n σ G => evE L.T n d c σ G) g1 sl1 h1 fun ρ2 w2 G2 v2 H2 s2 g2 sl2 r2 h2 => ?_
      cases n with
      | zero => simp only [evEs] at h2; exact (show False from h2).elim
      | succ n =>
        simp only [evEs] at h2
        refine ⟨v, v2, rfl, ?_⟩
        have h2 : QF L.N D W (.nx ((σw.set i (some w)).set j (some w2)) G2) ρ2 H2 := h2
        exact QF.nx h2 g2 ((sl2.set i (r1.stp g1 s2 _)).set j r2)
theorem step_s (lk : Lk L) (sq : Sq L m) (b : Bk L X C W d) (hp : PassesOwn (model X.prog X.w) X.A X.env X.xe) {st : Stmt} {s' : S} (h : trS L.g (m + 1) C st = some s') : PS X st (tS L d W s') := by
  have sd := sd_all lk m
  cases st with
  | Assign ts e pos =>
    have name : ∀ (x : Str) (p : Pos), (if (C.st.contains x && locB C.sc x) = true then (ixS C.N x).bind fun i => (trE L.g m C e).bind fun e' => some (.asg (.v i) e') else none) = some s' → (isComp e = false ∨ ∃ elt gens scope cp, e = .ListComp elt gens scope cp ∧ gens.length = 1) → PS X (.Assign [.Name x p] e pos) (tS L d W s') := by
      intro x p h hc
      split at h
      · rename_i hs
        rw [Bool.and_eq_true] at hs
        obtain ⟨i, hi, h⟩ := bd1 h
        obtain ⟨e', he, h⟩ := bd1 h
        cases h
        exact set_ok lk b hs.1 hs.2 hi he hc
      · cases h
    have tup : ∀ (us : List Expr) (k : Nat) (p : Pos), (∀ es k2 p2, e ≠ .Tuple es k2 p2) → (if isComp e = true then none else match us with
          | [.Name x _, .Starred (.Name y _) _] => if (C.st.contains x && (locB C.sc x && (C.st.contains y && locB C.sc y))) = true then (ixS C.N x).bind fun i => (ixS C.N y).bind fun j => (trE L.g m C e).bind fun e' => some (.unp i j e') else none
          | _ => (trT C m (.Tuple us k p)).bind fun t => (trE L.g m C e).bind fun e' => some (.asg t e')) = some s' → PS X (.Assign [.Tuple us k p] e pos) (tS L d W s') := by
      intro us k p hne h
      split at h
      · cases h
      · rename_i hc
        have hc2 : isComp e = false := by simpa using hc
        have hw : swappedStores [.Tuple us k p] e X.env = pure none := by
          cases e <;> first | rfl | exact absurd rfl (hne _ _ _)
        split at h
        · rename_i x px y py sp
          split at h
          · rename_i hs
            rw [Bool.and_eq_true, Bool.and_eq_true, Bool.and_eq_true] at hs
            obtain ⟨i, hi, h⟩ := bd1 h
            obtain ⟨j, hj, h⟩ := bd1 h
            obtain ⟨e', he, h⟩ := bd1 h
            cases h
            refine psI (ps_asg (sd.e b he) (pg_star b.calm b.nd (b.ix hi) (b.ix hj) (b.loc hs.2.1) (b.loc hs.2.2.2) (b.st x (List.contains_iff_mem.mp hs.1)) (b.st y (List.contains_iff_mem.mp hs.2.2.1))) (sws_no hc2) hw) fun D σ H h => ?_
            refine tS_zero h fun n ρ σw G g s h => ?_
            simp only [evS] at h
            refine tR_toF (ev := fun n σ G => evE L.T n d e' σ G) g s h fun ρ1 w G1 v H1 s1 g1 sl1 r1 h1 => ?_
            split at h1
            · rename_i u ws
              split at h1
              · obtain ⟨a, xs, rfl, h2, h3⟩ := r1
                obtain ⟨x0, xs, rfl, h4, h5⟩ := h3
                rw [b.k]
                refine ⟨a, x0, xs, rfl, h2.t, fun p hp => ?_⟩
                have st : Stp ρ1 H1 (ρ1 ++ [p]) (upd H1 p (.lst xs)) := Stp.push hp
                refine (show QF L.N D W (.nx _ _) ρ1 H1 from h1) _ _ _ st (g1.push hp (show okHO (.lst xs) from True.intro) ⟨xs, upd_same, h5.stp g1 st _⟩) ?_
                refine ((sl1.stp g1 st).set i (h4.stp g1 st _)).set j ⟨p, ?_, rfl⟩
                rw [← g1.sz, List.getElem?_append_right (Nat.le_refl _)]
                simp
              · exact (show False from h1).elim
            · exact (show False from h1).elim
          · cases h
        · obtain ⟨t, ht, h⟩ := bd1 h
          obtain ⟨e', he, h⟩ := bd1 h
          cases h
          exact psI (ps_asg (sd.e b he) (trT_pg b m _ t ht) (sws_no hc2) hw) fun D σ H h => asg_ok (K := X.K) b.k h
    simp only [trS] at h
    · split at h
      · rename_i x p
        split at h
        · split at h
          · rename_i hg
            rw [Bool.and_eq_true] at hg
            exact name x p (by rw [if_pos hg.2]; exact h) (.inr ⟨_, _, _, _, rfl, of_decide_eq_true hg.1⟩)
          · cases h
        · split at h
          · cases h
          · rename_i hc
            exact name x p h (.inl (by simpa using hc))
      · rename_i us k p
        split at h
        · rename_i es k2 p2
          split at h
          · rename_i x px y py a c
            split at h
            · cases h
            · rename_i hc
              split at h
              · rename_i hl
                rw [Bool.and_eq_true, Bool.and_eq_true] at hl
                obtain ⟨i, hi, h⟩ := bd1 h
                obtain ⟨j, hj, h⟩ := bd1 h
                obtain ⟨a', ha, h⟩ := bd1 h
                obtain ⟨c', hc', h⟩ := bd1 h
                cases h
                have hs1 : isStar a = false := by
                  cases q : isStar a with
                  | false => rfl
                  | true => rw [q] at hc; exact absurd rfl hc
                have hs2 : isStar c = false := by
                  cases q : isStar c with
                  | false => rfl
                  | true => rw [q] at hc; simp at hc
                have hxy : x ≠ y := fun z => by
                  rw [hs1, hs2] at hc
                  simp [z] at hc
                have hlx : C.sc.names.lookup x = some .local := of_decide_eq_true hl.1
                have hly : C.sc.names.lookup y = some .local := of_decide_eq_true hl.2.1
                have hx : X.env.scope.names.lookup x = some .local := by rw [b.sc]; exact hlx
                have hy : X.env.scope.names.lookup y = some .local := by rw [b.sc]; exact hly
                have hij : i ≠ j := fun z => by
                  have e1 := ixS_get hi
                  have e2 := ixS_get hj
                  rw [z, e2] at e1
                  cases e1
                  exact hxy rfl
                have hfold : (foldedForSure 8 a && foldedForSure 8 c) = false ∧ (constantsAlone 8 a && constantsAlone 8 c) = false := by
                  rw [hs1, hs2] at hc
                  simp only [Bool.false_or, Bool.or_eq_true, not_or] at hc
                  exact ⟨by simpa using hc.2.1, by simpa using hc.2.2⟩
                have hline : (py.line == px.line) = true := hl.2.2
                refine psI (ps_par (ta := tCons (tE L d W a') (tCons (tE L d W c') tNil)) b.calm b.nd (b.ix hi) (b.ix hj) hij hx hy (pa_cons (sd.e b ha) (pa_cons (sd.e b hc') pa_nil (star_cons hs2)) (star_cons hs1)) ?_) fun D σ H h => ?_
                · have f1 : (foldedForSure 8 a && (foldedForSure 8 c && true)) = false := by rw [Bool.and_true]; exact hfold.1
                  have f2 : (constantsAlone 8 a && (constantsAlone 8 c && true)) = false := by rw [Bool.and_true]; exact hfold.2
                  have kx : X.env.kindOf x = some .local := hx
                  have ky : X.env.kindOf y = some .local := hy
                  exact par_stores kx ky hxy hline b.kind hs1 hs2 f1 f2
                · refine tS_zero h fun n ρ σw G g s h => ?_
                  simp only [evS] at h
                  exact par_ok g s h
              · cases h
          · cases h
        · rename_i hne
          exact tup us k p (fun es k2 p2 z => hne es k2 p2 z) h
      · rename_i o i p
        split at h
        · cases h
        · rename_i hc
          have hc2 : isComp e = false := by
            cases q : isComp e with
            | false => rfl
            | true => rw [q] at hc; exact absurd rfl hc
          have hsl : ¬ isSlice i = true := fun z => by rw [z, Bool.or_true] at hc; exact hc rfl
          obtain ⟨e', he, h⟩ := bd1 h
          obtain ⟨o', ho, h⟩ := bd1 h
          obtain ⟨i', hi, h⟩ := bd1 h
          cases h
          refine psI (ps_asg (sd.e b he) (pg_sub (sd.e b ho) (sd.e b hi) set_list (fun v => by cases i <;> first | rfl | (exact absurd rfl hsl))) (sws_no hc2) (by cases e <;> rfl)) fun D σ H h => ?_
          refine tS_zero h fun n ρ σw G g s h => ?_
          simp only [evS] at h
          refine tR_toF (ev := fun n σ G => evE L.T n d e' σ G) g s h fun ρ1 w G1 v H1 s1 g1 sl1 r1 h1 => ?_
          refine tR_toF (ev := fun n σ G => evE L.T n d o' σ G) g1 sl1 h1 fun ρ2 x G2 ov H2 s2 g2 sl2 r2 h2 => ?_
          refine tR_toF (ev := fun n σ G => evE L.T n d i' σ G) g2 sl2 h2 fun ρ3 y G3 iv H3 s3 g3 sl3 r3 h3 => ?_
          have r1' := (r1.stp g1 s2 _).stp g2 s3 _
          have r2' := r2.stp g2 s3 _
          split at h3
          · rename_i a kk
            split at h3
            · rename_i ws hG
              split at h3
              · rename_i jj hj
                obtain ⟨ad, rfl, k1, xs, k2, k3⟩ := g3.ref r2' hG
                have mem := List.mem_of_getElem? k1
                have st : Stp ρ3 H3 ρ3 (upd H3 ad (.lst (xs.set jj v))) := Stp.set mem
                refine ⟨ad, xs, kk, jj, rfl, r3, k2, by rw [← k3.len]; exact hj, ?_⟩
                refine QF.nx (QF.stp h3 st) (g3.set k1 (show okHO (.lst (xs.set jj v)) from True.intro) ⟨xs.set jj v, upd_same, (k3.set jj r1').stp g3 st _⟩) (sl3.stp g3 st)
              · exact (show False from h3).elim
            · exact (show False from h3).elim
          · exact (show False from h3).elim
      · rename_i o f p
        split at h
        · cases h
        · rename_i hc
          obtain ⟨e', he, h⟩ := bd1 h
          obtain ⟨o', ho, h⟩ := bd1 h
          obtain ⟨f', hf, h⟩ := bd1 h
          cases h
          refine psI (ps_fld (sd.e b ho) (sd.e b he) (sw_no (by simpa using hc))) fun D σ H h => ?_
          refine tS_zero h fun n ρ σw G g s h => ?_
          simp only [evS] at h
          refine tR_toF (ev := fun n σ G => evE L.T n d e' σ G) g s h fun ρ1 w G1 v H1 s1 g1 sl1 r1 h1 => ?_
          refine tR_toF (ev := fun n σ G => evE L.T n d o' σ G) g1 sl1 h1 fun ρ2 x G2 ov H2 s2 g2 sl2 r2 h2 => ?_
          have r1' := r1.stp g1 s2 _
          split at h2
          · rename_i a
            split at h2
            · rename_i c fs hG
              split at h2
              · rename_i hcond
                rw [Bool.and_eq_true] at hcond
                obtain ⟨ad, rfl, k1, dx, xs, k2, k3⟩ := g2.ref r2 hG
                obtain ⟨c1, c2⟩ := lk.fl c f' hcond.2
                have mem := List.mem_of_getElem? k1
                have put := k3.put lk.nmI (f := f') r1'
                rw [lk.nmE f f' hf] at put c2
                have st : Stp ρ2 H2 ρ2 (upd H2 ad (.ins (L.N.ca c) dx (putF f v xs))) := Stp.set mem
                rw [b.k]
                refine ⟨ad, _, dx, xs, rfl, k2, c1, c2, by rw [← k3.len]; exact of_decide_eq_true hcond.1, ?_⟩
                refine QF.nx (QF.stp h2 st) (g2.set k1 (show okHO (.ins (L.N.ca c) dx (putF f v xs)) from True.intro) ⟨dx, _, upd_same, put.stp g2 st _⟩) (sl2.stp g2 st)
              · exact (show False from h2).elim
            · exact (show False from h2).elim
          · exact (show False from h2).elim
      · cases h
  | Expr e pos =>
    simp only [trS] at h
    split at h
    · cases h
    · rename_i hc
      obtain ⟨e', he, h⟩ := bd1 h
      cases h
      refine psI (ps_expr (sd.e b he) (sw_no (by simpa using hc))) fun D σ H h => ?_
      refine tS_zero h fun n ρ σw G g s h => ?_
      simp only [evS] at h
      exact tR_toF (ev := fun n σ G => evE L.T n d e' σ G) g s h fun ρ1 w G1 v H1 s1 g1 sl1 r1 h1 => QF.nx h1 g1 sl1
  | If c x y pos =>
    simp only [trS] at h
    split at h
    · cases h
    · rename_i hi
      obtain ⟨c', hc, h⟩ := bd1 h
      obtain ⟨x', hx, h⟩ := bd1 h
      obtain ⟨y', hy, h⟩ := bd1 h
      cases h
      refine psI (ps_if (sd.t b (by simpa using hi) hc) (sq.ss b hp hx) (sq.ss b hp hy)) fun D σ H h => ?_
      refine tS_zero h fun n ρ σw G g s h => ?_
      simp only [evS] at h
      have h' : QF L.N D W (((evE L.T n d c' σw G).bind fun x G1 => PM.ofO (tru G1 x) G1).toF σw fun k G1 => if k then evSs L.T n d x' σw G1 else evSs L.T n d y' σw G1) ρ H := by
        cases q : evE L.T n d c' σw G with
        | ok v G' =>
          rw [q] at h
          have h : QF L.N D W (match tru G' v with
            | some true => evSs L.T n d x' σw G'
            | some false => evSs L.T n d y' σw G'
            | none => .bad) ρ H := h
          show QF L.N D W ((PM.ofO (tru G' v) G').toF σw _) ρ H
          cases q2 : tru G' v with
          | none => rw [q2] at h; exact h
          | some k =>
            rw [q2] at h
            cases k with
            | true => exact h
            | false => exact h
        | exc c dd G' => rw [q] at h; exact h
        | bad => rw [q] at h; exact h
      refine tR_toF (ev := fun n σ G => (evE L.T n d c' σ G).bind fun x G1 => ofO (tru G1 x) G1) g s h' fun ρ2 k G2 k' H2 s2 g2 sl2 r2 h2 => ?_
      rw [← show k = k' from r2]
      cases k with
      | true => exact ⟨n, ρ2, σw, G2, g2, sl2, h2⟩
      | false => exact ⟨n, ρ2, σw, G2, g2, sl2, h2⟩
  | For tg it body els pos =>
    simp only [trS] at h
    split at h
    · split at h
      · cases h
      · rename_i hset
        obtain ⟨it', hi, h⟩ := bd1 h
        obtain ⟨tg', ht, h⟩ := bd1 h
        obtain ⟨b', hb, h⟩ := bd1 h
        cases h
        refine psI (ps_for hp b.calm (sd.i b hi) (trT_pg b m tg tg' ht) (sq.ss b hp hb) (fun x => by cases it <;> first | rfl | (exact absurd rfl hset))) fun D σ H h => ?_
        refine tS_zero h fun n ρ σw G g s h => ?_
        simp only [evS] at h
        refine tR_toF (ev := fun n σ G => evI L.T n d it' σ G) g s h fun ρ1 iv G1 J H1 s1 g1 sl1 jr h1 => ?_
        have := for_ok g1 sl1 jr h1
        rw [← b.k] at this
        exact this
    · cases h
  | While c body els pos =>
    simp only [trS] at h
    split at h
    · split at h
      · cases h
      · rename_i hi
        obtain ⟨c', hc, h⟩ := bd1 h
        obtain ⟨b', hb, h⟩ := bd1 h
        cases h
        refine psI (ps_while hp (sd.t b (by simpa using hi) hc) (sq.ss b hp hb)) fun D σ H h => ?_
        refine tS_zero h fun n ρ σw G g s h => ?_
        simp only [evS] at h
        exact while_ok g s h
    · cases h
  | Return e pos =>
    cases e with
    | none =>
      simp only [trS] at h
      cases h
      refine psI ps_retN fun D σ H h => ?_
      refine tS_zero h fun n ρ σw G g s h => ?_
      simp only [evS] at h
      cases n with
      | zero => simp only [evE] at h; exact (show False from h).elim
      | succ n =>
        simp only [evE] at h
        exact (show QF L.N D W (.ret .non G) ρ H from h) ρ .non H (Stp.refl _ _) g rfl
    | some e =>
      simp only [trS] at h
      obtain ⟨e', he, h⟩ := bd1 h
      cases h
      refine psI (ps_ret (sd.e b he)) fun D σ H h => ?_
      refine tS_zero h fun n ρ σw G g s h => ?_
      simp only [evS] at h
      exact tR_toF (ev := fun n σ G => evE L.T n d e' σ G) g s h fun ρ1 w G1 v H1 s1 g1 sl1 r1 h1 => (show QF L.N D W (.ret w G1) ρ1 H1 from h1) ρ1 v H1 (Stp.refl _ _) g1 r1
  | Pass pos =>
    simp only [trS] at h
    cases h
    refine psI ps_pass fun D σ H h => ?_
    refine tS_zero h fun n ρ σw G g s h => ?_
    simp only [evS] at h
    exact QF.nx h g s
  | Break pos =>
    simp only [trS] at h
    cases h
    refine psI ps_break fun D σ H h => ?_
    refine tS_zero h fun n ρ σw G g s h => ?_
    simp only [evS] at h
    exact (show QF L.N D W (.brk σw G) ρ H from h) ρ σ H (Stp.refl _ _) g s
  | Continue pos =>
    simp only [trS] at h
    cases h
    refine psI ps_continue fun D σ H h => ?_
    refine tS_zero h fun n ρ σw G g s h => ?_
    simp only [evS] at h
    exact (show QF L.N D W (.cnt σw G) ρ H from h) ρ σ H (Stp.refl _ _) g s
  | AugAssign t op e pos =>
    cases t with
    | Name x px =>
      simp only [trS] at h
      split at h
      · rename_i hs
        rw [Bool.and_eq_true] at hs
        obtain ⟨o, ho, h⟩ := bd1 h
        obtain ⟨i, hi, h⟩ := bd1 h
        obtain ⟨e', he, h⟩ := bd1 h
        cases h
        have hloc := b.loc hs.2
        have hst := b.st x (List.contains_iff_mem.mp hs.1)
        have key : ∀ (o : BO) (f : Int → Int → Int), PIp X (unB o) (ipI f) → (∀ x y G w G', augop o x y G = some (w, G') → ∃ i j, x = .int i ∧ y = .int j ∧ w = .int (f i j) ∧ G' = G) → PS X (.AugAssign (.Name x px) (unB o) e pos) (tS L d W (.aug i o e')) := fun o f hp ha =>
          psI (ps_aug b.nd (b.ix hi) hloc (sd.e b he) hp hst) fun D σ H h => tS_zero h fun n ρ σw G g s h => by
            simp only [evS] at h
            split at h
            · rename_i wx hx
              obtain ⟨v, e1, r1⟩ := s.2 i wx hx
              refine ⟨v, e1, ?_⟩
              refine tR_toF (ev := fun n σ G => evE L.T n d e' σ G) g s h fun ρ1 wy G1 y H1 s1 g1 sl1 r2 h1 => ?_
              split at h1
              · rename_i w G2 hw
                obtain ⟨a, c, rfl, rfl, rfl, rfl⟩ := ha _ _ _ _ _ hw
                refine ⟨a, c, r1, r2, ?_⟩
                exact QF.nx h1 g1 (sl1.set i rfl)
              · exact (show False from h1).elim
            · exact (show False from h).elim
        have au : ∀ (o : BO) (f : Int → Int → Int), (∀ i j G, augop o (.int i) (.int j) G = some (.int (f i j), G)) → (∀ x y G w G', augop o x y G = some (w, G') → ∃ i j, x = .int i ∧ y = .int j) → ∀ x y G w G', augop o x y G = some (w, G') → ∃ i j, x = .int i ∧ y = .int j ∧ w = .int (f i j) ∧ G' = G := fun o f h1 h2 x y G w G' e => by
          obtain ⟨i, j, rfl, rfl⟩ := h2 x y G w G' e
          rw [h1] at e
          cases e
          exact ⟨i, j, rfl, rfl, rfl, rfl⟩
        cases op with
        | Add =>
          cases ho
          exact key .add _ ip_add (au .add _ (fun _ _ _ => rfl) fun x y G w G' e => by
            cases x <;> cases y <;> first | exact ⟨_, _, rfl, rfl⟩ | cases e)
        | Sub =>
          cases ho
          exact key .sub _ ip_sub (au .sub _ (fun _ _ _ => rfl) fun x y G w G' e => by
            cases x <;> cases y <;> first | exact ⟨_, _, rfl, rfl⟩ | cases e)
        | _ => cases ho
      · cases h
    | _ => simp only [trS] at h; cases h
  | _ => simp only [trS] at h; cases h
theorem QF.imp {D : Ends} {r : F} {ρ : List Addr} {H : Hp} {Nx : L2.St → Hp → Prop} {D2 : Ends} (h : QF L.N { D with nx := Nx } W r ρ H) (k : ∀ σ H', Nx σ H' → D2.nx σ H') (e1 : D2.rt = D.rt := by rfl) (e2 : D2.bk = D.bk := by rfl) (e3 : D2.ct = D.ct := by rfl) : QF L.N D2 W r ρ H := by
  cases r with
  | nx σ' G' => exact fun ρ4 σ4 H4 s4 g4 sl4 => k _ _ (h ρ4 σ4 H4 s4 g4 sl4)
  | cnt σ' G' => exact fun ρ4 σ4 H4 s4 g4 sl4 => by rw [e3]; exact h ρ4 σ4 H4 s4 g4 sl4
  | brk σ' G' => exact fun ρ4 σ4 H4 s4 g4 sl4 => by rw [e2]; exact h ρ4 σ4 H4 s4 g4 sl4
  | ret w' G' => exact fun ρ4 σ4 H4 s4 g4 sl4 => by rw [e1]; exact h ρ4 σ4 H4 s4 g4 sl4
  | exc c dd σ' G' => exact h
  | bad => exact h
theorem toF_then {r : F} {k : Sg → GH → F} {D : Ends} {ρ : List Addr} {H : Hp} (h : QF L.N D W (r.then k) ρ H) : QF L.N { D with nx := fun σ H' => ∃ ρ1 G1 σw, Rg L.N ρ1 G1 H' ∧ Rs L.N ρ1 H' σw σ ∧ QF L.N D W (k σw G1) ρ1 H' } W r ρ H := by
  cases r with
  | nx σ' G' => exact fun ρ4 σ4 H4 s4 g4 sl4 => ⟨ρ4, G', σ', g4, sl4, QF.stp h s4⟩
  | cnt σ' G' => exact h
  | brk σ' G' => exact h
  | ret w' G' => exact h
  | exc c dd σ' G' => exact h
  | bad => exact h
theorem step_ss (sq : Sq L m) (b : Bk L X C W d) (hp : PassesOwn (model X.prog X.w) X.A X.env X.xe) {st : List Stmt} {s' : List S} (h : trSs L.g (m + 1) C st = some s') : PSs X st (tSs L d W s') := by
  cases st with
  | nil =>
    simp only [trSs] at h
    cases h
    refine pssI pss_nil fun D σ H ⟨n, ρ, σw, G, g, s, h⟩ => ?_
    cases n with
    | zero => simp only [evSs] at h; exact (show False from h).elim
    | succ n => simp only [evSs] at h; exact QF.nx h g s
  | cons a r =>
    simp only [trSs] at h
    obtain ⟨r', hr, h⟩ := bd1 h
    cases h
    have pa : PS X a (tS L d W ((trS L.g m C a).getD .bad)) := by
      cases ha : trS L.g m C a with
      | some a' => exact sq.s b hp ha
      | none =>
        refine psI ps_never fun D σ H h => tS_zero h fun n ρ σw G g s h => ?_
        simp only [Option.getD_none, evS] at h
        exact h
    generalize (trS L.g m C a).getD .bad = a' at pa
    refine pssI (pss_cons pa (sq.ss b hp hr)) fun D σ H ⟨n, ρ, σw, G, g, s, h⟩ => ?_
    cases n with
    | zero => simp only [evSs] at h; exact (show False from h).elim
    | succ n =>
      simp only [evSs] at h
      refine ⟨n, ρ, σw, G, g, s, ?_⟩
      have h2 := toF_then h
      exact QF.imp h2 fun σ' H' ⟨ρ1, G1, σw1, g1, sl1, h3⟩ => ⟨n, ρ1, σw1, G1, g1, sl1, h3⟩
theorem sq_all (lk : Lk L) : ∀ m, Sq L m
  | 0 => sq_zero
  | m + 1 => ⟨fun b hp h => step_s lk (sq_all lk m) b hp h, fun b hp h => step_ss (sq_all lk m) b hp h⟩
end
theorem Rs.start {N : En} {ρ : List Addr} {H : Hp} {k : Nat} : ∀ {ws : List W} {vs : List V}, Rws N ρ H ws vs → Rs N ρ H (ws.map some ++ List.replicate k none) (vs.map some ++ List.replicate k none)
  | ws, vs, h => by
    refine ⟨by rw [List.length_append, List.length_append, List.length_map, List.length_map, h.len, List.length_replicate, List.length_replicate], fun i w e => ?_⟩
    by_cases hi : i < ws.length
    · rw [List.getElem?_append_left (by rw [List.length_map]; exact hi), List.getElem?_map] at e
      rw [List.getElem?_append_left (by rw [List.length_map, ← h.len]; exact hi), List.getElem?_map]
      cases q : ws[i]? with
      | none => rw [q] at e; cases e
      | some u =>
        rw [q] at e
        cases e
        obtain ⟨v, h1, h2⟩ := h.get q
        exact ⟨v, by rw [h1]; rfl, h2⟩
    · rw [List.getElem?_append_right (by rw [List.length_map]; omega), List.getElem?_replicate] at e
      split at e <;> cases e
theorem out_QF {N : En} {Q : VK} {E : XK} {r : F} {ρ : List Addr} {H : Hp} (h : QC N Q E r.out ρ H) : QF N { nx := fun _ H' => Q .non H', rt := Q } (fun c dd _ H' => E c dd H') r ρ H := by
  cases r with
  | nx σ' G' => exact fun ρ4 σ4 H4 s4 g4 sl4 => h ρ4 .non H4 s4 g4 rfl
  | cnt σ' G' => exact (show False from h).elim
  | brk σ' G' => exact (show False from h).elim
  | ret w' G' => exact fun ρ4 v H4 s4 g4 r4 => h ρ4 v H4 s4 g4 r4
  | exc c dd σ' G' => exact fun ρ4 σ4 H4 cls dd' s4 g4 sl4 x y => h ρ4 H4 cls dd' s4 g4 x y
  | bad => exact (show False from h).elim
theorem all_zero (L : Pg) : All1 L 0 := by
  intro f fd hf
  refine ⟨fun _ => ?_, fun _ => ?_⟩
  case refine_2 =>
    rintro A outer s H us vs Q E hr e0 r ⟨n, ρ, G, ws, g, _, h⟩
    rw [evC_d0] at h
    exact (show False from h).elim
  have no : ∀ vs H Q E, spF L 0 f vs H Q E → False := by
    rintro vs H Q E ⟨n, ρ, G, ws, g, r, h⟩
    rw [evC_d0] at h
    exact h
  exact ⟨fun vs H Q E h => (no vs H Q E h).elim, fun A outer s H args us vs Q E hr e0 hb hv h => (no vs H Q E h).elim⟩
theorem all_succ {L : Pg} (lk : Lk L) {d : Nat} (ih : ∀ j, j ≤ d → All1 L j) : All1 L (d + 1) := by
  intro f fd hf
  obtain ⟨F, S, ⟨m, hm⟩, hnp, hns, hva⟩ := lk.df f fd hf
  refine ⟨fun hv => ?_, fun hv => ?_⟩
  case refine_2 =>
    obtain ⟨ps', pv, hps, hb⟩ := hva hv
    obtain ⟨oc, od, dV, kV, doc, pm, an, cdv, ct, osl, efd, lkf, hcd, hD, hK⟩ := F.ex
    rw [efd] at hb lkf
    rw [hps] at S hnp
    have hnp : fd.np = ps'.length + 1 := by rw [hnp, List.length_append]; rfl
    have base := StX.fn_star (k := d) (sp := fun vs H Q E => ∃ n ρ G us, Rg L.N ρ G H ∧ Rws L.N ρ H us vs ∧ us.length = fd.np ∧ QC L.N Q E (evSs L.T n d fd.body (us.map some ++ List.replicate (fd.ns - fd.np) none) G).out ρ H) lkf hcd S (StX.cxUp (P := L.P) (w := L.w)) hb fun A outer s H vs Q E hr h => by
      obtain ⟨n, ρ, G, ws, g, r, hl, h⟩ := h
      have b : Bk L (cxOf (L2.CX L.P L.w) L.P L.w L.N.K L.mg L.base (L.df f).N (L.df f).qual (L.df f).scope (L.N.fa f) cdv A outer s H E) ⟨(L.df f).N, (L.df f).scope, (L.df f).N⟩ (fun c dd _ H' => E c dd H') d :=
        ⟨rfl, rfl, rfl, rfl, rfl, rfl, S.nd, rfl, rfl, S.kind, hr, fun _ _ => .inl rfl, takes_of rfl rfl rfl rfl, ih⟩
      refine ⟨_, (sq_all lk m).ss b (passes_of rfl) hm, n, ρ, ws.map some ++ List.replicate (fd.ns - fd.np) none, G, g, ?_, ?_⟩
      · have := Rs.start (k := fd.ns - fd.np) r
        have e : L2.start (L.df f).N vs = vs.map some ++ List.replicate (fd.ns - fd.np) none := by
          unfold L2.start
          rw [hns, ← hl, r.len]
        rw [e]
        exact this
      · exact out_QF h
    refine base.imp fun vs H Q E h => ?_
    obtain ⟨n, ρ, G, ws, g, r, h⟩ := h
    cases n with
    | zero => simp only [evC] at h; exact (show False from h).elim
    | succ n =>
      simp only [evC, hf] at h
      unfold argsOf at h
      rw [if_pos hv] at h
      split at h
      · rename_i us hus
        split at hus
        · rename_i hz
          rw [Bool.and_eq_true, Bool.and_eq_true] at hz
          cases hus
          have hz1 : fd.np - 1 ≤ ws.length := of_decide_eq_true hz.1
          have hz2 : ws.length ≤ sizeLine := szOk_le hz.2.1
          have e1 : fd.np - 1 = ps'.length := by omega
          rw [e1] at h hz1
          have l1 := r.len
          refine ⟨vs.take ps'.length, vs.drop ps'.length, (List.take_append_drop _ _).symm, by rw [List.length_take]; omega, by rw [List.length_drop]; omega, fun p hp => ?_⟩
          have st : Stp ρ H ρ (upd H p (.tup (vs.drop ps'.length))) := Stp.laid hp
          have rt : Rw L.N ρ (upd H p (.tup (vs.drop ps'.length))) (.tup (ws.drop ps'.length)) (.ref p) := ⟨p, _, rfl, .inl upd_same, (r.drop _).stp g st _⟩
          refine ⟨n, ρ, G, ws.take ps'.length ++ [.tup (ws.drop ps'.length)], g.laid hp, ((r.take _).stp g st _).append (Rws.one rt), by rw [List.length_append, List.length_take, List.length_singleton]; omega, ?_⟩
          exact QG.stp h st
        · cases hus
      · exact (show False from h).elim
  have len : ∀ vs H Q E, spF L (d + 1) f vs H Q E → ∃ n ρ G ws, Rg L.N ρ G H ∧ Rws L.N ρ H ws vs ∧ ws.length = fd.np ∧ QC L.N Q E (evSs L.T n d fd.body (ws.map some ++ List.replicate (fd.ns - fd.np) none) G).out ρ H := by
    rintro vs H Q E ⟨n, ρ, G, ws, g, r, h⟩
    cases n with
    | zero => simp only [evC] at h; exact (show False from h).elim
    | succ n =>
      simp only [evC, hf] at h
      unfold argsOf at h
      rw [if_neg (by rw [hv]; decide)] at h
      split at h
      · rename_i us hus
        split at hus
        · rename_i hl
          cases hus
          exact ⟨n, ρ, G, ws, g, r, hl, h⟩
        · cases hus
      · exact (show False from h).elim
  refine F.ok S (fun vs H Q E h => ?_) fun cdv A outer s H vs Q E hr h => ?_
  · obtain ⟨n, ρ, G, ws, g, r, hl, _⟩ := len vs H Q E h
    rw [← r.len, hl, hnp]
  · obtain ⟨n, ρ, G, ws, g, r, hl, h⟩ := len vs H Q E h
    have b : Bk L (cxOf (L2.CX L.P L.w) L.P L.w L.N.K L.mg L.base (L.df f).N (L.df f).qual (L.df f).scope (L.N.fa f) cdv A outer s H E) ⟨(L.df f).N, (L.df f).scope, (L.df f).N⟩ (fun c dd _ H' => E c dd H') d :=
      ⟨rfl, rfl, rfl, rfl, rfl, rfl, S.nd, rfl, rfl, S.kind, hr, fun _ _ => .inl rfl, takes_of rfl rfl rfl rfl, ih⟩
    refine ⟨_, (sq_all lk m).ss b (passes_of rfl) hm, n, ρ, ws.map some ++ List.replicate (fd.ns - fd.np) none, G, g, ?_, ?_⟩
    · have := Rs.start (k := fd.ns - fd.np) r
      have e : L2.start (L.df f).N vs = vs.map some ++ List.replicate (fd.ns - fd.np) none := by
        unfold L2.start
        rw [hns, ← hl, r.len]
      rw [e]
      exact this
    · exact out_QF h
theorem all_ok {L : Pg} (lk : Lk L) : ∀ d, All1 L d := by
  intro d
  have : ∀ j, j ≤ d → All1 L j := by
    induction d with
    | zero =>
      intro j hj
      rw [Nat.le_zero.mp hj]
      exact all_zero L
    | succ d ih =>
      intro j hj
      rcases Nat.lt_or_ge j (d + 1) with h | h
      · exact ih j (Nat.le_of_lt_succ h)
      · rw [Nat.le_antisymm hj h]
        exact all_succ lk ih
  exact this d (Nat.le_refl _)
end PM

set_option maxHeartbeats 4000000
/-! PmP: more fuel changes no answer; the answer without fuel. -/
namespace PM
open PySem L2

def R.le {α : Type} (r r' : R α) : Prop := r = .bad ∨ r = r'
def F.le (r r' : F) : Prop := r = .bad ∨ r = r'
theorem R.le.rfl {α : Type} {r : R α} : R.le r r := .inr (Eq.refl r)
theorem F.le.rfl {r : F} : F.le r r := .inr (Eq.refl r)
theorem R.bot {α : Type} {r : R α} : R.le .bad r := .inl (Eq.refl _)
theorem F.bot {r : F} : F.le .bad r := .inl (Eq.refl _)
theorem R.le.bind {α β : Type} {r r' : R α} {f f' : α → GH → R β} (h : R.le r r') (k : ∀ a G, R.le (f a G) (f' a G)) : R.le (r.bind f) (r'.bind f') := by
  rcases h with rfl | rfl
  · exact .inl (Eq.refl _)
  · cases r with
    | ok a G => exact k a G
    | exc _ _ _ => exact .inr (Eq.refl _)
    | bad => exact .inl (Eq.refl _)
theorem R.le.nox {α : Type} {r r' : R α} (h : R.le r r') : R.le r.nox r'.nox := by
  rcases h with rfl | rfl
  · exact .inl (Eq.refl _)
  · exact .inr (Eq.refl _)
theorem R.le.toF {α : Type} {r r' : R α} {σ : Sg} {f f' : α → GH → F} (h : R.le r r') (k : ∀ a G, F.le (f a G) (f' a G)) : F.le (r.toF σ f) (r'.toF σ f') := by
  rcases h with rfl | rfl
  · exact .inl (Eq.refl _)
  · cases r with
    | ok a G => exact k a G
    | exc _ _ _ => exact .inr (Eq.refl _)
    | bad => exact .inl (Eq.refl _)
theorem F.le.then {r r' : F} {f f' : Sg → GH → F} (h : F.le r r') (k : ∀ a G, F.le (f a G) (f' a G)) : F.le (r.then f) (r'.then f') := by
  rcases h with rfl | rfl
  · exact .inl (Eq.refl _)
  · cases r with
    | nx a G => exact k a G
    | bad => exact .inl (Eq.refl _)
    | _ => exact .inr (Eq.refl _)
theorem F.le.out {r r' : F} (h : F.le r r') : R.le r.out r'.out := by
  rcases h with rfl | rfl
  · exact .inl (Eq.refl _)
  · exact .inr (Eq.refl _)
def F.loop (r : F) (f : Sg → GH → F) : F := match r with
  | .nx σ2 G2 => f σ2 G2
  | .cnt σ2 G2 => f σ2 G2
  | .brk σ2 G2 => .nx σ2 G2
  | r => r
theorem F.le.loop {r r' : F} {f f' : Sg → GH → F} (h : F.le r r') (k : ∀ a G, F.le (f a G) (f' a G)) : F.le (r.loop f) (r'.loop f') := by
  rcases h with rfl | rfl
  · exact .inl (Eq.refl _)
  · cases r with
    | nx a G => exact k a G
    | cnt a G => exact k a G
    | bad => exact .inl (Eq.refl _)
    | _ => exact .inr (Eq.refl _)
section
variable {T : Tb} {n d : Nat} {iv : IV} {i : Nat} {tg : Tg} {b : List S} {c : E} {σ σ1 : Sg} {G : GH} {w : W}
theorem evF_bad (h : iv.at G i = none) : evF T (n + 1) d iv i tg b σ G = .bad := by simp only [evF, h]
theorem evF_end (h : iv.at G i = some none) : evF T (n + 1) d iv i tg b σ G = .nx σ G := by simp only [evF, h]
theorem evF_asg (h : iv.at G i = some (some w)) (k : asgT tg w σ = none) : evF T (n + 1) d iv i tg b σ G = .bad := by simp only [evF, h, k]
theorem evF_go (h : iv.at G i = some (some w)) (k : asgT tg w σ = some σ1) : evF T (n + 1) d iv i tg b σ G = (evSs T n d b σ1 G).loop fun σ2 G2 => evF T n d iv (i + 1) tg b σ2 G2 := by
  simp only [evF, h, k]
  rfl
theorem evW_go : evW T (n + 1) d c b σ G = (evE T n d c σ G).toF σ fun x G1 => match tru G1 x with
    | some true => (evSs T n d b σ G1).loop fun σ2 G2 => evW T n d c b σ2 G2
    | some false => .nx σ G1
    | none => .bad := by
  simp only [evW]
  rfl
end
structure Mn (T : Tb) (n : Nat) : Prop where
  e : ∀ d e σ G, R.le (evE T n d e σ G) (evE T (n + 1) d e σ G)
  es : ∀ d e σ G, R.le (evEs T n d e σ G) (evEs T (n + 1) d e σ G)
  a : ∀ d e σ G, R.le (evA T n d e σ G) (evA T (n + 1) d e σ G)
  i : ∀ d e σ G, R.le (evI T n d e σ G) (evI T (n + 1) d e σ G)
  l : ∀ d iv i tg ifs e σ vs acc G, R.le (evL T n d iv i tg ifs e σ vs acc G) (evL T (n + 1) d iv i tg ifs e σ vs acc G)
  k : ∀ d iv i tg ifs tg1 it1 ifs1 e σ vs acc G, R.le (evK T n d iv i tg ifs tg1 it1 ifs1 e σ vs acc G) (evK T (n + 1) d iv i tg ifs tg1 it1 ifs1 e σ vs acc G)
  c : ∀ d f ws G, R.le (evC T n d f ws G) (evC T (n + 1) d f ws G)
  s : ∀ d s σ G, F.le (evS T n d s σ G) (evS T (n + 1) d s σ G)
  ss : ∀ d s σ G, F.le (evSs T n d s σ G) (evSs T (n + 1) d s σ G)
  f : ∀ d iv i tg b σ G, F.le (evF T n d iv i tg b σ G) (evF T (n + 1) d iv i tg b σ G)
  w : ∀ d c b σ G, F.le (evW T n d c b σ G) (evW T (n + 1) d c b σ G)
section
variable {T : Tb} {n : Nat}
theorem mn_zero : Mn T 0 where
  e := fun d e σ G => by rw [show evE T 0 d e σ G = .bad from by simp only [evE]]; exact R.bot
  es := fun d e σ G => by rw [show evEs T 0 d e σ G = .bad from by simp only [evEs]]; exact R.bot
  a := fun d e σ G => by rw [show evA T 0 d e σ G = .bad from by simp only [evA]]; exact R.bot
  i := fun d e σ G => by rw [show evI T 0 d e σ G = .bad from by simp only [evI]]; exact R.bot
  l := fun d iv i tg ifs e σ vs acc G => by rw [show evL T 0 d iv i tg ifs e σ vs acc G = .bad from by simp only [evL]]; exact R.bot
  k := fun d iv i tg ifs tg1 it1 ifs1 e σ vs acc G => by rw [show evK T 0 d iv i tg ifs tg1 it1 ifs1 e σ vs acc G = .bad from by simp only [evK]]; exact R.bot
  c := fun d f ws G => by rw [show evC T 0 d f ws G = .bad from by simp only [evC]]; exact R.bot
  s := fun d s σ G => by rw [show evS T 0 d s σ G = .bad from by simp only [evS]]; exact F.bot
  ss := fun d s σ G => by rw [show evSs T 0 d s σ G = .bad from by simp only [evSs]]; exact F.bot
  f := fun d iv i tg b σ G => by rw [show evF T 0 d iv i tg b σ G = .bad from by simp only [evF]]; exact F.bot
  w := fun d c b σ G => by rw [show evW T 0 d c b σ G = .bad from by simp only [evW]]; exact F.bot
theorem mn_e (h : Mn T n) (d : Nat) (e : E) (σ : Sg) (G : GH) : R.le (evE T (n + 1) d e σ G) (evE T (n + 1 + 1) d e σ G) := by
  cases e with
  | cst w => simp only [evE]; exact R.le.rfl
  | var i => simp only [evE]; exact R.le.rfl
  | bin o a b => simp only [evE]; exact (h.e ..).bind fun _ _ => (h.e ..).bind fun _ _ => R.le.rfl
  | cmp o a b => simp only [evE]; exact (h.e ..).bind fun _ _ => (h.e ..).bind fun _ _ => R.le.rfl
  | and a b =>
    simp only [evE]
    exact (h.e ..).bind fun _ _ => R.le.bind R.le.rfl fun k _ => by
      cases k with
      | true => exact h.e ..
      | false => exact R.le.rfl
  | or a b =>
    simp only [evE]
    exact (h.e ..).bind fun _ _ => R.le.bind R.le.rfl fun k _ => by
      cases k with
      | false => exact h.e ..
      | true => exact R.le.rfl
  | not a => simp only [evE]; exact (h.e ..).bind fun _ _ => R.le.rfl
  | neg a => simp only [evE]; exact (h.e ..).bind fun _ _ => R.le.rfl
  | ife c a b =>
    simp only [evE]
    exact (h.e ..).bind fun _ _ => R.le.bind R.le.rfl fun k _ => by
      cases k with
      | true => exact h.e ..
      | false => exact h.e ..
  | tup es => simp only [evE]; exact (h.a ..).bind fun _ _ => R.le.rfl
  | lst es => simp only [evE]; exact (h.a ..).bind fun _ _ => R.le.rfl
  | ix a i => simp only [evE]; exact (h.e ..).bind fun _ _ => (h.e ..).bind fun _ _ => R.le.rfl
  | sl a lo hi => simp only [evE]; exact (h.e ..).bind fun _ _ => R.le.bind ((h.e ..).bind fun _ _ => R.le.rfl) fun _ _ => R.le.bind ((h.e ..).bind fun _ _ => R.le.rfl) fun _ _ => R.le.rfl
  | call f es bd =>
    simp only [evE]
    refine (h.es ..).bind fun ws G1 => ?_
    cases bindA bd ws with
    | none => exact R.le.rfl
    | some us => exact h.c ..
  | mk c es bd =>
    simp only [evE]
    cases T.ini.lookup c with
    | none => exact R.le.rfl
    | some f =>
      refine (h.es ..).bind fun ws G1 => ?_
      cases bindA bd (.ref G1.sz :: ws) with
      | none => exact R.le.rfl
      | some us => exact (h.c ..).bind fun _ _ => R.le.rfl
  | met o m es =>
    simp only [evE]
    refine (h.e ..).bind fun x G1 => ?_
    cases mkOf T G1 x m with
    | none => exact R.le.rfl
    | some k =>
      cases k with
      | b k => exact (h.es ..).bind fun _ _ => R.le.rfl
      | f f => exact (h.es ..).bind fun _ _ => h.c ..
  | att o f => simp only [evE]; exact (h.e ..).bind fun _ _ => R.le.rfl
  | blt b es => simp only [evE]; exact (h.es ..).bind fun _ _ => R.le.rfl
  | lc vs tg it ifs e => simp only [evE]; exact (h.i ..).bind fun _ _ => R.le.bind (h.l ..).nox fun _ _ => R.le.rfl
  | lc2 vs tg it ifs vs1 tg1 it1 ifs1 e => simp only [evE]; exact (h.i ..).bind fun _ _ => R.le.bind (h.k ..).nox fun _ _ => R.le.rfl
  | chn o o2 a b c =>
    simp only [evE]
    refine (h.e ..).bind fun x G1 => (h.e ..).bind fun y G2 => R.le.bind R.le.rfl fun k G2 => ?_
    cases k with
    | true => exact (h.e ..).bind fun _ _ => R.le.rfl
    | false => exact R.le.rfl
  | maxd a b => simp only [evE]; exact (h.e ..).bind fun _ _ => (h.e ..).bind fun _ _ => R.le.rfl
  | bad => simp only [evE]; exact R.le.rfl
theorem mn_s (h : Mn T n) (d : Nat) (s : S) (σ : Sg) (G : GH) : F.le (evS T (n + 1) d s σ G) (evS T (n + 1 + 1) d s σ G) := by
  cases s with
  | asg t e => simp only [evS]; exact (h.e ..).toF fun _ _ => F.le.rfl
  | sub o i e => simp only [evS]; exact (h.e ..).toF fun _ _ => (h.e ..).toF fun _ _ => (h.e ..).toF fun _ _ => F.le.rfl
  | att o f e => simp only [evS]; exact (h.e ..).toF fun _ _ => (h.e ..).toF fun _ _ => F.le.rfl
  | par is es => simp only [evS]; exact (h.es ..).toF fun _ _ => F.le.rfl
  | exp e => simp only [evS]; exact (h.e ..).toF fun _ _ => F.le.rfl
  | ife c a b =>
    simp only [evS]
    refine (h.e ..).toF fun x G1 => ?_
    cases tru G1 x with
    | none => exact F.le.rfl
    | some k =>
      cases k with
      | true => exact h.ss ..
      | false => exact h.ss ..
  | «for» t it b => simp only [evS]; exact (h.i ..).toF fun _ _ => h.f ..
  | whl c b => simp only [evS]; exact h.w ..
  | ret e => simp only [evS]; exact (h.e ..).toF fun _ _ => F.le.rfl
  | pass => simp only [evS]; exact F.le.rfl
  | brk => simp only [evS]; exact F.le.rfl
  | cnt => simp only [evS]; exact F.le.rfl
  | bad => simp only [evS]; exact F.le.rfl
  | aug i o e =>
    simp only [evS]
    split
    · exact (h.e ..).toF fun _ _ => F.le.rfl
    · exact F.le.rfl
  | unp i j e => simp only [evS]; exact (h.e ..).toF fun _ _ => F.le.rfl
theorem mn_succ (h : Mn T n) : Mn T (n + 1) where
  e := mn_e h
  es := fun d e σ G => by
    cases e with
    | nil => simp only [evEs]; exact R.le.rfl
    | cons a r => simp only [evEs]; exact (h.e ..).bind fun _ _ => (h.es ..).bind fun _ _ => R.le.rfl
  a := fun d e σ G => by
    cases e with
    | nil => simp only [evA]; exact R.le.rfl
    | cons a r =>
      cases a with
      | e x => simp only [evA]; exact (h.e ..).bind fun _ _ => (h.a ..).bind fun _ _ => R.le.rfl
      | s x => simp only [evA]; exact (h.e ..).bind fun _ _ => R.le.bind R.le.rfl fun _ _ => (h.a ..).bind fun _ _ => R.le.rfl
  i := fun d it σ G => by
    cases it with
    | e x => simp only [evI]; exact (h.e ..).bind fun _ _ => R.le.rfl
    | rng es => simp only [evI]; exact (h.es ..).bind fun _ _ => R.le.rfl
    | zip a b => simp only [evI]; exact (h.e ..).bind fun _ _ => (h.e ..).bind fun _ _ => R.le.rfl
  l := fun d iv i tg ifs e σ vs acc G => by
    cases hat : iv.at G i with
    | none => rw [evL_bad hat]; exact R.bot
    | some ow =>
      cases ow with
      | none => rw [evL_end hat, evL_end hat]; exact R.le.rfl
      | some w =>
        cases hasg : asgT tg w σ with
        | none => rw [evL_asg hat hasg]; exact R.bot
        | some σ1 =>
          cases ifs with
          | nil =>
            rw [evL_go0 hat hasg, evL_go0 hat hasg]
            refine (h.e ..).bind fun u G1 => ?_
            split
            · exact h.l ..
            · exact R.le.rfl
          | cons c r =>
            cases r with
            | nil =>
              rw [evL_go1 hat hasg, evL_go1 hat hasg]
              refine R.le.bind ((h.e ..).bind fun x G1 => R.le.rfl) fun k G1 => ?_
              cases k with
              | true =>
                refine (h.e ..).bind fun u G2 => ?_
                split
                · exact h.l ..
                · exact R.le.rfl
              | false => exact h.l ..
            | cons _ _ => rw [evL_go2 hat hasg]; exact R.bot
  k := fun d iv i tg ifs tg1 it1 ifs1 e σ vs acc G => by
    cases hat : iv.at G i with
    | none => rw [evK_bad hat]; exact R.bot
    | some ow =>
      cases ow with
      | none => rw [evK_end hat, evK_end hat]; exact R.le.rfl
      | some w =>
        cases hasg : asgT tg w σ with
        | none => rw [evK_asg hat hasg]; exact R.bot
        | some σ1 =>
          cases ifs with
          | nil =>
            rw [evK_go hat hasg, evK_go hat hasg]
            exact (h.i ..).bind fun _ _ => (h.l ..).bind fun _ _ => h.k ..
          | cons c r => rw [evK_no hat hasg]; exact R.bot
  c := fun d f ws G => by
    cases d with
    | zero => simp only [evC]; exact R.le.rfl
    | succ d =>
      simp only [evC]
      cases T.fn f with
      | none => exact R.le.rfl
      | some fd =>
        dsimp only
        cases argsOf fd ws with
        | none => exact R.le.rfl
        | some us => exact (h.ss ..).out
  s := mn_s h
  ss := fun d s σ G => by
    cases s with
    | nil => simp only [evSs]; exact F.le.rfl
    | cons a r => simp only [evSs]; exact (h.s ..).then fun _ _ => h.ss ..
  f := fun d iv i tg b σ G => by
    cases hat : iv.at G i with
    | none => rw [evF_bad hat]; exact F.bot
    | some ow =>
      cases ow with
      | none => rw [evF_end hat, evF_end hat]; exact F.le.rfl
      | some w =>
        cases hasg : asgT tg w σ with
        | none => rw [evF_asg hat hasg]; exact F.bot
        | some σ1 =>
          rw [evF_go hat hasg, evF_go hat hasg]
          exact (h.ss d b σ1 G).loop fun σ2 G2 => h.f d iv (i + 1) tg b σ2 G2
  w := fun d c b σ G => by
    rw [evW_go, evW_go]
    refine (h.e ..).toF fun x G1 => ?_
    cases tru G1 x with
    | none => exact F.le.rfl
    | some k =>
      cases k with
      | true => exact (h.ss d b σ G1).loop fun σ2 G2 => h.w d c b σ2 G2
      | false => exact F.le.rfl
theorem mn (T : Tb) : ∀ n, Mn T n
  | 0 => mn_zero
  | n + 1 => mn_succ (mn T n)
end

/-! ### the answer without fuel -/
open Classical in
noncomputable def limR {α : Type} (f : Nat → R α) : R α := if h : ∃ n, f n ≠ .bad then f h.choose else .bad
open Classical in
noncomputable def limF (f : Nat → F) : F := if h : ∃ n, f n ≠ .bad then f h.choose else .bad
def MonR {α : Type} (f : Nat → R α) : Prop := ∀ n, R.le (f n) (f (n + 1))
def MonF (f : Nat → F) : Prop := ∀ n, F.le (f n) (f (n + 1))
section
variable {α β : Type} {f : Nat → R α} {g : Nat → F}
theorem MonR.up (m : MonR f) {n : Nat} (h : f n ≠ .bad) : ∀ k, f (n + k) = f n
  | 0 => rfl
  | k + 1 => by
    have ih := m.up h k
    rcases m (n + k) with e | e
    · rw [ih] at e; exact absurd e h
    · rw [← ih, e]; rfl
theorem MonR.eq (m : MonR f) {n k : Nat} (h : f n ≠ .bad) (h2 : f k ≠ .bad) : f n = f k := by
  rcases Nat.le_total n k with l | l
  · rw [← m.up h (k - n), Nat.add_sub_cancel' l]
  · rw [← m.up h2 (n - k), Nat.add_sub_cancel' l]
theorem MonR.lim (m : MonR f) {n : Nat} (h : f n ≠ .bad) : limR f = f n := by
  unfold limR
  have ex : ∃ n, f n ≠ .bad := ⟨n, h⟩
  rw [dif_pos ex]
  exact m.eq ex.choose_spec h
theorem lim_bad (h : ∀ n, f n = .bad) : limR f = .bad := by
  unfold limR
  rw [dif_neg (fun ⟨n, k⟩ => k (h n))]
theorem lim_ex {r : R α} (h : limR f = r) (hr : r ≠ .bad) : ∃ n, f n = r := by
  unfold limR at h
  by_cases ex : ∃ n, f n ≠ .bad
  · rw [dif_pos ex] at h
    exact ⟨_, h⟩
  · rw [dif_neg ex] at h
    exact absurd h.symm hr
theorem MonF.up (m : MonF g) {n : Nat} (h : g n ≠ .bad) : ∀ k, g (n + k) = g n
  | 0 => rfl
  | k + 1 => by
    have ih := m.up h k
    rcases m (n + k) with e | e
    · rw [ih] at e; exact absurd e h
    · rw [← ih, e]; rfl
theorem MonF.eq (m : MonF g) {n k : Nat} (h : g n ≠ .bad) (h2 : g k ≠ .bad) : g n = g k := by
  rcases Nat.le_total n k with l | l
  · rw [← m.up h (k - n), Nat.add_sub_cancel' l]
  · rw [← m.up h2 (n - k), Nat.add_sub_cancel' l]
theorem MonF.lim (m : MonF g) {n : Nat} (h : g n ≠ .bad) : limF g = g n := by
  unfold limF
  have ex : ∃ n, g n ≠ .bad := ⟨n, h⟩
  rw [dif_pos ex]
  exact m.eq ex.choose_spec h
theorem limF_bad (h : ∀ n, g n = .bad) : limF g = .bad := by
  unfold limF
  rw [dif_neg (fun ⟨n, k⟩ => k (h n))]
theorem limF_ex {r : F} (h : limF g = r) (hr : r ≠ .bad) : ∃ n, g n = r := by
  unfold limF at h
  by_cases ex : ∃ n, g n ≠ .bad
  · rw [dif_pos ex] at h
    exact ⟨_, h⟩
  · rw [dif_neg ex] at h
    exact absurd h.symm hr
theorem lim_succ (m : MonR f) (h0 : f 0 = .bad) : limR f = limR fun n => f (n + 1) := by
  by_cases ex : ∃ n, f n ≠ .bad
  · obtain ⟨n, h⟩ := ex
    cases n with
    | zero => exact absurd h0 h
    | succ n =>
      rw [m.lim h]
      exact (MonR.lim (f := fun n => f (n + 1)) (fun n => m (n + 1)) (n := n) h).symm
  · have all : ∀ n, f n = .bad := fun n => Classical.not_not.mp fun h => ex ⟨n, h⟩
    rw [lim_bad all, lim_bad fun n => all (n + 1)]
theorem limF_succ (m : MonF g) (h0 : g 0 = .bad) : limF g = limF fun n => g (n + 1) := by
  by_cases ex : ∃ n, g n ≠ .bad
  · obtain ⟨n, h⟩ := ex
    cases n with
    | zero => exact absurd h0 h
    | succ n =>
      rw [m.lim h]
      exact (MonF.lim (g := fun n => g (n + 1)) (fun n => m (n + 1)) (n := n) h).symm
  · have all : ∀ n, g n = .bad := fun n => Classical.not_not.mp fun h => ex ⟨n, h⟩
    rw [limF_bad all, limF_bad fun n => all (n + 1)]
theorem lim_const {r : R α} : (limR fun _ => r) = r := by
  by_cases h : r = .bad
  · rw [h]
    exact lim_bad fun _ => rfl
  · exact MonR.lim (f := fun _ => r) (fun _ => R.le.rfl) (n := 0) h
theorem limF_const {r : F} : (limF fun _ => r) = r := by
  by_cases h : r = .bad
  · rw [h]
    exact limF_bad fun _ => rfl
  · exact MonF.lim (g := fun _ => r) (fun _ => F.le.rfl) (n := 0) h
theorem R.bind_bad {r : R α} {k : α → GH → R β} (h : r = .bad) : r.bind k = .bad := by rw [h]; rfl
theorem lim_bind {k : Nat → α → GH → R β} (m : MonR f) (mk : ∀ a G, MonR fun n => k n a G) : (limR fun n => (f n).bind (k n)) = (limR f).bind fun a G => limR fun n => k n a G := by
  have mb : MonR fun n => (f n).bind (k n) := fun n => (m n).bind fun a G => mk a G n
  by_cases ex : ∃ n, f n ≠ .bad
  · obtain ⟨n, h⟩ := ex
    rw [m.lim h]
    cases q : f n with
    | ok a G =>
      show _ = limR fun n => k n a G
      have up : ∀ j, f (n + j) = .ok a G := fun j => (m.up h j).trans q
      by_cases ex2 : ∃ j, k j a G ≠ .bad
      · obtain ⟨j, h2⟩ := ex2
        have h3 : k (n + j) a G ≠ .bad := by
          rw [Nat.add_comm, (mk a G).up h2 n]
          exact h2
        have e : (f (n + j)).bind (k (n + j)) = k (n + j) a G := by rw [up]; rfl
        rw [MonR.lim mb (n := n + j) (by show (f (n + j)).bind (k (n + j)) ≠ .bad; rw [e]; exact h3), MonR.lim (mk a G) h3]
        exact e
      · have all : ∀ j, k j a G = .bad := fun j => Classical.not_not.mp fun h => ex2 ⟨j, h⟩
        rw [lim_bad all]
        refine lim_bad fun j => ?_
        by_cases hj : f j = .bad
        · exact R.bind_bad hj
        · rw [m.eq hj h, q]
          exact all j
    | exc c dd G =>
      show _ = R.exc c dd G
      have e : (f n).bind (k n) = .exc c dd G := by rw [q]; rfl
      rw [MonR.lim mb (n := n) (by show (f n).bind (k n) ≠ .bad; rw [e]; exact fun z => nomatch z)]
      exact e
    | bad => exact absurd q h
  · have all : ∀ n, f n = .bad := fun n => Classical.not_not.mp fun h => ex ⟨n, h⟩
    rw [lim_bad all]
    exact lim_bad fun n => R.bind_bad (all n)
theorem lim_toF {σ : Sg} {k : Nat → α → GH → F} (m : MonR f) (mk : ∀ a G, MonF fun n => k n a G) : (limF fun n => (f n).toF σ (k n)) = (limR f).toF σ fun a G => limF fun n => k n a G := by
  have mb : MonF fun n => (f n).toF σ (k n) := fun n => (m n).toF fun a G => mk a G n
  by_cases ex : ∃ n, f n ≠ .bad
  · obtain ⟨n, h⟩ := ex
    rw [m.lim h]
    cases q : f n with
    | ok a G =>
      show _ = limF fun n => k n a G
      have up : ∀ j, f (n + j) = .ok a G := fun j => (m.up h j).trans q
      by_cases ex2 : ∃ j, k j a G ≠ .bad
      · obtain ⟨j, h2⟩ := ex2
        have h3 : k (n + j) a G ≠ .bad := by
          rw [Nat.add_comm, (mk a G).up h2 n]
          exact h2
        have e : (f (n + j)).toF σ (k (n + j)) = k (n + j) a G := by rw [up]; rfl
        rw [MonF.lim mb (n := n + j) (by show (f (n + j)).toF σ (k (n + j)) ≠ .bad; rw [e]; exact h3), MonF.lim (mk a G) h3]
        exact e
      · have all : ∀ j, k j a G = .bad := fun j => Classical.not_not.mp fun h => ex2 ⟨j, h⟩
        rw [limF_bad all]
        refine limF_bad fun j => ?_
        by_cases hj : f j = .bad
        · show (f j).toF σ (k j) = .bad
          rw [hj]
          rfl
        · show (f j).toF σ (k j) = .bad
          rw [m.eq hj h, q]
          exact all j
    | exc c dd G =>
      show _ = F.exc c dd σ G
      have e : (f n).toF σ (k n) = .exc c dd σ G := by rw [q]; rfl
      rw [MonF.lim mb (n := n) (by show (f n).toF σ (k n) ≠ .bad; rw [e]; exact fun z => nomatch z)]
      exact e
    | bad => exact absurd q h
  · have all : ∀ n, f n = .bad := fun n => Classical.not_not.mp fun h => ex ⟨n, h⟩
    rw [lim_bad all]
    exact limF_bad fun n => by show (f n).toF σ (k n) = .bad; rw [all n]; rfl
theorem lim_nox (m : MonR f) : (limR fun n => (f n).nox) = (limR f).nox := by
  by_cases ex : ∃ n, f n ≠ .bad
  · obtain ⟨n, h⟩ := ex
    rw [m.lim h]
    by_cases h2 : (f n).nox = .bad
    · rw [h2]
      refine lim_bad fun j => ?_
      by_cases hj : f j = .bad
      · rw [hj]; rfl
      · rw [m.eq hj h, h2]
    · exact MonR.lim (f := fun n => (f n).nox) (fun n => (m n).nox) h2
  · have all : ∀ n, f n = .bad := fun n => Classical.not_not.mp fun h => ex ⟨n, h⟩
    rw [lim_bad all]
    exact lim_bad fun n => by rw [all n]; rfl
theorem lim_out (m : MonF g) : (limR fun n => (g n).out) = (limF g).out := by
  by_cases ex : ∃ n, g n ≠ .bad
  · obtain ⟨n, h⟩ := ex
    rw [m.lim h]
    by_cases h2 : (g n).out = .bad
    · rw [h2]
      refine lim_bad fun j => ?_
      by_cases hj : g j = .bad
      · rw [hj]; rfl
      · rw [m.eq hj h, h2]
    · exact MonR.lim (f := fun n => (g n).out) (fun n => (m n).out) h2
  · have all : ∀ n, g n = .bad := fun n => Classical.not_not.mp fun h => ex ⟨n, h⟩
    rw [limF_bad all]
    exact lim_bad fun n => by rw [all n]; rfl
theorem lim_gen {op : F → (Sg → GH → F) → F} (hop : ∀ r : F, r ≠ .bad → (∃ σ G, ∀ f : Sg → GH → F, op r f = f σ G) ∨ ∃ r' : F, r' ≠ .bad ∧ ∀ f : Sg → GH → F, op r f = r') (hb : ∀ f, op .bad f = .bad) {k : Nat → Sg → GH → F} (m : MonF g) (mk : ∀ a G, MonF fun n => k n a G)
    (mb : MonF fun n => op (g n) (k n)) : (limF fun n => op (g n) (k n)) = op (limF g) fun a G => limF fun n => k n a G := by
  by_cases ex : ∃ n, g n ≠ .bad
  · obtain ⟨n, h⟩ := ex
    rw [m.lim h]
    have up : ∀ j, g (n + j) = g n := fun j => m.up h j
    rcases hop (g n) h with ⟨a, G, q⟩ | ⟨r', hr, q⟩
    · rw [q]
      by_cases ex2 : ∃ j, k j a G ≠ .bad
      · obtain ⟨j, h2⟩ := ex2
        have h3 : k (n + j) a G ≠ .bad := by
          rw [Nat.add_comm, (mk a G).up h2 n]
          exact h2
        have e : op (g (n + j)) (k (n + j)) = k (n + j) a G := by rw [up, q]
        rw [MonF.lim mb (n := n + j) (by show op (g (n + j)) (k (n + j)) ≠ .bad; rw [e]; exact h3), MonF.lim (mk a G) h3]
        exact e
      · have all : ∀ j, k j a G = .bad := fun j => Classical.not_not.mp fun h => ex2 ⟨j, h⟩
        rw [limF_bad all]
        refine limF_bad fun j => ?_
        by_cases hj : g j = .bad
        · rw [hj, hb]
        · rw [m.eq hj h, q]
          exact all j
    · rw [q]
      have e : op (g n) (k n) = r' := q _
      rw [MonF.lim mb (n := n) (by show op (g n) (k n) ≠ .bad; rw [e]; exact hr)]
      exact e
  · have all : ∀ n, g n = .bad := fun n => Classical.not_not.mp fun h => ex ⟨n, h⟩
    rw [limF_bad all, hb]
    exact limF_bad fun n => by rw [all n, hb]
theorem lim_then {k : Nat → Sg → GH → F} (m : MonF g) (mk : ∀ a G, MonF fun n => k n a G) : (limF fun n => (g n).then (k n)) = (limF g).then fun a G => limF fun n => k n a G :=
  lim_gen (op := F.then) (fun r hr => by
    cases r with
    | nx a G => exact .inl ⟨a, G, fun _ => rfl⟩
    | bad => exact absurd rfl hr
    | _ => exact .inr ⟨_, hr, fun _ => rfl⟩) (fun _ => rfl) m mk fun n => (m n).then fun a G => mk a G n
theorem lim_loop {k : Nat → Sg → GH → F} (m : MonF g) (mk : ∀ a G, MonF fun n => k n a G) : (limF fun n => (g n).loop (k n)) = (limF g).loop fun a G => limF fun n => k n a G :=
  lim_gen (op := F.loop) (fun r hr => by
    cases r with
    | nx a G => exact .inl ⟨a, G, fun _ => rfl⟩
    | cnt a G => exact .inl ⟨a, G, fun _ => rfl⟩
    | brk a G => exact .inr ⟨.nx a G, (fun z => nomatch z : (F.nx a G) ≠ .bad), fun _ => rfl⟩
    | bad => exact absurd rfl hr
    | _ => exact .inr ⟨_, hr, fun _ => rfl⟩) (fun _ => rfl) m mk fun n => (m n).loop fun a G => mk a G n
end
end PM

set_option maxHeartbeats 4000000
/-! PmQ: the answers without fuel, by equations. -/
namespace PM
open PySem L2
section
variable (T : Tb)
noncomputable def xE (d : Nat) (e : E) (σ : Sg) (G : GH) : R W := limR fun n => evE T n d e σ G
noncomputable def xEs (d : Nat) (e : List E) (σ : Sg) (G : GH) : R (List W) := limR fun n => evEs T n d e σ G
noncomputable def xA (d : Nat) (e : List Ar) (σ : Sg) (G : GH) : R (List W) := limR fun n => evA T n d e σ G
noncomputable def xI (d : Nat) (e : It) (σ : Sg) (G : GH) : R IV := limR fun n => evI T n d e σ G
noncomputable def xL (d : Nat) (iv : IV) (i : Nat) (tg : Tg) (ifs : List E) (e : E) (σ : Sg) (vs : List Nat) (acc : List W) (G : GH) : R (List W) := limR fun n => evL T n d iv i tg ifs e σ vs acc G
noncomputable def xK (d : Nat) (iv : IV) (i : Nat) (tg : Tg) (ifs : List E) (tg1 : Tg) (it1 : It) (ifs1 : List E) (e : E) (σ : Sg) (vs : List Nat) (acc : List W) (G : GH) : R (List W) := limR fun n => evK T n d iv i tg ifs tg1 it1 ifs1 e σ vs acc G
noncomputable def xC (d f : Nat) (ws : List W) (G : GH) : R W := limR fun n => evC T n d f ws G
noncomputable def xS (d : Nat) (s : S) (σ : Sg) (G : GH) : F := limF fun n => evS T n d s σ G
noncomputable def xSs (d : Nat) (s : List S) (σ : Sg) (G : GH) : F := limF fun n => evSs T n d s σ G
noncomputable def xF (d : Nat) (iv : IV) (i : Nat) (tg : Tg) (b : List S) (σ : Sg) (G : GH) : F := limF fun n => evF T n d iv i tg b σ G
noncomputable def xW (d : Nat) (c : E) (b : List S) (σ : Sg) (G : GH) : F := limF fun n => evW T n d c b σ G
end
section
variable {T : Tb} {d : Nat} {σ : Sg} {G : GH}
theorem mE {e : E} {σ : Sg} {G : GH} : MonR fun n => evE T n d e σ G := fun n => (mn T n).e ..
theorem mEs {e : List E} {σ : Sg} {G : GH} : MonR fun n => evEs T n d e σ G := fun n => (mn T n).es ..
theorem mA {e : List Ar} {σ : Sg} {G : GH} : MonR fun n => evA T n d e σ G := fun n => (mn T n).a ..
theorem mI {e : It} {σ : Sg} {G : GH} : MonR fun n => evI T n d e σ G := fun n => (mn T n).i ..
theorem mL {iv : IV} {i : Nat} {tg : Tg} {ifs : List E} {e : E} {σ : Sg} {vs : List Nat} {acc : List W} {G : GH} : MonR fun n => evL T n d iv i tg ifs e σ vs acc G := fun n => (mn T n).l ..
theorem mKk {iv : IV} {i : Nat} {tg : Tg} {ifs : List E} {tg1 : Tg} {it1 : It} {ifs1 : List E} {e : E} {σ : Sg} {vs : List Nat} {acc : List W} {G : GH} : MonR fun n => evK T n d iv i tg ifs tg1 it1 ifs1 e σ vs acc G := fun n => (mn T n).k ..
theorem mC {f : Nat} {ws : List W} {G : GH} : MonR fun n => evC T n d f ws G := fun n => (mn T n).c ..
theorem mS {s : S} {σ : Sg} {G : GH} : MonF fun n => evS T n d s σ G := fun n => (mn T n).s ..
theorem mSs {s : List S} {σ : Sg} {G : GH} : MonF fun n => evSs T n d s σ G := fun n => (mn T n).ss ..
theorem mF {iv : IV} {i : Nat} {tg : Tg} {b : List S} {σ : Sg} {G : GH} : MonF fun n => evF T n d iv i tg b σ G := fun n => (mn T n).f ..
theorem mW {c : E} {b : List S} {σ : Sg} {G : GH} : MonF fun n => evW T n d c b σ G := fun n => (mn T n).w ..
theorem mK {α : Type} (r : R α) : MonR fun _ => r := fun _ => R.le.rfl
theorem mKF (r : F) : MonF fun _ => r := fun _ => F.le.rfl
theorem mB {α β : Type} {f : Nat → R α} {k : Nat → α → GH → R β} (m : MonR f) (mk : ∀ a G, MonR fun n => k n a G) : MonR fun n => (f n).bind (k n) := fun n => (m n).bind fun a G => mk a G n
theorem mT {α : Type} {σ : Sg} {f : Nat → R α} {k : Nat → α → GH → F} (m : MonR f) (mk : ∀ a G, MonF fun n => k n a G) : MonF fun n => (f n).toF σ (k n) := fun n => (m n).toF fun a G => mk a G n
theorem mIte {α : Type} {c : Bool} {f g : Nat → R α} (m : MonR f) (k : MonR g) : MonR fun n => if c = true then f n else g n := by
  cases c
  · exact k
  · exact m
theorem lIte {α : Type} {c : Bool} {f g : Nat → R α} : (limR fun n => if c = true then f n else g n) = if c = true then limR f else limR g := by
  cases c <;> rfl
theorem lim_bindK {α β : Type} {f : Nat → R α} {k : α → GH → R β} (m : MonR f) : (limR fun n => (f n).bind k) = (limR f).bind k := by
  refine Eq.trans (lim_bind m fun _ _ => mK _) ?_
  congr 1; funext a G
  exact lim_const
/-! expressions -/
theorem xE_cst {w : W} : xE T d (.cst w) σ G = .ok w G := by
  unfold xE; rw [lim_succ mE (by simp only [evE])]; simp only [evE]; exact lim_const
theorem xE_var {i : Nat} : xE T d (.var i) σ G = match σ[i]? with
    | some (some w) => .ok w G
    | _ => .bad := by
  unfold xE; rw [lim_succ mE (by simp only [evE])]; simp only [evE]; exact lim_const
theorem xE_bin {o : BO} {a b : E} : xE T d (.bin o a b) σ G = (xE T d a σ G).bind fun x G1 => (xE T d b σ G1).bind fun y G2 => ofOG (binop o x y G2) := by
  unfold xE; rw [lim_succ mE (by simp only [evE])]; simp only [evE]
  refine Eq.trans (lim_bind (by repeat first | exact mE | exact mEs | exact mA | exact mI | exact mL | exact mC | exact mS | exact mSs | exact mF | exact mW | exact mK _ | exact mKF _ | exact (fun n => ((mn _ n).l ..).nox) | refine mB ?_ (fun _ _ => ?_) | refine mT ?_ (fun _ _ => ?_) | refine mIte ?_ ?_) (fun _ _ => by repeat first | exact mE | exact mEs | exact mA | exact mI | exact mL | exact mC | exact mS | exact mSs | exact mF | exact mW | exact mK _ | exact mKF _ | exact (fun n => ((mn _ n).l ..).nox) | refine mB ?_ (fun _ _ => ?_) | refine mT ?_ (fun _ _ => ?_) | refine mIte ?_ ?_)) ?_
  congr 1; funext x G1
  refine Eq.trans (lim_bind (by repeat first | exact mE | exact mEs | exact mA | exact mI | exact mL | exact mC | exact mS | exact mSs | exact mF | exact mW | exact mK _ | exact mKF _ | exact (fun n => ((mn _ n).l ..).nox) | refine mB ?_ (fun _ _ => ?_) | refine mT ?_ (fun _ _ => ?_) | refine mIte ?_ ?_) (fun _ _ => by repeat first | exact mE | exact mEs | exact mA | exact mI | exact mL | exact mC | exact mS | exact mSs | exact mF | exact mW | exact mK _ | exact mKF _ | exact (fun n => ((mn _ n).l ..).nox) | refine mB ?_ (fun _ _ => ?_) | refine mT ?_ (fun _ _ => ?_) | refine mIte ?_ ?_)) ?_
  congr 1; funext y G2
  exact lim_const
theorem xE_cmp {o : CO} {a b : E} : xE T d (.cmp o a b) σ G = (xE T d a σ G).bind fun x G1 => (xE T d b σ G1).bind fun y G2 => ofO ((cmpop o x y G2).map .bl) G2 := by
  unfold xE; rw [lim_succ mE (by simp only [evE])]; simp only [evE]
  refine Eq.trans (lim_bind (by repeat first | exact mE | exact mEs | exact mA | exact mI | exact mL | exact mC | exact mS | exact mSs | exact mF | exact mW | exact mK _ | exact mKF _ | exact (fun n => ((mn _ n).l ..).nox) | refine mB ?_ (fun _ _ => ?_) | refine mT ?_ (fun _ _ => ?_) | refine mIte ?_ ?_) (fun _ _ => by repeat first | exact mE | exact mEs | exact mA | exact mI | exact mL | exact mC | exact mS | exact mSs | exact mF | exact mW | exact mK _ | exact mKF _ | exact (fun n => ((mn _ n).l ..).nox) | refine mB ?_ (fun _ _ => ?_) | refine mT ?_ (fun _ _ => ?_) | refine mIte ?_ ?_)) ?_
  congr 1; funext x G1
  refine Eq.trans (lim_bind (by repeat first | exact mE | exact mEs | exact mA | exact mI | exact mL | exact mC | exact mS | exact mSs | exact mF | exact mW | exact mK _ | exact mKF _ | exact (fun n => ((mn _ n).l ..).nox) | refine mB ?_ (fun _ _ => ?_) | refine mT ?_ (fun _ _ => ?_) | refine mIte ?_ ?_) (fun _ _ => by repeat first | exact mE | exact mEs | exact mA | exact mI | exact mL | exact mC | exact mS | exact mSs | exact mF | exact mW | exact mK _ | exact mKF _ | exact (fun n => ((mn _ n).l ..).nox) | refine mB ?_ (fun _ _ => ?_) | refine mT ?_ (fun _ _ => ?_) | refine mIte ?_ ?_)) ?_
  congr 1; funext y G2
  exact lim_const
theorem xE_and {a b : E} : xE T d (.and a b) σ G = (xE T d a σ G).bind fun x G1 => (ofO (tru G1 x) G1).bind fun k G1 => if k then xE T d b σ G1 else .ok x G1 := by
  unfold xE; rw [lim_succ mE (by simp only [evE])]; simp only [evE]
  refine Eq.trans (lim_bind (by repeat first | exact mE | exact mEs | exact mA | exact mI | exact mL | exact mC | exact mS | exact mSs | exact mF | exact mW | exact mK _ | exact mKF _ | exact (fun n => ((mn _ n).l ..).nox) | refine mB ?_ (fun _ _ => ?_) | refine mT ?_ (fun _ _ => ?_) | refine mIte ?_ ?_) (fun _ _ => by repeat first | exact mE | exact mEs | exact mA | exact mI | exact mL | exact mC | exact mS | exact mSs | exact mF | exact mW | exact mK _ | exact mKF _ | exact (fun n => ((mn _ n).l ..).nox) | refine mB ?_ (fun _ _ => ?_) | refine mT ?_ (fun _ _ => ?_) | refine mIte ?_ ?_)) ?_
  congr 1; funext x G1
  refine Eq.trans (lim_bind (by repeat first | exact mE | exact mEs | exact mA | exact mI | exact mL | exact mC | exact mS | exact mSs | exact mF | exact mW | exact mK _ | exact mKF _ | exact (fun n => ((mn _ n).l ..).nox) | refine mB ?_ (fun _ _ => ?_) | refine mT ?_ (fun _ _ => ?_) | refine mIte ?_ ?_) (fun _ _ => by repeat first | exact mE | exact mEs | exact mA | exact mI | exact mL | exact mC | exact mS | exact mSs | exact mF | exact mW | exact mK _ | exact mKF _ | exact (fun n => ((mn _ n).l ..).nox) | refine mB ?_ (fun _ _ => ?_) | refine mT ?_ (fun _ _ => ?_) | refine mIte ?_ ?_)) ?_
  rw [lim_const]
  congr 1; funext k G2
  rw [lIte, lim_const]
theorem xE_or {a b : E} : xE T d (.or a b) σ G = (xE T d a σ G).bind fun x G1 => (ofO (tru G1 x) G1).bind fun k G1 => if k then .ok x G1 else xE T d b σ G1 := by
  unfold xE; rw [lim_succ mE (by simp only [evE])]; simp only [evE]
  refine Eq.trans (lim_bind (by repeat first | exact mE | exact mEs | exact mA | exact mI | exact mL | exact mC | exact mS | exact mSs | exact mF | exact mW | exact mK _ | exact mKF _ | exact (fun n => ((mn _ n).l ..).nox) | refine mB ?_ (fun _ _ => ?_) | refine mT ?_ (fun _ _ => ?_) | refine mIte ?_ ?_) (fun _ _ => by repeat first | exact mE | exact mEs | exact mA | exact mI | exact mL | exact mC | exact mS | exact mSs | exact mF | exact mW | exact mK _ | exact mKF _ | exact (fun n => ((mn _ n).l ..).nox) | refine mB ?_ (fun _ _ => ?_) | refine mT ?_ (fun _ _ => ?_) | refine mIte ?_ ?_)) ?_
  congr 1; funext x G1
  refine Eq.trans (lim_bind (by repeat first | exact mE | exact mEs | exact mA | exact mI | exact mL | exact mC | exact mS | exact mSs | exact mF | exact mW | exact mK _ | exact mKF _ | exact (fun n => ((mn _ n).l ..).nox) | refine mB ?_ (fun _ _ => ?_) | refine mT ?_ (fun _ _ => ?_) | refine mIte ?_ ?_) (fun _ _ => by repeat first | exact mE | exact mEs | exact mA | exact mI | exact mL | exact mC | exact mS | exact mSs | exact mF | exact mW | exact mK _ | exact mKF _ | exact (fun n => ((mn _ n).l ..).nox) | refine mB ?_ (fun _ _ => ?_) | refine mT ?_ (fun _ _ => ?_) | refine mIte ?_ ?_)) ?_
  rw [lim_const]
  congr 1; funext k G2
  rw [lIte, lim_const]
theorem xE_not {a : E} : xE T d (.not a) σ G = (xE T d a σ G).bind fun x G1 => (ofO (tru G1 x) G1).bind fun k G1 => .ok (.bl (!k)) G1 := by
  unfold xE; rw [lim_succ mE (by simp only [evE])]; simp only [evE]
  refine Eq.trans (lim_bind (by repeat first | exact mE | exact mEs | exact mA | exact mI | exact mL | exact mC | exact mS | exact mSs | exact mF | exact mW | exact mK _ | exact mKF _ | exact (fun n => ((mn _ n).l ..).nox) | refine mB ?_ (fun _ _ => ?_) | refine mT ?_ (fun _ _ => ?_) | refine mIte ?_ ?_) (fun _ _ => by repeat first | exact mE | exact mEs | exact mA | exact mI | exact mL | exact mC | exact mS | exact mSs | exact mF | exact mW | exact mK _ | exact mKF _ | exact (fun n => ((mn _ n).l ..).nox) | refine mB ?_ (fun _ _ => ?_) | refine mT ?_ (fun _ _ => ?_) | refine mIte ?_ ?_)) ?_
  congr 1; funext x G1
  exact lim_const
theorem xE_neg {a : E} : xE T d (.neg a) σ G = (xE T d a σ G).bind fun x G1 => match x with
      | .int i => .ok (.int (-i)) G1
      | _ => .bad := by
  unfold xE; rw [lim_succ mE (by simp only [evE])]; simp only [evE]
  refine Eq.trans (lim_bind (by repeat first | exact mE | exact mEs | exact mA | exact mI | exact mL | exact mC | exact mS | exact mSs | exact mF | exact mW | exact mK _ | exact mKF _ | exact (fun n => ((mn _ n).l ..).nox) | refine mB ?_ (fun _ _ => ?_) | refine mT ?_ (fun _ _ => ?_) | refine mIte ?_ ?_) (fun _ _ => by repeat first | exact mE | exact mEs | exact mA | exact mI | exact mL | exact mC | exact mS | exact mSs | exact mF | exact mW | exact mK _ | exact mKF _ | exact (fun n => ((mn _ n).l ..).nox) | refine mB ?_ (fun _ _ => ?_) | refine mT ?_ (fun _ _ => ?_) | refine mIte ?_ ?_)) ?_
  congr 1; funext x G1
  exact lim_const
theorem xE_ife {c a b : E} : xE T d (.ife c a b) σ G = (xE T d c σ G).bind fun x G1 => (ofO (tru G1 x) G1).bind fun k G1 => if k then xE T d a σ G1 else xE T d b σ G1 := by
  unfold xE; rw [lim_succ mE (by simp only [evE])]; simp only [evE]
  refine Eq.trans (lim_bind (by repeat first | exact mE | exact mEs | exact mA | exact mI | exact mL | exact mC | exact mS | exact mSs | exact mF | exact mW | exact mK _ | exact mKF _ | exact (fun n => ((mn _ n).l ..).nox) | refine mB ?_ (fun _ _ => ?_) | refine mT ?_ (fun _ _ => ?_) | refine mIte ?_ ?_) (fun _ _ => by repeat first | exact mE | exact mEs | exact mA | exact mI | exact mL | exact mC | exact mS | exact mSs | exact mF | exact mW | exact mK _ | exact mKF _ | exact (fun n => ((mn _ n).l ..).nox) | refine mB ?_ (fun _ _ => ?_) | refine mT ?_ (fun _ _ => ?_) | refine mIte ?_ ?_)) ?_
  congr 1; funext x G1
  refine Eq.trans (lim_bind (by repeat first | exact mE | exact mEs | exact mA | exact mI | exact mL | exact mC | exact mS | exact mSs | exact mF | exact mW | exact mK _ | exact mKF _ | exact (fun n => ((mn _ n).l ..).nox) | refine mB ?_ (fun _ _ => ?_) | refine mT ?_ (fun _ _ => ?_) | refine mIte ?_ ?_) (fun _ _ => by repeat first | exact mE | exact mEs | exact mA | exact mI | exact mL | exact mC | exact mS | exact mSs | exact mF | exact mW | exact mK _ | exact mKF _ | exact (fun n => ((mn _ n).l ..).nox) | refine mB ?_ (fun _ _ => ?_) | refine mT ?_ (fun _ _ => ?_) | refine mIte ?_ ?_)) ?_
  rw [lim_const]
  congr 1; funext k G2
  rw [lIte]
theorem xE_tup {es : List Ar} : xE T d (.tup es) σ G = (xA T d es σ G).bind fun ws G1 => if szOk ws.length then .ok (.tup ws) G1 else .bad := by
  unfold xE xA; rw [lim_succ mE (by simp only [evE])]; simp only [evE]
  refine Eq.trans (lim_bind (by repeat first | exact mE | exact mEs | exact mA | exact mI | exact mL | exact mC | exact mS | exact mSs | exact mF | exact mW | exact mK _ | exact mKF _ | exact (fun n => ((mn _ n).l ..).nox) | refine mB ?_ (fun _ _ => ?_) | refine mT ?_ (fun _ _ => ?_) | refine mIte ?_ ?_) (fun _ _ => by repeat first | exact mE | exact mEs | exact mA | exact mI | exact mL | exact mC | exact mS | exact mSs | exact mF | exact mW | exact mK _ | exact mKF _ | exact (fun n => ((mn _ n).l ..).nox) | refine mB ?_ (fun _ _ => ?_) | refine mT ?_ (fun _ _ => ?_) | refine mIte ?_ ?_)) ?_
  congr 1; funext x G1
  exact lim_const
theorem xE_lst {es : List Ar} : xE T d (.lst es) σ G = (xA T d es σ G).bind fun ws G1 => ofOG (newL G1 ws) := by
  unfold xE xA; rw [lim_succ mE (by simp only [evE])]; simp only [evE]
  refine Eq.trans (lim_bind (by repeat first | exact mE | exact mEs | exact mA | exact mI | exact mL | exact mC | exact mS | exact mSs | exact mF | exact mW | exact mK _ | exact mKF _ | exact (fun n => ((mn _ n).l ..).nox) | refine mB ?_ (fun _ _ => ?_) | refine mT ?_ (fun _ _ => ?_) | refine mIte ?_ ?_) (fun _ _ => by repeat first | exact mE | exact mEs | exact mA | exact mI | exact mL | exact mC | exact mS | exact mSs | exact mF | exact mW | exact mK _ | exact mKF _ | exact (fun n => ((mn _ n).l ..).nox) | refine mB ?_ (fun _ _ => ?_) | refine mT ?_ (fun _ _ => ?_) | refine mIte ?_ ?_)) ?_
  congr 1; funext x G1
  exact lim_const
theorem xE_ix {a i : E} : xE T d (.ix a i) σ G = (xE T d a σ G).bind fun x G1 => (xE T d i σ G1).bind fun y G2 => ofO (ixop G2 x y) G2 := by
  unfold xE; rw [lim_succ mE (by simp only [evE])]; simp only [evE]
  refine Eq.trans (lim_bind (by repeat first | exact mE | exact mEs | exact mA | exact mI | exact mL | exact mC | exact mS | exact mSs | exact mF | exact mW | exact mK _ | exact mKF _ | exact (fun n => ((mn _ n).l ..).nox) | refine mB ?_ (fun _ _ => ?_) | refine mT ?_ (fun _ _ => ?_) | refine mIte ?_ ?_) (fun _ _ => by repeat first | exact mE | exact mEs | exact mA | exact mI | exact mL | exact mC | exact mS | exact mSs | exact mF | exact mW | exact mK _ | exact mKF _ | exact (fun n => ((mn _ n).l ..).nox) | refine mB ?_ (fun _ _ => ?_) | refine mT ?_ (fun _ _ => ?_) | refine mIte ?_ ?_)) ?_
  congr 1; funext x G1
  refine Eq.trans (lim_bind (by repeat first | exact mE | exact mEs | exact mA | exact mI | exact mL | exact mC | exact mS | exact mSs | exact mF | exact mW | exact mK _ | exact mKF _ | exact (fun n => ((mn _ n).l ..).nox) | refine mB ?_ (fun _ _ => ?_) | refine mT ?_ (fun _ _ => ?_) | refine mIte ?_ ?_) (fun _ _ => by repeat first | exact mE | exact mEs | exact mA | exact mI | exact mL | exact mC | exact mS | exact mSs | exact mF | exact mW | exact mK _ | exact mKF _ | exact (fun n => ((mn _ n).l ..).nox) | refine mB ?_ (fun _ _ => ?_) | refine mT ?_ (fun _ _ => ?_) | refine mIte ?_ ?_)) ?_
  congr 1; funext y G2
  exact lim_const
theorem xE_sl {a lo hi : E} : xE T d (.sl a lo hi) σ G = (xE T d a σ G).bind fun x G1 => ((xE T d lo σ G1).bind fun v G2 => ofO (optI v) G2).bind fun l G2 => ((xE T d hi σ G2).bind fun v G3 => ofO (optI v) G3).bind fun h G3 => ofOG (slop G3 x l h) := by
  unfold xE; rw [lim_succ mE (by simp only [evE])]; simp only [evE]
  refine Eq.trans (lim_bind (by repeat first | exact mE | exact mEs | exact mA | exact mI | exact mL | exact mC | exact mS | exact mSs | exact mF | exact mW | exact mK _ | exact mKF _ | exact (fun n => ((mn _ n).l ..).nox) | refine mB ?_ (fun _ _ => ?_) | refine mT ?_ (fun _ _ => ?_) | refine mIte ?_ ?_) (fun _ _ => by repeat first | exact mE | exact mEs | exact mA | exact mI | exact mL | exact mC | exact mS | exact mSs | exact mF | exact mW | exact mK _ | exact mKF _ | exact (fun n => ((mn _ n).l ..).nox) | refine mB ?_ (fun _ _ => ?_) | refine mT ?_ (fun _ _ => ?_) | refine mIte ?_ ?_)) ?_
  congr 1; funext x G1
  refine Eq.trans (lim_bind (by repeat first | exact mE | exact mEs | exact mA | exact mI | exact mL | exact mC | exact mS | exact mSs | exact mF | exact mW | exact mK _ | exact mKF _ | exact (fun n => ((mn _ n).l ..).nox) | refine mB ?_ (fun _ _ => ?_) | refine mT ?_ (fun _ _ => ?_) | refine mIte ?_ ?_) (fun _ _ => by repeat first | exact mE | exact mEs | exact mA | exact mI | exact mL | exact mC | exact mS | exact mSs | exact mF | exact mW | exact mK _ | exact mKF _ | exact (fun n => ((mn _ n).l ..).nox) | refine mB ?_ (fun _ _ => ?_) | refine mT ?_ (fun _ _ => ?_) | refine mIte ?_ ?_)) ?_
  rw [lim_bindK mE]
  congr 1; funext l G2
  refine Eq.trans (lim_bind (by repeat first | exact mE | exact mEs | exact mA | exact mI | exact mL | exact mC | exact mS | exact mSs | exact mF | exact mW | exact mK _ | exact mKF _ | exact (fun n => ((mn _ n).l ..).nox) | refine mB ?_ (fun _ _ => ?_) | refine mT ?_ (fun _ _ => ?_) | refine mIte ?_ ?_) (fun _ _ => by repeat first | exact mE | exact mEs | exact mA | exact mI | exact mL | exact mC | exact mS | exact mSs | exact mF | exact mW | exact mK _ | exact mKF _ | exact (fun n => ((mn _ n).l ..).nox) | refine mB ?_ (fun _ _ => ?_) | refine mT ?_ (fun _ _ => ?_) | refine mIte ?_ ?_)) ?_
  rw [lim_bindK mE]
  simp only [lim_const]
theorem xE_call {f : Nat} {es : List E} {bd : List Bd} : xE T d (.call f es bd) σ G = (xEs T d es σ G).bind fun ws G1 => match bindA bd ws with
      | some us => xC T d f us G1
      | none => .bad := by
  unfold xE xEs; rw [lim_succ mE (by simp only [evE])]; simp only [evE]
  refine Eq.trans (lim_bind mEs fun ws G1 => by cases bindA bd ws with | none => exact mK _ | some us => exact mC) ?_
  congr 1; funext ws G1
  cases bindA bd ws with
  | none => exact lim_const
  | some us => rfl
theorem xE_mk {c : Nat} {es : List E} {bd : List Bd} : xE T d (.mk c es bd) σ G = match T.ini.lookup c with
      | some f => (xEs T d es σ G).bind fun ws G1 => match bindA bd (.ref G1.sz :: ws) with
        | some us => (xC T (d - 1) f us (G1.push (.ins c []))).bind fun w G2 => if isNon w then .ok (.ref G1.sz) G2 else .bad
        | none => .bad
      | none => .bad := by
  unfold xE xEs; rw [lim_succ mE (by simp only [evE])]; simp only [evE]
  cases T.ini.lookup c with
  | none => exact lim_const
  | some f =>
    show (limR fun n => (evEs T n d es σ G).bind _) = _
    refine Eq.trans (lim_bind mEs fun ws G1 => by cases bindA bd (.ref G1.sz :: ws) with | none => exact mK _ | some us => exact mB mC fun _ _ => mK _) ?_
    congr 1; funext ws G1
    cases bindA bd (.ref G1.sz :: ws) with
    | none => exact lim_const
    | some us =>
      show (limR fun n => (evC T n (d - 1) f us (G1.push (.ins c []))).bind _) = _
      refine Eq.trans (lim_bind (by repeat first | exact mE | exact mEs | exact mA | exact mI | exact mL | exact mC | exact mS | exact mSs | exact mF | exact mW | exact mK _ | exact mKF _ | exact (fun n => ((mn _ n).l ..).nox) | refine mB ?_ (fun _ _ => ?_) | refine mT ?_ (fun _ _ => ?_) | refine mIte ?_ ?_) (fun _ _ => by repeat first | exact mE | exact mEs | exact mA | exact mI | exact mL | exact mC | exact mS | exact mSs | exact mF | exact mW | exact mK _ | exact mKF _ | exact (fun n => ((mn _ n).l ..).nox) | refine mB ?_ (fun _ _ => ?_) | refine mT ?_ (fun _ _ => ?_) | refine mIte ?_ ?_)) ?_
      congr 1; funext w G2
      exact lim_const
theorem xE_met {o : E} {m : Nat} {es : List E} : xE T d (.met o m es) σ G = (xE T d o σ G).bind fun x G1 => match mkOf T G1 x m with
      | some (.b k) => (xEs T d es σ G1).bind fun ws G2 => ofOG (bmop k x ws G2)
      | some (.f f) => (xEs T d es σ G1).bind fun ws G2 => xC T d f (x :: ws) G2
      | none => .bad := by
  unfold xE; rw [lim_succ mE (by simp only [evE])]; simp only [evE]
  rw [lim_bind mE fun x G1 => by
    cases mkOf T G1 x m with
    | none => exact mK _
    | some k =>
      cases k with
      | b k => exact mB mEs fun _ _ => mK _
      | f f => exact mB mEs fun _ _ => mC]
  congr 1; funext x G1
  cases mkOf T G1 x m with
  | none => exact lim_const
  | some k =>
    cases k with
    | b k =>
      show (limR fun n => (evEs T n d es σ G1).bind _) = _
      refine Eq.trans (lim_bind (by repeat first | exact mE | exact mEs | exact mA | exact mI | exact mL | exact mC | exact mS | exact mSs | exact mF | exact mW | exact mK _ | exact mKF _ | exact (fun n => ((mn _ n).l ..).nox) | refine mB ?_ (fun _ _ => ?_) | refine mT ?_ (fun _ _ => ?_) | refine mIte ?_ ?_) (fun _ _ => by repeat first | exact mE | exact mEs | exact mA | exact mI | exact mL | exact mC | exact mS | exact mSs | exact mF | exact mW | exact mK _ | exact mKF _ | exact (fun n => ((mn _ n).l ..).nox) | refine mB ?_ (fun _ _ => ?_) | refine mT ?_ (fun _ _ => ?_) | refine mIte ?_ ?_)) ?_
      unfold xEs
      congr 1; funext ws G2
      exact lim_const
    | f f =>
      show (limR fun n => (evEs T n d es σ G1).bind _) = _
      refine Eq.trans (lim_bind (by repeat first | exact mE | exact mEs | exact mA | exact mI | exact mL | exact mC | exact mS | exact mSs | exact mF | exact mW | exact mK _ | exact mKF _ | exact (fun n => ((mn _ n).l ..).nox) | refine mB ?_ (fun _ _ => ?_) | refine mT ?_ (fun _ _ => ?_) | refine mIte ?_ ?_) (fun _ _ => by repeat first | exact mE | exact mEs | exact mA | exact mI | exact mL | exact mC | exact mS | exact mSs | exact mF | exact mW | exact mK _ | exact mKF _ | exact (fun n => ((mn _ n).l ..).nox) | refine mB ?_ (fun _ _ => ?_) | refine mT ?_ (fun _ _ => ?_) | refine mIte ?_ ?_)) ?_
      rfl
theorem xE_att {o : E} {f : Nat} : xE T d (.att o f) σ G = (xE T d o σ G).bind fun x G1 => match x with
      | .ref a => match G1.get a with
        | some (.ins c fs) => if T.fl.contains (c, f) then ofO (fs.lookup f) G1 else .bad
        | _ => .bad
      | _ => .bad := by
  unfold xE; rw [lim_succ mE (by simp only [evE])]; simp only [evE]
  refine Eq.trans (lim_bind (by repeat first | exact mE | exact mEs | exact mA | exact mI | exact mL | exact mC | exact mS | exact mSs | exact mF | exact mW | exact mK _ | exact mKF _ | exact (fun n => ((mn _ n).l ..).nox) | refine mB ?_ (fun _ _ => ?_) | refine mT ?_ (fun _ _ => ?_) | refine mIte ?_ ?_) (fun _ _ => by repeat first | exact mE | exact mEs | exact mA | exact mI | exact mL | exact mC | exact mS | exact mSs | exact mF | exact mW | exact mK _ | exact mKF _ | exact (fun n => ((mn _ n).l ..).nox) | refine mB ?_ (fun _ _ => ?_) | refine mT ?_ (fun _ _ => ?_) | refine mIte ?_ ?_)) ?_
  congr 1; funext x G1
  exact lim_const
theorem xE_blt {b : Bf} {es : List E} : xE T d (.blt b es) σ G = (xEs T d es σ G).bind fun ws G1 => ofOG (bfop T b ws G1) := by
  unfold xE xEs; rw [lim_succ mE (by simp only [evE])]; simp only [evE]
  refine Eq.trans (lim_bind (by repeat first | exact mE | exact mEs | exact mA | exact mI | exact mL | exact mC | exact mS | exact mSs | exact mF | exact mW | exact mK _ | exact mKF _ | exact (fun n => ((mn _ n).l ..).nox) | refine mB ?_ (fun _ _ => ?_) | refine mT ?_ (fun _ _ => ?_) | refine mIte ?_ ?_) (fun _ _ => by repeat first | exact mE | exact mEs | exact mA | exact mI | exact mL | exact mC | exact mS | exact mSs | exact mF | exact mW | exact mK _ | exact mKF _ | exact (fun n => ((mn _ n).l ..).nox) | refine mB ?_ (fun _ _ => ?_) | refine mT ?_ (fun _ _ => ?_) | refine mIte ?_ ?_)) ?_
  congr 1; funext x G1
  exact lim_const
theorem xE_lc {vs : List Nat} {tg : Tg} {it : It} {ifs : List E} {e : E} : xE T d (.lc vs tg it ifs e) σ G = (xI T d it σ G).bind fun iv G1 => (xL T d iv 0 tg ifs e (wipeW σ vs) vs [] G1).nox.bind fun ws G2 => ofOG (newL G2 ws) := by
  unfold xE xI; rw [lim_succ mE (by simp only [evE])]; simp only [evE]
  refine Eq.trans (lim_bind (by repeat first | exact mE | exact mEs | exact mA | exact mI | exact mL | exact mC | exact mS | exact mSs | exact mF | exact mW | exact mK _ | exact mKF _ | exact (fun n => ((mn _ n).l ..).nox) | refine mB ?_ (fun _ _ => ?_) | refine mT ?_ (fun _ _ => ?_) | refine mIte ?_ ?_) (fun _ _ => by repeat first | exact mE | exact mEs | exact mA | exact mI | exact mL | exact mC | exact mS | exact mSs | exact mF | exact mW | exact mK _ | exact mKF _ | exact (fun n => ((mn _ n).l ..).nox) | refine mB ?_ (fun _ _ => ?_) | refine mT ?_ (fun _ _ => ?_) | refine mIte ?_ ?_)) ?_
  congr 1; funext iv G1
  refine Eq.trans (lim_bind (by repeat first | exact mE | exact mEs | exact mA | exact mI | exact mL | exact mC | exact mS | exact mSs | exact mF | exact mW | exact mK _ | exact mKF _ | exact (fun n => ((mn _ n).l ..).nox) | refine mB ?_ (fun _ _ => ?_) | refine mT ?_ (fun _ _ => ?_) | refine mIte ?_ ?_) (fun _ _ => by repeat first | exact mE | exact mEs | exact mA | exact mI | exact mL | exact mC | exact mS | exact mSs | exact mF | exact mW | exact mK _ | exact mKF _ | exact (fun n => ((mn _ n).l ..).nox) | refine mB ?_ (fun _ _ => ?_) | refine mT ?_ (fun _ _ => ?_) | refine mIte ?_ ?_)) ?_
  rw [lim_nox mL]
  unfold xL
  congr 1; funext ws G2
  exact lim_const
theorem xEs_nil : xEs T d [] σ G = .ok [] G := by
  unfold xEs; rw [lim_succ mEs (by simp only [evEs])]; simp only [evEs]; exact lim_const
theorem xEs_cons {e : E} {r : List E} : xEs T d (e :: r) σ G = (xE T d e σ G).bind fun w G1 => (xEs T d r σ G1).bind fun ws G2 => .ok (w :: ws) G2 := by
  unfold xEs xE; rw [lim_succ mEs (by simp only [evEs])]; simp only [evEs]
  refine Eq.trans (lim_bind (by repeat first | exact mE | exact mEs | exact mA | exact mI | exact mL | exact mC | exact mS | exact mSs | exact mF | exact mW | exact mK _ | exact mKF _ | exact (fun n => ((mn _ n).l ..).nox) | refine mB ?_ (fun _ _ => ?_) | refine mT ?_ (fun _ _ => ?_) | refine mIte ?_ ?_) (fun _ _ => by repeat first | exact mE | exact mEs | exact mA | exact mI | exact mL | exact mC | exact mS | exact mSs | exact mF | exact mW | exact mK _ | exact mKF _ | exact (fun n => ((mn _ n).l ..).nox) | refine mB ?_ (fun _ _ => ?_) | refine mT ?_ (fun _ _ => ?_) | refine mIte ?_ ?_)) ?_
  congr 1; funext w G1
  refine Eq.trans (lim_bind (by repeat first | exact mE | exact mEs | exact mA | exact mI | exact mL | exact mC | exact mS | exact mSs | exact mF | exact mW | exact mK _ | exact mKF _ | exact (fun n => ((mn _ n).l ..).nox) | refine mB ?_ (fun _ _ => ?_) | refine mT ?_ (fun _ _ => ?_) | refine mIte ?_ ?_) (fun _ _ => by repeat first | exact mE | exact mEs | exact mA | exact mI | exact mL | exact mC | exact mS | exact mSs | exact mF | exact mW | exact mK _ | exact mKF _ | exact (fun n => ((mn _ n).l ..).nox) | refine mB ?_ (fun _ _ => ?_) | refine mT ?_ (fun _ _ => ?_) | refine mIte ?_ ?_)) ?_
  congr 1; funext ws G2
  exact lim_const
theorem xA_nil : xA T d [] σ G = .ok [] G := by
  unfold xA; rw [lim_succ mA (by simp only [evA])]; simp only [evA]; exact lim_const
theorem xA_e {e : E} {r : List Ar} : xA T d (.e e :: r) σ G = (xE T d e σ G).bind fun w G1 => (xA T d r σ G1).bind fun ws G2 => .ok (w :: ws) G2 := by
  unfold xA xE; rw [lim_succ mA (by simp only [evA])]; simp only [evA]
  refine Eq.trans (lim_bind (by repeat first | exact mE | exact mEs | exact mA | exact mI | exact mL | exact mC | exact mS | exact mSs | exact mF | exact mW | exact mK _ | exact mKF _ | exact (fun n => ((mn _ n).l ..).nox) | refine mB ?_ (fun _ _ => ?_) | refine mT ?_ (fun _ _ => ?_) | refine mIte ?_ ?_) (fun _ _ => by repeat first | exact mE | exact mEs | exact mA | exact mI | exact mL | exact mC | exact mS | exact mSs | exact mF | exact mW | exact mK _ | exact mKF _ | exact (fun n => ((mn _ n).l ..).nox) | refine mB ?_ (fun _ _ => ?_) | refine mT ?_ (fun _ _ => ?_) | refine mIte ?_ ?_)) ?_
  congr 1; funext w G1
  refine Eq.trans (lim_bind (by repeat first | exact mE | exact mEs | exact mA | exact mI | exact mL | exact mC | exact mS | exact mSs | exact mF | exact mW | exact mK _ | exact mKF _ | exact (fun n => ((mn _ n).l ..).nox) | refine mB ?_ (fun _ _ => ?_) | refine mT ?_ (fun _ _ => ?_) | refine mIte ?_ ?_) (fun _ _ => by repeat first | exact mE | exact mEs | exact mA | exact mI | exact mL | exact mC | exact mS | exact mSs | exact mF | exact mW | exact mK _ | exact mKF _ | exact (fun n => ((mn _ n).l ..).nox) | refine mB ?_ (fun _ _ => ?_) | refine mT ?_ (fun _ _ => ?_) | refine mIte ?_ ?_)) ?_
  congr 1; funext ws G2
  exact lim_const
theorem xA_s {e : E} {r : List Ar} : xA T d (.s e :: r) σ G = (xE T d e σ G).bind fun w G1 => (ofO (seqOf G1 w) G1).bind fun us G1 => (xA T d r σ G1).bind fun ws G2 => .ok (us ++ ws) G2 := by
  unfold xA xE; rw [lim_succ mA (by simp only [evA])]; simp only [evA]
  refine Eq.trans (lim_bind (by repeat first | exact mE | exact mEs | exact mA | exact mI | exact mL | exact mC | exact mS | exact mSs | exact mF | exact mW | exact mK _ | exact mKF _ | exact (fun n => ((mn _ n).l ..).nox) | refine mB ?_ (fun _ _ => ?_) | refine mT ?_ (fun _ _ => ?_) | refine mIte ?_ ?_) (fun _ _ => by repeat first | exact mE | exact mEs | exact mA | exact mI | exact mL | exact mC | exact mS | exact mSs | exact mF | exact mW | exact mK _ | exact mKF _ | exact (fun n => ((mn _ n).l ..).nox) | refine mB ?_ (fun _ _ => ?_) | refine mT ?_ (fun _ _ => ?_) | refine mIte ?_ ?_)) ?_
  congr 1; funext w G1
  refine Eq.trans (lim_bind (by repeat first | exact mE | exact mEs | exact mA | exact mI | exact mL | exact mC | exact mS | exact mSs | exact mF | exact mW | exact mK _ | exact mKF _ | exact (fun n => ((mn _ n).l ..).nox) | refine mB ?_ (fun _ _ => ?_) | refine mT ?_ (fun _ _ => ?_) | refine mIte ?_ ?_) (fun _ _ => by repeat first | exact mE | exact mEs | exact mA | exact mI | exact mL | exact mC | exact mS | exact mSs | exact mF | exact mW | exact mK _ | exact mKF _ | exact (fun n => ((mn _ n).l ..).nox) | refine mB ?_ (fun _ _ => ?_) | refine mT ?_ (fun _ _ => ?_) | refine mIte ?_ ?_)) ?_
  rw [lim_const]
  congr 1; funext us G2
  refine Eq.trans (lim_bind (by repeat first | exact mE | exact mEs | exact mA | exact mI | exact mL | exact mC | exact mS | exact mSs | exact mF | exact mW | exact mK _ | exact mKF _ | exact (fun n => ((mn _ n).l ..).nox) | refine mB ?_ (fun _ _ => ?_) | refine mT ?_ (fun _ _ => ?_) | refine mIte ?_ ?_) (fun _ _ => by repeat first | exact mE | exact mEs | exact mA | exact mI | exact mL | exact mC | exact mS | exact mSs | exact mF | exact mW | exact mK _ | exact mKF _ | exact (fun n => ((mn _ n).l ..).nox) | refine mB ?_ (fun _ _ => ?_) | refine mT ?_ (fun _ _ => ?_) | refine mIte ?_ ?_)) ?_
  congr 1; funext ws G2
  exact lim_const
theorem xI_e {e : E} : xI T d (.e e) σ G = (xE T d e σ G).bind fun w G1 => ofO ((ivOf G1 w).map .one) G1 := by
  unfold xI xE; rw [lim_succ mI (by simp only [evI])]; simp only [evI]
  refine Eq.trans (lim_bind (by repeat first | exact mE | exact mEs | exact mA | exact mI | exact mL | exact mC | exact mS | exact mSs | exact mF | exact mW | exact mK _ | exact mKF _ | exact (fun n => ((mn _ n).l ..).nox) | refine mB ?_ (fun _ _ => ?_) | refine mT ?_ (fun _ _ => ?_) | refine mIte ?_ ?_) (fun _ _ => by repeat first | exact mE | exact mEs | exact mA | exact mI | exact mL | exact mC | exact mS | exact mSs | exact mF | exact mW | exact mK _ | exact mKF _ | exact (fun n => ((mn _ n).l ..).nox) | refine mB ?_ (fun _ _ => ?_) | refine mT ?_ (fun _ _ => ?_) | refine mIte ?_ ?_)) ?_
  congr 1; funext w G1
  exact lim_const
theorem xI_rng {es : List E} : xI T d (.rng es) σ G = (xEs T d es σ G).bind fun ws G1 => ofO ((rngOf ws).map fun l => .one (.sq l)) G1 := by
  unfold xI xEs; rw [lim_succ mI (by simp only [evI])]; simp only [evI]
  refine Eq.trans (lim_bind (by repeat first | exact mE | exact mEs | exact mA | exact mI | exact mL | exact mC | exact mS | exact mSs | exact mF | exact mW | exact mK _ | exact mKF _ | exact (fun n => ((mn _ n).l ..).nox) | refine mB ?_ (fun _ _ => ?_) | refine mT ?_ (fun _ _ => ?_) | refine mIte ?_ ?_) (fun _ _ => by repeat first | exact mE | exact mEs | exact mA | exact mI | exact mL | exact mC | exact mS | exact mSs | exact mF | exact mW | exact mK _ | exact mKF _ | exact (fun n => ((mn _ n).l ..).nox) | refine mB ?_ (fun _ _ => ?_) | refine mT ?_ (fun _ _ => ?_) | refine mIte ?_ ?_)) ?_
  congr 1; funext w G1
  exact lim_const
theorem xI_zip {a b : E} : xI T d (.zip a b) σ G = (xE T d a σ G).bind fun x G1 => (xE T d b σ G1).bind fun y G2 => match ivOf G2 x, ivOf G2 y with
      | some u, some v => .ok (.zip u v) G2
      | _, _ => .bad := by
  unfold xI xE; rw [lim_succ mI (by simp only [evI])]; simp only [evI]
  refine Eq.trans (lim_bind (by repeat first | exact mE | exact mEs | exact mA | exact mI | exact mL | exact mC | exact mS | exact mSs | exact mF | exact mW | exact mK _ | exact mKF _ | exact (fun n => ((mn _ n).l ..).nox) | refine mB ?_ (fun _ _ => ?_) | refine mT ?_ (fun _ _ => ?_) | refine mIte ?_ ?_) (fun _ _ => by repeat first | exact mE | exact mEs | exact mA | exact mI | exact mL | exact mC | exact mS | exact mSs | exact mF | exact mW | exact mK _ | exact mKF _ | exact (fun n => ((mn _ n).l ..).nox) | refine mB ?_ (fun _ _ => ?_) | refine mT ?_ (fun _ _ => ?_) | refine mIte ?_ ?_)) ?_
  congr 1; funext x G1
  refine Eq.trans (lim_bind (by repeat first | exact mE | exact mEs | exact mA | exact mI | exact mL | exact mC | exact mS | exact mSs | exact mF | exact mW | exact mK _ | exact mKF _ | exact (fun n => ((mn _ n).l ..).nox) | refine mB ?_ (fun _ _ => ?_) | refine mT ?_ (fun _ _ => ?_) | refine mIte ?_ ?_) (fun _ _ => by repeat first | exact mE | exact mEs | exact mA | exact mI | exact mL | exact mC | exact mS | exact mSs | exact mF | exact mW | exact mK _ | exact mKF _ | exact (fun n => ((mn _ n).l ..).nox) | refine mB ?_ (fun _ _ => ?_) | refine mT ?_ (fun _ _ => ?_) | refine mIte ?_ ?_)) ?_
  congr 1; funext y G2
  exact lim_const
theorem xE_lc2 {vs : List Nat} {tg : Tg} {it : It} {ifs : List E} {vs1 : List Nat} {tg1 : Tg} {it1 : It} {ifs1 : List E} {e : E} : xE T d (.lc2 vs tg it ifs vs1 tg1 it1 ifs1 e) σ G = (xI T d it σ G).bind fun iv G1 => (xK T d iv 0 tg ifs tg1 it1 ifs1 e (wipeW σ vs) vs1 [] G1).nox.bind fun ws G2 => ofOG (newL G2 ws) := by
  unfold xE xI; rw [lim_succ mE (by simp only [evE])]; simp only [evE]
  refine Eq.trans (lim_bind (by repeat first | exact mE | exact mEs | exact mA | exact mI | exact mL | exact mKk | exact mC | exact mS | exact mSs | exact mF | exact mW | exact mK _ | exact mKF _ | exact (fun n => ((mn _ n).l ..).nox) | exact (fun n => ((mn _ n).k ..).nox) | refine mB ?_ (fun _ _ => ?_) | refine mT ?_ (fun _ _ => ?_) | refine mIte ?_ ?_) (fun _ _ => by repeat first | exact mE | exact mEs | exact mA | exact mI | exact mL | exact mKk | exact mC | exact mS | exact mSs | exact mF | exact mW | exact mK _ | exact mKF _ | exact (fun n => ((mn _ n).l ..).nox) | exact (fun n => ((mn _ n).k ..).nox) | refine mB ?_ (fun _ _ => ?_) | refine mT ?_ (fun _ _ => ?_) | refine mIte ?_ ?_)) ?_
  congr 1; funext iv G1
  refine Eq.trans (lim_bind (by repeat first | exact mE | exact mEs | exact mA | exact mI | exact mL | exact mKk | exact mC | exact mS | exact mSs | exact mF | exact mW | exact mK _ | exact mKF _ | exact (fun n => ((mn _ n).l ..).nox) | exact (fun n => ((mn _ n).k ..).nox) | refine mB ?_ (fun _ _ => ?_) | refine mT ?_ (fun _ _ => ?_) | refine mIte ?_ ?_) (fun _ _ => by repeat first | exact mE | exact mEs | exact mA | exact mI | exact mL | exact mKk | exact mC | exact mS | exact mSs | exact mF | exact mW | exact mK _ | exact mKF _ | exact (fun n => ((mn _ n).l ..).nox) | exact (fun n => ((mn _ n).k ..).nox) | refine mB ?_ (fun _ _ => ?_) | refine mT ?_ (fun _ _ => ?_) | refine mIte ?_ ?_)) ?_
  rw [lim_nox mKk]
  unfold xK
  congr 1; funext ws G2
  exact lim_const
theorem xE_chn {o o2 : CO} {a b c : E} : xE T d (.chn o o2 a b c) σ G = (xE T d a σ G).bind fun x G1 => (xE T d b σ G1).bind fun y G2 => (ofO (cmpop o x y G2) G2).bind fun k G2 => if k then (xE T d c σ G2).bind fun z G3 => ofO ((cmpop o2 y z G3).map .bl) G3 else .ok (.bl false) G2 := by
  unfold xE; rw [lim_succ mE (by simp only [evE])]; simp only [evE]
  refine Eq.trans (lim_bind (by repeat first | exact mE | exact mEs | exact mA | exact mI | exact mL | exact mKk | exact mC | exact mS | exact mSs | exact mF | exact mW | exact mK _ | exact mKF _ | exact (fun n => ((mn _ n).l ..).nox) | exact (fun n => ((mn _ n).k ..).nox) | refine mB ?_ (fun _ _ => ?_) | refine mT ?_ (fun _ _ => ?_) | refine mIte ?_ ?_) (fun _ _ => by repeat first | exact mE | exact mEs | exact mA | exact mI | exact mL | exact mKk | exact mC | exact mS | exact mSs | exact mF | exact mW | exact mK _ | exact mKF _ | exact (fun n => ((mn _ n).l ..).nox) | exact (fun n => ((mn _ n).k ..).nox) | refine mB ?_ (fun _ _ => ?_) | refine mT ?_ (fun _ _ => ?_) | refine mIte ?_ ?_)) ?_
  congr 1; funext x G1
  refine Eq.trans (lim_bind (by repeat first | exact mE | exact mEs | exact mA | exact mI | exact mL | exact mKk | exact mC | exact mS | exact mSs | exact mF | exact mW | exact mK _ | exact mKF _ | exact (fun n => ((mn _ n).l ..).nox) | exact (fun n => ((mn _ n).k ..).nox) | refine mB ?_ (fun _ _ => ?_) | refine mT ?_ (fun _ _ => ?_) | refine mIte ?_ ?_) (fun _ _ => by repeat first | exact mE | exact mEs | exact mA | exact mI | exact mL | exact mKk | exact mC | exact mS | exact mSs | exact mF | exact mW | exact mK _ | exact mKF _ | exact (fun n => ((mn _ n).l ..).nox) | exact (fun n => ((mn _ n).k ..).nox) | refine mB ?_ (fun _ _ => ?_) | refine mT ?_ (fun _ _ => ?_) | refine mIte ?_ ?_)) ?_
  congr 1; funext y G2
  refine Eq.trans (lim_bind (mK _) (fun _ _ => by repeat first | exact mE | exact mEs | exact mA | exact mI | exact mL | exact mKk | exact mC | exact mS | exact mSs | exact mF | exact mW | exact mK _ | exact mKF _ | exact (fun n => ((mn _ n).l ..).nox) | exact (fun n => ((mn _ n).k ..).nox) | refine mB ?_ (fun _ _ => ?_) | refine mT ?_ (fun _ _ => ?_) | refine mIte ?_ ?_)) ?_
  rw [lim_const]
  congr 1; funext k G3
  rw [lIte, lim_const]
  congr 1
  refine Eq.trans (lim_bind (by repeat first | exact mE | exact mEs | exact mA | exact mI | exact mL | exact mKk | exact mC | exact mS | exact mSs | exact mF | exact mW | exact mK _ | exact mKF _ | exact (fun n => ((mn _ n).l ..).nox) | exact (fun n => ((mn _ n).k ..).nox) | refine mB ?_ (fun _ _ => ?_) | refine mT ?_ (fun _ _ => ?_) | refine mIte ?_ ?_) (fun _ _ => by repeat first | exact mE | exact mEs | exact mA | exact mI | exact mL | exact mKk | exact mC | exact mS | exact mSs | exact mF | exact mW | exact mK _ | exact mKF _ | exact (fun n => ((mn _ n).l ..).nox) | exact (fun n => ((mn _ n).k ..).nox) | refine mB ?_ (fun _ _ => ?_) | refine mT ?_ (fun _ _ => ?_) | refine mIte ?_ ?_)) ?_
  congr 1; funext z G4
  exact lim_const
theorem xE_maxd {a b : E} : xE T d (.maxd a b) σ G = (xE T d a σ G).bind fun x G1 => (xE T d b σ G1).bind fun y G2 => match items G2 x with
      | some xs => match intsW xs with
        | some ns => .ok (match maxI ns with | some i => .int i | none => y) G2
        | none => .bad
      | none => .bad := by
  unfold xE; rw [lim_succ mE (by simp only [evE])]; simp only [evE]
  refine Eq.trans (lim_bind (by repeat first | exact mE | exact mEs | exact mA | exact mI | exact mL | exact mKk | exact mC | exact mS | exact mSs | exact mF | exact mW | exact mK _ | exact mKF _ | exact (fun n => ((mn _ n).l ..).nox) | exact (fun n => ((mn _ n).k ..).nox) | refine mB ?_ (fun _ _ => ?_) | refine mT ?_ (fun _ _ => ?_) | refine mIte ?_ ?_) (fun _ _ => by repeat first | exact mE | exact mEs | exact mA | exact mI | exact mL | exact mKk | exact mC | exact mS | exact mSs | exact mF | exact mW | exact mK _ | exact mKF _ | exact (fun n => ((mn _ n).l ..).nox) | exact (fun n => ((mn _ n).k ..).nox) | refine mB ?_ (fun _ _ => ?_) | refine mT ?_ (fun _ _ => ?_) | refine mIte ?_ ?_)) ?_
  congr 1; funext x G1
  refine Eq.trans (lim_bind (by repeat first | exact mE | exact mEs | exact mA | exact mI | exact mL | exact mKk | exact mC | exact mS | exact mSs | exact mF | exact mW | exact mK _ | exact mKF _ | exact (fun n => ((mn _ n).l ..).nox) | exact (fun n => ((mn _ n).k ..).nox) | refine mB ?_ (fun _ _ => ?_) | refine mT ?_ (fun _ _ => ?_) | refine mIte ?_ ?_) (fun _ _ => by repeat first | exact mE | exact mEs | exact mA | exact mI | exact mL | exact mKk | exact mC | exact mS | exact mSs | exact mF | exact mW | exact mK _ | exact mKF _ | exact (fun n => ((mn _ n).l ..).nox) | exact (fun n => ((mn _ n).k ..).nox) | refine mB ?_ (fun _ _ => ?_) | refine mT ?_ (fun _ _ => ?_) | refine mIte ?_ ?_)) ?_
  congr 1; funext y G2
  exact lim_const
theorem xK_end {iv : IV} {i : Nat} {tg : Tg} {ifs : List E} {tg1 : Tg} {it1 : It} {ifs1 : List E} {e : E} {vs : List Nat} {acc : List W} (h : iv.at G i = some none) : xK T d iv i tg ifs tg1 it1 ifs1 e σ vs acc G = .ok acc G := by
  unfold xK; rw [lim_succ mKk (by simp only [evK])]; simp only [evK_end h]; exact lim_const
theorem xK_go {iv : IV} {i : Nat} {tg : Tg} {tg1 : Tg} {it1 : It} {ifs1 : List E} {e : E} {vs : List Nat} {acc : List W} {w : W} {σ1 : Sg} (h : iv.at G i = some (some w)) (k : asgT tg w σ = some σ1) : xK T d iv i tg [] tg1 it1 ifs1 e σ vs acc G = (xI T d it1 σ1 G).bind fun iv1 G1 => (xL T d iv1 0 tg1 ifs1 e (wipeW σ1 vs) vs acc G1).bind fun acc' G2 => xK T d iv (i + 1) tg [] tg1 it1 ifs1 e σ vs acc' G2 := by
  unfold xK xI; rw [lim_succ mKk (by simp only [evK])]; simp only [evK_go h k]
  refine Eq.trans (lim_bind (by repeat first | exact mE | exact mEs | exact mA | exact mI | exact mL | exact mKk | exact mC | exact mS | exact mSs | exact mF | exact mW | exact mK _ | exact mKF _ | exact (fun n => ((mn _ n).l ..).nox) | exact (fun n => ((mn _ n).k ..).nox) | refine mB ?_ (fun _ _ => ?_) | refine mT ?_ (fun _ _ => ?_) | refine mIte ?_ ?_) (fun _ _ => by repeat first | exact mE | exact mEs | exact mA | exact mI | exact mL | exact mKk | exact mC | exact mS | exact mSs | exact mF | exact mW | exact mK _ | exact mKF _ | exact (fun n => ((mn _ n).l ..).nox) | exact (fun n => ((mn _ n).k ..).nox) | refine mB ?_ (fun _ _ => ?_) | refine mT ?_ (fun _ _ => ?_) | refine mIte ?_ ?_)) ?_
  congr 1; funext iv1 G1
  refine Eq.trans (lim_bind (by repeat first | exact mE | exact mEs | exact mA | exact mI | exact mL | exact mKk | exact mC | exact mS | exact mSs | exact mF | exact mW | exact mK _ | exact mKF _ | exact (fun n => ((mn _ n).l ..).nox) | exact (fun n => ((mn _ n).k ..).nox) | refine mB ?_ (fun _ _ => ?_) | refine mT ?_ (fun _ _ => ?_) | refine mIte ?_ ?_) (fun _ _ => by repeat first | exact mE | exact mEs | exact mA | exact mI | exact mL | exact mKk | exact mC | exact mS | exact mSs | exact mF | exact mW | exact mK _ | exact mKF _ | exact (fun n => ((mn _ n).l ..).nox) | exact (fun n => ((mn _ n).k ..).nox) | refine mB ?_ (fun _ _ => ?_) | refine mT ?_ (fun _ _ => ?_) | refine mIte ?_ ?_)) ?_
  rfl
section
variable {iv : IV} {i : Nat} {tg : Tg} {e : E} {vs : List Nat} {acc : List W} {w : W} {σ1 : Sg} {ifs : List E} {b : List S}
theorem xL_end (h : iv.at G i = some none) : xL T d iv i tg ifs e σ vs acc G = .ok acc G := by
  unfold xL; rw [lim_succ mL (by simp only [evL])]; simp only [evL_end h]; exact lim_const
theorem xL_go0 (h : iv.at G i = some (some w)) (k : asgT tg w σ = some σ1) : xL T d iv i tg [] e σ vs acc G = (xE T d e σ1 G).bind fun u G1 => if decide (acc.length < sizeLine) then xL T d iv (i + 1) tg [] e σ vs (acc ++ [u]) G1 else .bad := by
  unfold xL xE; rw [lim_succ mL (by simp only [evL])]; simp only [evL_go0 h k]
  refine Eq.trans (lim_bind (by repeat first | exact mE | exact mEs | exact mA | exact mI | exact mL | exact mC | exact mS | exact mSs | exact mF | exact mW | exact mK _ | exact mKF _ | exact (fun n => ((mn _ n).l ..).nox) | refine mB ?_ (fun _ _ => ?_) | refine mT ?_ (fun _ _ => ?_) | refine mIte ?_ ?_) (fun _ _ => by repeat first | exact mE | exact mEs | exact mA | exact mI | exact mL | exact mC | exact mS | exact mSs | exact mF | exact mW | exact mK _ | exact mKF _ | exact (fun n => ((mn _ n).l ..).nox) | refine mB ?_ (fun _ _ => ?_) | refine mT ?_ (fun _ _ => ?_) | refine mIte ?_ ?_)) ?_
  congr 1; funext u G1
  rw [lIte, lim_const]
theorem xL_go1 {c : E} (h : iv.at G i = some (some w)) (k : asgT tg w σ = some σ1) : xL T d iv i tg [c] e σ vs acc G = (xE T d c σ1 G).bind fun x G1 => (ofO (tru G1 x) G1).bind fun k G1 => if k then (xE T d e σ1 G1).bind fun u G2 => (if decide (acc.length < sizeLine) then xL T d iv (i + 1) tg [c] e σ vs (acc ++ [u]) G2 else .bad) else xL T d iv (i + 1) tg [c] e σ vs acc G1 := by
  unfold xL xE; rw [lim_succ mL (by simp only [evL])]; simp only [evL_go1 h k]
  refine Eq.trans (lim_bind (by repeat first | exact mE | exact mEs | exact mA | exact mI | exact mL | exact mC | exact mS | exact mSs | exact mF | exact mW | exact mK _ | exact mKF _ | exact (fun n => ((mn _ n).l ..).nox) | refine mB ?_ (fun _ _ => ?_) | refine mT ?_ (fun _ _ => ?_) | refine mIte ?_ ?_) (fun _ _ => by repeat first | exact mE | exact mEs | exact mA | exact mI | exact mL | exact mC | exact mS | exact mSs | exact mF | exact mW | exact mK _ | exact mKF _ | exact (fun n => ((mn _ n).l ..).nox) | refine mB ?_ (fun _ _ => ?_) | refine mT ?_ (fun _ _ => ?_) | refine mIte ?_ ?_)) ?_
  rw [lim_bindK mE]
  rw [R.assoc]
  congr 1; funext x G1
  congr 1; funext k G2
  rw [lIte]
  congr 1
  refine Eq.trans (lim_bind (by repeat first | exact mE | exact mEs | exact mA | exact mI | exact mL | exact mC | exact mS | exact mSs | exact mF | exact mW | exact mK _ | exact mKF _ | exact (fun n => ((mn _ n).l ..).nox) | refine mB ?_ (fun _ _ => ?_) | refine mT ?_ (fun _ _ => ?_) | refine mIte ?_ ?_) (fun _ _ => by repeat first | exact mE | exact mEs | exact mA | exact mI | exact mL | exact mC | exact mS | exact mSs | exact mF | exact mW | exact mK _ | exact mKF _ | exact (fun n => ((mn _ n).l ..).nox) | refine mB ?_ (fun _ _ => ?_) | refine mT ?_ (fun _ _ => ?_) | refine mIte ?_ ?_)) ?_
  congr 1; funext u G3
  rw [lIte, lim_const]
theorem xF_end (h : iv.at G i = some none) : xF T d iv i tg b σ G = .nx σ G := by
  unfold xF; rw [limF_succ mF (by simp only [evF])]; simp only [evF_end h]; exact limF_const
theorem xF_go (h : iv.at G i = some (some w)) (k : asgT tg w σ = some σ1) : xF T d iv i tg b σ G = (xSs T d b σ1 G).loop fun σ2 G2 => xF T d iv (i + 1) tg b σ2 G2 := by
  unfold xF xSs; rw [limF_succ mF (by simp only [evF])]; simp only [evF_go h k]
  refine Eq.trans (lim_loop (by repeat first | exact mE | exact mEs | exact mA | exact mI | exact mL | exact mC | exact mS | exact mSs | exact mF | exact mW | exact mK _ | exact mKF _ | exact (fun n => ((mn _ n).l ..).nox) | refine mB ?_ (fun _ _ => ?_) | refine mT ?_ (fun _ _ => ?_) | refine mIte ?_ ?_) (fun _ _ => by repeat first | exact mE | exact mEs | exact mA | exact mI | exact mL | exact mC | exact mS | exact mSs | exact mF | exact mW | exact mK _ | exact mKF _ | exact (fun n => ((mn _ n).l ..).nox) | refine mB ?_ (fun _ _ => ?_) | refine mT ?_ (fun _ _ => ?_) | refine mIte ?_ ?_)) ?_
  rfl
end
theorem xW_eq {c : E} {b : List S} : xW T d c b σ G = (xE T d c σ G).toF σ fun x G1 => match tru G1 x with
    | some true => (xSs T d b σ G1).loop fun σ2 G2 => xW T d c b σ2 G2
    | some false => .nx σ G1
    | none => .bad := by
  unfold xW xE; rw [limF_succ mW (by simp only [evW])]; simp only [evW_go]
  rw [lim_toF mE fun x G1 => by
    cases tru G1 x with
    | none => exact mKF _
    | some k =>
      cases k with
      | true => exact fun n => ((mn T n).ss ..).loop fun _ _ => (mn T n).w ..
      | false => exact mKF _]
  congr 1; funext x G1
  cases tru G1 x with
  | none => exact limF_const
  | some k =>
    cases k with
    | true =>
      show (limF fun n => (evSs T n d b σ G1).loop _) = _
      refine Eq.trans (lim_loop (by repeat first | exact mE | exact mEs | exact mA | exact mI | exact mL | exact mC | exact mS | exact mSs | exact mF | exact mW | exact mK _ | exact mKF _ | exact (fun n => ((mn _ n).l ..).nox) | refine mB ?_ (fun _ _ => ?_) | refine mT ?_ (fun _ _ => ?_) | refine mIte ?_ ?_) (fun _ _ => by repeat first | exact mE | exact mEs | exact mA | exact mI | exact mL | exact mC | exact mS | exact mSs | exact mF | exact mW | exact mK _ | exact mKF _ | exact (fun n => ((mn _ n).l ..).nox) | refine mB ?_ (fun _ _ => ?_) | refine mT ?_ (fun _ _ => ?_) | refine mIte ?_ ?_)) ?_
      rfl
    | false => exact limF_const
theorem xC_eq {f : Nat} {fd : FnD} {ws : List W} {us : List W} (h : T.fn f = some fd) (hl : argsOf fd ws = some us) : xC T (d + 1) f ws G = (xSs T d fd.body (us.map some ++ List.replicate (fd.ns - fd.np) none) G).out := by
  unfold xC xSs; rw [lim_succ mC (by simp only [evC])]; simp only [evC, h]
  simp only [hl]
  exact lim_out mSs
theorem xSs_nil : xSs T d [] σ G = .nx σ G := by
  unfold xSs; rw [limF_succ mSs (by simp only [evSs])]; simp only [evSs]; exact limF_const
theorem xSs_cons {s : S} {r : List S} : xSs T d (s :: r) σ G = (xS T d s σ G).then fun σ1 G1 => xSs T d r σ1 G1 := by
  unfold xSs xS; rw [limF_succ mSs (by simp only [evSs])]; simp only [evSs]
  refine Eq.trans (lim_then (by repeat first | exact mE | exact mEs | exact mA | exact mI | exact mL | exact mC | exact mS | exact mSs | exact mF | exact mW | exact mK _ | exact mKF _ | exact (fun n => ((mn _ n).l ..).nox) | refine mB ?_ (fun _ _ => ?_) | refine mT ?_ (fun _ _ => ?_) | refine mIte ?_ ?_) (fun _ _ => by repeat first | exact mE | exact mEs | exact mA | exact mI | exact mL | exact mC | exact mS | exact mSs | exact mF | exact mW | exact mK _ | exact mKF _ | exact (fun n => ((mn _ n).l ..).nox) | refine mB ?_ (fun _ _ => ?_) | refine mT ?_ (fun _ _ => ?_) | refine mIte ?_ ?_)) ?_
  rfl
theorem xS_asg {t : Tg} {e : E} : xS T d (.asg t e) σ G = (xE T d e σ G).toF σ fun w G1 => match asgT t w σ with
      | some σ' => .nx σ' G1
      | none => .bad := by
  unfold xS xE; rw [limF_succ mS (by simp only [evS])]; simp only [evS]
  refine Eq.trans (lim_toF (by repeat first | exact mE | exact mEs | exact mA | exact mI | exact mL | exact mC | exact mS | exact mSs | exact mF | exact mW | exact mK _ | exact mKF _ | exact (fun n => ((mn _ n).l ..).nox) | refine mB ?_ (fun _ _ => ?_) | refine mT ?_ (fun _ _ => ?_) | refine mIte ?_ ?_) (fun _ _ => by repeat first | exact mE | exact mEs | exact mA | exact mI | exact mL | exact mC | exact mS | exact mSs | exact mF | exact mW | exact mK _ | exact mKF _ | exact (fun n => ((mn _ n).l ..).nox) | refine mB ?_ (fun _ _ => ?_) | refine mT ?_ (fun _ _ => ?_) | refine mIte ?_ ?_)) ?_
  congr 1; funext w G1
  exact limF_const
theorem xS_sub {o i e : E} : xS T d (.sub o i e) σ G = (xE T d e σ G).toF σ fun w G1 => (xE T d o σ G1).toF σ fun x G2 => (xE T d i σ G2).toF σ fun y G3 => match x, y with
      | .ref a, .int k => match G3.get a with
        | some (.lst ws) => match ixN ws.length k with
          | some j => .nx σ (G3.set a (.lst (ws.set j w)))
          | none => .bad
        | _ => .bad
      | _, _ => .bad := by
  unfold xS xE; rw [limF_succ mS (by simp only [evS])]; simp only [evS]
  refine Eq.trans (lim_toF (by repeat first | exact mE | exact mEs | exact mA | exact mI | exact mL | exact mC | exact mS | exact mSs | exact mF | exact mW | exact mK _ | exact mKF _ | exact (fun n => ((mn _ n).l ..).nox) | refine mB ?_ (fun _ _ => ?_) | refine mT ?_ (fun _ _ => ?_) | refine mIte ?_ ?_) (fun _ _ => by repeat first | exact mE | exact mEs | exact mA | exact mI | exact mL | exact mC | exact mS | exact mSs | exact mF | exact mW | exact mK _ | exact mKF _ | exact (fun n => ((mn _ n).l ..).nox) | refine mB ?_ (fun _ _ => ?_) | refine mT ?_ (fun _ _ => ?_) | refine mIte ?_ ?_)) ?_
  congr 1; funext w G1
  refine Eq.trans (lim_toF (by repeat first | exact mE | exact mEs | exact mA | exact mI | exact mL | exact mC | exact mS | exact mSs | exact mF | exact mW | exact mK _ | exact mKF _ | exact (fun n => ((mn _ n).l ..).nox) | refine mB ?_ (fun _ _ => ?_) | refine mT ?_ (fun _ _ => ?_) | refine mIte ?_ ?_) (fun _ _ => by repeat first | exact mE | exact mEs | exact mA | exact mI | exact mL | exact mC | exact mS | exact mSs | exact mF | exact mW | exact mK _ | exact mKF _ | exact (fun n => ((mn _ n).l ..).nox) | refine mB ?_ (fun _ _ => ?_) | refine mT ?_ (fun _ _ => ?_) | refine mIte ?_ ?_)) ?_
  congr 1; funext x G2
  refine Eq.trans (lim_toF (by repeat first | exact mE | exact mEs | exact mA | exact mI | exact mL | exact mC | exact mS | exact mSs | exact mF | exact mW | exact mK _ | exact mKF _ | exact (fun n => ((mn _ n).l ..).nox) | refine mB ?_ (fun _ _ => ?_) | refine mT ?_ (fun _ _ => ?_) | refine mIte ?_ ?_) (fun _ _ => by repeat first | exact mE | exact mEs | exact mA | exact mI | exact mL | exact mC | exact mS | exact mSs | exact mF | exact mW | exact mK _ | exact mKF _ | exact (fun n => ((mn _ n).l ..).nox) | refine mB ?_ (fun _ _ => ?_) | refine mT ?_ (fun _ _ => ?_) | refine mIte ?_ ?_)) ?_
  congr 1; funext y G3
  exact limF_const
theorem xS_att {o : E} {f : Nat} {e : E} : xS T d (.att o f e) σ G = (xE T d e σ G).toF σ fun w G1 => (xE T d o σ G1).toF σ fun x G2 => match x with
      | .ref a => match G2.get a with
        | some (.ins c fs) => if decide (fs.length < 1000) && T.fl.contains (c, f) then .nx σ (G2.set a (.ins c (putFW f w fs))) else .bad
        | _ => .bad
      | _ => .bad := by
  unfold xS xE; rw [limF_succ mS (by simp only [evS])]; simp only [evS]
  refine Eq.trans (lim_toF (by repeat first | exact mE | exact mEs | exact mA | exact mI | exact mL | exact mC | exact mS | exact mSs | exact mF | exact mW | exact mK _ | exact mKF _ | exact (fun n => ((mn _ n).l ..).nox) | refine mB ?_ (fun _ _ => ?_) | refine mT ?_ (fun _ _ => ?_) | refine mIte ?_ ?_) (fun _ _ => by repeat first | exact mE | exact mEs | exact mA | exact mI | exact mL | exact mC | exact mS | exact mSs | exact mF | exact mW | exact mK _ | exact mKF _ | exact (fun n => ((mn _ n).l ..).nox) | refine mB ?_ (fun _ _ => ?_) | refine mT ?_ (fun _ _ => ?_) | refine mIte ?_ ?_)) ?_
  congr 1; funext w G1
  refine Eq.trans (lim_toF (by repeat first | exact mE | exact mEs | exact mA | exact mI | exact mL | exact mC | exact mS | exact mSs | exact mF | exact mW | exact mK _ | exact mKF _ | exact (fun n => ((mn _ n).l ..).nox) | refine mB ?_ (fun _ _ => ?_) | refine mT ?_ (fun _ _ => ?_) | refine mIte ?_ ?_) (fun _ _ => by repeat first | exact mE | exact mEs | exact mA | exact mI | exact mL | exact mC | exact mS | exact mSs | exact mF | exact mW | exact mK _ | exact mKF _ | exact (fun n => ((mn _ n).l ..).nox) | refine mB ?_ (fun _ _ => ?_) | refine mT ?_ (fun _ _ => ?_) | refine mIte ?_ ?_)) ?_
  congr 1; funext x G2
  exact limF_const
theorem xS_par {is : List Nat} {es : List E} : xS T d (.par is es) σ G = (xEs T d es σ G).toF σ fun ws G1 => match parS is ws σ with
      | some σ' => .nx σ' G1
      | none => .bad := by
  unfold xS xEs; rw [limF_succ mS (by simp only [evS])]; simp only [evS]
  refine Eq.trans (lim_toF (by repeat first | exact mE | exact mEs | exact mA | exact mI | exact mL | exact mC | exact mS | exact mSs | exact mF | exact mW | exact mK _ | exact mKF _ | exact (fun n => ((mn _ n).l ..).nox) | refine mB ?_ (fun _ _ => ?_) | refine mT ?_ (fun _ _ => ?_) | refine mIte ?_ ?_) (fun _ _ => by repeat first | exact mE | exact mEs | exact mA | exact mI | exact mL | exact mC | exact mS | exact mSs | exact mF | exact mW | exact mK _ | exact mKF _ | exact (fun n => ((mn _ n).l ..).nox) | refine mB ?_ (fun _ _ => ?_) | refine mT ?_ (fun _ _ => ?_) | refine mIte ?_ ?_)) ?_
  congr 1; funext w G1
  exact limF_const
theorem xS_exp {e : E} : xS T d (.exp e) σ G = (xE T d e σ G).toF σ fun _ G1 => .nx σ G1 := by
  unfold xS xE; rw [limF_succ mS (by simp only [evS])]; simp only [evS]
  refine Eq.trans (lim_toF (by repeat first | exact mE | exact mEs | exact mA | exact mI | exact mL | exact mC | exact mS | exact mSs | exact mF | exact mW | exact mK _ | exact mKF _ | exact (fun n => ((mn _ n).l ..).nox) | refine mB ?_ (fun _ _ => ?_) | refine mT ?_ (fun _ _ => ?_) | refine mIte ?_ ?_) (fun _ _ => by repeat first | exact mE | exact mEs | exact mA | exact mI | exact mL | exact mC | exact mS | exact mSs | exact mF | exact mW | exact mK _ | exact mKF _ | exact (fun n => ((mn _ n).l ..).nox) | refine mB ?_ (fun _ _ => ?_) | refine mT ?_ (fun _ _ => ?_) | refine mIte ?_ ?_)) ?_
  congr 1; funext w G1
  exact limF_const
theorem xS_ife {c : E} {a b : List S} : xS T d (.ife c a b) σ G = (xE T d c σ G).toF σ fun x G1 => match tru G1 x with
      | some true => xSs T d a σ G1
      | some false => xSs T d b σ G1
      | none => .bad := by
  unfold xS xE; rw [limF_succ mS (by simp only [evS])]; simp only [evS]
  rw [lim_toF mE fun x G1 => by
    cases tru G1 x with
    | none => exact mKF _
    | some k =>
      cases k with
      | true => exact mSs
      | false => exact mSs]
  congr 1; funext x G1
  cases tru G1 x with
  | none => exact limF_const
  | some k => cases k <;> rfl
theorem xS_for {t : Tg} {it : It} {b : List S} : xS T d (.for t it b) σ G = (xI T d it σ G).toF σ fun iv G1 => xF T d iv 0 t b σ G1 := by
  unfold xS xI; rw [limF_succ mS (by simp only [evS])]; simp only [evS]
  refine Eq.trans (lim_toF (by repeat first | exact mE | exact mEs | exact mA | exact mI | exact mL | exact mC | exact mS | exact mSs | exact mF | exact mW | exact mK _ | exact mKF _ | exact (fun n => ((mn _ n).l ..).nox) | refine mB ?_ (fun _ _ => ?_) | refine mT ?_ (fun _ _ => ?_) | refine mIte ?_ ?_) (fun _ _ => by repeat first | exact mE | exact mEs | exact mA | exact mI | exact mL | exact mC | exact mS | exact mSs | exact mF | exact mW | exact mK _ | exact mKF _ | exact (fun n => ((mn _ n).l ..).nox) | refine mB ?_ (fun _ _ => ?_) | refine mT ?_ (fun _ _ => ?_) | refine mIte ?_ ?_)) ?_
  rfl
theorem xS_whl {c : E} {b : List S} : xS T d (.whl c b) σ G = xW T d c b σ G := by
  unfold xS xW; rw [limF_succ mS (by simp only [evS])]; simp only [evS]
theorem xS_ret {e : E} : xS T d (.ret e) σ G = (xE T d e σ G).toF σ fun w G1 => .ret w G1 := by
  unfold xS xE; rw [limF_succ mS (by simp only [evS])]; simp only [evS]
  refine Eq.trans (lim_toF (by repeat first | exact mE | exact mEs | exact mA | exact mI | exact mL | exact mC | exact mS | exact mSs | exact mF | exact mW | exact mK _ | exact mKF _ | exact (fun n => ((mn _ n).l ..).nox) | refine mB ?_ (fun _ _ => ?_) | refine mT ?_ (fun _ _ => ?_) | refine mIte ?_ ?_) (fun _ _ => by repeat first | exact mE | exact mEs | exact mA | exact mI | exact mL | exact mC | exact mS | exact mSs | exact mF | exact mW | exact mK _ | exact mKF _ | exact (fun n => ((mn _ n).l ..).nox) | refine mB ?_ (fun _ _ => ?_) | refine mT ?_ (fun _ _ => ?_) | refine mIte ?_ ?_)) ?_
  congr 1; funext w G1
  exact limF_const
theorem xS_pass : xS T d .pass σ G = .nx σ G := by
  unfold xS; rw [limF_succ mS (by simp only [evS])]; simp only [evS]; exact limF_const
theorem xS_unp {i j : Nat} {e : E} : xS T d (.unp i j e) σ G = (xE T d e σ G).toF σ fun w G1 => match w with
      | .tup (u :: ws) => if szOk (ws.length + 1) then .nx ((σ.set i (some u)).set j (some (.ref G1.sz))) (G1.push (.lst ws)) else .bad
      | _ => .bad := by
  unfold xS xE; rw [limF_succ mS (by simp only [evS])]; simp only [evS]
  refine Eq.trans (lim_toF (by repeat first | exact mE | exact mEs | exact mA | exact mI | exact mL | exact mKk | exact mC | exact mS | exact mSs | exact mF | exact mW | exact mK _ | exact mKF _ | exact (fun n => ((mn _ n).l ..).nox) | exact (fun n => ((mn _ n).k ..).nox) | refine mB ?_ (fun _ _ => ?_) | refine mT ?_ (fun _ _ => ?_) | refine mIte ?_ ?_) (fun _ _ => by repeat first | exact mE | exact mEs | exact mA | exact mI | exact mL | exact mKk | exact mC | exact mS | exact mSs | exact mF | exact mW | exact mK _ | exact mKF _ | exact (fun n => ((mn _ n).l ..).nox) | exact (fun n => ((mn _ n).k ..).nox) | refine mB ?_ (fun _ _ => ?_) | refine mT ?_ (fun _ _ => ?_) | refine mIte ?_ ?_)) ?_
  congr 1; funext w G1
  exact limF_const
theorem xS_brk : xS T d .brk σ G = .brk σ G := by
  unfold xS; rw [limF_succ mS (by simp only [evS])]; simp only [evS]; exact limF_const
theorem xS_cnt : xS T d .cnt σ G = .cnt σ G := by
  unfold xS; rw [limF_succ mS (by simp only [evS])]; simp only [evS]; exact limF_const
theorem xS_aug {i : Nat} {o : BO} {e : E} {x : W} (hx : σ[i]? = some (some x)) : xS T d (.aug i o e) σ G = (xE T d e σ G).toF σ fun y G1 => match augop o x y G1 with
        | some (w, G2) => .nx (σ.set i (some w)) G2
        | none => .bad := by
  unfold xS xE; rw [limF_succ mS (by simp only [evS])]; simp only [evS, hx]
  refine Eq.trans (lim_toF (by repeat first | exact mE | exact mEs | exact mA | exact mI | exact mL | exact mKk | exact mC | exact mS | exact mSs | exact mF | exact mW | exact mK _ | exact mKF _ | exact (fun n => ((mn _ n).l ..).nox) | exact (fun n => ((mn _ n).k ..).nox) | refine mB ?_ (fun _ _ => ?_) | refine mT ?_ (fun _ _ => ?_) | refine mIte ?_ ?_) (fun _ _ => by repeat first | exact mE | exact mEs | exact mA | exact mI | exact mL | exact mKk | exact mC | exact mS | exact mSs | exact mF | exact mW | exact mK _ | exact mKF _ | exact (fun n => ((mn _ n).l ..).nox) | exact (fun n => ((mn _ n).k ..).nox) | refine mB ?_ (fun _ _ => ?_) | refine mT ?_ (fun _ _ => ?_) | refine mIte ?_ ?_)) ?_
  congr 1; funext w G1
  exact limF_const
end
end PM

set_option maxHeartbeats 4000000
/-! PmR: a text joined to the small Python. -/
namespace PM
open PySem PySem.Spec PyProof.Rows L2

theorem al_nil {α : Type} {P : α → Prop} : ∀ p ∈ ([] : List α), P p := fun _ h => nomatch h
theorem al_cons {α : Type} {P : α → Prop} {a : α} {l : List α} (h : P a) (t : ∀ p ∈ l, P p) : ∀ p ∈ a :: l, P p := fun p hp => by
  rcases List.mem_cons.mp hp with e | e
  · rw [e]; exact h
  · exact t p e
theorem look_all {α β : Type} [BEq α] [LawfulBEq α] {P : α × β → Prop} : ∀ {l : List (α × β)} {x : α} {v : β}, (∀ p ∈ l, P p) → l.lookup x = some v → P (x, v)
  | [], _, _, _, h => by cases h
  | (k, u) :: r, x, v, al, h => by
    rw [List.lookup_cons] at h
    cases e : x == k with
    | true =>
      rw [e] at h
      cases h
      rw [eq_of_beq e]
      exact al _ List.mem_cons_self
    | false =>
      rw [e] at h
      exact look_all (fun p hp => al p (List.mem_cons_of_mem _ hp)) h
theorem contains_all {α : Type} [BEq α] [LawfulBEq α] {P : α → Prop} {l : List α} {x : α} (al : ∀ p ∈ l, P p) (h : l.contains x = true) : P x := al x (List.contains_iff_mem.mp h)
/-- names by number -/
def nmOf (nms : List Str) (i : Nat) : Str := match nms[i]? with
  | some x => x
  | none => ⟨Array.replicate (1000 + i) 0⟩
theorem nmOf_inj {nms : List Str} (nd : nms.Nodup) (sm : nms.all (fun x : Str => decide (x.cps.size < 1000)) = true) : ∀ i j, nmOf nms i = nmOf nms j → i = j := by
  intro i j h
  have small : ∀ (k : Nat) (x : Str), nms[k]? = some x → x.cps.size < 1000 := fun k x e => by
    have q := List.all_eq_true.mp sm x (List.mem_of_getElem? e)
    exact of_decide_eq_true q
  unfold nmOf at h
  cases ei : nms[i]? with
  | some x =>
    cases ej : nms[j]? with
    | some y =>
      rw [ei, ej] at h
      have h : x = y := h
      rw [h] at ei
      exact nodup_ix nd ei ej
    | none =>
      rw [ei, ej] at h
      have h : x = ⟨Array.replicate (1000 + j) 0⟩ := h
      have := small i x ei
      rw [h] at this
      simp at this
      omega
  | none =>
    cases ej : nms[j]? with
    | some y =>
      rw [ei, ej] at h
      have h : (⟨Array.replicate (1000 + i) 0⟩ : Str) = y := h
      have := small j y ej
      rw [← h] at this
      simp at this
      omega
    | none =>
      rw [ei, ej] at h
      have h : (⟨Array.replicate (1000 + i) 0⟩ : Str) = ⟨Array.replicate (1000 + j) 0⟩ := h
      have e := congrArg (fun x : Str => x.cps.size) h
      simp at e
      exact e
theorem nmOf_ix {nms : List Str} {x : Str} {i : Nat} (h : ixS nms x = some i) : nmOf nms i = x := by
  unfold nmOf
  rw [ixS_get h]
/-- three lists in step -/
inductive All3 {α β γ : Type} (P : α → β → γ → Prop) : List α → List β → List γ → Prop
  | nil : All3 P [] [] []
  | cons {a b c l m n} : P a b c → All3 P l m n → All3 P (a :: l) (b :: m) (c :: n)
theorem All3.at_ {α β γ : Type} {P : α → β → γ → Prop} {b0 : β} {c0 : γ} : ∀ {l : List α} {m : List β} {n : List γ} {i : Nat} {a : α}, All3 P l m n → l[i]? = some a → P a (m.getD i b0) (n.getD i c0)
  | _, _, _, _, _, .nil, h => by simp at h
  | _, _, _, 0, _, .cons p _, h => by
    simp at h
    rw [← h]
    exact p
  | _, _, _, i + 1, _, .cons _ t, h => by
    have := t.at_ (i := i) (b0 := b0) (c0 := c0) (by simpa using h)
    simpa using this
/-- a def, as the text has it -/
def DefOk (K : PySem.W.Frag) (g : Gn) (fd : FnD) (D : Df) (a : Addr) : Prop :=
  FunD K D.x D.qual D.params D.body D.scope D.dvs D.kws a D.fd ∧ FnScope D.N D.ps D.scope ∧ (∃ m, trSs g m ⟨D.N, D.scope, D.N⟩ D.body = some fd.body) ∧ fd.np = D.ps.length ∧ fd.ns = D.N.length ∧ (fd.va = true → BindV D.fd D.ps)
/-! ### binding -/
def pick {α : Type} (is : List Nat) (l : List α) : List α := is.filterMap (l[·]?)
theorem pick_vals {is : List Nat} {vs : List V} {us : List Value} (h : Vals vs us) : Vals (pick is vs) (pick is us) := by
  unfold pick
  induction is with
  | nil => exact .nil
  | cons i r ih =>
    rw [List.filterMap_cons, List.filterMap_cons]
    cases e : vs[i]? with
    | none =>
      rw [h.none_of e]
      exact ih
    | some v =>
      obtain ⟨u, h1, h2⟩ := h.get e
      rw [h1]
      exact .cons h2 ih
theorem kbn_same {K : PySem.W.Frag} {x qual : Str} {params : Arguments} {body : List Stmt} {scope : Scope} {kws : List (Str × V)} {f : Addr} {fd : FuncData} {ps : List Str} (F : FunD K x qual params body scope [] kws f fd)
    (h : ∀ (kV doc pm : Value) (an : Option Addr) (cdv ct : Value) (us : List Value), us.length = ps.length → bindArgs (PySem.W.fnOf x qual params body scope .none kV doc pm an cdv ct) ⟨us, []⟩ = pure (ps.zip us)) :
    KBn K fd ps ps.length [] (fun us _ => us) (fun vs _ => vs) := by
  have b := FunD.bindsN F h
  refine ⟨fun s us ws X l1 l2 => ?_, fun r _ => r⟩
  have := b s us X (by rw [List.append_nil]; exact l1)
  rw [List.append_nil] at this
  exact this
theorem bd_same (L : Pg) (n : Nat) : BdOk L [] n 0 (fun vs _ => vs) := by
  intro ρ H ws us vs zs l1 l2 r h
  cases h
  have : zs = [] := List.eq_nil_of_length_eq_zero l2
  subst this
  rw [List.append_nil] at r
  exact r
theorem kbn_pick {K : PySem.W.Frag} {x qual : Str} {params : Arguments} {body : List Stmt} {scope : Scope} {kws : List (Str × V)} {f : Addr} {fd : FuncData} {ps : List Str} (F : FunD K x qual params body scope [] kws f fd) (n : Nat) (ks : List Str) (is : List Nat)
    (h : ∀ (kV doc pm : Value) (an : Option Addr) (cdv ct : Value) (us ws : List Value), us.length = n → ws.length = ks.length → bindArgs (PySem.W.fnOf x qual params body scope .none kV doc pm an cdv ct) ⟨us, ks.zip ws⟩ = pure (ps.zip (pick is (us ++ ws)))) :
    KBn K fd ps n ks (fun us ws => pick is (us ++ ws)) (fun vs zs => pick is (vs ++ zs)) := by
  obtain ⟨oc, od, dV, kV, doc, pm, an, cdv, ct, osl, rfl, lk, hcd, hD, hK⟩ := F.ex
  rcases hD with ⟨_, rfl⟩ | ⟨e, _⟩
  · exact ⟨fun s us ws X l1 l2 => BindsTo.of_eq (h kV doc pm an cdv ct us ws l1 l2), fun r1 r2 => pick_vals (r1.append r2)⟩
  · exact absurd rfl e
theorem bd_pick (L : Pg) (n m : Nat) (is : List Nat) (hne : is ≠ []) : BdOk L (is.map .a) n m (fun vs zs => pick is (vs ++ zs)) := by
  intro ρ H ws us vs zs l1 l2 r h
  have e : bindA (is.map Bd.a) ws = optAll (fun b => match b with | .a i => ws[i]? | .d w => some w) (is.map Bd.a) := by
    cases is with
    | nil => exact absurd rfl hne
    | cons _ _ => rfl
  rw [e] at h
  clear e hne
  unfold pick
  induction is generalizing us with
  | nil => cases h; rfl
  | cons i t ih =>
    rw [List.map_cons] at h
    obtain ⟨y, ys, rfl, h1, h2⟩ := optAll_cons h
    obtain ⟨v, k1, k2⟩ := r.get (show ws[i]? = some y from h1)
    show Rws L.N ρ H (y :: ys) (List.filterMap (fun x => (vs ++ zs)[x]?) (i :: t))
    rw [List.filterMap_cons, k1]
    exact ⟨v, _, rfl, k2, ih ys h2⟩
/-! ### the law -/
theorem fnok_cx {P : Program} {w : World} {K : PySem.W.Frag} {mg : Str → Option Value} {base : Heap} {CX CX' : CXT} {k : Nat} {f : Addr} {fd : FuncData} {ps : List Str} {sp : Sp} (F : FnOk P w K mg base CX k f fd ps sp)
    (h : ∀ o H s E u s', CX o H s E u s' → CX' o H s E u s') : FnOk P w K mg base CX' k f fd ps sp :=
  ⟨F.len, fun A outer s H args us vs Q E hr he hb hv hs => codeAny_mono (F.run A outer s H args us vs Q E hr he hb hv hs) fun r s' hq => by
    cases r with
    | error e => exact h _ _ _ _ _ _ hq
    | ok fl => cases fl <;> exact hq⟩
def CXa (P : Program) : CXT := fun o H s E u s' => ∃ w, L2.CX P w o H s E u s'
theorem nil_rg (N : En) (H : Hp) : Rg N [] ⟨0, .e⟩ H := ⟨by simp, rfl, (fun _ h => nomatch h), fun n o e => by cases (show (none : Option AO) = some o from e)⟩
theorem law_pm {l : PySem.W.OpenLaw} {k : Nat} {q : Program} {loose : List Str} {XP : (Str → Option Value) → Heap → Prop} {YP : World → Heap → Prop} {d : DefRec} {x : Str} {T : Tb} {i : Nat}
    (hn : l.most = some 63) (hdf : d.params.defaults = []) (hr : Room k callerA) (hi : Fx T i)
    (hev : ∀ ns : List Int, ns.length ≤ 63 → ∃ G', xC T k i [.rol (ns.map .int)] ⟨0, .e⟩ = .ok (.bl true) G')
    (F : ∀ (w : World) (mg : Str → Option Value) (fa : Addr) (h : Heap), YP w h → h.Ns mainGlobals mg → mg d.name = some (.ref fa) →
      ∃ (N : En) (g : Gn) (df : Nat → Df), N.K.In h ∧ N.fa i = fa ∧ (df i).ps = [x] ∧ (∀ (s : Shared) (u : Value), BindsTo s (df i).fd ⟨[u], []⟩ [(x, u)]) ∧ ∀ base, Lk ⟨l.prog, w, mg, base, N, T, g, df⟩) :
    PySem.W.WalkO q loose XP YP l.row.toRowW d [] (fun f vs => PySem.call f vs) := by
  refine L2.walk_ofE (l := l) (n := 63) (k := k) (x := x) (CX := CXa l.prog) hn (by decide) hdf hr ?_ ?_
  · intro w mg fa h Y G hmg
    obtain ⟨N, g, df, KX, ha, hps, hb, lk⟩ := F w mg fa h Y G hmg
    refine ⟨N.K, (df i).fd, spF ⟨l.prog, w, mg, h, N, T, g, df⟩ k i, KX, hb, fun H a ns hl hO hS => ?_, fun base hK hG => ?_⟩
    · obtain ⟨G', e⟩ := hev ns hl
      obtain ⟨n, e⟩ := lim_ex e (fun z => nomatch z)
      have sq : SqF N.K H a (ns.map V.int) := by
        rcases hS with (hS | ⟨o, hS⟩) | hS
        · rcases hO a with z | ⟨o, xs, z⟩
          · rw [z] at hS; cases hS
          · rw [z] at hS; cases hS
        · exact .inl ⟨o, hS⟩
        · exact .inr hS
      have hints : ∀ ns : List Int, Rws N [] H (ns.map .int) (ns.map V.int) := by
        intro ns
        induction ns with
        | nil => rfl
        | cons n r ih => exact ⟨_, _, rfl, rfl, ih⟩
      refine ⟨n, [], ⟨0, .e⟩, [.rol (ns.map .int)], nil_rg N H, ⟨_, _, rfl, ⟨a, _, rfl, sq, hints ns⟩, rfl⟩, ?_⟩
      show QC N (fun v _ => v = .bl true) (fun _ _ _ => False) (evC T n k i [.rol (ns.map .int)] ⟨0, .e⟩) [] H
      rw [e]
      exact fun ρ' b H' s g r => r
    · have := fnok_cx (CX' := CXa l.prog) ((all_ok (lk base) k i _ hi.choose_spec.1).1 hi.choose_spec.2) fun o H s E u s' z => ⟨w, z⟩
      rw [← ha, ← hps]
      exact this
  · rintro H s e s' ⟨w, a, B, H', cls, dd, _, _, _, _, _, _, _, z⟩
    exact z
theorem bindV_of {K : PySem.W.Frag} {x qual : Str} {params : Arguments} {body : List Stmt} {scope : Scope} {kws : List (Str × V)} {f : Addr} {fd : FuncData} {ps : List Str} (F : FunD K x qual params body scope [] kws f fd) (ps' : List Str) (pv : Str) (e : ps = ps' ++ [pv])
    (h : ∀ (kV doc pm : Value) (an : Option Addr) (cdv ct : Value) (us rest : List Value), us.length = ps'.length → bindArgs (PySem.W.fnOf x qual params body scope .none kV doc pm an cdv ct) ⟨us ++ rest, []⟩ = (newTuple rest >>= fun t => pure (ps'.zip us ++ [(pv, t)]))) : BindV fd ps := by
  obtain ⟨oc, od, dV, kV, doc, pm, an, cdv, ct, osl, rfl, lk, hcd, hD, hK⟩ := F.ex
  rcases hD with ⟨_, rfl⟩ | ⟨e, _⟩
  · exact ⟨ps', pv, e, fun us rest l => h kV doc pm an cdv ct us rest l⟩
  · exact absurd rfl e
section
variable {K : PySem.W.Frag}
theorem c_int {h : Heap} {mg : Str → Option Value} (X : K.In h) (G : h.Ns mainGlobals mg) {x : Str} {i : Int} (N : PM.En) (c : (He.Fa.int x i).ok K = true) : ∃ v u, mg x = some u ∧ RelV v u ∧ ∀ ρ H, Rw N ρ H (.int i) v := by
  obtain ⟨t, e⟩ := He.int_ok X G c
  exact ⟨.int i, _, e, ⟨t, rfl⟩, fun _ _ => rfl⟩
theorem c_str {h : Heap} {mg : Str → Option Value} (X : K.In h) (G : h.Ns mainGlobals mg) {x z : Str} (N : PM.En) (c : (He.Fa.str x z).ok K = true) : ∃ v u, mg x = some u ∧ RelV v u ∧ ∀ ρ H, Rw N ρ H (.str z) v := by
  obtain ⟨t, e⟩ := He.str_ok X G c
  exact ⟨.str z, _, e, ⟨t, rfl⟩, fun _ _ => rfl⟩
theorem rws_str {N : PM.En} {ρ : List Addr} {H : Hp} : ∀ zs : List Str, Rws N ρ H (zs.map .str) (zs.map V.str)
  | [] => rfl
  | _ :: r => ⟨_, _, rfl, rfl, rws_str r⟩
theorem c_tup {h : Heap} {mg : Str → Option Value} {zs : List Str} (X : K.In h) (G : h.Ns mainGlobals mg) {x : Str} (N : PM.En) (hN : N.K = K) (c : (He.Fa.glo x).ok K = true) (t : He.tupB K x (zs.map He.Dv.str) = true) : ∃ v u, mg x = some u ∧ RelV v u ∧ ∀ ρ H, Rw N ρ H (.tup (zs.map .str)) v := by
  refine ⟨.ref (He.ga K x), .ref _, He.glo_ok X G c, rfl, fun ρ H => ⟨_, zs.map V.str, rfl, ?_, rws_str zs⟩⟩
  have e : (zs.map He.Dv.str).map (He.Dv.v K) = zs.map V.str := by
    rw [List.map_map]
    rfl
  rcases He.tupB_ok t (fun _ => none) with q | q
  · rcases q with q | ⟨o, q⟩ <;> cases q
  · rw [e] at q
    rw [hN]
    exact .inr q
end
end PM

set_option maxHeartbeats 4000000
/-! PmX: small rules for the plain side. on G: a heap that has come (a rule fires there alone, not below a binder). -/
namespace PM
open PySem
@[irreducible] def on (G : GH) : GH := G
theorem on_eq (G : GH) : on G = G := by unfold on; rfl
theorem oE_cst {T : Tb} {d : Nat} {σ : Sg} {G : GH} {w : W} : type_of% (xE_cst (T := T) (d := d) (σ := σ) (w := w) (G := on G)) := xE_cst
theorem oE_var {T : Tb} {d : Nat} {σ : Sg} {G : GH} {i : Nat} : type_of% (xE_var (T := T) (d := d) (σ := σ) (i := i) (G := on G)) := xE_var
theorem oE_bin {T : Tb} {d : Nat} {σ : Sg} {G : GH} {o : BO} {a b : E} : type_of% (xE_bin (T := T) (d := d) (σ := σ) (o := o) (a := a) (b := b) (G := on G)) := xE_bin
theorem oE_cmp {T : Tb} {d : Nat} {σ : Sg} {G : GH} {o : CO} {a b : E} : type_of% (xE_cmp (T := T) (d := d) (σ := σ) (o := o) (a := a) (b := b) (G := on G)) := xE_cmp
theorem oE_and {T : Tb} {d : Nat} {σ : Sg} {G : GH} {a b : E} : type_of% (xE_and (T := T) (d := d) (σ := σ) (a := a) (b := b) (G := on G)) := xE_and
theorem oE_or {T : Tb} {d : Nat} {σ : Sg} {G : GH} {a b : E} : type_of% (xE_or (T := T) (d := d) (σ := σ) (a := a) (b := b) (G := on G)) := xE_or
theorem oE_not {T : Tb} {d : Nat} {σ : Sg} {G : GH} {a : E} : type_of% (xE_not (T := T) (d := d) (σ := σ) (a := a) (G := on G)) := xE_not
theorem oE_neg {T : Tb} {d : Nat} {σ : Sg} {G : GH} {a : E} : type_of% (xE_neg (T := T) (d := d) (σ := σ) (a := a) (G := on G)) := xE_neg
theorem oE_ife {T : Tb} {d : Nat} {σ : Sg} {G : GH} {c a b : E} : type_of% (xE_ife (T := T) (d := d) (σ := σ) (c := c) (a := a) (b := b) (G := on G)) := xE_ife
theorem oE_tup {T : Tb} {d : Nat} {σ : Sg} {G : GH} {es : List Ar} : type_of% (xE_tup (T := T) (d := d) (σ := σ) (es := es) (G := on G)) := xE_tup
theorem oE_lst {T : Tb} {d : Nat} {σ : Sg} {G : GH} {es : List Ar} : type_of% (xE_lst (T := T) (d := d) (σ := σ) (es := es) (G := on G)) := xE_lst
theorem oE_ix {T : Tb} {d : Nat} {σ : Sg} {G : GH} {a i : E} : type_of% (xE_ix (T := T) (d := d) (σ := σ) (a := a) (i := i) (G := on G)) := xE_ix
theorem oE_sl {T : Tb} {d : Nat} {σ : Sg} {G : GH} {a lo hi : E} : type_of% (xE_sl (T := T) (d := d) (σ := σ) (a := a) (lo := lo) (hi := hi) (G := on G)) := xE_sl
theorem oE_call {T : Tb} {d : Nat} {σ : Sg} {G : GH} {f : Nat} {es : List E} {bd : List Bd} : type_of% (xE_call (T := T) (d := d) (σ := σ) (f := f) (es := es) (bd := bd) (G := on G)) := xE_call
theorem oE_mk {T : Tb} {d : Nat} {σ : Sg} {G : GH} {c : Nat} {es : List E} {bd : List Bd} : type_of% (xE_mk (T := T) (d := d) (σ := σ) (c := c) (es := es) (bd := bd) (G := on G)) := xE_mk
theorem oE_met {T : Tb} {d : Nat} {σ : Sg} {G : GH} {o : E} {m : Nat} {es : List E} : type_of% (xE_met (T := T) (d := d) (σ := σ) (o := o) (m := m) (es := es) (G := on G)) := xE_met
theorem oE_att {T : Tb} {d : Nat} {σ : Sg} {G : GH} {o : E} {f : Nat} : type_of% (xE_att (T := T) (d := d) (σ := σ) (o := o) (f := f) (G := on G)) := xE_att
theorem oE_blt {T : Tb} {d : Nat} {σ : Sg} {G : GH} {b : Bf} {es : List E} : type_of% (xE_blt (T := T) (d := d) (σ := σ) (b := b) (es := es) (G := on G)) := xE_blt
theorem oE_lc {T : Tb} {d : Nat} {σ : Sg} {G : GH} {vs : List Nat} {tg : Tg} {it : It} {ifs : List E} {e : E} : type_of% (xE_lc (T := T) (d := d) (σ := σ) (vs := vs) (tg := tg) (it := it) (ifs := ifs) (e := e) (G := on G)) := xE_lc
theorem oEs_nil {T : Tb} {d : Nat} {σ : Sg} {G : GH} : type_of% (xEs_nil (T := T) (d := d) (σ := σ) (G := on G)) := xEs_nil
theorem oEs_cons {T : Tb} {d : Nat} {σ : Sg} {G : GH} {e : E} {r : List E} : type_of% (xEs_cons (T := T) (d := d) (σ := σ) (e := e) (r := r) (G := on G)) := xEs_cons
theorem oA_nil {T : Tb} {d : Nat} {σ : Sg} {G : GH} : type_of% (xA_nil (T := T) (d := d) (σ := σ) (G := on G)) := xA_nil
theorem oA_e {T : Tb} {d : Nat} {σ : Sg} {G : GH} {e : E} {r : List Ar} : type_of% (xA_e (T := T) (d := d) (σ := σ) (e := e) (r := r) (G := on G)) := xA_e
theorem oA_s {T : Tb} {d : Nat} {σ : Sg} {G : GH} {e : E} {r : List Ar} : type_of% (xA_s (T := T) (d := d) (σ := σ) (e := e) (r := r) (G := on G)) := xA_s
theorem oI_e {T : Tb} {d : Nat} {σ : Sg} {G : GH} {e : E} : type_of% (xI_e (T := T) (d := d) (σ := σ) (e := e) (G := on G)) := xI_e
theorem oI_rng {T : Tb} {d : Nat} {σ : Sg} {G : GH} {es : List E} : type_of% (xI_rng (T := T) (d := d) (σ := σ) (es := es) (G := on G)) := xI_rng
theorem oI_zip {T : Tb} {d : Nat} {σ : Sg} {G : GH} {a b : E} : type_of% (xI_zip (T := T) (d := d) (σ := σ) (a := a) (b := b) (G := on G)) := xI_zip
theorem oW_eq {T : Tb} {d : Nat} {σ : Sg} {G : GH} {c : E} {b : List S} : type_of% (xW_eq (T := T) (d := d) (σ := σ) (c := c) (b := b) (G := on G)) := xW_eq
theorem oSs_nil {T : Tb} {d : Nat} {σ : Sg} {G : GH} : type_of% (xSs_nil (T := T) (d := d) (σ := σ) (G := on G)) := xSs_nil
theorem oSs_cons {T : Tb} {d : Nat} {σ : Sg} {G : GH} {s : S} {r : List S} : type_of% (xSs_cons (T := T) (d := d) (σ := σ) (s := s) (r := r) (G := on G)) := xSs_cons
theorem oS_asg {T : Tb} {d : Nat} {σ : Sg} {G : GH} {t : Tg} {e : E} : type_of% (xS_asg (T := T) (d := d) (σ := σ) (t := t) (e := e) (G := on G)) := xS_asg
theorem oS_sub {T : Tb} {d : Nat} {σ : Sg} {G : GH} {o i e : E} : type_of% (xS_sub (T := T) (d := d) (σ := σ) (o := o) (i := i) (e := e) (G := on G)) := xS_sub
theorem oS_att {T : Tb} {d : Nat} {σ : Sg} {G : GH} {o : E} {f : Nat} {e : E} : type_of% (xS_att (T := T) (d := d) (σ := σ) (o := o) (f := f) (e := e) (G := on G)) := xS_att
theorem oS_par {T : Tb} {d : Nat} {σ : Sg} {G : GH} {is : List Nat} {es : List E} : type_of% (xS_par (T := T) (d := d) (σ := σ) (is := is) (es := es) (G := on G)) := xS_par
theorem oS_exp {T : Tb} {d : Nat} {σ : Sg} {G : GH} {e : E} : type_of% (xS_exp (T := T) (d := d) (σ := σ) (e := e) (G := on G)) := xS_exp
theorem oS_ife {T : Tb} {d : Nat} {σ : Sg} {G : GH} {c : E} {a b : List S} : type_of% (xS_ife (T := T) (d := d) (σ := σ) (c := c) (a := a) (b := b) (G := on G)) := xS_ife
theorem oS_for {T : Tb} {d : Nat} {σ : Sg} {G : GH} {t : Tg} {it : It} {b : List S} : type_of% (xS_for (T := T) (d := d) (σ := σ) (t := t) (it := it) (b := b) (G := on G)) := xS_for
theorem oS_whl {T : Tb} {d : Nat} {σ : Sg} {G : GH} {c : E} {b : List S} : type_of% (xS_whl (T := T) (d := d) (σ := σ) (c := c) (b := b) (G := on G)) := xS_whl
theorem oS_ret {T : Tb} {d : Nat} {σ : Sg} {G : GH} {e : E} : type_of% (xS_ret (T := T) (d := d) (σ := σ) (e := e) (G := on G)) := xS_ret
theorem oS_pass {T : Tb} {d : Nat} {σ : Sg} {G : GH} : type_of% (xS_pass (T := T) (d := d) (σ := σ) (G := on G)) := xS_pass
theorem rb_ok {α β : Type} {a : α} {G : GH} {f : α → GH → R β} : (R.ok a (on G)).bind f = f a (on G) := rfl
theorem rt_ok {α : Type} {a : α} {G : GH} {σ : Sg} {f : α → GH → F} : (R.ok a (on G)).toF σ f = f a (on G) := rfl
theorem ft_nx {σ : Sg} {G : GH} {f : Sg → GH → F} : (F.nx σ (on G)).then f = f σ (on G) := rfl
theorem ft_ret {w : W} {G : GH} {f : Sg → GH → F} : (F.ret w (on G)).then f = .ret w (on G) := rfl
theorem fl_nx {σ : Sg} {G : GH} {f : Sg → GH → F} : (F.nx σ (on G)).loop f = f σ (on G) := rfl
theorem fl_ret {w : W} {G : GH} {f : Sg → GH → F} : (F.ret w (on G)).loop f = .ret w (on G) := rfl
theorem fo_nx {σ : Sg} {G : GH} : (F.nx σ (on G)).out = .ok .non (on G) := rfl
theorem fo_ret {w : W} {G : GH} : (F.ret w (on G)).out = .ok w (on G) := rfl
theorem oo_some {α : Type} {a : α} {G : GH} : ofO (some a) (on G) = .ok a (on G) := rfl
theorem og_some {α : Type} {a : α} {G : GH} : ofOG (some (a, G)) = .ok a (on G) := by rw [on_eq]; rfl
theorem nox_ok {α : Type} {a : α} {G : GH} : (R.ok a (on G)).nox = .ok a (on G) := rfl
theorem tru_bl {b : Bool} {G : GH} : tru G (.bl b) = some b := rfl
theorem tru_int {i : Int} {G : GH} : tru G (.int i) = some (i != 0) := rfl
theorem bA_nil {ws : List W} : bindA [] ws = some ws := rfl
theorem asg_v {i : Nat} {w : W} {σ : Sg} : asgT (.v i) w σ = some (σ.set i (some w)) := rfl
theorem on_get {G : GH} {a : Nat} : (on G).get a = G.get a := by rw [on_eq]
theorem on_sz {G : GH} : (on G).sz = G.sz := by rw [on_eq]
theorem on_push {G : GH} {o : AO} : (on G).push o = G.push o := by rw [on_eq]
theorem on_set {G : GH} {n : Nat} {o : AO} : (on G).set n o = G.set n o := by rw [on_eq]
/-! comparisons -/
theorem c_eq {x y : W} {G : GH} : cmpop .eq x y G = eqW G x y := rfl
theorem c_ne {x y : W} {G : GH} : cmpop .ne x y G = (eqW G x y).map (!·) := rfl
theorem c_in {x y : W} {G : GH} : cmpop .isin x y G = inW G x y := rfl
theorem c_nin {x y : W} {G : GH} : cmpop .notin x y G = (inW G x y).map (!·) := rfl
theorem c_lt {i j : Int} {G : GH} : cmpop .lt (.int i) (.int j) G = some (decide (i < j)) := rfl
theorem c_le {i j : Int} {G : GH} : cmpop .le (.int i) (.int j) G = some (decide (i ≤ j)) := rfl
theorem c_gt {i j : Int} {G : GH} : cmpop .gt (.int i) (.int j) G = some (decide (j < i)) := rfl
theorem c_ge {i j : Int} {G : GH} : cmpop .ge (.int i) (.int j) G = some (decide (j ≤ i)) := rfl
theorem c_is {x : W} {G : GH} : cmpop .is x .non G = some (isNon x) := rfl
theorem c_isn {x : W} {G : GH} : cmpop .isnot x .non G = some (!isNon x) := rfl
theorem eq_ss {a b : Str} {G : GH} : eqW G (.str a) (.str b) = some (decide (a = b)) := rfl
theorem eq_ii {a b : Int} {G : GH} : eqW G (.int a) (.int b) = some (decide (a = b)) := rfl
theorem eq_bb {a b : Bool} {G : GH} : eqW G (.bl a) (.bl b) = some (decide (a = b)) := rfl
theorem in_ss {a b : Str} {G : GH} : inW G (.str a) (.str b) = some (!(Builtin.Str.occurrences b a 0 b.length 1).isEmpty) := rfl
theorem ix_t {G : GH} {ws : List W} {i : Int} : ixop G (.tup ws) (.int i) = L2.atI ws i := rfl
theorem ix_r {G : GH} {ws : List W} {i : Int} : ixop G (.rol ws) (.int i) = L2.atI ws i := rfl
theorem ix_l {G : GH} {ws : List W} {n : Nat} {i : Int} (h : G.get n = some (.lst ws)) : ixop G (.ref n) (.int i) = L2.atI ws i := by
  show (match seqOf G (.ref n) with | some ws => L2.atI ws i | none => none) = _
  have : seqOf G (.ref n) = some ws := by
    show (match G.get n with | some (.lst ws) => some ws | _ => none) = _
    rw [h]
  rw [this]
theorem at_nat {α : Type} {xs : List α} {n : Nat} : L2.atI xs (n : Int) = xs[n]? := by
  unfold L2.atI L2.ixN
  by_cases h : n < xs.length
  · rw [if_pos (Int.natCast_nonneg n), if_pos (by simpa using h)]
    simp
  · rw [if_pos (Int.natCast_nonneg n), if_neg (by simpa using h)]
    exact (List.getElem?_eq_none (by omega)).symm
theorem at_0 {α : Type} {xs : List α} : L2.atI xs 0 = xs[0]? := at_nat (n := 0)
theorem at_1 {α : Type} {xs : List α} : L2.atI xs 1 = xs[1]? := at_nat (n := 1)
theorem at_2 {α : Type} {xs : List α} : L2.atI xs 2 = xs[2]? := at_nat (n := 2)
theorem at_3 {α : Type} {xs : List α} : L2.atI xs 3 = xs[3]? := at_nat (n := 3)
theorem at_4 {α : Type} {xs : List α} : L2.atI xs 4 = xs[4]? := at_nat (n := 4)
/-- the heap grows; what S names may change -/
structure Fr (S : Nat → Prop) (G G' : GH) : Prop where
  le : G.sz ≤ G'.sz
  keep : ∀ a o, G.get a = some o → ¬ S a → G'.get a = some o
abbrev Ext (G G' : GH) : Prop := Fr (fun _ => False) G G'
theorem Fr.refl {S : Nat → Prop} {G : GH} : Fr S G G := ⟨Nat.le_refl _, fun _ _ h _ => h⟩
theorem Fr.trans {S : Nat → Prop} {G G1 G2 : GH} (a : Fr S G G1) (b : Fr S G1 G2) : Fr S G G2 := ⟨Nat.le_trans a.le b.le, fun x o h n => b.keep x o (a.keep x o h n) n⟩
theorem Fr.mono {S S' : Nat → Prop} {G G1 : GH} (a : Fr S G G1) (h : ∀ x, S x → S' x) : Fr S' G G1 := ⟨a.le, fun x o e n => a.keep x o e fun z => n (h x z)⟩
/-- below the size alone things stand -/
def Wf (G : GH) : Prop := ∀ a o, G.get a = some o → a < G.sz
theorem Wf.push {G : GH} (h : Wf G) (o : AO) : Wf (G.push o) := fun a u e => by
  rw [GH.get_push] at e
  rw [GH.sz_push]
  by_cases c : a = G.sz
  · omega
  · rw [if_neg c] at e
    exact Nat.lt_succ_of_lt (h a u e)
theorem Wf.set {G : GH} (h : Wf G) {n : Nat} (hn : n < G.sz) (o : AO) : Wf (G.set n o) := fun a u e => by
  rw [GH.get_set] at e
  rw [GH.sz_set]
  by_cases c : a = n
  · omega
  · rw [if_neg c] at e
    exact h a u e
theorem Wf.nil : Wf ⟨0, .e⟩ := fun a o e => by cases (show (none : Option AO) = some o from e)
theorem Fr.push {S : Nat → Prop} {G : GH} (h : Wf G) (o : AO) : Fr S G (G.push o) := ⟨Nat.le_succ _, fun a u e _ => by
  rw [GH.get_push, if_neg (Nat.ne_of_lt (h a u e))]
  exact e⟩
theorem Fr.set {S : Nat → Prop} {G : GH} {n : Nat} (h : S n) (o : AO) : Fr S G (G.set n o) := ⟨Nat.le_refl _, fun a u e ne => by
  rw [GH.get_set, if_neg (fun z : a = n => ne (z ▸ h))]
  exact e⟩
theorem get_push_self (G : GH) (o : AO) : (G.push o).get G.sz = some o := by rw [GH.get_push, if_pos rfl]
theorem get_set_self (G : GH) (n : Nat) (o : AO) : (G.set n o).get n = some o := by rw [GH.get_set, if_pos rfl]
theorem newL_ok {G : GH} {ws : List W} (h : ws.length ≤ sizeLine) : newL G ws = some (.ref G.sz, G.push (.lst ws)) := by
  unfold newL szOk
  rw [decide_eq_true h]
  rfl
end PM

set_option maxHeartbeats 4000000
/-! PmY: more small rules: methods, fields, lists, numbers, loops. -/
namespace PM
open PySem
theorem on_on {G : GH} : on (on G) = on G := on_eq _
theorem on_setw {G : GH} {n : Nat} {o : AO} : (on G).set n o = on (G.set n o) := by rw [on_eq, on_eq]
theorem on_pushw {G : GH} {o : AO} : (on G).push o = on (G.push o) := by rw [on_eq, on_eq]
theorem in_t {x : W} {ws : List W} {G : GH} {k : Bool} (h : (flatW x && ws.all flatW) = true) (e : inFl x ws = k) : inW G x (.tup ws) = some k := by
  have : inW G x (.tup ws) = (if (flatW x && ws.all flatW) = true then some (inFl x ws) else inD G x (.tup ws)) := by cases x <;> rfl
  rw [this, if_pos h, e]
theorem sz_ok {n : Nat} (h : n ≤ 1000) : szOk n = true := decide_eq_true (Nat.le_trans h (by decide))
theorem mk_ins {T : Tb} {G : GH} {a m c f : Nat} {fs : List (Nat × W)} (h : G.get a = some (.ins c fs)) (h1 : fs.lookup m = none) (h2 : T.ms.lookup (c, m) = some f) : mkOf T (on G) (.ref a) m = some (.f f) := by
  have e : btOf (on G) (.ref a) = none := by
    show (match (on G).get a with | some (.lst _) => some Bt.lst | _ => none) = none
    rw [on_get, h]
  unfold mkOf
  rw [e]
  simp only [on_get, h, h1, h2]
theorem mk_lst {T : Tb} {G : GH} {a m : Nat} {ws : List W} {k : Bm} (h : G.get a = some (.lst ws)) (h2 : T.bm.lookup (.lst, m) = some k) : mkOf T (on G) (.ref a) m = some (.b k) := by
  have e : btOf (on G) (.ref a) = some .lst := by
    show (match (on G).get a with | some (.lst _) => some Bt.lst | _ => none) = _
    rw [on_get, h]
  unfold mkOf
  rw [e]
  simp only [h2]
  rfl
theorem mk_str {T : Tb} {G : GH} {s : Str} {m : Nat} {k : Bm} (h2 : T.bm.lookup (.str, m) = some k) : mkOf T (on G) (.str s) m = some (.b k) := by
  unfold mkOf
  have e : btOf (on G) (.str s) = some .str := rfl
  rw [e]
  simp only [h2]
  rfl
theorem att_ok2 {T : Tb} {G : GH} {a c f : Nat} {fs : List (Nat × W)} {w : W} (h : G.get a = some (.ins c fs)) (h1 : T.fl.contains (c, f) = true) (h2 : fs.lookup f = some w) : (match W.ref a with
      | .ref a => match (on G).get a with
        | some (.ins c fs) => if T.fl.contains (c, f) then ofO (fs.lookup f) (on G) else .bad
        | _ => .bad
      | _ => .bad : R W) = .ok w (on G) := by
  simp only [on_get, h, h1, h2, if_true]
  rfl
theorem seq_l {G : GH} {n : Nat} {ws : List W} (h : G.get n = some (.lst ws)) : seqOf (on G) (.ref n) = some ws := by
  show (match (on G).get n with | some (.lst ws) => some ws | _ => none) = _
  rw [on_get, h]
theorem lst_l {G : GH} {n : Nat} {ws : List W} (h : G.get n = some (.lst ws)) : lstOf (on G) (.ref n) = some ws := by
  show (match (on G).get n with | some (.lst ws) => some ws | _ => none) = _
  rw [on_get, h]
theorem its_l {G : GH} {n : Nat} {ws : List W} (h : G.get n = some (.lst ws)) : items (on G) (.ref n) = some ws := by
  show (match (on G).get n with | some (.lst ws) => some ws | _ => none) = _
  rw [on_get, h]
theorem ix_lst {G : GH} {ws : List W} {n : Nat} {i : Int} (h : G.get n = some (.lst ws)) : ixop (on G) (.ref n) (.int i) = L2.atI ws i := by
  rw [ix_l (by rw [on_get]; exact h)]
theorem len_l {T : Tb} {G : GH} {n : Nat} {ws : List W} (h : G.get n = some (.lst ws)) : bfop T .len [.ref n] (on G) = some (.int ws.length, on G) := by
  show ((seqOf (on G) (.ref n)).map fun xs => (W.int xs.length, on G)) = _
  rw [seq_l h]
  rfl
theorem len_t {T : Tb} {G : GH} {ws : List W} : bfop T .len [.tup ws] G = some (.int ws.length, G) := rfl
theorem len_r {T : Tb} {G : GH} {ws : List W} : bfop T .len [.rol ws] G = some (.int ws.length, G) := rfl
theorem len_s {T : Tb} {G : GH} {s : Str} (h : szOk s.length = true) : bfop T .len [.str s] G = some (.int s.length, G) := by
  show (if szOk s.length = true then some (W.int s.length, G) else none) = _
  rw [if_pos h]
theorem int_i {T : Tb} {G : GH} {i : Int} : bfop T .int [.int i] G = some (.int i, G) := rfl
theorem int_b {T : Tb} {G : GH} {k : Bool} : bfop T .int [.bl k] G = some (.int (if k then 1 else 0), G) := rfl
theorem b_add {i j : Int} {G : GH} : binop .add (.int i) (.int j) G = some (.int (i + j), G) := rfl
theorem b_sub {i j : Int} {G : GH} : binop .sub (.int i) (.int j) G = some (.int (i - j), G) := rfl
theorem b_mul {i j : Int} {G : GH} (h : (decide (i.natAbs < 18446744073709551616) || decide (j.natAbs < 18446744073709551616)) = true) : binop .mul (.int i) (.int j) G = some (.int (i * j), G) := by
  show (if _ then _ else _) = _
  rw [if_pos h]
theorem b_mulr {i j : Int} {G : GH} (h : -(2 ^ 64) < j ∧ j < 2 ^ 64) : binop .mul (.int i) (.int j) G = some (.int (i * j), G) := by
  refine b_mul ?_
  rw [decide_eq_true (show j.natAbs < 18446744073709551616 by omega), Bool.or_true]
theorem b_mod {i j : Int} {G : GH} (h : j ≠ 0) : binop .mod (.int i) (.int j) G = some (.int (i.fmod j), G) := by
  show (if j ≠ 0 then _ else _) = _
  rw [if_pos h]
theorem b_div {i j : Int} {G : GH} (h : j ≠ 0) (h2 : j.natAbs < 1073741824) : binop .div (.int i) (.int j) G = some (.int (i.fdiv j), G) := by
  show (if (decide (j ≠ 0) && decide (j.natAbs < 1073741824)) = true then _ else _) = _
  rw [if_pos (by rw [decide_eq_true h, decide_eq_true h2]; rfl)]
theorem b_pow18 {G : GH} : binop .pow (.int 10) (.int 18) G = some (.int 1000000000000000000, G) := rfl
theorem ixN_lt {n i : Nat} (h : i < n) : L2.ixN n (i : Int) = some i := by
  unfold L2.ixN
  rw [if_pos (Int.natCast_nonneg i), if_pos (by omega)]
  simp
theorem app_l {G : GH} {r : Nat} {xs : List W} {w : W} (h : G.get r = some (.lst xs)) (hl : xs.length < sizeLine) : bmop .append (.ref r) [w] (on G) = some (.non, G.set r (.lst (xs ++ [w]))) := by
  show (match (on G).get r with | some (.lst xs) => if decide (xs.length < sizeLine) = true then some (W.non, (on G).set r (.lst (xs ++ [w]))) else none | _ => none) = _
  rw [on_get, h]
  show (if decide (xs.length < sizeLine) = true then _ else _) = _
  rw [if_pos (decide_eq_true hl), on_set]
theorem sl_t {G : GH} {ws : List W} {l h : Option Int} : slop G (.tup ws) l h = some (.tup (cutW ws l h), G) := rfl
theorem sl_l {G : GH} {n : Nat} {ws : List W} {l h : Option Int} (e : G.get n = some (.lst ws)) (hl : (cutW ws l h).length ≤ sizeLine) : slop (on G) (.ref n) l h = some (.ref G.sz, G.push (.lst (cutW ws l h))) := by
  show (match items (on G) (.ref n) with | some ws => newL (on G) (cutW ws l h) | none => none) = _
  rw [its_l e]
  show newL (on G) (cutW ws l h) = _
  rw [newL_ok hl, on_push, on_sz]
theorem newL_on {G : GH} {ws : List W} (h : ws.length ≤ sizeLine) : newL (on G) ws = some (.ref G.sz, G.push (.lst ws)) := by
  rw [newL_ok h, on_push, on_sz]
theorem seq_new {G : GH} {ws : List W} : seqOf (on (G.push (.lst ws))) (.ref G.sz) = some ws := seq_l (get_push_self _ _)
theorem its_new {G : GH} {ws : List W} : items (on (G.push (.lst ws))) (.ref G.sz) = some ws := its_l (get_push_self _ _)
theorem lst_new {G : GH} {ws : List W} : lstOf (on (G.push (.lst ws))) (.ref G.sz) = some ws := lst_l (get_push_self _ _)
theorem ix_new {G : GH} {ws : List W} {i : Int} : ixop (on (G.push (.lst ws))) (.ref G.sz) (.int i) = L2.atI ws i := ix_lst (get_push_self _ _)
theorem len_new {T : Tb} {G : GH} {ws : List W} : bfop T .len [.ref G.sz] (on (G.push (.lst ws))) = some (.int ws.length, on (G.push (.lst ws))) := len_l (get_push_self _ _)
theorem iv_l {G : GH} {n : Nat} {ws : List W} (h : G.get n = some (.lst ws)) : ivOf (on G) (.ref n) = some (.live n) := by
  show (match (on G).get n with | some (.lst _) => some (I1.live n) | _ => none) = _
  rw [on_get, h]
theorem iv_new {G : GH} {ws : List W} : ivOf (on (G.push (.lst ws))) (.ref G.sz) = some (.live G.sz) := iv_l (get_push_self _ _)
theorem newL_one {G : GH} {w : W} : newL (on G) [w] = some (.ref G.sz, G.push (.lst [w])) := newL_on (show 1 ≤ sizeLine by decide)
theorem newL_two {G : GH} {w u : W} : newL (on G) [w, u] = some (.ref G.sz, G.push (.lst [w, u])) := newL_on (show 2 ≤ sizeLine by decide)
theorem newL_nil {G : GH} : newL (on G) [] = some (.ref G.sz, G.push (.lst [])) := newL_on (show 0 ≤ sizeLine by decide)
theorem iv_t {G : GH} {ws : List W} : ivOf G (.tup ws) = some (.sq ws) := rfl
theorem iv_r {G : GH} {ws : List W} : ivOf G (.rol ws) = some (.sq ws) := rfl
theorem sq_at {G : GH} {ws : List W} {i : Nat} : IV.at G (.one (.sq ws)) i = some ws[i]? := rfl
theorem lv_at {G : GH} {n i : Nat} {ws : List W} (h : G.get n = some (.lst ws)) : IV.at (on G) (.one (.live n)) i = some ws[i]? := by
  show (match (on G).get n with | some (.lst ws) => some ws[i]? | _ => none) = _
  rw [on_get, h]
/-- a comprehension's turns -/
theorem xL_seq {T : Tb} {d : Nat} {iv : IV} {tg : Tg} {e : E} {σ : Sg} {vs : List Nat} (l : List W) (I : Nat → List W → GH → Prop) (hl : l.length ≤ 10000) (hat : ∀ j acc G, I j acc G → IV.at (on G) iv j = some l[j]?)
    (h : ∀ j w G acc, l[j]? = some w → acc.length = j → I j acc G → ∃ σ1 u G2, asgT tg w σ = some σ1 ∧ xE T d e σ1 (on G) = .ok u (on G2) ∧ I (j + 1) (acc ++ [u]) G2) :
    ∀ m j acc G, j + m = l.length → acc.length = j → I j acc G → ∃ acc' G2, xL T d iv j tg [] e σ vs acc (on G) = .ok acc' (on G2) ∧ I l.length acc' G2 ∧ acc'.length = l.length := by
  intro m
  induction m with
  | zero =>
    intro j acc G hj ha hi
    have hj : j = l.length := hj
    rw [hj] at hi ha
    have := hat _ _ _ hi
    rw [List.getElem?_eq_none (Nat.le_refl _)] at this
    rw [hj]
    exact ⟨acc, G, xL_end this, hi, ha⟩
  | succ m ih =>
    intro j acc G hj ha hi
    have hlt : j < l.length := by omega
    obtain ⟨σ1, u, G2, h1, h2, h3⟩ := h j _ G acc (List.getElem?_eq_getElem hlt) ha hi
    have ha2 := hat _ _ _ hi
    rw [List.getElem?_eq_getElem hlt] at ha2
    obtain ⟨acc', G3, e3, i3, l3⟩ := ih (j + 1) (acc ++ [u]) G2 (by omega) (by rw [List.length_append, ha]; rfl) h3
    refine ⟨acc', G3, ?_, i3, l3⟩
    rw [xL_go0 ha2 h1, h2, rb_ok, if_pos (decide_eq_true (Nat.lt_of_lt_of_le (by omega : acc.length < 10001) (by decide)))]
    exact e3
/-- .. with a condition -/
theorem xL_seqc {T : Tb} {d : Nat} {iv : IV} {tg : Tg} {c e : E} {σ : Sg} {vs : List Nat} (l : List W) (I : Nat → List W → GH → Prop) (hl : l.length ≤ 10000) (hat : ∀ j acc G, I j acc G → IV.at (on G) iv j = some l[j]?)
    (h : ∀ j w G acc, l[j]? = some w → acc.length ≤ j → I j acc G → ∃ σ1 x k G2, asgT tg w σ = some σ1 ∧ xE T d c σ1 (on G) = .ok x (on G2) ∧ tru (on G2) x = some k ∧ (k = false → I (j + 1) acc G2) ∧ (k = true → ∃ u G3, xE T d e σ1 (on G2) = .ok u (on G3) ∧ I (j + 1) (acc ++ [u]) G3)) :
    ∀ m j acc G, j + m = l.length → acc.length ≤ j → I j acc G → ∃ acc' G2, xL T d iv j tg [c] e σ vs acc (on G) = .ok acc' (on G2) ∧ I l.length acc' G2 ∧ acc'.length ≤ l.length := by
  intro m
  induction m with
  | zero =>
    intro j acc G hj ha hi
    have hj : j = l.length := hj
    rw [hj] at hi ha
    have := hat _ _ _ hi
    rw [List.getElem?_eq_none (Nat.le_refl _)] at this
    rw [hj]
    exact ⟨acc, G, xL_end this, hi, ha⟩
  | succ m ih =>
    intro j acc G hj ha hi
    have hlt : j < l.length := by omega
    obtain ⟨σ1, x, k, G2, h1, h2, h3, h4, h5⟩ := h j _ G acc (List.getElem?_eq_getElem hlt) ha hi
    have ha2 := hat _ _ _ hi
    rw [List.getElem?_eq_getElem hlt] at ha2
    cases k with
    | false =>
      obtain ⟨acc', G3, e3, i3, l3⟩ := ih (j + 1) acc G2 (by omega) (by omega) (h4 rfl)
      refine ⟨acc', G3, ?_, i3, l3⟩
      rw [xL_go1 ha2 h1, h2, rb_ok, h3, oo_some, rb_ok, if_neg (by decide)]
      exact e3
    | true =>
      obtain ⟨u, G3, h6, h7⟩ := h5 rfl
      obtain ⟨acc', G4, e3, i3, l3⟩ := ih (j + 1) (acc ++ [u]) G3 (by omega) (by rw [List.length_append]; simp; omega) h7
      refine ⟨acc', G4, ?_, i3, l3⟩
      rw [xL_go1 ha2 h1, h2, rb_ok, h3, oo_some, rb_ok, if_pos rfl, h6, rb_ok, if_pos (decide_eq_true (Nat.lt_of_lt_of_le (by omega : acc.length < 10001) (by decide)))]
      exact e3
/-- a for's turns, none of which leaves -/
theorem xF_seq {T : Tb} {d : Nat} {iv : IV} {tg : Tg} {b : List S} (l : List W) (I : Nat → Sg → GH → Prop) (hat : ∀ j σ G, I j σ G → IV.at (on G) iv j = some l[j]?)
    (h : ∀ j w σ G, l[j]? = some w → I j σ G → ∃ σ1 σ2 G2, asgT tg w σ = some σ1 ∧ xSs T d b σ1 (on G) = .nx σ2 (on G2) ∧ I (j + 1) σ2 G2) :
    ∀ m j σ G, j + m = l.length → I j σ G → ∃ σ' G2, xF T d iv j tg b σ (on G) = .nx σ' (on G2) ∧ I l.length σ' G2 := by
  intro m
  induction m with
  | zero =>
    intro j σ G hj hi
    have hj : j = l.length := hj
    rw [hj] at hi
    have := hat _ _ _ hi
    rw [List.getElem?_eq_none (Nat.le_refl _)] at this
    rw [hj]
    exact ⟨σ, G, xF_end this, hi⟩
  | succ m ih =>
    intro j σ G hj hi
    have hlt : j < l.length := by omega
    obtain ⟨σ1, σ2, G2, h1, h2, h3⟩ := h j _ σ G (List.getElem?_eq_getElem hlt) hi
    have ha2 := hat _ _ _ hi
    rw [List.getElem?_eq_getElem hlt] at ha2
    obtain ⟨σ', G3, e3, i3⟩ := ih (j + 1) σ2 G2 (by omega) h3
    refine ⟨σ', G3, ?_, i3⟩
    rw [xF_go ha2 h1, h2, fl_nx]
    exact e3
theorem rngW_get {lo : Int} {n j : Nat} : (rngW lo n)[j]? = if j < n then some (.int (lo + (j : Nat))) else none := by
  unfold rngW
  rw [List.getElem?_map]
  by_cases h : j < n
  · rw [List.getElem?_range h, if_pos h]
    rfl
  · rw [List.getElem?_eq_none (by rw [List.length_range]; omega), if_neg h]
    rfl
theorem rngW_len {lo : Int} {n : Nat} : (rngW lo n).length = n := by
  unfold rngW
  rw [List.length_map, List.length_range]
theorem rng_1 {n : Nat} (h : n ≤ 1000000) : rngOf [.int (n : Int)] = some (rngW 0 n) := by
  show (if in62 (n : Int) = true then some (rngW 0 (n : Int).toNat) else none) = _
  have : in62 (n : Int) = true := by
    exact decide_eq_true (by omega)
  rw [if_pos this]
  rfl
theorem rng_2 {a n : Nat} (ha : a ≤ 1000000) (h : n ≤ 1000000) : rngOf [.int (a : Int), .int (n : Int)] = some (rngW a (n - a)) := by
  show (if (in62 (a : Int) && in62 (n : Int)) = true then some (rngW a ((n : Int) - (a : Int)).toNat) else none) = _
  have : ∀ k : Nat, k ≤ 1000000 → in62 (k : Int) = true := fun k hk => by
    exact decide_eq_true (by omega)
  rw [if_pos (by rw [this a ha, this n h]; rfl)]
  congr 1
  congr 1
  omega
theorem frB {G : GH} {b : Nat} (o : AO) : Fr (· = b) G (G.set b o) := Fr.set (S := (· = b)) rfl o
theorem Fr.get {S : Nat → Prop} {G G' : GH} (f : Fr S G G') {a : Nat} {o : AO} (h : G.get a = some o) (n : ¬ S a) : G'.get a = some o := f.keep a o h n
end PM

set_option maxHeartbeats 4000000
/-! PmZ: the laws' own helpers: the bag, drawing. -/
namespace PM
open PySem
def drawH : S := .ife (.and (.cmp .eq (.ix (.var 0) (.cst (.int 2))) (.cst (.int 0))) (.cmp .lt (.ix (.var 0) (.cst (.int 1))) (.blt .len [.ix (.var 0) (.cst (.int 0))]))) [.asg (.v 2) (.ix (.ix (.var 0) (.cst (.int 0))) (.ix (.var 0) (.cst (.int 1)))), .sub (.var 0) (.cst (.int 1)) (.bin .add (.ix (.var 0) (.cst (.int 1))) (.cst (.int 1))), .ife (.cmp .ge (.var 2) (.bin .pow (.cst (.int 10)) (.cst (.int 18)))) [.sub (.var 0) (.cst (.int 2)) (.var 2)] [.sub (.var 0) (.cst (.int 3)) (.bin .mod (.blt .int [.bin .add (.bin .add (.bin .mul (.ix (.var 0) (.cst (.int 3))) (.cst (.int 52361))) (.bin .mul (.bin .mod (.blt .int [.var 2]) (.cst (.int 2147483563))) (.cst (.int 68111)))) (.cst (.int 47))]) (.cst (.int 2147483587)))]] []
def drawT : List S := [.ife (.cmp .gt (.ix (.var 0) (.cst (.int 2))) (.cst (.int 0))) [.asg (.v 3) (.bin .mod (.blt .int [.ix (.var 0) (.cst (.int 2))]) (.var 1)), .sub (.var 0) (.cst (.int 2)) (.bin .div (.ix (.var 0) (.cst (.int 2))) (.var 1)), .ret (.var 3)] [], .sub (.var 0) (.cst (.int 4)) (.bin .add (.ix (.var 0) (.cst (.int 4))) (.cst (.int 1))), .asg (.v 4) (.ix (.var 0) (.cst (.int 3))), .sub (.var 0) (.cst (.int 3)) (.bin .mod (.blt .int [.bin .add (.bin .add (.bin .add (.bin .mul (.var 4) (.var 4)) (.bin .mul (.var 4) (.cst (.int 20011)))) (.bin .mul (.ix (.var 0) (.cst (.int 4))) (.cst (.int 1500007)))) (.cst (.int 54321))]) (.cst (.int 2147483587))), .ret (.bin .mod (.blt .int [.bin .add (.bin .div (.ix (.var 0) (.cst (.int 3))) (.cst (.int 83))) (.bin .mul (.bin .mod (.blt .int [.ix (.var 0) (.cst (.int 3))]) (.cst (.int 8053))) (.cst (.int 59)))]) (.var 1))]
def drawB : List S := drawH :: drawT
/-- the bag: its numbers' list, the place, the big number, the seed, the turns -/
structure Bag (G : GH) (b l : Nat) (ns : List Int) (i : Nat) (c s k : Int) : Prop where
  ne : b ≠ l
  bag : G.get b = some (.lst [.ref l, .int i, .int c, .int s, .int k])
  cells : G.get l = some (.lst (ns.map .int))
  c0 : 0 ≤ c
  s0 : 0 ≤ s
  s1 : s < 2147483587
def IsBag (G : GH) (b : Nat) : Prop := ∃ l ns i c s k, Bag G b l ns i c s k
theorem Bag.fr {G G' : GH} {b l i : Nat} {ns : List Int} {c s k : Int} (h : Bag G b l ns i c s k) (f : Ext G G') : Bag G' b l ns i c s k :=
  ⟨h.ne, f.get h.bag fun z => z, f.get h.cells fun z => z, h.c0, h.s0, h.s1⟩
theorem IsBag.fr {G G' : GH} {b : Nat} (h : IsBag G b) (f : Ext G G') : IsBag G' b := by
  obtain ⟨l, ns, i, c, s, k, h⟩ := h
  exact ⟨l, ns, i, c, s, k, h.fr f⟩
theorem IsBag.lt {G : GH} {b : Nat} (h : IsBag G b) (w : Wf G) : b < G.sz := by
  obtain ⟨l, ns, i, c, s, k, h⟩ := h
  exact w b _ h.bag
theorem Bag.put {G : GH} {b l i i' : Nat} {ns : List Int} {c s k c' s' k' : Int} (h : Bag G b l ns i c s k) (h1 : 0 ≤ c') (h2 : 0 ≤ s') (h3 : s' < 2147483587) : Bag (G.set b (.lst [.ref l, .int i', .int c', .int s', .int k'])) b l ns i' c' s' k' :=
  ⟨h.ne, get_set_self _ _ _, by rw [GH.get_set, if_neg (Ne.symm h.ne)]; exact h.cells, h1, h2, h3⟩
theorem set_set {G : GH} {b : Nat} {o u : AO} {x : Nat} : ((G.set b o).set b u).get x = (G.set b u).get x := by
  rw [GH.get_set, GH.get_set, GH.get_set]
  split <;> rfl
theorem ix5 {n : Nat} (i : Nat) (h : i < n) : L2.ixN n (i : Int) = some i := ixN_lt h
/-- what a draw leaves -/
structure Drawn (G G' : GH) (b : Nat) : Prop where
  bag : IsBag G' b
  fr : Fr (· = b) G G'
  wf : Wf G'
  sz : G'.sz = G.sz
section
variable {T : Tb} {d : Nat} {G : GH} {b l i : Nat} {ns : List Int} {c s k many : Int}
theorem fmod_in {a m : Int} (h : 0 < m) : 0 ≤ a.fmod m ∧ a.fmod m < m := ⟨Int.fmod_nonneg_of_pos a h, Int.fmod_lt_of_pos a h⟩
/-- the last part -/
theorem draw_tail (hb : Bag G b l ns i c s k) (hm : 0 < many) (hm2 : many < 1073741824) (wf : Wf G) (x2 x3 x4 : Option W) : ∃ r G', (xSs T d (drawT) [some (.ref b), some (.int many), x2, x3, x4] (on G)).out = .ok (.int r) (on G') ∧ 0 ≤ r ∧ r < many ∧ Drawn G G' b := by
  have i0 : ∀ {G : GH} {ws : List W} {j : Int}, G.get b = some (.lst ws) → ixop (on G) (.ref b) (.int j) = L2.atI ws j := fun h => ix_lst h
  have hlt : b < G.sz := wf b _ hb.bag
  have mne : many ≠ 0 := by omega
  have b0 := i0 (j := 0) hb.bag
  have b2 := i0 (j := 2) hb.bag
  have b3 := i0 (j := 3) hb.bag
  have b4 := i0 (j := 4) hb.bag
  have hget := hb.bag
  have n2 : L2.ixN 5 2 = some 2 := by decide
  have n3 : L2.ixN 5 3 = some 3 := by decide
  have n4 : L2.ixN 5 4 = some 4 := by decide
  by_cases hc : 0 < c
  · have hdiv : binop .div (.int c) (.int many) (on G) = some (.int (c.fdiv many), on G) := b_div mne (by omega)
    have hmod : binop .mod (.int c) (.int many) (on G) = some (.int (c.fmod many), on G) := b_mod mne
    refine ⟨c.fmod many, G.set b (.lst [.ref l, .int i, .int (c.fdiv many), .int s, .int k]), ?_, (fmod_in hm).1, (fmod_in hm).2, ⟨l, ns, i, _, s, k, hb.put (Int.fdiv_nonneg hb.c0 (by omega)) hb.s0 hb.s1⟩, frB _, wf.set hlt _, rfl⟩
    simp (config := { decide := true }) only [drawT, b2, hc, int_i, hmod, hdiv, hget, n2, oE_cst, oE_var, oE_bin, oE_cmp, oE_and, oE_or, oE_not, oE_neg, oE_ife, oE_tup, oE_lst, oE_ix, oE_sl, oE_call, oE_mk, oE_met, oE_att, oE_blt, oE_lc, oEs_nil, oEs_cons, oA_nil, oA_e, oA_s, oI_e, oI_rng, oI_zip, oW_eq, oSs_nil, oSs_cons, oS_asg, oS_sub, oS_att, oS_par, oS_exp, oS_ife, oS_for, oS_whl, oS_ret, oS_pass, rb_ok, rt_ok, ft_nx, ft_ret, fl_nx, fl_ret, fo_nx, fo_ret, oo_some, og_some, nox_ok, tru_bl, tru_int, bA_nil, asg_v, c_eq, c_ne, c_in, c_nin, c_lt, c_le, c_gt, c_ge, c_is, c_isn, eq_ss, eq_ii, eq_bb, in_ss, ix_t, ix_r, at_0, at_1, at_2, at_3, at_4, on_get, on_sz, List.getElem?_cons_zero, List.getElem?_cons_succ, List.getElem?_nil, List.set_cons_zero, List.set_cons_succ, Option.map_some, Option.map_none, if_true, if_false, Bool.false_eq_true, decide_true, decide_false, Bool.not_true, Bool.not_false, on_on, List.length_cons, List.length_nil, on_setw, on_pushw, List.nil_append, List.cons_append, seq_new, its_new, lst_new, ix_new, len_new, iv_new, newL_one, newL_two, newL_nil, iv_t, iv_r]
  · obtain ⟨s', hse⟩ : ∃ s', (s * s + s * 20011 + (k + 1) * 1500007 + 54321).fmod 2147483587 = s' := ⟨_, rfl⟩
    have hs' : 0 ≤ s' ∧ s' < 2147483587 := by rw [← hse]; exact fmod_in (by decide)
    have ss : binop .mul (.int s) (.int s) (on (G.set b (.lst [.ref l, .int i, .int c, .int s, .int (k + 1)]))) = some (.int (s * s), on (G.set b (.lst [.ref l, .int i, .int c, .int s, .int (k + 1)]))) := b_mulr (by have := hb.s0; have := hb.s1; omega)
    have hmod : ∀ {x : Int} {G : GH}, binop .mod (.int x) (.int many) G = some (.int (x.fmod many), G) := b_mod mne
    have m1 : ∀ {x : Int} {G : GH}, binop .mul (.int x) (.int 20011) G = some (.int (x * 20011), G) := b_mulr (by decide)
    have m2 : ∀ {x : Int} {G : GH}, binop .mul (.int x) (.int 1500007) G = some (.int (x * 1500007), G) := b_mulr (by decide)
    have m3 : ∀ {x : Int} {G : GH}, binop .mul (.int x) (.int 59) G = some (.int (x * 59), G) := b_mulr (by decide)
    have q1 : ∀ {x : Int} {G : GH}, binop .mod (.int x) (.int 2147483587) G = some (.int (x.fmod 2147483587), G) := b_mod (by decide)
    have q2 : ∀ {x : Int} {G : GH}, binop .mod (.int x) (.int 8053) G = some (.int (x.fmod 8053), G) := b_mod (by decide)
    have q3 : ∀ {x : Int} {G : GH}, binop .div (.int x) (.int 83) G = some (.int (x.fdiv 83), G) := b_div (by decide) (by decide)
    have g1 : ∀ {j : Int}, ixop (on (G.set b (.lst [.ref l, .int i, .int c, .int s, .int (k + 1)]))) (.ref b) (.int j) = L2.atI [.ref l, .int i, .int c, .int s, .int (k + 1)] j := ix_lst (get_set_self _ _ _)
    have g2 : (G.set b (.lst [.ref l, .int i, .int c, .int s, .int (k + 1)])).get b = some (.lst [.ref l, .int i, .int c, .int s, .int (k + 1)]) := get_set_self _ _ _
    have g3 : ∀ {j : Int}, ixop (on ((G.set b (.lst [.ref l, .int i, .int c, .int s, .int (k + 1)])).set b (.lst [.ref l, .int i, .int c, .int s', .int (k + 1)]))) (.ref b) (.int j) = L2.atI [.ref l, .int i, .int c, .int s', .int (k + 1)] j := ix_lst (get_set_self _ _ _)
    have hb1 : Bag (G.set b (.lst [.ref l, .int i, .int c, .int s, .int (k + 1)])) b l ns i c s (k + 1) := hb.put hb.c0 hb.s0 hb.s1
    refine ⟨(s'.fdiv 83 + s'.fmod 8053 * 59).fmod many, (G.set b (.lst [.ref l, .int i, .int c, .int s, .int (k + 1)])).set b (.lst [.ref l, .int i, .int c, .int s', .int (k + 1)]), ?_, (fmod_in hm).1, (fmod_in hm).2, ⟨l, ns, i, c, s', k + 1, hb1.put hb.c0 hs'.1 hs'.2⟩, (frB _).trans (frB _), (wf.set hlt _).set hlt _, rfl⟩
    simp (config := { decide := true }) only [drawT, b2, hc, b4, b_add, hget, n4, g1, ss, m1, m2, int_i, q1, hse, g2, n3, g3, q2, q3, m3, hmod, oE_cst, oE_var, oE_bin, oE_cmp, oE_and, oE_or, oE_not, oE_neg, oE_ife, oE_tup, oE_lst, oE_ix, oE_sl, oE_call, oE_mk, oE_met, oE_att, oE_blt, oE_lc, oEs_nil, oEs_cons, oA_nil, oA_e, oA_s, oI_e, oI_rng, oI_zip, oW_eq, oSs_nil, oSs_cons, oS_asg, oS_sub, oS_att, oS_par, oS_exp, oS_ife, oS_for, oS_whl, oS_ret, oS_pass, rb_ok, rt_ok, ft_nx, ft_ret, fl_nx, fl_ret, fo_nx, fo_ret, oo_some, og_some, nox_ok, tru_bl, tru_int, bA_nil, asg_v, c_eq, c_ne, c_in, c_nin, c_lt, c_le, c_gt, c_ge, c_is, c_isn, eq_ss, eq_ii, eq_bb, in_ss, ix_t, ix_r, at_0, at_1, at_2, at_3, at_4, on_get, on_sz, List.getElem?_cons_zero, List.getElem?_cons_succ, List.getElem?_nil, List.set_cons_zero, List.set_cons_succ, Option.map_some, Option.map_none, if_true, if_false, Bool.false_eq_true, decide_true, decide_false, Bool.not_true, Bool.not_false, on_on, List.length_cons, List.length_nil, on_setw, on_pushw, List.nil_append, List.cons_append, seq_new, its_new, lst_new, ix_new, len_new, iv_new, newL_one, newL_two, newL_nil, iv_t, iv_r]
theorem draw_ok {i7 : Nat} (hT : T.fn i7 = some ⟨2, 5, false, drawB⟩) (hb : IsBag G b) (hm : 0 < many) (hm2 : many < 1073741824) (wf : Wf G) : ∃ r G', xC T (d + 1) i7 [.ref b, .int many] (on G) = .ok (.int r) (on G') ∧ 0 ≤ r ∧ r < many ∧ Drawn G G' b := by
  obtain ⟨l, ns, i, c, s, k, hb⟩ := hb
  have hlt : b < G.sz := wf b _ hb.bag
  have e0 : xC T (d + 1) i7 [.ref b, .int many] (on G) = (xSs T d drawB [some (.ref b), some (.int many), none, none, none] (on G)).out := by
    rw [xC_eq hT rfl]
    rfl
  have b0 : ∀ {j : Int}, ixop (on G) (.ref b) (.int j) = L2.atI [.ref l, .int i, .int c, .int s, .int k] j := ix_lst hb.bag
  have l0 : ∀ {j : Int}, ixop (on G) (.ref l) (.int j) = L2.atI (ns.map .int) j := ix_lst hb.cells
  have ll := len_l (T := T) hb.cells
  have hget := hb.bag
  have n1 : L2.ixN 5 1 = some 1 := by decide
  have n2 : L2.ixN 5 2 = some 2 := by decide
  have n3 : L2.ixN 5 3 = some 3 := by decide
  rw [e0, drawB, xSs_cons]
  -- what the first part leaves
  have first : ∃ G1 x2, xS T d drawH [some (.ref b), some (.int many), none, none, none] (on G) = .nx [some (.ref b), some (.int many), x2, none, none] (on G1) ∧ IsBag G1 b ∧ Fr (· = b) G G1 ∧ Wf G1 ∧ G1.sz = G.sz := by
    by_cases hc : c = 0
    · by_cases hi : i < ns.length
      · have hcell : L2.atI (ns.map W.int) (i : Int) = some (.int (ns.getD i 0)) := by
          rw [at_nat, List.getElem?_map, List.getElem?_eq_getElem hi, List.getD_eq_getElem?_getD, List.getElem?_eq_getElem hi]
          rfl
        have hlt2 : ((i : Int) < ((ns.map W.int).length : Int)) = True := by
          rw [List.length_map]
          exact eq_true (by exact_mod_cast hi)
        have hb1 : Bag (G.set b (.lst [.ref l, .int ((i + 1 : Nat) : Int), .int c, .int s, .int k])) b l ns (i + 1) c s k := hb.put hb.c0 hb.s0 hb.s1
        have g1 : ∀ {j : Int}, ixop (on (G.set b (.lst [.ref l, .int ((i : Int) + 1), .int c, .int s, .int k]))) (.ref b) (.int j) = L2.atI [.ref l, .int ((i : Int) + 1), .int c, .int s, .int k] j := ix_lst (get_set_self _ _ _)
        have g2 : (G.set b (.lst [.ref l, .int ((i : Int) + 1), .int c, .int s, .int k])).get b = some (.lst [.ref l, .int ((i : Int) + 1), .int c, .int s, .int k]) := get_set_self _ _ _
        by_cases hbig : 1000000000000000000 ≤ ns.getD i 0
        · refine ⟨(G.set b (.lst [.ref l, .int ((i : Int) + 1), .int c, .int s, .int k])).set b (.lst [.ref l, .int ((i : Int) + 1), .int (ns.getD i 0), .int s, .int k]), some (.int (ns.getD i 0)), ?_, ⟨l, ns, i + 1, ns.getD i 0, s, k, hb1.put (by omega) hb.s0 hb.s1⟩, (frB _).trans (frB _), (wf.set hlt _).set hlt _, rfl⟩
          have hcT : (c = 0) = True := eq_true hc
          have hbT : (1000000000000000000 ≤ ns.getD i 0) = True := eq_true hbig
          simp (config := { decide := true }) only [drawH, b0, hcT, ll, hlt2, l0, hcell, b_add, hget, n1, b_pow18, hbT, g1, g2, n2, oE_cst, oE_var, oE_bin, oE_cmp, oE_and, oE_or, oE_not, oE_neg, oE_ife, oE_tup, oE_lst, oE_ix, oE_sl, oE_call, oE_mk, oE_met, oE_att, oE_blt, oE_lc, oEs_nil, oEs_cons, oA_nil, oA_e, oA_s, oI_e, oI_rng, oI_zip, oW_eq, oSs_nil, oSs_cons, oS_asg, oS_sub, oS_att, oS_par, oS_exp, oS_ife, oS_for, oS_whl, oS_ret, oS_pass, rb_ok, rt_ok, ft_nx, ft_ret, fl_nx, fl_ret, fo_nx, fo_ret, oo_some, og_some, nox_ok, tru_bl, tru_int, bA_nil, asg_v, c_eq, c_ne, c_in, c_nin, c_lt, c_le, c_gt, c_ge, c_is, c_isn, eq_ss, eq_ii, eq_bb, in_ss, ix_t, ix_r, at_0, at_1, at_2, at_3, at_4, on_get, on_sz, List.getElem?_cons_zero, List.getElem?_cons_succ, List.getElem?_nil, List.set_cons_zero, List.set_cons_succ, Option.map_some, Option.map_none, if_true, if_false, Bool.false_eq_true, decide_true, decide_false, Bool.not_true, Bool.not_false, on_on, List.length_cons, List.length_nil, on_setw, on_pushw, List.nil_append, List.cons_append, seq_new, its_new, lst_new, ix_new, len_new, iv_new, newL_one, newL_two, newL_nil, iv_t, iv_r]
        · obtain ⟨s', hse⟩ : ∃ s', (s * 52361 + (ns.getD i 0).fmod 2147483563 * 68111 + 47).fmod 2147483587 = s' := ⟨_, rfl⟩
          have hs' : 0 ≤ s' ∧ s' < 2147483587 := by rw [← hse]; exact fmod_in (by decide)
          refine ⟨(G.set b (.lst [.ref l, .int ((i : Int) + 1), .int c, .int s, .int k])).set b (.lst [.ref l, .int ((i : Int) + 1), .int c, .int s', .int k]), some (.int (ns.getD i 0)), ?_, ⟨l, ns, i + 1, c, s', k, hb1.put hb.c0 hs'.1 hs'.2⟩, (frB _).trans (frB _), (wf.set hlt _).set hlt _, rfl⟩
          have hcT : (c = 0) = True := eq_true hc
          have hbT : (1000000000000000000 ≤ ns.getD i 0) = False := eq_false hbig
          have m1 : ∀ {x : Int} {G : GH}, binop .mul (.int x) (.int 52361) G = some (.int (x * 52361), G) := b_mulr (by decide)
          have m2 : ∀ {x : Int} {G : GH}, binop .mul (.int x) (.int 68111) G = some (.int (x * 68111), G) := b_mulr (by decide)
          have q1 : ∀ {x : Int} {G : GH}, binop .mod (.int x) (.int 2147483563) G = some (.int (x.fmod 2147483563), G) := b_mod (by decide)
          have q2 : ∀ {x : Int} {G : GH}, binop .mod (.int x) (.int 2147483587) G = some (.int (x.fmod 2147483587), G) := b_mod (by decide)
          simp (config := { decide := true }) only [drawH, b0, hcT, ll, hlt2, l0, hcell, b_add, hget, n1, b_pow18, hbT, g1, g2, m1, int_i, q1, m2, q2, hse, n3, oE_cst, oE_var, oE_bin, oE_cmp, oE_and, oE_or, oE_not, oE_neg, oE_ife, oE_tup, oE_lst, oE_ix, oE_sl, oE_call, oE_mk, oE_met, oE_att, oE_blt, oE_lc, oEs_nil, oEs_cons, oA_nil, oA_e, oA_s, oI_e, oI_rng, oI_zip, oW_eq, oSs_nil, oSs_cons, oS_asg, oS_sub, oS_att, oS_par, oS_exp, oS_ife, oS_for, oS_whl, oS_ret, oS_pass, rb_ok, rt_ok, ft_nx, ft_ret, fl_nx, fl_ret, fo_nx, fo_ret, oo_some, og_some, nox_ok, tru_bl, tru_int, bA_nil, asg_v, c_eq, c_ne, c_in, c_nin, c_lt, c_le, c_gt, c_ge, c_is, c_isn, eq_ss, eq_ii, eq_bb, in_ss, ix_t, ix_r, at_0, at_1, at_2, at_3, at_4, on_get, on_sz, List.getElem?_cons_zero, List.getElem?_cons_succ, List.getElem?_nil, List.set_cons_zero, List.set_cons_succ, Option.map_some, Option.map_none, if_true, if_false, Bool.false_eq_true, decide_true, decide_false, Bool.not_true, Bool.not_false, on_on, List.length_cons, List.length_nil, on_setw, on_pushw, List.nil_append, List.cons_append, seq_new, its_new, lst_new, ix_new, len_new, iv_new, newL_one, newL_two, newL_nil, iv_t, iv_r]
      · have hlt2 : ((i : Int) < ((ns.map W.int).length : Int)) = False := by
          rw [List.length_map]
          exact eq_false (by intro h; exact hi (by exact_mod_cast h))
        have hcT : (c = 0) = True := eq_true hc
        refine ⟨G, none, ?_, ⟨l, ns, i, c, s, k, hb⟩, Fr.refl, wf, rfl⟩
        simp (config := { decide := true }) only [drawH, b0, hcT, ll, hlt2, oE_cst, oE_var, oE_bin, oE_cmp, oE_and, oE_or, oE_not, oE_neg, oE_ife, oE_tup, oE_lst, oE_ix, oE_sl, oE_call, oE_mk, oE_met, oE_att, oE_blt, oE_lc, oEs_nil, oEs_cons, oA_nil, oA_e, oA_s, oI_e, oI_rng, oI_zip, oW_eq, oSs_nil, oSs_cons, oS_asg, oS_sub, oS_att, oS_par, oS_exp, oS_ife, oS_for, oS_whl, oS_ret, oS_pass, rb_ok, rt_ok, ft_nx, ft_ret, fl_nx, fl_ret, fo_nx, fo_ret, oo_some, og_some, nox_ok, tru_bl, tru_int, bA_nil, asg_v, c_eq, c_ne, c_in, c_nin, c_lt, c_le, c_gt, c_ge, c_is, c_isn, eq_ss, eq_ii, eq_bb, in_ss, ix_t, ix_r, at_0, at_1, at_2, at_3, at_4, on_get, on_sz, List.getElem?_cons_zero, List.getElem?_cons_succ, List.getElem?_nil, List.set_cons_zero, List.set_cons_succ, Option.map_some, Option.map_none, if_true, if_false, Bool.false_eq_true, decide_true, decide_false, Bool.not_true, Bool.not_false, on_on, List.length_cons, List.length_nil, on_setw, on_pushw, List.nil_append, List.cons_append, seq_new, its_new, lst_new, ix_new, len_new, iv_new, newL_one, newL_two, newL_nil, iv_t, iv_r]
    · have hcT : (c = 0) = False := eq_false hc
      refine ⟨G, none, ?_, ⟨l, ns, i, c, s, k, hb⟩, Fr.refl, wf, rfl⟩
      simp (config := { decide := true }) only [drawH, b0, hcT, oE_cst, oE_var, oE_bin, oE_cmp, oE_and, oE_or, oE_not, oE_neg, oE_ife, oE_tup, oE_lst, oE_ix, oE_sl, oE_call, oE_mk, oE_met, oE_att, oE_blt, oE_lc, oEs_nil, oEs_cons, oA_nil, oA_e, oA_s, oI_e, oI_rng, oI_zip, oW_eq, oSs_nil, oSs_cons, oS_asg, oS_sub, oS_att, oS_par, oS_exp, oS_ife, oS_for, oS_whl, oS_ret, oS_pass, rb_ok, rt_ok, ft_nx, ft_ret, fl_nx, fl_ret, fo_nx, fo_ret, oo_some, og_some, nox_ok, tru_bl, tru_int, bA_nil, asg_v, c_eq, c_ne, c_in, c_nin, c_lt, c_le, c_gt, c_ge, c_is, c_isn, eq_ss, eq_ii, eq_bb, in_ss, ix_t, ix_r, at_0, at_1, at_2, at_3, at_4, on_get, on_sz, List.getElem?_cons_zero, List.getElem?_cons_succ, List.getElem?_nil, List.set_cons_zero, List.set_cons_succ, Option.map_some, Option.map_none, if_true, if_false, Bool.false_eq_true, decide_true, decide_false, Bool.not_true, Bool.not_false, on_on, List.length_cons, List.length_nil, on_setw, on_pushw, List.nil_append, List.cons_append, seq_new, its_new, lst_new, ix_new, len_new, iv_new, newL_one, newL_two, newL_nil, iv_t, iv_r]
  obtain ⟨G1, x2, e1, hb1, f1, w1, z1⟩ := first
  rw [e1]
  obtain ⟨l, ns, i, c, s, k, hb1⟩ := hb1
  obtain ⟨r, G2, e2, r0, r1, dr⟩ := draw_tail (T := T) (d := d) hb1 hm hm2 w1 x2 none none
  exact ⟨r, G2, e2, r0, r1, dr.bag, f1.trans dr.fr, dr.wf, dr.sz.trans z1⟩
/-- more than a draw: lists are new too -/
structure Made (G G' : GH) (b : Nat) : Prop where
  bag : IsBag G' b
  fr : Fr (· = b) G G'
  wf : Wf G'
theorem Drawn.made {G G' : GH} {b : Nat} (h : Drawn G G' b) : Made G G' b := ⟨h.bag, h.fr, h.wf⟩
theorem Made.trans {G G1 G2 : GH} {b : Nat} (h : Made G G1 b) (k : Made G1 G2 b) : Made G G2 b := ⟨k.bag, h.fr.trans k.fr, k.wf⟩
theorem Made.push {G G' : GH} {b : Nat} (h : Made G G' b) (o : AO) : Made G (G'.push o) b := ⟨h.bag.fr (Fr.push h.wf o), h.fr.trans (Fr.push h.wf o), h.wf.push o⟩
theorem Made.refl {G : GH} {b : Nat} (h : IsBag G b) (w : Wf G) : Made G G b := ⟨h, Fr.refl, w⟩
def anyB (i7 : Nat) : List S := [.ret (.ix (.var 1) (.call i7 [.var 0, .blt .len [.var 1]] []))]
theorem any_ok {i7 i8 : Nat} {x : W} {P : W → Prop} (hT : T.fn i7 = some ⟨2, 5, false, drawB⟩) (hA : T.fn i8 = some ⟨2, 2, false, anyB i7⟩) (hb : IsBag G b) (hl : bfop T .len [x] (on G) = some (.int many, on G)) (hm : 0 < many) (hm2 : many < 1073741824) (wf : Wf G)
    (hx : ∀ (r : Int) G', 0 ≤ r → r < many → Fr (· = b) G G' → ∃ w, ixop (on G') x (.int r) = some w ∧ P w) : ∃ w G', xC T (d + 1 + 1) i8 [.ref b, x] (on G) = .ok w (on G') ∧ P w ∧ Drawn G G' b := by
  obtain ⟨r, G', e, r0, r1, dr⟩ := draw_ok (d := d) hT hb hm hm2 wf
  obtain ⟨w, hw, hp⟩ := hx r G' r0 r1 dr.fr
  refine ⟨w, G', ?_, hp, dr⟩
  rw [xC_eq hA rfl]
  show (xSs T (d + 1) (anyB i7) [some (.ref b), some x] (on G)).out = _
  simp (config := { decide := true }) only [anyB, hl, e, hw, oE_cst, oE_var, oE_bin, oE_cmp, oE_and, oE_or, oE_not, oE_neg, oE_ife, oE_tup, oE_lst, oE_ix, oE_sl, oE_call, oE_mk, oE_met, oE_att, oE_blt, oE_lc, oEs_nil, oEs_cons, oA_nil, oA_e, oA_s, oI_e, oI_rng, oI_zip, oW_eq, oSs_nil, oSs_cons, oS_asg, oS_sub, oS_att, oS_par, oS_exp, oS_ife, oS_for, oS_whl, oS_ret, oS_pass, rb_ok, rt_ok, ft_nx, ft_ret, fl_nx, fl_ret, fo_nx, fo_ret, oo_some, og_some, nox_ok, tru_bl, tru_int, bA_nil, asg_v, c_eq, c_ne, c_in, c_nin, c_lt, c_le, c_gt, c_ge, c_is, c_isn, eq_ss, eq_ii, eq_bb, in_ss, ix_t, ix_r, at_0, at_1, at_2, at_3, at_4, on_get, on_sz, List.getElem?_cons_zero, List.getElem?_cons_succ, List.getElem?_nil, List.set_cons_zero, List.set_cons_succ, Option.map_some, Option.map_none, if_true, if_false, Bool.false_eq_true, decide_true, decide_false, Bool.not_true, Bool.not_false, on_on, List.length_cons, List.length_nil, on_setw, on_pushw, List.nil_append, List.cons_append, seq_new, its_new, lst_new, ix_new, len_new, iv_new, newL_one, newL_two, newL_nil, iv_t, iv_r]
theorem at_lt {α : Type} {xs : List α} {r : Int} (h0 : 0 ≤ r) (h1 : r < (xs.length : Int)) : ∃ w, L2.atI xs r = some w ∧ w ∈ xs := by
  obtain ⟨n, rfl⟩ := Int.eq_ofNat_of_zero_le h0
  have hn : n < xs.length := by exact_mod_cast h1
  exact ⟨xs[n], by rw [at_nat, List.getElem?_eq_getElem hn], List.getElem_mem hn⟩
/-- one of a text's signs -/
theorem any_str {i7 i8 : Nat} {z : Str} (hT : T.fn i7 = some ⟨2, 5, false, drawB⟩) (hA : T.fn i8 = some ⟨2, 2, false, anyB i7⟩) (hb : IsBag G b) (hz : 0 < z.length ∧ z.length < 10000) (wf : Wf G) :
    ∃ c G', xC T (d + 1 + 1) i8 [.ref b, .str z] (on G) = .ok (.str ⟨#[c]⟩) (on G') ∧ c ∈ z.cps.toList ∧ Drawn G G' b := by
  have ok : szOk z.length = true := decide_eq_true (Nat.le_trans (Nat.le_of_lt hz.2) (by decide))
  obtain ⟨w, G', e, ⟨c, rfl, hc⟩, dr⟩ := any_ok (d := d) (P := fun w => ∃ c, w = .str ⟨#[c]⟩ ∧ c ∈ z.cps.toList) hT hA hb (len_s ok) (by exact_mod_cast hz.1) (by have := hz.2; omega) wf fun r G' h0 h1 _ => by
    obtain ⟨c, h2, h3⟩ := at_lt (xs := z.cps.toList) h0 (by rw [Array.length_toList]; exact h1)
    refine ⟨_, ?_, c, rfl, h3⟩
    show (if szOk z.length = true then (L2.atI z.cps.toList r).map fun c => W.str ⟨#[c]⟩ else none) = _
    rw [if_pos ok, h2]
    rfl
  exact ⟨c, G', e, hc, dr⟩
/-- one of a list -/
theorem any_lst {i7 i8 n : Nat} {ws : List W} (hT : T.fn i7 = some ⟨2, 5, false, drawB⟩) (hA : T.fn i8 = some ⟨2, 2, false, anyB i7⟩) (hb : IsBag G b) (hg : G.get n = some (.lst ws)) (hn : n ≠ b) (hz : 0 < ws.length ∧ ws.length < 10000) (wf : Wf G) :
    ∃ w G', xC T (d + 1 + 1) i8 [.ref b, .ref n] (on G) = .ok w (on G') ∧ w ∈ ws ∧ Drawn G G' b :=
  any_ok (d := d) hT hA hb (len_l hg) (by exact_mod_cast hz.1) (by have := hz.2; omega) wf fun r G' h0 h1 f => by
    obtain ⟨w, h2, h3⟩ := at_lt (xs := ws) h0 h1
    exact ⟨w, (ix_lst (f.get hg hn)).trans h2, h3⟩
theorem allStr_of : ∀ {ws : List W}, (∀ u ∈ ws, ∃ z : Str, u = .str z ∧ z.length ≤ 100) → ∃ ys : List Str, allStr ws = some ys ∧ ys.length = ws.length ∧ (ys.map Str.length).sum ≤ 100 * ws.length
  | [], _ => ⟨[], rfl, rfl, Nat.le_refl _⟩
  | w :: ws, h => by
    obtain ⟨z, rfl, hz⟩ := h w List.mem_cons_self
    obtain ⟨ys, h1, h2, h3⟩ := allStr_of (ws := ws) fun u hu => h u (List.mem_cons_of_mem _ hu)
    refine ⟨z :: ys, ?_, by rw [List.length_cons, List.length_cons, h2], ?_⟩
    · show (allStr ws).map (z :: ·) = _
      rw [h1]
      rfl
    · rw [List.map_cons, List.sum_cons, List.length_cons]
      omega
theorem join_l {n : Nat} {ws : List W} {ys : List Str} {z : Str} (h : G.get n = some (.lst ws)) (h1 : allStr ws = some ys) (h2 : (ys.map Str.length).sum + ys.length * z.length ≤ 16777216) : bmop .join (.str z) [.ref n] (on G) = some (.str (Txt.join z ys), on G) := by
  show (match seqOf (on G) (.ref n) with
    | some xs => match allStr xs with
      | some ys => if decide ((ys.map Str.length).sum + ys.length * z.length ≤ 16777216) then some (W.str (Txt.join z ys), on G) else none
      | none => none
    | none => none) = _
  rw [seq_l h]
  show (match allStr ws with
      | some ys => if decide ((ys.map Str.length).sum + ys.length * z.length ≤ 16777216) then some (W.str (Txt.join z ys), on G) else none
      | none => none) = _
  rw [h1]
  show (if decide ((ys.map Str.length).sum + ys.length * z.length ≤ 16777216) = true then _ else _) = _
  rw [if_pos (decide_eq_true h2)]
/-! ### alike -/
def likeB (i : Nat) : List S := [.ife (.blt .isinst [.var 1, .tup [.e (.cst (.ty "list")), .e (.cst (.ty "tuple"))]]) [.ife (.cmp .ne (.blt .isinst [.var 0, .cst (.ty "list")]) (.blt .isinst [.var 1, .cst (.ty "list")])) [.ret (.cst (.bl false))] [], .ife (.or (.cmp .ne (.blt .isinst [.var 0, .cst (.ty "tuple")]) (.blt .isinst [.var 1, .cst (.ty "tuple")])) (.cmp .ne (.blt .len [.var 0]) (.blt .len [.var 1]))) [.ret (.cst (.bl false))] [], .ret (.blt .all [.lc [2] (.v 2) (.rng [.blt .len [.var 1]]) [] (.call i [.ix (.var 0) (.var 2), .ix (.var 1) (.var 2)] [])])] [], .ife (.or (.cmp .is (.var 1) (.cst (.non))) (.cmp .is (.var 0) (.cst (.non)))) [.ret (.and (.cmp .is (.var 1) (.cst (.non))) (.cmp .is (.var 0) (.cst (.non))))] [], .ife (.cmp .ne (.blt .isinst [.var 1, .cst (.ty "bool")]) (.blt .isinst [.var 0, .cst (.ty "bool")])) [.ret (.cst (.bl false))] [], .ife (.cmp .ne (.blt .isinst [.var 1, .cst (.ty "int")]) (.blt .isinst [.var 0, .cst (.ty "int")])) [.ret (.cst (.bl false))] [], .ret (.and (.cmp .eq (.blt .isinst [.var 0, .cst (.ty "str")]) (.blt .isinst [.var 1, .cst (.ty "str")])) (.cmp .eq (.var 0) (.var 1)))]
/-- plain values -/
inductive Da where
  | non | bl (b : Bool) | int (i : Int) | str (s : Str) | lst (ds : List Da) | tup (ds : List Da)
mutual
/-- a value stands for such -/
def IsDa (G : GH) : Da → W → Prop
  | .non, w => w = .non
  | .bl b, w => w = .bl b
  | .int i, w => w = .int i
  | .str s, w => w = .str s
  | .lst ds, w => ∃ n ws, w = .ref n ∧ G.get n = some (.lst ws) ∧ IsDas G ds ws
  | .tup ds, w => ∃ ws, w = .tup ws ∧ IsDas G ds ws
def IsDas (G : GH) : List Da → List W → Prop
  | [], ws => ws = []
  | d :: ds, ws => ∃ x xs, ws = x :: xs ∧ IsDa G d x ∧ IsDas G ds xs
end
mutual
theorem IsDa.fr {G G' : GH} (f : Ext G G') : ∀ (d : Da) {w : W}, IsDa G d w → IsDa G' d w
  | .non, _, h => h
  | .bl _, _, h => h
  | .int _, _, h => h
  | .str _, _, h => h
  | .lst ds, _, h => by
    obtain ⟨n, ws, h1, h2, h3⟩ := h
    exact ⟨n, ws, h1, f.get h2 fun z => z, IsDas.fr f ds h3⟩
  | .tup ds, _, h => by
    obtain ⟨ws, h1, h3⟩ := h
    exact ⟨ws, h1, IsDas.fr f ds h3⟩
theorem IsDas.fr {G G' : GH} (f : Ext G G') : ∀ (ds : List Da) {ws : List W}, IsDas G ds ws → IsDas G' ds ws
  | [], _, h => h
  | d :: ds, _, h => by
    obtain ⟨x, xs, h1, h2, h3⟩ := h
    exact ⟨x, xs, h1, IsDa.fr f d h2, IsDas.fr f ds h3⟩
end
end
/-! ### the same value twice is alike -/
def knd : Da → String
  | .non => "NoneType" | .bl _ => "bool" | .int _ => "int" | .str _ => "str" | .lst _ => "list" | .tup _ => "tuple"
def isB (a c : String) : Bool := decide (a = c) || (decide (a = "bool") && decide (c = "int"))
def StdI (T : Tb) : Prop := ∀ a ∈ ["NoneType", "bool", "int", "str", "tuple", "list"], ∀ c ∈ ["bool", "int", "list", "str", "tuple"], T.isi.lookup (.b a, .b c) = some (isB a c)
mutual
def dpt : Da → Nat
  | .lst ds => dpts ds + 1
  | .tup ds => dpts ds + 1
  | _ => 0
def dpts : List Da → Nat
  | [] => 0
  | d :: ds => max (dpt d) (dpts ds)
end
mutual
/-- few enough everywhere -/
def few : Da → Prop
  | .lst ds => ds.length ≤ 10000 ∧ fews ds
  | .tup ds => ds.length ≤ 10000 ∧ fews ds
  | _ => True
def fews : List Da → Prop
  | [] => True
  | d :: ds => few d ∧ fews ds
end
section
variable {T : Tb} {G : GH}
theorem knd_in (d : Da) : knd d ∈ ["NoneType", "bool", "int", "str", "tuple", "list"] := by cases d <;> simp [knd]
theorem ty_da {d : Da} {w : W} (h : IsDa G d w) : tyOf (on G) w = some (.b (knd d)) := by
  cases d with
  | non => rw [show w = .non from h]; rfl
  | bl b => rw [show w = .bl b from h]; rfl
  | int i => rw [show w = .int i from h]; rfl
  | str z => rw [show w = .str z from h]; rfl
  | tup ds =>
    obtain ⟨ws, h1, _⟩ := h
    rw [h1]
    rfl
  | lst ds =>
    obtain ⟨n, ws, h1, h2, _⟩ := h
    rw [h1]
    show (match (on G).get n with | some (.lst _) => some (Ty.b "list") | some (.ins c _) => some (.c c) | _ => none) = _
    rw [on_get, h2]
    rfl
theorem isi_da (hI : StdI T) {d : Da} {w : W} (h : IsDa G d w) {c : String} (hc : c ∈ ["bool", "int", "list", "str", "tuple"]) {k : Bool} (e : isB (knd d) c = k) : bfop T .isinst [w, .ty c] (on G) = some (.bl k, on G) := by
  show ((isinst T (on G) w (.ty c)).map fun b => (W.bl b, on G)) = _
  have : isinst T (on G) w (.ty c) = some k := by
    unfold isinst
    rw [ty_da h]
    show T.isi.lookup (.b (knd d), .b c) = some k
    rw [hI _ (knd_in d) c hc, e]
  rw [this]
  rfl
theorem isi_two (hI : StdI T) {d : Da} {w : W} (h : IsDa G d w) {k : Bool} (e : (isB (knd d) "list" || isB (knd d) "tuple") = k) : bfop T .isinst [w, .tup [.ty "list", .ty "tuple"]] (on G) = some (.bl k, on G) := by
  show ((isinst T (on G) w (.tup [.ty "list", .ty "tuple"])).map fun b => (W.bl b, on G)) = _
  have : isinst T (on G) w (.tup [.ty "list", .ty "tuple"]) = some k := by
    unfold isinst
    rw [ty_da h]
    show (if ([W.ty "list", W.ty "tuple"]).isEmpty = true then none else isiAny T (.b (knd d)) [.ty "list", .ty "tuple"]) = some k
    rw [if_neg (by decide)]
    have h1 : isiOne T (.b (knd d)) (.ty "list") = some (isB (knd d) "list") := hI _ (knd_in d) "list" (by simp)
    have h2 : isiOne T (.b (knd d)) (.ty "tuple") = some (isB (knd d) "tuple") := hI _ (knd_in d) "tuple" (by simp)
    unfold isiAny
    rw [h1]
    unfold isiAny
    rw [h2]
    rw [← e]
    cases isB (knd d) "list" <;> cases isB (knd d) "tuple" <;> rfl
  rw [this]
  rfl
theorem IsDas.len : ∀ {ds : List Da} {ws : List W}, IsDas G ds ws → ws.length = ds.length
  | [], _, h => by rw [show _ = _ from h]; rfl
  | d :: ds, _, h => by
    obtain ⟨x, xs, rfl, _, h3⟩ := h
    rw [List.length_cons, List.length_cons, h3.len]
theorem IsDas.at_ : ∀ {ds : List Da} {ws : List W} {j : Nat} {d : Da}, IsDas G ds ws → ds[j]? = some d → ∃ w, ws[j]? = some w ∧ IsDa G d w
  | d :: ds, _, 0, e, h, q => by
    obtain ⟨x, xs, rfl, h2, _⟩ := h
    simp at q
    exact ⟨x, rfl, q ▸ h2⟩
  | d :: ds, _, j + 1, e, h, q => by
    obtain ⟨x, xs, rfl, _, h3⟩ := h
    obtain ⟨w, h4, h5⟩ := h3.at_ (j := j) (by simpa using q)
    exact ⟨w, by simpa using h4, h5⟩
theorem fews_at : ∀ {ds : List Da} {j : Nat} {d : Da}, fews ds → ds[j]? = some d → few d
  | d :: ds, 0, e, h, q => by
    simp at q
    exact q ▸ h.1
  | d :: ds, j + 1, e, h, q => fews_at (j := j) h.2 (by simpa using q)
theorem dpts_at : ∀ {ds : List Da} {j : Nat} {d : Da}, ds[j]? = some d → dpt d ≤ dpts ds
  | d :: ds, 0, e, q => by
    simp at q
    rw [← q]
    show dpt d ≤ max (dpt d) (dpts ds)
    omega
  | d :: ds, j + 1, e, q => by
    have := dpts_at (ds := ds) (j := j) (by simpa using q)
    show _ ≤ max (dpt d) (dpts ds)
    omega
theorem bools_rep (n : Nat) : bools (List.replicate n (.bl true)) = some (List.replicate n true) := by
  induction n with
  | zero => rfl
  | succ n ih =>
    rw [List.replicate_succ, List.replicate_succ]
    show (bools (List.replicate n (.bl true))).map (true :: ·) = _
    rw [ih]
    rfl
theorem all_rep {n m : Nat} (h : G.get m = some (.lst (List.replicate n (.bl true)))) : bfop T .all [.ref m] (on G) = some (.bl true, on G) := by
  show (match items (on G) (.ref m) with | some xs => (bools xs).map fun (bs : List Bool) => (W.bl (bs.all id), on G) | none => none) = _
  rw [its_l h]
  show (bools (List.replicate n (.bl true))).map _ = _
  rw [bools_rep]
  show some (W.bl ((List.replicate n true).all id), on G) = _
  have : (List.replicate n true).all id = true := by simp
  rw [this]
theorem eq_same {x : Int} {G : GH} : eqW G (.int x) (.int x) = some true := by
  show some (decide (x = x)) = some true
  rw [decide_eq_true rfl]
theorem like_ok {i d : Nat} (hT : T.fn i = some ⟨2, 3, false, likeB i⟩) (hI : StdI T) : ∀ (N : Nat) (a : Da) (w w' : W) (G : GH) (k : Nat), dpt a < N → few a → IsDa G a w → IsDa G a w' → Wf G → dpt a + 1 ≤ k → ∃ G', xC T (d + k) i [w, w'] (on G) = .ok (.bl true) (on G') ∧ Ext G G' ∧ Wf G' := by
  intro N
  induction N with
  | zero => intro a w w' G k h; omega
  | succ N ih =>
    intro a w w' G k hN hf h1 h2 wf hk
    obtain ⟨k, rfl⟩ : ∃ j, k = j + 1 := ⟨k - 1, by omega⟩
    have e0 : xC T (d + (k + 1)) i [w, w'] (on G) = (xSs T (d + k) (likeB i) [some w, some w', none] (on G)).out := by
      rw [← Nat.add_assoc, xC_eq hT rfl]
      rfl
    rw [e0]
    -- a list or a tuple
    have seq : ∀ (ds : List Da), ds.length ≤ 10000 → fews ds → dpts ds < N → dpts ds + 1 ≤ k → ∀ (ws ws' : List W), IsDas G ds ws → IsDas G ds ws' →
        (∀ G1, Ext G G1 → ∀ j, ixop (on G1) w (.int (j : Nat)) = ws[j]? ∧ ixop (on G1) w' (.int (j : Nat)) = ws'[j]?) →
        (∃ acc G2, xL T (d + k) (.one (.sq (rngW 0 ds.length))) 0 (.v 2) [] (.call i [.ix (.var 0) (.var 2), .ix (.var 1) (.var 2)] []) [some w, some w', none] [2] [] (on G) = .ok acc (on G2) ∧ (acc = List.replicate ds.length (.bl true) ∧ Ext G G2 ∧ Wf G2)) := by
      intro ds hl hfs hdN hdk ws ws' q1 q2 hix
      obtain ⟨acc, G2, e, hh, _⟩ := xL_seq (T := T) (d := d + k) (iv := .one (.sq (rngW 0 ds.length))) (tg := .v 2) (e := .call i [.ix (.var 0) (.var 2), .ix (.var 1) (.var 2)] []) (σ := [some w, some w', none]) (vs := [2]) (rngW 0 ds.length)
        (fun j acc G1 => acc = List.replicate j (.bl true) ∧ Ext G G1 ∧ Wf G1) (by rw [rngW_len]; exact hl) (fun j acc G1 _ => sq_at) (fun j x G1 acc hj _ hI1 => by
          obtain ⟨ha, hx, hw⟩ := hI1
          rw [rngW_get] at hj
          split at hj
          · rename_i hlt
            cases hj
            have hd : ds[j]? = some ds[j] := List.getElem?_eq_getElem hlt
            obtain ⟨u, hu, du⟩ := q1.at_ hd
            obtain ⟨u', hu', du'⟩ := q2.at_ hd
            have := dpts_at hd
            obtain ⟨G2, e2, x2, w2⟩ := ih ds[j] u u' G1 k (by omega) (fews_at hfs hd) (IsDa.fr hx _ du) (IsDa.fr hx _ du') hw (by omega)
            obtain ⟨i1, i2⟩ := hix G1 hx j
            rw [hu] at i1
            rw [hu'] at i2
            have z : (0 : Int) + (j : Nat) = (j : Nat) := by omega
            refine ⟨[some w, some w', some (.int ((0 : Int) + (j : Nat)))], .bl true, G2, rfl, ?_, ?_, hx.trans x2, w2⟩
            · rw [z]
              simp (config := { decide := true }) only [i1, i2, e2, oE_cst, oE_var, oE_bin, oE_cmp, oE_and, oE_or, oE_not, oE_neg, oE_ife, oE_tup, oE_lst, oE_ix, oE_sl, oE_call, oE_mk, oE_met, oE_att, oE_blt, oE_lc, oEs_nil, oEs_cons, oA_nil, oA_e, oA_s, oI_e, oI_rng, oI_zip, oW_eq, oSs_nil, oSs_cons, oS_asg, oS_sub, oS_att, oS_par, oS_exp, oS_ife, oS_for, oS_whl, oS_ret, oS_pass, rb_ok, rt_ok, ft_nx, ft_ret, fl_nx, fl_ret, fo_nx, fo_ret, oo_some, og_some, nox_ok, tru_bl, tru_int, bA_nil, asg_v, c_eq, c_ne, c_in, c_nin, c_lt, c_le, c_gt, c_ge, c_is, c_isn, eq_ss, eq_ii, eq_bb, in_ss, ix_t, ix_r, at_0, at_1, at_2, at_3, at_4, on_get, on_sz, List.getElem?_cons_zero, List.getElem?_cons_succ, List.getElem?_nil, List.set_cons_zero, List.set_cons_succ, Option.map_some, Option.map_none, if_true, if_false, Bool.false_eq_true, decide_true, decide_false, Bool.not_true, Bool.not_false, on_on, List.length_cons, List.length_nil, on_setw, on_pushw, List.nil_append, List.cons_append, seq_new, its_new, lst_new, ix_new, len_new, iv_new, newL_one, newL_two, newL_nil, iv_t, iv_r]
            · rw [ha, List.replicate_succ']
          · cases hj) ds.length 0 [] G (by rw [rngW_len]; omega) rfl ⟨rfl, Fr.refl, wf⟩
      rw [rngW_len] at hh
      exact ⟨acc, G2, e, hh⟩
    have sc : ∀ {x y : Bool}, (some (decide (x = y))).map (fun z : Bool => !z) = some (!decide (x = y)) := rfl
    cases a with
    | non =>
      cases show w = .non from h1
      cases show w' = .non from h2
      have t2 : bfop T .isinst [.non, .tup [.ty "list", .ty "tuple"]] (on G) = some (.bl false, on G) := isi_two hI h2 (by simp [isB, knd])
      exact ⟨G, by simp (config := { decide := true }) only [likeB, t2, isNon, oE_cst, oE_var, oE_bin, oE_cmp, oE_and, oE_or, oE_not, oE_neg, oE_ife, oE_tup, oE_lst, oE_ix, oE_sl, oE_call, oE_mk, oE_met, oE_att, oE_blt, oE_lc, oEs_nil, oEs_cons, oA_nil, oA_e, oA_s, oI_e, oI_rng, oI_zip, oW_eq, oSs_nil, oSs_cons, oS_asg, oS_sub, oS_att, oS_par, oS_exp, oS_ife, oS_for, oS_whl, oS_ret, oS_pass, rb_ok, rt_ok, ft_nx, ft_ret, fl_nx, fl_ret, fo_nx, fo_ret, oo_some, og_some, nox_ok, tru_bl, tru_int, bA_nil, asg_v, c_eq, c_ne, c_in, c_nin, c_lt, c_le, c_gt, c_ge, c_is, c_isn, eq_ss, eq_ii, eq_bb, in_ss, ix_t, ix_r, at_0, at_1, at_2, at_3, at_4, on_get, on_sz, List.getElem?_cons_zero, List.getElem?_cons_succ, List.getElem?_nil, List.set_cons_zero, List.set_cons_succ, Option.map_some, Option.map_none, if_true, if_false, Bool.false_eq_true, decide_true, decide_false, Bool.not_true, Bool.not_false, on_on, List.length_cons, List.length_nil, on_setw, on_pushw, List.nil_append, List.cons_append, seq_new, its_new, lst_new, ix_new, len_new, iv_new, newL_one, newL_two, newL_nil, iv_t, iv_r], Fr.refl, wf⟩
    | bl z =>
      cases show w = .bl z from h1
      cases show w' = .bl z from h2
      have t2 : bfop T .isinst [.bl z, .tup [.ty "list", .ty "tuple"]] (on G) = some (.bl false, on G) := isi_two hI h2 (by simp [isB, knd])
      have t3 : bfop T .isinst [.bl z, .ty "bool"] (on G) = some (.bl true, on G) := isi_da hI h2 (by simp) (by simp [isB, knd])
      have t4 : bfop T .isinst [.bl z, .ty "int"] (on G) = some (.bl true, on G) := isi_da hI h2 (by simp) (by simp [isB, knd])
      have t5 : bfop T .isinst [.bl z, .ty "str"] (on G) = some (.bl false, on G) := isi_da hI h2 (by simp) (by simp [isB, knd])
      exact ⟨G, by simp (config := { decide := true }) only [likeB, t2, t3, t4, t5, isNon, oE_cst, oE_var, oE_bin, oE_cmp, oE_and, oE_or, oE_not, oE_neg, oE_ife, oE_tup, oE_lst, oE_ix, oE_sl, oE_call, oE_mk, oE_met, oE_att, oE_blt, oE_lc, oEs_nil, oEs_cons, oA_nil, oA_e, oA_s, oI_e, oI_rng, oI_zip, oW_eq, oSs_nil, oSs_cons, oS_asg, oS_sub, oS_att, oS_par, oS_exp, oS_ife, oS_for, oS_whl, oS_ret, oS_pass, rb_ok, rt_ok, ft_nx, ft_ret, fl_nx, fl_ret, fo_nx, fo_ret, oo_some, og_some, nox_ok, tru_bl, tru_int, bA_nil, asg_v, c_eq, c_ne, c_in, c_nin, c_lt, c_le, c_gt, c_ge, c_is, c_isn, eq_ss, eq_ii, eq_bb, in_ss, ix_t, ix_r, at_0, at_1, at_2, at_3, at_4, on_get, on_sz, List.getElem?_cons_zero, List.getElem?_cons_succ, List.getElem?_nil, List.set_cons_zero, List.set_cons_succ, Option.map_some, Option.map_none, if_true, if_false, Bool.false_eq_true, decide_true, decide_false, Bool.not_true, Bool.not_false, on_on, List.length_cons, List.length_nil, on_setw, on_pushw, List.nil_append, List.cons_append, seq_new, its_new, lst_new, ix_new, len_new, iv_new, newL_one, newL_two, newL_nil, iv_t, iv_r], Fr.refl, wf⟩
    | int z =>
      cases show w = .int z from h1
      cases show w' = .int z from h2
      have t2 : bfop T .isinst [.int z, .tup [.ty "list", .ty "tuple"]] (on G) = some (.bl false, on G) := isi_two hI h2 (by simp [isB, knd])
      have t3 : bfop T .isinst [.int z, .ty "bool"] (on G) = some (.bl false, on G) := isi_da hI h2 (by simp) (by simp [isB, knd])
      have t4 : bfop T .isinst [.int z, .ty "int"] (on G) = some (.bl true, on G) := isi_da hI h2 (by simp) (by simp [isB, knd])
      have t5 : bfop T .isinst [.int z, .ty "str"] (on G) = some (.bl false, on G) := isi_da hI h2 (by simp) (by simp [isB, knd])
      exact ⟨G, by simp (config := { decide := true }) only [likeB, t2, t3, t4, t5, isNon, oE_cst, oE_var, oE_bin, oE_cmp, oE_and, oE_or, oE_not, oE_neg, oE_ife, oE_tup, oE_lst, oE_ix, oE_sl, oE_call, oE_mk, oE_met, oE_att, oE_blt, oE_lc, oEs_nil, oEs_cons, oA_nil, oA_e, oA_s, oI_e, oI_rng, oI_zip, oW_eq, oSs_nil, oSs_cons, oS_asg, oS_sub, oS_att, oS_par, oS_exp, oS_ife, oS_for, oS_whl, oS_ret, oS_pass, rb_ok, rt_ok, ft_nx, ft_ret, fl_nx, fl_ret, fo_nx, fo_ret, oo_some, og_some, nox_ok, tru_bl, tru_int, bA_nil, asg_v, c_eq, c_ne, c_in, c_nin, c_lt, c_le, c_gt, c_ge, c_is, c_isn, eq_ss, eq_ii, eq_bb, in_ss, ix_t, ix_r, at_0, at_1, at_2, at_3, at_4, on_get, on_sz, List.getElem?_cons_zero, List.getElem?_cons_succ, List.getElem?_nil, List.set_cons_zero, List.set_cons_succ, Option.map_some, Option.map_none, if_true, if_false, Bool.false_eq_true, decide_true, decide_false, Bool.not_true, Bool.not_false, on_on, List.length_cons, List.length_nil, on_setw, on_pushw, List.nil_append, List.cons_append, seq_new, its_new, lst_new, ix_new, len_new, iv_new, newL_one, newL_two, newL_nil, iv_t, iv_r], Fr.refl, wf⟩
    | str z =>
      cases show w = .str z from h1
      cases show w' = .str z from h2
      have t2 : bfop T .isinst [.str z, .tup [.ty "list", .ty "tuple"]] (on G) = some (.bl false, on G) := isi_two hI h2 (by simp [isB, knd])
      have t3 : bfop T .isinst [.str z, .ty "bool"] (on G) = some (.bl false, on G) := isi_da hI h2 (by simp) (by simp [isB, knd])
      have t4 : bfop T .isinst [.str z, .ty "int"] (on G) = some (.bl false, on G) := isi_da hI h2 (by simp) (by simp [isB, knd])
      have t5 : bfop T .isinst [.str z, .ty "str"] (on G) = some (.bl true, on G) := isi_da hI h2 (by simp) (by simp [isB, knd])
      exact ⟨G, by simp (config := { decide := true }) only [likeB, t2, t3, t4, t5, isNon, oE_cst, oE_var, oE_bin, oE_cmp, oE_and, oE_or, oE_not, oE_neg, oE_ife, oE_tup, oE_lst, oE_ix, oE_sl, oE_call, oE_mk, oE_met, oE_att, oE_blt, oE_lc, oEs_nil, oEs_cons, oA_nil, oA_e, oA_s, oI_e, oI_rng, oI_zip, oW_eq, oSs_nil, oSs_cons, oS_asg, oS_sub, oS_att, oS_par, oS_exp, oS_ife, oS_for, oS_whl, oS_ret, oS_pass, rb_ok, rt_ok, ft_nx, ft_ret, fl_nx, fl_ret, fo_nx, fo_ret, oo_some, og_some, nox_ok, tru_bl, tru_int, bA_nil, asg_v, c_eq, c_ne, c_in, c_nin, c_lt, c_le, c_gt, c_ge, c_is, c_isn, eq_ss, eq_ii, eq_bb, in_ss, ix_t, ix_r, at_0, at_1, at_2, at_3, at_4, on_get, on_sz, List.getElem?_cons_zero, List.getElem?_cons_succ, List.getElem?_nil, List.set_cons_zero, List.set_cons_succ, Option.map_some, Option.map_none, if_true, if_false, Bool.false_eq_true, decide_true, decide_false, Bool.not_true, Bool.not_false, on_on, List.length_cons, List.length_nil, on_setw, on_pushw, List.nil_append, List.cons_append, seq_new, its_new, lst_new, ix_new, len_new, iv_new, newL_one, newL_two, newL_nil, iv_t, iv_r], Fr.refl, wf⟩
    | lst ds =>
      have t2 : bfop T .isinst [w', .tup [.ty "list", .ty "tuple"]] (on G) = some (.bl true, on G) := isi_two hI h2 (by simp [isB, knd])
      have t3 : bfop T .isinst [w', .ty "list"] (on G) = some (.bl true, on G) := isi_da hI h2 (by simp) (by simp [isB, knd])
      have t4 : bfop T .isinst [w, .ty "list"] (on G) = some (.bl true, on G) := isi_da hI h1 (by simp) (by simp [isB, knd])
      have t5 : bfop T .isinst [w', .ty "tuple"] (on G) = some (.bl false, on G) := isi_da hI h2 (by simp) (by simp [isB, knd])
      have t6 : bfop T .isinst [w, .ty "tuple"] (on G) = some (.bl false, on G) := isi_da hI h1 (by simp) (by simp [isB, knd])
      obtain ⟨n1, ws, rfl, g1, q1⟩ := h1
      obtain ⟨n2, ws', rfl, g2, q2⟩ := h2
      have hl1 := len_l (T := T) g1
      have hl2 := len_l (T := T) g2
      rw [q1.len] at hl1
      rw [q2.len] at hl2
      obtain ⟨acc, G2, e, ha, x2, w2⟩ := seq ds hf.1 hf.2 (by unfold dpt at hN; omega) (by unfold dpt at hk; omega) ws ws' q1 q2 fun G1 x1 j => ⟨(ix_lst (x1.get g1 fun z => z)).trans at_nat, (ix_lst (x1.get g2 fun z => z)).trans at_nat⟩
      have hr := rng_1 (n := ds.length) (by have := hf.1; omega)
      have hnl : newL (on G2) acc = some (.ref G2.sz, G2.push (.lst acc)) := newL_on (by rw [ha, List.length_replicate]; exact Nat.le_trans hf.1 (by decide))
      have hall : bfop T .all [.ref G2.sz] (on (G2.push (.lst acc))) = some (.bl true, on (G2.push (.lst acc))) := all_rep (n := ds.length) (by rw [get_push_self, ha])
      refine ⟨G2.push (.lst acc), ?_, x2.trans (Fr.push w2 _), w2.push _⟩
      have hsame : eqW (on G) (.int (ds.length : Nat)) (.int (ds.length : Nat)) = some true := eq_same
      simp (config := { decide := true }) only [likeB, t2, t3, t4, t5, t6, hl1, hl2, hsame, hr, wipeW, e, hnl, hall, oE_cst, oE_var, oE_bin, oE_cmp, oE_and, oE_or, oE_not, oE_neg, oE_ife, oE_tup, oE_lst, oE_ix, oE_sl, oE_call, oE_mk, oE_met, oE_att, oE_blt, oE_lc, oEs_nil, oEs_cons, oA_nil, oA_e, oA_s, oI_e, oI_rng, oI_zip, oW_eq, oSs_nil, oSs_cons, oS_asg, oS_sub, oS_att, oS_par, oS_exp, oS_ife, oS_for, oS_whl, oS_ret, oS_pass, rb_ok, rt_ok, ft_nx, ft_ret, fl_nx, fl_ret, fo_nx, fo_ret, oo_some, og_some, nox_ok, tru_bl, tru_int, bA_nil, asg_v, c_eq, c_ne, c_in, c_nin, c_lt, c_le, c_gt, c_ge, c_is, c_isn, eq_ss, eq_bb, in_ss, ix_t, ix_r, at_0, at_1, at_2, at_3, at_4, on_get, on_sz, List.getElem?_cons_zero, List.getElem?_cons_succ, List.getElem?_nil, List.set_cons_zero, List.set_cons_succ, Option.map_some, Option.map_none, if_true, if_false, Bool.false_eq_true, decide_true, decide_false, Bool.not_true, Bool.not_false, on_on, List.length_cons, List.length_nil, on_setw, on_pushw, List.nil_append, List.cons_append, seq_new, its_new, lst_new, ix_new, len_new, iv_new, newL_one, newL_two, newL_nil, iv_t, iv_r]
    | tup ds =>
      have t2 : bfop T .isinst [w', .tup [.ty "list", .ty "tuple"]] (on G) = some (.bl true, on G) := isi_two hI h2 (by simp [isB, knd])
      have t3 : bfop T .isinst [w', .ty "list"] (on G) = some (.bl false, on G) := isi_da hI h2 (by simp) (by simp [isB, knd])
      have t4 : bfop T .isinst [w, .ty "list"] (on G) = some (.bl false, on G) := isi_da hI h1 (by simp) (by simp [isB, knd])
      have t5 : bfop T .isinst [w', .ty "tuple"] (on G) = some (.bl true, on G) := isi_da hI h2 (by simp) (by simp [isB, knd])
      have t6 : bfop T .isinst [w, .ty "tuple"] (on G) = some (.bl true, on G) := isi_da hI h1 (by simp) (by simp [isB, knd])
      obtain ⟨ws, rfl, q1⟩ := h1
      obtain ⟨ws', rfl, q2⟩ := h2
      have hl1 := len_t (T := T) (G := on G) (ws := ws)
      have hl2 := len_t (T := T) (G := on G) (ws := ws')
      rw [q1.len] at hl1
      rw [q2.len] at hl2
      obtain ⟨acc, G2, e, ha, x2, w2⟩ := seq ds hf.1 hf.2 (by unfold dpt at hN; omega) (by unfold dpt at hk; omega) ws ws' q1 q2 fun G1 x1 j => ⟨ix_t.trans at_nat, ix_t.trans at_nat⟩
      have hr := rng_1 (n := ds.length) (by have := hf.1; omega)
      have hnl : newL (on G2) acc = some (.ref G2.sz, G2.push (.lst acc)) := newL_on (by rw [ha, List.length_replicate]; exact Nat.le_trans hf.1 (by decide))
      have hall : bfop T .all [.ref G2.sz] (on (G2.push (.lst acc))) = some (.bl true, on (G2.push (.lst acc))) := all_rep (n := ds.length) (by rw [get_push_self, ha])
      refine ⟨G2.push (.lst acc), ?_, x2.trans (Fr.push w2 _), w2.push _⟩
      have hsame : eqW (on G) (.int (ds.length : Nat)) (.int (ds.length : Nat)) = some true := eq_same
      simp (config := { decide := true }) only [likeB, t2, t3, t4, t5, t6, hl1, hl2, hsame, hr, wipeW, e, hnl, hall, oE_cst, oE_var, oE_bin, oE_cmp, oE_and, oE_or, oE_not, oE_neg, oE_ife, oE_tup, oE_lst, oE_ix, oE_sl, oE_call, oE_mk, oE_met, oE_att, oE_blt, oE_lc, oEs_nil, oEs_cons, oA_nil, oA_e, oA_s, oI_e, oI_rng, oI_zip, oW_eq, oSs_nil, oSs_cons, oS_asg, oS_sub, oS_att, oS_par, oS_exp, oS_ife, oS_for, oS_whl, oS_ret, oS_pass, rb_ok, rt_ok, ft_nx, ft_ret, fl_nx, fl_ret, fo_nx, fo_ret, oo_some, og_some, nox_ok, tru_bl, tru_int, bA_nil, asg_v, c_eq, c_ne, c_in, c_nin, c_lt, c_le, c_gt, c_ge, c_is, c_isn, eq_ss, eq_bb, in_ss, ix_t, ix_r, at_0, at_1, at_2, at_3, at_4, on_get, on_sz, List.getElem?_cons_zero, List.getElem?_cons_succ, List.getElem?_nil, List.set_cons_zero, List.set_cons_succ, Option.map_some, Option.map_none, if_true, if_false, Bool.false_eq_true, decide_true, decide_false, Bool.not_true, Bool.not_false, on_on, List.length_cons, List.length_nil, on_setw, on_pushw, List.nil_append, List.cons_append, seq_new, its_new, lst_new, ix_new, len_new, iv_new, newL_one, newL_two, newL_nil, iv_t, iv_r]
end
end PM

set_option maxHeartbeats 4000000
/-! PmV: comprehensions by a function; new rules on heaps that have come. -/
namespace PM
open PySem
/-- the heap grew, and is sound -/
structure Gr (G G' : GH) : Prop where
  x : Ext G G'
  w : Wf G'
theorem Gr.refl {G : GH} (w : Wf G) : Gr G G := ⟨Fr.refl, w⟩
theorem Gr.trans {G G1 G2 : GH} (a : Gr G G1) (b : Gr G1 G2) : Gr G G2 := ⟨a.x.trans b.x, b.w⟩
theorem Gr.push {G G' : GH} (a : Gr G G') (o : AO) : Gr G (G'.push o) := ⟨a.x.trans (Fr.push a.w o), a.w.push o⟩
theorem Gr.new {G : GH} (w : Wf G) (o : AO) : Gr G (G.push o) := (Gr.refl w).push o
theorem Gr.get {G G' : GH} (a : Gr G G') {n : Nat} {o : AO} (h : G.get n = some o) : G'.get n = some o := a.x.get h fun z => z
theorem Gr.le {G G' : GH} (a : Gr G G') : G.sz ≤ G'.sz := a.x.le
/-- what came later may change -/
theorem Gr.set {G G' : GH} (a : Gr G G') (wf : Wf G) {m : Nat} {o u : AO} (h : G.sz ≤ m) (e : G'.get m = some u) : Gr G (G'.set m o) :=
  ⟨⟨a.x.le, fun b v q z => by
    have : b < G.sz := wf b v q
    rw [GH.get_set, if_neg (by omega)]
    exact a.x.keep b v q z⟩, a.w.set (a.w m u e) o⟩
theorem Gr.made {G G' : GH} {b : Nat} (a : Gr G G') (h : IsBag G b) : Made G G' b := ⟨h.fr a.x, a.x.mono fun _ z => z.elim, a.w⟩
theorem Made.gr {G0 G G' : GH} {b : Nat} (m : Made G0 G b) (a : Gr G G') : Made G0 G' b := m.trans (a.made m.bag)
theorem newL_k {G : GH} {ws : List W} (h : ws.length ≤ 10000) : newL (on G) ws = some (.ref G.sz, G.push (.lst ws)) := newL_on (Nat.le_trans h (by decide))
theorem szOk_k {n : Nat} (h : n ≤ 10000) : szOk n = true := decide_eq_true (Nat.le_trans h (by decide))
section
variable {T : Tb} {d : Nat}
theorem oE_lc2 {σ : Sg} {G : GH} {vs : List Nat} {tg : Tg} {it : It} {ifs : List E} {vs1 : List Nat} {tg1 : Tg} {it1 : It} {ifs1 : List E} {e : E} : type_of% (xE_lc2 (T := T) (d := d) (σ := σ) (vs := vs) (tg := tg) (it := it) (ifs := ifs) (vs1 := vs1) (tg1 := tg1) (it1 := it1) (ifs1 := ifs1) (e := e) (G := on G)) := xE_lc2
theorem oE_chn {σ : Sg} {G : GH} {o o2 : CO} {a b c : E} : type_of% (xE_chn (T := T) (d := d) (σ := σ) (o := o) (o2 := o2) (a := a) (b := b) (c := c) (G := on G)) := xE_chn
theorem oE_maxd {σ : Sg} {G : GH} {a b : E} : type_of% (xE_maxd (T := T) (d := d) (σ := σ) (a := a) (b := b) (G := on G)) := xE_maxd
theorem oS_brk {σ : Sg} {G : GH} : type_of% (xS_brk (T := T) (d := d) (σ := σ) (G := on G)) := xS_brk
theorem oS_cnt {σ : Sg} {G : GH} : type_of% (xS_cnt (T := T) (d := d) (σ := σ) (G := on G)) := xS_cnt
theorem oS_unp {σ : Sg} {G : GH} {i j : Nat} {e : E} : type_of% (xS_unp (T := T) (d := d) (σ := σ) (i := i) (j := j) (e := e) (G := on G)) := xS_unp
theorem ft_cnt {σ : Sg} {G : GH} {f : Sg → GH → F} : (F.cnt σ (on G)).then f = .cnt σ (on G) := rfl
theorem ft_brk {σ : Sg} {G : GH} {f : Sg → GH → F} : (F.brk σ (on G)).then f = .brk σ (on G) := rfl
theorem fl_cnt {σ : Sg} {G : GH} {f : Sg → GH → F} : (F.cnt σ (on G)).loop f = f σ (on G) := rfl
/-- a comprehension, made so far acc -/
theorem xL_map {α : Type} {iv : IV} {tg : Tg} {e : E} {σ : Sg} {vs : List Nat} (v r : α → W) (G0 : GH) :
    ∀ (ps : List α) (j : Nat) (all : List α) (acc : List W) (G : GH), all.drop j = ps → acc.length + ps.length ≤ 10000 → Gr G0 G → (∀ G j, Gr G0 G → IV.at (on G) iv j = some (all.map v)[j]?) →
    (∀ p ∈ ps, ∀ G, Gr G0 G → ∃ σ1 G2, asgT tg (v p) σ = some σ1 ∧ xE T d e σ1 (on G) = .ok (r p) (on G2) ∧ Gr G G2) →
    ∃ G2, xL T d iv j tg [] e σ vs acc (on G) = .ok (acc ++ ps.map r) (on G2) ∧ Gr G G2 := by
  intro ps
  induction ps with
  | nil =>
    intro j all acc G hd hl g hat h
    have := hat G j g
    rw [List.getElem?_map, List.getElem?_eq_none (by have := congrArg List.length hd; rw [List.length_drop, List.length_nil] at this; omega)] at this
    exact ⟨G, by rw [List.map_nil, List.append_nil]; exact xL_end this, Gr.refl g.w⟩
  | cons p ps ih =>
    intro j all acc G hd hl g hat h
    have hp : all[j]? = some p := by
      have := congrArg (fun l => l[0]?) hd
      simpa using this
    obtain ⟨σ1, G2, h1, h2, h3⟩ := h p List.mem_cons_self G g
    have ha := hat G j g
    rw [List.getElem?_map, hp] at ha
    have hd2 : all.drop (j + 1) = ps := by
      have := congrArg List.tail hd
      simpa using this
    rw [List.length_cons] at hl
    obtain ⟨G3, e3, g3⟩ := ih (j + 1) all (acc ++ [r p]) G2 hd2 (by rw [List.length_append, List.length_singleton]; omega) (g.trans h3) hat fun q hq => h q (List.mem_cons_of_mem _ hq)
    refine ⟨G3, ?_, h3.trans g3⟩
    rw [xL_go0 ha h1, h2, rb_ok, if_pos (decide_eq_true (Nat.lt_of_lt_of_le (by omega : acc.length < 10001) (by decide))), e3, List.map_cons, List.append_assoc]
    rfl
/-- .. with a condition -/
theorem xL_filt {α : Type} {iv : IV} {tg : Tg} {c e : E} {σ : Sg} {vs : List Nat} (v r : α → W) (f : α → Bool) (G0 : GH) :
    ∀ (ps : List α) (j : Nat) (all : List α) (acc : List W) (G : GH), all.drop j = ps → acc.length + ps.length ≤ 10000 → Gr G0 G → (∀ G j, Gr G0 G → IV.at (on G) iv j = some (all.map v)[j]?) →
    (∀ p ∈ ps, ∀ G, Gr G0 G → ∃ σ1 x G2, asgT tg (v p) σ = some σ1 ∧ xE T d c σ1 (on G) = .ok x (on G2) ∧ tru (on G2) x = some (f p) ∧ Gr G G2 ∧ (f p = true → ∃ G3, xE T d e σ1 (on G2) = .ok (r p) (on G3) ∧ Gr G2 G3)) →
    ∃ G2, xL T d iv j tg [c] e σ vs acc (on G) = .ok (acc ++ (ps.filter f).map r) (on G2) ∧ Gr G G2 := by
  intro ps
  induction ps with
  | nil =>
    intro j all acc G hd hl g hat h
    have := hat G j g
    rw [List.getElem?_map, List.getElem?_eq_none (by have := congrArg List.length hd; rw [List.length_drop, List.length_nil] at this; omega)] at this
    exact ⟨G, by rw [List.filter_nil, List.map_nil, List.append_nil]; exact xL_end this, Gr.refl g.w⟩
  | cons p ps ih =>
    intro j all acc G hd hl g hat h
    have hp : all[j]? = some p := by
      have := congrArg (fun l => l[0]?) hd
      simpa using this
    obtain ⟨σ1, x, G2, h1, h2, h3, h4, h5⟩ := h p List.mem_cons_self G g
    have ha := hat G j g
    rw [List.getElem?_map, hp] at ha
    have hd2 : all.drop (j + 1) = ps := by
      have := congrArg List.tail hd
      simpa using this
    rw [List.length_cons] at hl
    cases q : f p with
    | false =>
      obtain ⟨G3, e3, g3⟩ := ih (j + 1) all acc G2 hd2 (by omega) (g.trans h4) hat fun q hq => h q (List.mem_cons_of_mem _ hq)
      refine ⟨G3, ?_, h4.trans g3⟩
      rw [xL_go1 ha h1, h2, rb_ok, h3, q, oo_some, rb_ok, if_neg (by decide), e3, List.filter_cons_of_neg (by rw [q]; decide)]
    | true =>
      obtain ⟨G3, h6, h7⟩ := h5 q
      obtain ⟨G4, e4, g4⟩ := ih (j + 1) all (acc ++ [r p]) G3 hd2 (by rw [List.length_append, List.length_singleton]; omega) ((g.trans h4).trans h7) hat fun q hq => h q (List.mem_cons_of_mem _ hq)
      refine ⟨G4, ?_, (h4.trans h7).trans g4⟩
      rw [xL_go1 ha h1, h2, rb_ok, h3, q, oo_some, rb_ok, if_pos rfl, h6, rb_ok, if_pos (decide_eq_true (Nat.lt_of_lt_of_le (by omega : acc.length < 10001) (by decide))), e4, List.filter_cons_of_pos (by rw [q]), List.map_cons, List.append_assoc]
      rfl
/-- two clauses -/
theorem xK_map {α : Type} {iv : IV} {tg : Tg} {tg1 : Tg} {it1 : It} {ifs1 : List E} {e : E} {σ : Sg} {vs : List Nat} (v : α → W) (rs : α → List W) (G0 : GH) :
    ∀ (ps : List α) (j : Nat) (all : List α) (acc : List W) (G : GH), all.drop j = ps → acc.length + (ps.map fun p => (rs p).length).sum ≤ 10000 → Gr G0 G → (∀ G j, Gr G0 G → IV.at (on G) iv j = some (all.map v)[j]?) →
    (∀ p ∈ ps, ∀ G (acc : List W), Gr G0 G → acc.length + (rs p).length ≤ 10000 → ∃ σ1 iv1 G1 G2, asgT tg (v p) σ = some σ1 ∧ xI T d it1 σ1 (on G) = .ok iv1 (on G1) ∧ xL T d iv1 0 tg1 ifs1 e (wipeW σ1 vs) vs acc (on G1) = .ok (acc ++ rs p) (on G2) ∧ Gr G G2) →
    ∃ G2, xK T d iv j tg [] tg1 it1 ifs1 e σ vs acc (on G) = .ok (acc ++ ps.flatMap rs) (on G2) ∧ Gr G G2 := by
  intro ps
  induction ps with
  | nil =>
    intro j all acc G hd hl g hat h
    have := hat G j g
    rw [List.getElem?_map, List.getElem?_eq_none (by have := congrArg List.length hd; rw [List.length_drop, List.length_nil] at this; omega)] at this
    exact ⟨G, by rw [List.flatMap_nil, List.append_nil]; exact xK_end this, Gr.refl g.w⟩
  | cons p ps ih =>
    intro j all acc G hd hl g hat h
    have hp : all[j]? = some p := by
      have := congrArg (fun l => l[0]?) hd
      simpa using this
    rw [List.map_cons, List.sum_cons] at hl
    obtain ⟨σ1, iv1, G1, G2, h1, h2, h3, h4⟩ := h p List.mem_cons_self G acc g (by omega)
    have ha := hat G j g
    rw [List.getElem?_map, hp] at ha
    have hd2 : all.drop (j + 1) = ps := by
      have := congrArg List.tail hd
      simpa using this
    obtain ⟨G3, e3, g3⟩ := ih (j + 1) all (acc ++ rs p) G2 hd2 (by rw [List.length_append]; omega) (g.trans h4) hat fun q hq => h q (List.mem_cons_of_mem _ hq)
    refine ⟨G3, ?_, h4.trans g3⟩
    rw [xK_go ha h1, h2, rb_ok, h3, rb_ok, e3, List.flatMap_cons, List.append_assoc]
/-- an iterator over a list that stands, over a tuple -/
theorem hat_l {G0 : GH} {n : Nat} {ws : List W} (h : G0.get n = some (.lst ws)) : ∀ G j, Gr G0 G → IV.at (on G) (.one (.live n)) j = some ws[j]? := fun G j g => lv_at (g.get h)
theorem hat_t {G0 : GH} {ws : List W} : ∀ G j, Gr G0 G → IV.at (on G) (.one (.sq ws)) j = some ws[j]? := fun _ _ _ => rfl
theorem iv_gr {G0 : GH} {n : Nat} {ws : List W} (h : G0.get n = some (.lst ws)) {G : GH} (g : Gr G0 G) : ivOf (on G) (.ref n) = some (.live n) := iv_l (g.get h)
theorem app_k {G : GH} {r : Nat} {xs : List W} {w : W} (h : G.get r = some (.lst xs)) (hl : xs.length ≤ 10000) : bmop .append (.ref r) [w] (on G) = some (.non, G.set r (.lst (xs ++ [w]))) := app_l h (Nat.lt_of_lt_of_le (Nat.lt_succ_of_le hl) (by decide))
theorem clear_l {G : GH} {r : Nat} {xs : List W} (h : G.get r = some (.lst xs)) : bmop .clear (.ref r) [] (on G) = some (.non, G.set r (.lst [])) := by
  show (match (on G).get r with | some (.lst _) => some (W.non, (on G).set r (.lst [])) | _ => none) = _
  rw [on_get, h, on_set]
theorem extend_l {G : GH} {r k : Nat} {xs ys : List W} (h : G.get r = some (.lst xs)) (h2 : G.get k = some (.lst ys)) (hl : xs.length + ys.length ≤ 10000) : bmop .extend (.ref r) [.ref k] (on G) = some (.non, G.set r (.lst (xs ++ ys))) := by
  show (match (on G).get r, lstOf (on G) (.ref k) with | some (.lst xs), some ys => if szOk (xs.length + ys.length) then some (W.non, (on G).set r (.lst (xs ++ ys))) else none | _, _ => none) = _
  rw [on_get, h, lst_l h2]
  show (if szOk (xs.length + ys.length) = true then _ else _) = _
  rw [if_pos (szOk_k hl), on_set]
theorem list_k {G : GH} {n : Nat} {ws : List W} (h : G.get n = some (.lst ws)) (hl : ws.length ≤ 10000) : bfop T .list [.ref n] (on G) = some (.ref G.sz, G.push (.lst ws)) := by
  show (match seqOf (on G) (.ref n) with | some xs => newL (on G) xs | none => none) = _
  rw [seq_l h]
  exact newL_k hl
theorem tuple_k {G : GH} {n : Nat} {ws : List W} (h : G.get n = some (.lst ws)) : bfop T .tuple [.ref n] (on G) = some (.tup ws, on G) := by
  show (items (on G) (.ref n)).map _ = _
  rw [its_l h]
  rfl
theorem add_k {G : GH} {n m : Nat} {xs ys : List W} (h : G.get n = some (.lst xs)) (k : G.get m = some (.lst ys)) (hl : xs.length + ys.length ≤ 10000) : binop .add (.ref n) (.ref m) (on G) = some (.ref G.sz, G.push (.lst (xs ++ ys))) := by
  show (match lstOf (on G) (.ref n), lstOf (on G) (.ref m) with | some xs, some ys => newL (on G) (xs ++ ys) | _, _ => none) = _
  rw [lst_l h, lst_l k]
  exact newL_k (by rw [List.length_append]; exact hl)
theorem intsW_map : ∀ ns : List Int, intsW (ns.map .int) = some ns
  | [] => rfl
  | n :: r => by
    show (intsW (r.map .int)).map (n :: ·) = _
    rw [intsW_map r]
    rfl
theorem bools_mapW (bs : List Bool) : bools (bs.map .bl) = some bs := by
  induction bs with
  | nil => rfl
  | cons b r ih =>
    show (bools (r.map .bl)).map (b :: ·) = _
    rw [ih]
    rfl
theorem all_k {G : GH} {m : Nat} {bs : List Bool} (h : G.get m = some (.lst (bs.map .bl))) : bfop T .all [.ref m] (on G) = some (.bl (bs.all id), on G) := by
  show (match items (on G) (.ref m) with | some xs => (bools xs).map fun (bs : List Bool) => (W.bl (bs.all id), on G) | none => none) = _
  rw [its_l h]
  show (bools (bs.map .bl)).map _ = _
  rw [bools_mapW]
  rfl
theorem max_k {G : GH} {m : Nat} {ns : List Int} {i : Int} (h : G.get m = some (.lst (ns.map .int))) (e : maxI ns = some i) : bfop T .max [.ref m] (on G) = some (.int i, on G) := by
  show (match items (on G) (.ref m) with | some xs => (match intsW xs with | some ns => (maxI ns).map fun i => (W.int i, on G) | none => none) | none => none) = _
  rw [its_l h]
  show (match intsW (ns.map .int) with | some ns => (maxI ns).map fun i => (W.int i, on G) | none => none) = _
  rw [intsW_map]
  show (maxI ns).map _ = _
  rw [e]
  rfl
theorem allStr_mapW : ∀ l : List Str, allStr (l.map .str) = some l
  | [] => rfl
  | a :: l => by
    show (allStr (l.map .str)).map (a :: ·) = _
    rw [allStr_mapW l]
    rfl
theorem join_k {G : GH} {n : Nat} {l : List Str} {z : Str} (h : G.get n = some (.lst (l.map .str))) (h2 : (l.map Str.length).sum + l.length * z.length ≤ 16777216) : bmop .join (.str z) [.ref n] (on G) = some (.str (Txt.join z l), on G) := join_l h (allStr_mapW l) h2
/-- a range -/
theorem hat_r {G0 : GH} {lo : Int} {n : Nat} : ∀ G j, Gr G0 G → IV.at (on G) (.one (.sq (rngW lo n))) j = some (((List.range n).map fun i : Nat => W.int (lo + (i : Nat))))[j]? := fun _ _ _ => rfl
end
class HBm (T : Tb) (t : Bt) (n : Nat) (m : outParam Bm) : Prop where
  h : T.bm.lookup (t, n) = some m
class HMs (T : Tb) (c m : Nat) (f : outParam Nat) : Prop where
  h : T.ms.lookup (c, m) = some f
class HIni (T : Tb) (c : Nat) (f : outParam Nat) : Prop where
  h : T.ini.lookup c = some f
class HFl (T : Tb) (c f : Nat) : Prop where
  h : T.fl.contains (c, f) = true
class HIsi (T : Tb) : Prop where
  h : StdI T
end PM

set_option maxHeartbeats 4000000
/-! FoT: bodies. -/
namespace PM
open PySem
/-- parts_of(formula); 0:formula -/
def g0 : List S := [.ret (.ife (.cmp .isin (.ix (.var 0) (.cst (.int 0))) (.cst (.tup [.str "letter", .str "mine", .str "yours"]))) (.tup []) (.sl (.var 0) (.cst (.int 1)) (.cst .non)))]
class Hf0 (T : Tb) : Prop where
  h : T.fn 0 = some ⟨1, 1, false, g0⟩
theorem cc0 {T : Tb} [Hf0 T] {d : Nat} {G : GH} (a0 : W) : xC T (d + 1) 0 [a0] (on G) = (xSs T d g0 [some a0] (on G)).out := by rw [xC_eq (us := [a0]) Hf0.h rfl]; rfl
/-- depth(formula); 0:formula 1:part -/
def g1 : List S := [.ret (.bin .add (.cst (.int 1)) (.maxd (.lc [1] (.v 1) (.e (.call 0 [.var 0] [])) [] (.call 1 [.var 1] [])) (.cst (.int 0))))]
class Hf1 (T : Tb) : Prop where
  h : T.fn 1 = some ⟨1, 2, false, g1⟩
theorem cc1 {T : Tb} [Hf1 T] {d : Nat} {G : GH} (a0 : W) : xC T (d + 1) 1 [a0] (on G) = (xSs T d g1 [some a0, none] (on G)).out := by rw [xC_eq (us := [a0]) Hf1.h rfl]; rfl
/-- shown_parts(formula); 0:formula 1:found 2:part -/
def g2 : List S := [.asg (.v 1) (.ife (.cmp .eq (.ix (.var 0) (.cst (.int 0))) (.cst (.str "shown"))) (.lst [.e (.var 0)]) (.lst [])), .for (.v 2) (.e (.call 0 [.var 0] [])) [.exp (.met (.var 1) 0 [.call 2 [.var 2] []])], .ret (.var 1)]
class Hf2 (T : Tb) : Prop where
  h : T.fn 2 = some ⟨1, 3, false, g2⟩
theorem cc2 {T : Tb} [Hf2 T] {d : Nat} {G : GH} (a0 : W) : xC T (d + 1) 2 [a0] (on G) = (xSs T d g2 [some a0, none, none] (on G)).out := by rw [xC_eq (us := [a0]) Hf2.h rfl]; rfl
/-- atoms_in(formula); 0:formula 1:part 2:atom -/
def g3 : List S := [.ife (.cmp .isin (.ix (.var 0) (.cst (.int 0))) (.cst (.tup [.str "letter", .str "mine", .str "yours"]))) [.ret (.lst [.e (.var 0)])] [], .ret (.lc2 [1, 2] (.v 1) (.e (.call 0 [.var 0] [])) [] [2] (.v 2) (.e (.call 3 [.var 1] [])) [] (.var 2))]
class Hf3 (T : Tb) : Prop where
  h : T.fn 3 = some ⟨1, 3, false, g3⟩
theorem cc3 {T : Tb} [Hf3 T] {d : Nat} {G : GH} (a0 : W) : xC T (d + 1) 3 [a0] (on G) = (xSs T d g3 [some a0, none, none] (on G)).out := by rw [xC_eq (us := [a0]) Hf3.h rfl]; rfl
/-- letters(formula); 0:formula 1:there 2:atom 3:letter -/
def g4 : List S := [.asg (.v 1) (.lc [2] (.v 2) (.e (.call 3 [.var 0] [])) [.cmp .eq (.ix (.var 2) (.cst (.int 0))) (.cst (.str "letter"))] (.ix (.var 2) (.cst (.int 1)))), .ret (.met (.cst (.str "")) 1 [.lc [3] (.v 3) (.e (.cst (.str "PQR"))) [.cmp .isin (.var 3) (.var 1)] (.var 3)])]
class Hf4 (T : Tb) : Prop where
  h : T.fn 4 = some ⟨1, 4, false, g4⟩
theorem cc4 {T : Tb} [Hf4 T] {d : Nat} {G : GH} (a0 : W) : xC T (d + 1) 4 [a0] (on G) = (xSs T d g4 [some a0, none, none, none] (on G)).out := by rw [xC_eq (us := [a0]) Hf4.h rfl]; rfl
/-- names_in(formula); 0:formula 1:atom -/
def g5 : List S := [.ret (.lc [1] (.v 1) (.e (.call 3 [.var 0] [])) [.cmp .eq (.blt .len [.var 1]) (.cst (.int 3))] (.ix (.var 1) (.cst (.int 2))))]
class Hf5 (T : Tb) : Prop where
  h : T.fn 5 = some ⟨1, 2, false, g5⟩
theorem cc5 {T : Tb} [Hf5 T] {d : Nat} {G : GH} (a0 : W) : xC T (d + 1) 5 [a0] (on G) = (xSs T d g5 [some a0, none] (on G)).out := by rw [xC_eq (us := [a0]) Hf5.h rfl]; rfl
/-- is_guarded(formula); 0:formula 1:part -/
def g6 : List S := [.ife (.cmp .isin (.ix (.var 0) (.cst (.int 0))) (.cst (.tup [.str "letter", .str "mine", .str "yours"]))) [.ret (.cst (.bl false))] [], .ret (.or (.cmp .eq (.ix (.var 0) (.cst (.int 0))) (.cst (.str "shown"))) (.blt .all [.lc [1] (.v 1) (.e (.call 0 [.var 0] [])) [] (.call 6 [.var 1] [])]))]
class Hf6 (T : Tb) : Prop where
  h : T.fn 6 = some ⟨1, 2, false, g6⟩
theorem cc6 {T : Tb} [Hf6 T] {d : Nat} {G : GH} (a0 : W) : xC T (d + 1) 6 [a0] (on G) = (xSs T d g6 [some a0, none] (on G)).out := by rw [xC_eq (us := [a0]) Hf6.h rfl]; rfl
/-- both(formulas); 0:formulas 1:found 2:rest 3:formula -/
def g7 : List S := [.ife (.cmp .eq (.var 0) (.tup [])) [.ret (.tup [.e (.cst (.str "true"))])] [], .unp 1 2 (.var 0), .for (.v 3) (.e (.var 2)) [.asg (.v 1) (.tup [.e (.cst (.str "and")), .e (.var 1), .e (.var 3)])], .ret (.var 1)]
class Hf7 (T : Tb) : Prop where
  h : T.fn 7 = some ⟨1, 4, true, g7⟩
/-- same(one, other); 0:one 1:other -/
def g8 : List S := [.ret (.tup [.e (.cst (.str "or")), .e (.tup [.e (.cst (.str "and")), .e (.var 0), .e (.var 1)]), .e (.tup [.e (.cst (.str "and")), .e (.tup [.e (.cst (.str "not")), .e (.var 0)]), .e (.tup [.e (.cst (.str "not")), .e (.var 1)])])])]
class Hf8 (T : Tb) : Prop where
  h : T.fn 8 = some ⟨2, 2, false, g8⟩
theorem cc8 {T : Tb} [Hf8 T] {d : Nat} {G : GH} (a0 a1 : W) : xC T (d + 1) 8 [a0, a1] (on G) = (xSs T d g8 [some a0, some a1] (on G)).out := by rw [xC_eq (us := [a0, a1]) Hf8.h rfl]; rfl
/-- _law_bag(_law_script); 0:_law_script -/
def g9 : List S := [.ret (.lst [.e (.blt .list [.sl (.var 0) (.cst .non) (.cst (.int 63))]), .e (.cst (.int 0)), .e (.cst (.int 0)), .e (.cst (.int 5600)), .e (.cst (.int 0))])]
class Hf9 (T : Tb) : Prop where
  h : T.fn 9 = some ⟨1, 1, false, g9⟩
theorem cc9 {T : Tb} [Hf9 T] {d : Nat} {G : GH} (a0 : W) : xC T (d + 1) 9 [a0] (on G) = (xSs T d g9 [some a0] (on G)).out := by rw [xC_eq (us := [a0]) Hf9.h rfl]; rfl
/-- _law_draw(_law_bag_here, _law_many); 0:_law_bag_here 1:_law_many 2:_law_cell 3:_law_found 4:_law_seed -/
def g10 : List S := [.ife (.and (.cmp .eq (.ix (.var 0) (.cst (.int 2))) (.cst (.int 0))) (.cmp .lt (.ix (.var 0) (.cst (.int 1))) (.blt .len [.ix (.var 0) (.cst (.int 0))]))) [.asg (.v 2) (.ix (.ix (.var 0) (.cst (.int 0))) (.ix (.var 0) (.cst (.int 1)))), .sub (.var 0) (.cst (.int 1)) (.bin .add (.ix (.var 0) (.cst (.int 1))) (.cst (.int 1))), .ife (.cmp .ge (.var 2) (.bin .pow (.cst (.int 10)) (.cst (.int 18)))) [.sub (.var 0) (.cst (.int 2)) (.var 2)] [.sub (.var 0) (.cst (.int 3)) (.bin .mod (.blt .int [.bin .add (.bin .add (.bin .mul (.ix (.var 0) (.cst (.int 3))) (.cst (.int 52361))) (.bin .mul (.bin .mod (.blt .int [.var 2]) (.cst (.int 2147483563))) (.cst (.int 68111)))) (.cst (.int 47))]) (.cst (.int 2147483587)))]] [], .ife (.cmp .gt (.ix (.var 0) (.cst (.int 2))) (.cst (.int 0))) [.asg (.v 3) (.bin .mod (.blt .int [.ix (.var 0) (.cst (.int 2))]) (.var 1)), .sub (.var 0) (.cst (.int 2)) (.bin .div (.ix (.var 0) (.cst (.int 2))) (.var 1)), .ret (.var 3)] [], .sub (.var 0) (.cst (.int 4)) (.bin .add (.ix (.var 0) (.cst (.int 4))) (.cst (.int 1))), .asg (.v 4) (.ix (.var 0) (.cst (.int 3))), .sub (.var 0) (.cst (.int 3)) (.bin .mod (.blt .int [.bin .add (.bin .add (.bin .add (.bin .mul (.var 4) (.var 4)) (.bin .mul (.var 4) (.cst (.int 20011)))) (.bin .mul (.ix (.var 0) (.cst (.int 4))) (.cst (.int 1500007)))) (.cst (.int 54321))]) (.cst (.int 2147483587))), .ret (.bin .mod (.blt .int [.bin .add (.bin .div (.ix (.var 0) (.cst (.int 3))) (.cst (.int 83))) (.bin .mul (.bin .mod (.blt .int [.ix (.var 0) (.cst (.int 3))]) (.cst (.int 8053))) (.cst (.int 59)))]) (.var 1))]
class Hf10 (T : Tb) : Prop where
  h : T.fn 10 = some ⟨2, 5, false, g10⟩
theorem cc10 {T : Tb} [Hf10 T] {d : Nat} {G : GH} (a0 a1 : W) : xC T (d + 1) 10 [a0, a1] (on G) = (xSs T d g10 [some a0, some a1, none, none, none] (on G)).out := by rw [xC_eq (us := [a0, a1]) Hf10.h rfl]; rfl
/-- _law_any(_law_bag_here, _law_things); 0:_law_bag_here 1:_law_things -/
def g11 : List S := [.ret (.ix (.var 1) (.call 10 [.var 0, .blt .len [.var 1]] []))]
class Hf11 (T : Tb) : Prop where
  h : T.fn 11 = some ⟨2, 2, false, g11⟩
theorem cc11 {T : Tb} [Hf11 T] {d : Nat} {G : GH} (a0 a1 : W) : xC T (d + 1) 11 [a0, a1] (on G) = (xSs T d g11 [some a0, some a1] (on G)).out := by rw [xC_eq (us := [a0, a1]) Hf11.h rfl]; rfl
/-- _law_named(_law_bag_here, _law_many); 0:_law_bag_here 1:_law_many 2:_law_stem 3:_law_at 4:_law_first 5:_law_found 6:_law_k -/
def g12 : List S := [.asg (.v 2) (.met (.cst (.str "")) 1 [.lc [6] (.v 6) (.rng [.call 10 [.var 0, .cst (.int 6)] []]) [] (.call 11 [.var 0, .cst (.str "abcxz")] [])]), .par [3, 4] [.call 10 [.var 0, .bin .add (.blt .len [.var 2]) (.cst (.int 1))] [], .call 10 [.var 0, .cst (.int 26)] []], .asg (.v 5) (.lst []), .for (.v 6) (.rng [.var 1]) [.exp (.met (.var 5) 2 [.bin .add (.bin .add (.sl (.var 2) (.cst .non) (.var 3)) (.ix (.cst (.str "abcdefghijklmnopqrstuvwxyz")) (.bin .mod (.blt .int [.bin .add (.var 4) (.bin .mul (.cst (.int 7)) (.var 6))]) (.cst (.int 26))))) (.sl (.var 2) (.var 3) (.cst .non))])], .ret (.var 5)]
class Hf12 (T : Tb) : Prop where
  h : T.fn 12 = some ⟨2, 7, false, g12⟩
theorem cc12 {T : Tb} [Hf12 T] {d : Nat} {G : GH} (a0 a1 : W) : xC T (d + 1) 12 [a0, a1] (on G) = (xSs T d g12 [some a0, some a1, none, none, none, none, none] (on G)).out := by rw [xC_eq (us := [a0, a1]) Hf12.h rfl]; rfl
/-- _law_atom(_law_bag_here, _law_moves, _law_names); 0:_law_bag_here 1:_law_moves 2:_law_names 3:_law_way 4:_law_move -/
def g13 : List S := [.ife (.cmp .eq (.var 1) (.cst (.str ""))) [.ret (.tup [.e (.cst (.str "letter")), .e (.call 11 [.var 0, .cst (.str "PQR")] [])])] [], .par [3, 4] [.call 10 [.var 0, .cst (.int 4)] [], .call 11 [.var 0, .var 1] []], .ife (.cmp .eq (.var 3) (.cst (.int 0))) [.ret (.tup [.e (.cst (.str "mine")), .e (.var 4)])] [], .ret (.ife (.or (.cmp .lt (.var 3) (.cst (.int 3))) (.cmp .eq (.var 2) (.lst []))) (.tup [.e (.cst (.str "yours")), .e (.var 4)]) (.tup [.e (.cst (.str "yours")), .e (.var 4), .e (.call 11 [.var 0, .var 2] [])]))]
class Hf13 (T : Tb) : Prop where
  h : T.fn 13 = some ⟨3, 5, false, g13⟩
theorem cc13 {T : Tb} [Hf13 T] {d : Nat} {G : GH} (a0 a1 a2 : W) : xC T (d + 1) 13 [a0, a1, a2] (on G) = (xSs T d g13 [some a0, some a1, some a2, none, none] (on G)).out := by rw [xC_eq (us := [a0, a1, a2]) Hf13.h rfl]; rfl
/-- _law_formula(_law_bag_here, _law_moves, _law_names, _law_deep, _law_shown); 0:_law_bag_here 1:_law_moves 2:_law_names 3:_law_deep 4:_law_shown 5:_law_way 6:_law_parts_here 7:_law_k -/
def g14 : List S := [.asg (.v 5) (.call 10 [.var 0, .cst (.int 9)] []), .ife (.or (.cmp .eq (.var 3) (.cst (.int 0))) (.cmp .lt (.var 5) (.cst (.int 2)))) [.ret (.ife (.cmp .lt (.var 5) (.cst (.int 8))) (.call 13 [.var 0, .var 1, .var 2] []) (.tup [.e (.call 11 [.var 0, .lst [.e (.cst (.str "true")), .e (.cst (.str "false"))]] [])]))] [], .ife (.and (.cmp .lt (.var 5) (.cst (.int 5))) (.cmp .gt (.var 4) (.cst (.int 0)))) [.ret (.tup [.e (.cst (.str "shown")), .e (.call 14 [.var 0, .var 1, .var 2, .bin .sub (.var 3) (.cst (.int 1)), .bin .sub (.var 4) (.cst (.int 1))] [])])] [], .ife (.cmp .eq (.var 5) (.cst (.int 5))) [.ret (.tup [.e (.cst (.str "not")), .e (.call 14 [.var 0, .var 1, .var 2, .bin .sub (.var 3) (.cst (.int 1)), .var 4] [])])] [], .asg (.v 6) (.lc [7] (.v 7) (.rng [.cst (.int 2)]) [] (.call 14 [.var 0, .var 1, .var 2, .bin .sub (.var 3) (.cst (.int 1)), .var 4] [])), .ret (.tup [.e (.call 11 [.var 0, .lst [.e (.cst (.str "and")), .e (.cst (.str "or"))]] []), .e (.ix (.var 6) (.cst (.int 0))), .e (.ix (.var 6) (.cst (.int 1)))])]
class Hf14 (T : Tb) : Prop where
  h : T.fn 14 = some ⟨5, 8, false, g14⟩
theorem cc14 {T : Tb} [Hf14 T] {d : Nat} {G : GH} (a0 a1 a2 a3 a4 : W) : xC T (d + 1) 14 [a0, a1, a2, a3, a4] (on G) = (xSs T d g14 [some a0, some a1, some a2, some a3, some a4, none, none, none] (on G)).out := by rw [xC_eq (us := [a0, a1, a2, a3, a4]) Hf14.h rfl]; rfl
/-- _law_atoms(_law_formula_z); 0:_law_formula_z 1:_law_found 2:_law_part -/
def g15 : List S := [.ife (.cmp .isin (.ix (.var 0) (.cst (.int 0))) (.tup [.e (.cst (.str "letter")), .e (.cst (.str "mine")), .e (.cst (.str "yours"))])) [.ret (.lst [.e (.var 0)])] [], .asg (.v 1) (.lst []), .for (.v 2) (.e (.sl (.var 0) (.cst (.int 1)) (.cst .non))) [.asg (.v 1) (.bin .add (.var 1) (.call 15 [.var 2] []))], .ret (.var 1)]
class Hf15 (T : Tb) : Prop where
  h : T.fn 15 = some ⟨1, 3, false, g15⟩
theorem cc15 {T : Tb} [Hf15 T] {d : Nat} {G : GH} (a0 : W) : xC T (d + 1) 15 [a0] (on G) = (xSs T d g15 [some a0, none, none] (on G)).out := by rw [xC_eq (us := [a0]) Hf15.h rfl]; rfl
/-- _law_depth(_law_formula_z); 0:_law_formula_z 1:_law_part -/
def g16 : List S := [.ife (.cmp .isin (.ix (.var 0) (.cst (.int 0))) (.tup [.e (.cst (.str "true")), .e (.cst (.str "false")), .e (.cst (.str "letter")), .e (.cst (.str "mine")), .e (.cst (.str "yours"))])) [.ret (.cst (.int 1))] [], .ret (.bin .add (.cst (.int 1)) (.blt .max [.lc [1] (.v 1) (.e (.sl (.var 0) (.cst (.int 1)) (.cst .non))) [] (.call 16 [.var 1] [])]))]
class Hf16 (T : Tb) : Prop where
  h : T.fn 16 = some ⟨1, 2, false, g16⟩
theorem cc16 {T : Tb} [Hf16 T] {d : Nat} {G : GH} (a0 : W) : xC T (d + 1) 16 [a0] (on G) = (xSs T d g16 [some a0, none] (on G)).out := by rw [xC_eq (us := [a0]) Hf16.h rfl]; rfl
/-- _law_parts(_law_formula_z); 0:_law_formula_z 1:_law_found 2:_law_part -/
def g17 : List S := [.asg (.v 1) (.ife (.cmp .eq (.ix (.var 0) (.cst (.int 0))) (.cst (.str "shown"))) (.lst [.e (.var 0)]) (.lst [])), .ife (.cmp .isin (.ix (.var 0) (.cst (.int 0))) (.tup [.e (.cst (.str "shown")), .e (.cst (.str "not")), .e (.cst (.str "and")), .e (.cst (.str "or"))])) [.for (.v 2) (.e (.sl (.var 0) (.cst (.int 1)) (.cst .non))) [.asg (.v 1) (.bin .add (.var 1) (.call 17 [.var 2] []))]] [], .ret (.var 1)]
class Hf17 (T : Tb) : Prop where
  h : T.fn 17 = some ⟨1, 3, false, g17⟩
theorem cc17 {T : Tb} [Hf17 T] {d : Nat} {G : GH} (a0 : W) : xC T (d + 1) 17 [a0] (on G) = (xSs T d g17 [some a0, none, none] (on G)).out := by rw [xC_eq (us := [a0]) Hf17.h rfl]; rfl
/-- _law_is_guarded(_law_formula_z); 0:_law_formula_z 1:_law_part -/
def g18 : List S := [.ife (.cmp .isin (.ix (.var 0) (.cst (.int 0))) (.tup [.e (.cst (.str "letter")), .e (.cst (.str "mine")), .e (.cst (.str "yours"))])) [.ret (.cst (.bl false))] [], .ife (.cmp .isin (.ix (.var 0) (.cst (.int 0))) (.tup [.e (.cst (.str "true")), .e (.cst (.str "false")), .e (.cst (.str "shown"))])) [.ret (.cst (.bl true))] [], .ret (.blt .all [.lc [1] (.v 1) (.e (.sl (.var 0) (.cst (.int 1)) (.cst .non))) [] (.call 18 [.var 1] [])])]
class Hf18 (T : Tb) : Prop where
  h : T.fn 18 = some ⟨1, 2, false, g18⟩
theorem cc18 {T : Tb} [Hf18 T] {d : Nat} {G : GH} (a0 : W) : xC T (d + 1) 18 [a0] (on G) = (xSs T d g18 [some a0, none] (on G)).out := by rw [xC_eq (us := [a0]) Hf18.h rfl]; rfl
/-- _law_like(_law_found, _law_due); 0:_law_found 1:_law_due 2:_law_at -/
def g19 : List S := [.ife (.blt .isinst [.var 1, .tup [.e (.cst (.ty "list")), .e (.cst (.ty "tuple"))]]) [.ife (.cmp .ne (.blt .isinst [.var 0, .cst (.ty "list")]) (.blt .isinst [.var 1, .cst (.ty "list")])) [.ret (.cst (.bl false))] [], .ife (.or (.cmp .ne (.blt .isinst [.var 0, .cst (.ty "tuple")]) (.blt .isinst [.var 1, .cst (.ty "tuple")])) (.cmp .ne (.blt .len [.var 0]) (.blt .len [.var 1]))) [.ret (.cst (.bl false))] [], .ret (.blt .all [.lc [2] (.v 2) (.rng [.blt .len [.var 1]]) [] (.call 19 [.ix (.var 0) (.var 2), .ix (.var 1) (.var 2)] [])])] [], .ife (.or (.cmp .is (.var 1) (.cst (.non))) (.cmp .is (.var 0) (.cst (.non)))) [.ret (.and (.cmp .is (.var 1) (.cst (.non))) (.cmp .is (.var 0) (.cst (.non))))] [], .ife (.cmp .ne (.blt .isinst [.var 1, .cst (.ty "bool")]) (.blt .isinst [.var 0, .cst (.ty "bool")])) [.ret (.cst (.bl false))] [], .ife (.cmp .ne (.blt .isinst [.var 1, .cst (.ty "int")]) (.blt .isinst [.var 0, .cst (.ty "int")])) [.ret (.cst (.bl false))] [], .ret (.and (.cmp .eq (.blt .isinst [.var 0, .cst (.ty "str")]) (.blt .isinst [.var 1, .cst (.ty "str")])) (.cmp .eq (.var 0) (.var 1)))]
class Hf19 (T : Tb) : Prop where
  h : T.fn 19 = some ⟨2, 3, false, g19⟩
theorem cc19 {T : Tb} [Hf19 T] {d : Nat} {G : GH} (a0 a1 : W) : xC T (d + 1) 19 [a0, a1] (on G) = (xSs T d g19 [some a0, some a1, none] (on G)).out := by rw [xC_eq (us := [a0, a1]) Hf19.h rfl]; rfl
end PM

set_option maxHeartbeats 4000000
/-! DaE: data: equal, within. -/
namespace PM
open PySem
mutual
def Da.py : Da → PyData
  | .non => .none | .bl b => .bool b | .int i => .int i | .str z => .str z
  | .lst ds => .list (Da.pys ds) | .tup ds => .tuple (Da.pys ds)
def Da.pys : List Da → List PyData
  | [] => []
  | d :: ds => d.py :: Da.pys ds
end
mutual
/-- its texts are of signs that may be -/
def Da.ok : Da → Bool
  | .str z => PyData.strOk z | .lst ds => Da.oks ds | .tup ds => Da.oks ds | _ => true
def Da.oks : List Da → Bool
  | [] => true
  | d :: ds => d.ok && Da.oks ds
end
theorem pys_map : ∀ ds : List Da, Da.pys ds = ds.map Da.py
  | [] => rfl
  | d :: ds => by rw [Da.pys, pys_map ds]; rfl
theorem oks_all : ∀ ds : List Da, Da.oks ds = ds.all Da.ok
  | [] => rfl
  | d :: ds => by rw [Da.oks, oks_all ds]; rfl
mutual
theorem dat_da {G : GH} : ∀ (a : Da) (n : Nat) {w : W}, dpt a < n → IsDa G a w → dat n (on G) w = some a.py
  | .non, n + 1, _, _, h => by rw [show _ = _ from h]; simp only [dat]; rfl
  | .bl b, n + 1, _, _, h => by rw [show _ = _ from h]; simp only [dat]; rfl
  | .int i, n + 1, _, _, h => by rw [show _ = _ from h]; simp only [dat]; rfl
  | .str z, n + 1, _, _, h => by rw [show _ = _ from h]; simp only [dat]; rfl
  | .tup ds, n + 1, _, hn, h => by
    obtain ⟨ws, rfl, h2⟩ := h
    simp only [dat]
    rw [dats_da ds n (by unfold dpt at hn; omega) h2]
    rfl
  | .lst ds, n + 1, _, hn, h => by
    obtain ⟨m, ws, rfl, h1, h2⟩ := h
    simp only [dat]
    rw [on_get, h1]
    show (optAll (dat n (on G)) ws).map _ = _
    rw [dats_da ds n (by unfold dpt at hn; omega) h2]
    rfl
  | a, 0, _, hn, _ => absurd hn (Nat.not_lt_zero _)
theorem dats_da {G : GH} : ∀ (ds : List Da) (n : Nat) {ws : List W}, dpts ds < n → IsDas G ds ws → optAll (dat n (on G)) ws = some (Da.pys ds)
  | [], n, _, _, h => by rw [show _ = _ from h]; rfl
  | d :: ds, n, _, hn, h => by
    obtain ⟨x, xs, rfl, h2, h3⟩ := h
    have hn : max (dpt d) (dpts ds) < n := hn
    rw [optAll, dat_da d n (by omega) h2, dats_da ds n (by omega) h3]
    rfl
end
mutual
theorem lay_da : ∀ a : Da, a.ok = true → PyData.canLay0 a.py = true
  | .non, _ => rfl
  | .bl _, _ => rfl
  | .int _, _ => rfl
  | .str z, h => h
  | .lst ds, h => by
    show PyData.canLay0 (.list (Da.pys ds)) = true
    rw [PyData.canLay0]
    exact lays_da ds h
  | .tup ds, h => by
    show PyData.canLay0 (.tuple (Da.pys ds)) = true
    rw [PyData.canLay0]
    exact lays_da ds h
theorem lays_da : ∀ ds : List Da, Da.oks ds = true → PyData.canLayAll0 (Da.pys ds) = true
  | [], _ => rfl
  | d :: ds, h => by
    rw [Da.oks, Bool.and_eq_true] at h
    rw [Da.pys, PyData.canLayAll0, lay_da d h.1, lays_da ds h.2]
    rfl
end
mutual
theorem depth_da : ∀ a : Da, PyData.depth a.py ≤ dpt a
  | .non => by simp [Da.py, PyData.depth]
  | .bl _ => by simp [Da.py, PyData.depth]
  | .int _ => by simp [Da.py, PyData.depth]
  | .str z => by simp [Da.py, PyData.depth]
  | .lst ds => by
    have := depths_da ds
    show PyData.depth (.list (Da.pys ds)) ≤ dpts ds + 1
    rw [PyData.depth]
    omega
  | .tup ds => by
    have := depths_da ds
    show PyData.depth (.tuple (Da.pys ds)) ≤ dpts ds + 1
    rw [PyData.depth]
    omega
theorem depths_da : ∀ ds : List Da, PyData.depthAll (Da.pys ds) ≤ dpts ds
  | [] => by simp [Da.pys, PyData.depthAll]
  | d :: ds => by
    have h1 := depth_da d
    have h2 := depths_da ds
    show PyData.depthAll (d.py :: Da.pys ds) ≤ max (dpt d) (dpts ds)
    rw [PyData.depthAll]
    omega
end
theorem shaped_da {a : Da} (h : a.ok = true) (hd : dpt a ≤ 50) : SeqAt.shaped a.py = true := by
  unfold SeqAt.shaped
  rw [lay_da a h, Bool.true_and]
  exact decide_eq_true (Nat.le_trans (depth_da a) (by omega))
theorem eqD_da {G : GH} {a c : Da} {x y : W} (hx : IsDa G a x) (hy : IsDa G c y) (ha : a.ok = true ∧ dpt a ≤ 50) (hc : c.ok = true ∧ dpt c ≤ 50) : eqD (on G) x y = some (PyData.eqv a.py c.py) := by
  unfold eqD
  rw [dat_da a 60 (by omega) hx, dat_da c 60 (by omega) hy]
  show (if (SeqAt.shaped a.py && SeqAt.shaped c.py) = true then some (PyData.eqv a.py c.py) else none) = _
  rw [shaped_da ha.1 ha.2, shaped_da hc.1 hc.2]
  rfl
/-- equal or not -/
theorem eq_da {G : GH} {a c : Da} {x y : W} (hx : IsDa G a x) (hy : IsDa G c y) (ha : a.ok = true ∧ dpt a ≤ 50) (hc : c.ok = true ∧ dpt c ≤ 50) (hn : scalW x y = false) : eqW (on G) x y = some (PyData.eqv a.py c.py) := by
  unfold eqW
  rw [hn]
  exact eqD_da hx hy ha hc
theorem same_da {G : GH} {a : Da} {x y : W} (hx : IsDa G a x) (hy : IsDa G a y) (ha : a.ok = true ∧ dpt a ≤ 50) (hn : scalW x y = false) : eqW (on G) x y = some true := by
  rw [eq_da hx hy ha ha hn, SeqAt.eqv_refl _ (lay_da a ha.1)]
/-- within a list -/
theorem in_da {G : GH} {n : Nat} {a : Da} {ds : List Da} {x : W} (hx : IsDa G a x) (hy : IsDa G (.lst ds) (.ref n)) (ha : a.ok = true ∧ dpt a ≤ 50) (hc : Da.oks ds = true ∧ dpts ds ≤ 49) (hn : flatW x = false) : inW (on G) x (.ref n) = some (ds.any fun z => PyData.eqv z.py a.py) := by
  obtain ⟨m, ws, e, h1, h2⟩ := hy
  cases e
  have e0 : inW (on G) x (.ref n) = (if (flatW x && ws.all flatW) = true then some (inFl x ws) else inD (on G) x (.ref n)) := by
    have : seqOf (on G) (.ref n) = some ws := seq_l h1
    have key : inW (on G) x (.ref n) = (match seqOf (on G) (.ref n) with
      | some ws => if (flatW x && ws.all flatW) = true then some (inFl x ws) else inD (on G) x (.ref n)
      | none => none) := by cases x <;> rfl
    rw [key, this]
  rw [e0, hn, Bool.false_and, if_neg (by decide)]
  unfold inD
  rw [dat_da a 60 (by omega) hx, dat_da (.lst ds) 60 (by show dpts ds + 1 < 60; omega) ⟨n, ws, rfl, h1, h2⟩]
  have s2 := shaped_da (a := .lst ds) hc.1 (by show dpts ds + 1 ≤ 50; omega)
  show (if (SeqAt.shaped a.py && SeqAt.shaped (.list (Da.pys ds))) = true then some ((Da.pys ds).any fun z => PyData.eqv z a.py) else none) = _
  rw [shaped_da ha.1 ha.2, show SeqAt.shaped (.list (Da.pys ds)) = true from s2, pys_map, List.any_map]
  rfl
theorem isDas_map {α : Type} {G : GH} {f : α → Da} {g : α → W} (h : ∀ a, IsDa G (f a) (g a)) : ∀ l : List α, IsDas G (l.map f) (l.map g)
  | [] => rfl
  | a :: l => ⟨_, _, rfl, h a, isDas_map h l⟩
theorem isDa_list {α : Type} {G : GH} {n : Nat} {f : α → Da} {g : α → W} (h : ∀ a, IsDa G (f a) (g a)) {l : List α} (e : G.get n = some (.lst (l.map g))) : IsDa G (.lst (l.map f)) (.ref n) := ⟨n, _, rfl, e, isDas_map h l⟩
theorem fews_map {α : Type} {f : α → Da} (h : ∀ a, few (f a)) : ∀ l : List α, fews (l.map f)
  | [] => trivial
  | a :: l => ⟨h a, fews_map h l⟩
theorem dpts_le {n : Nat} : ∀ l : List Da, (∀ d ∈ l, dpt d ≤ n) → dpts l ≤ n
  | [], _ => Nat.zero_le _
  | d :: l, h => by
    have h1 := h d List.mem_cons_self
    have h2 := dpts_le l fun x hx => h x (List.mem_cons_of_mem _ hx)
    show max (dpt d) (dpts l) ≤ n
    omega
theorem strOk_one {c : Nat} {z : Str} (h : c ∈ z.cps.toList) (hz : PyData.strOk z = true) : PyData.strOk ⟨#[c]⟩ = true := by
  have h1 : ∀ k ∈ z.cps.toList, k < 0x110000 := by
    intro k hk
    have : z.cps.all (· < 0x110000) = true := hz
    rw [Array.all_eq_true'] at this
    simpa using this k (Array.mem_toList_iff.mp hk)
  have := h1 c h
  simp [PyData.strOk, this]
theorem strOk_app {a c : Str} (h : PyData.strOk a = true) (k : PyData.strOk c = true) : PyData.strOk (a ++ c) = true := by
  have h : a.cps.all (· < 0x110000) = true := h
  have k : c.cps.all (· < 0x110000) = true := k
  show (a.cps ++ c.cps).all (· < 0x110000) = true
  rw [Array.all_append, h, k]
  rfl
end PM

set_option maxHeartbeats 4000000
/-! FoA: formulas, drawn. -/
namespace PM
open PySem
inductive Fo where
  | tru | fls | ltr (c : Str) | mine (m : Str) | yours (m : Str) | yto (m n : Str)
  | shown (f : Fo) | not (f : Fo) | and (f g : Fo) | or (f g : Fo)
namespace Fo
def w : Fo → W
  | tru => .tup [.str "true"]
  | fls => .tup [.str "false"]
  | ltr c => .tup [.str "letter", .str c]
  | mine m => .tup [.str "mine", .str m]
  | yours m => .tup [.str "yours", .str m]
  | yto m n => .tup [.str "yours", .str m, .str n]
  | shown f => .tup [.str "shown", f.w]
  | not f => .tup [.str "not", f.w]
  | and f g => .tup [.str "and", f.w, g.w]
  | or f g => .tup [.str "or", f.w, g.w]
def da : Fo → Da
  | tru => .tup [.str "true"]
  | fls => .tup [.str "false"]
  | ltr c => .tup [.str "letter", .str c]
  | mine m => .tup [.str "mine", .str m]
  | yours m => .tup [.str "yours", .str m]
  | yto m n => .tup [.str "yours", .str m, .str n]
  | shown f => .tup [.str "shown", f.da]
  | not f => .tup [.str "not", f.da]
  | and f g => .tup [.str "and", f.da, g.da]
  | or f g => .tup [.str "or", f.da, g.da]
def word : Fo → Str
  | tru => "true" | fls => "false" | ltr _ => "letter" | mine _ => "mine" | yours _ => "yours" | yto _ _ => "yours" | shown _ => "shown" | not _ => "not" | and _ _ => "and" | or _ _ => "or"
def tail : Fo → List W
  | tru => [] | fls => [] | ltr c => [.str c] | mine m => [.str m] | yours m => [.str m] | yto m n => [.str m, .str n] | shown f => [f.w] | not f => [f.w] | and f g => [f.w, g.w] | or f g => [f.w, g.w]
def subs : Fo → List Fo
  | shown f => [f] | not f => [f] | and f g => [f, g] | or f g => [f, g] | _ => []
def isAt : Fo → Bool
  | ltr _ => true | mine _ => true | yours _ => true | yto _ _ => true | _ => false
theorem w_eq (f : Fo) : f.w = .tup (.str f.word :: f.tail) := by cases f <;> rfl
theorem tail_subs {f : Fo} (h : f.isAt = false) : f.tail = f.subs.map w := by cases f <;> first | rfl | cases h
theorem subs_at {f : Fo} (h : f.isAt = true) : f.subs = [] := by cases f <;> first | rfl | cases h
def dep : Fo → Nat
  | shown f => f.dep + 1 | not f => f.dep + 1 | and f g => max f.dep g.dep + 1 | or f g => max f.dep g.dep + 1 | _ => 1
/-- how many nodes -/
def sz : Fo → Nat
  | shown f => f.sz + 1 | not f => f.sz + 1 | and f g => f.sz + g.sz + 1 | or f g => f.sz + g.sz + 1 | _ => 1
theorem dep_sub {f g : Fo} (h : g ∈ f.subs) : g.dep < f.dep := by
  cases f <;> simp [subs] at h
  · subst h; exact Nat.lt_succ_self _
  · subst h; exact Nat.lt_succ_self _
  · rcases h with h | h <;> subst h <;> simp only [dep] <;> omega
  · rcases h with h | h <;> subst h <;> simp only [dep] <;> omega
theorem sz_sub {f g : Fo} (h : g ∈ f.subs) : g.sz < f.sz := by
  cases f <;> simp [subs] at h
  · subst h; exact Nat.lt_succ_self _
  · subst h; exact Nat.lt_succ_self _
  · rcases h with h | h <;> subst h <;> simp only [sz] <;> omega
  · rcases h with h | h <;> subst h <;> simp only [sz] <;> omega
theorem dep_pos (f : Fo) : 0 < f.dep := by cases f <;> simp [dep]
theorem sz_subs (f : Fo) : (f.subs.map sz).sum < f.sz := by
  cases f <;> simp [subs, sz]
theorem subs_len (f : Fo) : f.subs.length ≤ 2 := by cases f <;> simp [subs]
theorem isDa {G : GH} : ∀ f : Fo, IsDa G f.da f.w
  | tru => ⟨_, rfl, _, _, rfl, rfl, rfl⟩
  | fls => ⟨_, rfl, _, _, rfl, rfl, rfl⟩
  | ltr _ => ⟨_, rfl, _, _, rfl, rfl, _, _, rfl, rfl, rfl⟩
  | mine _ => ⟨_, rfl, _, _, rfl, rfl, _, _, rfl, rfl, rfl⟩
  | yours _ => ⟨_, rfl, _, _, rfl, rfl, _, _, rfl, rfl, rfl⟩
  | yto _ _ => ⟨_, rfl, _, _, rfl, rfl, _, _, rfl, rfl, _, _, rfl, rfl, rfl⟩
  | shown f => ⟨_, rfl, _, _, rfl, rfl, _, _, rfl, isDa f, rfl⟩
  | not f => ⟨_, rfl, _, _, rfl, rfl, _, _, rfl, isDa f, rfl⟩
  | and f g => ⟨_, rfl, _, _, rfl, rfl, _, _, rfl, isDa f, _, _, rfl, isDa g, rfl⟩
  | or f g => ⟨_, rfl, _, _, rfl, rfl, _, _, rfl, isDa f, _, _, rfl, isDa g, rfl⟩
theorem few_da : ∀ f : Fo, few f.da
  | tru => ⟨by show 1 ≤ 10000; decide, trivial, trivial⟩
  | fls => ⟨by show 1 ≤ 10000; decide, trivial, trivial⟩
  | ltr _ => ⟨by show 2 ≤ 10000; decide, trivial, trivial, trivial⟩
  | mine _ => ⟨by show 2 ≤ 10000; decide, trivial, trivial, trivial⟩
  | yours _ => ⟨by show 2 ≤ 10000; decide, trivial, trivial, trivial⟩
  | yto _ _ => ⟨by show 3 ≤ 10000; decide, trivial, trivial, trivial, trivial⟩
  | shown f => ⟨by show 2 ≤ 10000; decide, trivial, few_da f, trivial⟩
  | not f => ⟨by show 2 ≤ 10000; decide, trivial, few_da f, trivial⟩
  | and f g => ⟨by show 3 ≤ 10000; decide, trivial, few_da f, few_da g, trivial⟩
  | or f g => ⟨by show 3 ≤ 10000; decide, trivial, few_da f, few_da g, trivial⟩
theorem dpt_da : ∀ f : Fo, dpt f.da = f.dep
  | tru => rfl
  | fls => rfl
  | ltr _ => rfl
  | mine _ => rfl
  | yours _ => rfl
  | yto _ _ => rfl
  | shown f => by
    show max (dpt (.str "shown")) (max (dpt f.da) 0) + 1 = f.dep + 1
    rw [dpt_da f, show dpt (.str "shown") = 0 from rfl]
    omega
  | not f => by
    show max (dpt (.str "not")) (max (dpt f.da) 0) + 1 = f.dep + 1
    rw [dpt_da f, show dpt (.str "not") = 0 from rfl]
    omega
  | and f g => by
    show max (dpt (.str "and")) (max (dpt f.da) (max (dpt g.da) 0)) + 1 = max f.dep g.dep + 1
    rw [dpt_da f, dpt_da g, show dpt (.str "and") = 0 from rfl]
    omega
  | or f g => by
    show max (dpt (.str "or")) (max (dpt f.da) (max (dpt g.da) 0)) + 1 = max f.dep g.dep + 1
    rw [dpt_da f, dpt_da g, show dpt (.str "or") = 0 from rfl]
    omega
end Fo
/-! ### drawing -/
section
variable {T : Tb} {d b : Nat} {G : GH}
theorem any_s [h10 : Hf10 T] [h11 : Hf11 T] {z : Str} (hb : IsBag G b) (hz : 0 < z.length ∧ z.length < 10000) (wf : Wf G) :
    ∃ c G', xC T (d + 1 + 1) 11 [.ref b, .str z] (on G) = .ok (.str ⟨#[c]⟩) (on G') ∧ c ∈ z.cps.toList ∧ Drawn G G' b := any_str h10.h h11.h hb hz wf
theorem any_l [h10 : Hf10 T] [h11 : Hf11 T] {n : Nat} {ws : List W} (hb : IsBag G b) (hg : G.get n = some (.lst ws)) (hn : n ≠ b) (hz : 0 < ws.length ∧ ws.length < 10000) (wf : Wf G) :
    ∃ w G', xC T (d + 1 + 1) 11 [.ref b, .ref n] (on G) = .ok w (on G') ∧ w ∈ ws ∧ Drawn G G' b := any_lst h10.h h11.h hb hg hn hz wf
theorem draw_n [h10 : Hf10 T] {many : Int} (hb : IsBag G b) (hm : 0 < many) (hm2 : many < 1073741824) (wf : Wf G) : ∃ (r : Nat) (G' : GH), xC T (d + 1) 10 [.ref b, .int many] (on G) = .ok (.int (r : Int)) (on G') ∧ (r : Int) < many ∧ Drawn G G' b := by
  obtain ⟨r, G', e, r0, r1, dr⟩ := draw_ok (d := d) h10.h hb hm hm2 wf
  obtain ⟨n, rfl⟩ := Int.eq_ofNat_of_zero_le r0
  exact ⟨n, G', e, r1, dr⟩
theorem bag_ok [h9 : Hf9 T] (wf : Wf G) (ns : List Int) : ∃ b G', xC T (d + 1) 9 [.rol (ns.map .int)] (on G) = .ok (.ref b) (on G') ∧ IsBag G' b ∧ Wf G' := by
  have hc : cutW (ns.map W.int) none (some 63) = (ns.take (min 63 (ns.map W.int).length)).map W.int := by
    have : (63 : Int) = ((63 : Nat) : Int) := rfl
    unfold cutW
    rw [HT.sIx_none, this, HT.sIx_nat, List.drop_zero, Nat.sub_zero, ← List.map_take]
  generalize hms : ns.take (min 63 (ns.map W.int).length) = ms at hc
  have hl : ms.length ≤ 63 := by rw [← hms, List.length_take]; omega
  have hs : slop (on G) (.rol (ns.map .int)) none (some 63) = some (.ref G.sz, G.push (.lst (ms.map .int))) := by
    show newL (on G) (cutW (ns.map W.int) none (some 63)) = _
    rw [hc]
    exact newL_k (by rw [List.length_map]; omega)
  let G1 := G.push (.lst (ms.map .int))
  have w1 : Wf G1 := wf.push _
  have g1 : G1.get G.sz = some (.lst (ms.map .int)) := get_push_self _ _
  have hli := list_k (T := T) g1 (by rw [List.length_map]; omega)
  let G2 := G1.push (.lst (ms.map .int))
  have w2 : Wf G2 := w1.push _
  have g2 : G2.get G1.sz = some (.lst (ms.map .int)) := get_push_self _ _
  let bg : List W := [.ref G1.sz, .int ((0 : Nat) : Int), .int 0, .int 5600, .int 0]
  have hnl : newL (on G2) bg = some (.ref G2.sz, G2.push (.lst bg)) := newL_k (show 5 ≤ 10000 by decide)
  refine ⟨G2.sz, G2.push (.lst bg), ?_, ⟨G1.sz, ms, 0, 0, 5600, 0, ?_, get_push_self _ _, (Gr.new w2 _).get g2, by decide, by decide, by decide⟩, w2.push _⟩
  · dsimp only [bg, G2, G1] at hli hnl ⊢
    rw [cc9]
    have o : optI (.int 63) = some (some 63) := rfl
    have o2 : optI .non = some none := rfl
    have z0 : ((0 : Nat) : Int) = 0 := rfl
    rw [z0] at hnl ⊢
    simp (config := { decide := true }) only [g9, o, o2, hs, hli, hnl, oE_cst, oE_var, oE_bin, oE_cmp, oE_and, oE_or, oE_not, oE_neg, oE_ife, oE_tup, oE_lst, oE_ix, oE_sl, oE_call, oE_mk, oE_met, oE_att, oE_blt, oE_lc, oEs_nil, oEs_cons, oA_nil, oA_e, oA_s, oI_e, oI_rng, oI_zip, oW_eq, oSs_nil, oSs_cons, oS_asg, oS_sub, oS_att, oS_par, oS_exp, oS_ife, oS_for, oS_whl, oS_ret, oS_pass, rb_ok, rt_ok, ft_nx, ft_ret, fl_nx, fl_ret, fo_nx, fo_ret, oo_some, og_some, nox_ok, tru_bl, tru_int, bA_nil, asg_v, c_eq, c_ne, c_in, c_nin, c_lt, c_le, c_gt, c_ge, c_is, c_isn, eq_ss, eq_ii, eq_bb, in_ss, ix_t, ix_r, at_0, at_1, at_2, at_3, at_4, on_get, on_sz, List.getElem?_cons_zero, List.getElem?_cons_succ, List.getElem?_nil, List.set_cons_zero, List.set_cons_succ, Option.map_some, Option.map_none, if_true, if_false, Bool.false_eq_true, decide_true, decide_false, Bool.not_true, Bool.not_false, on_on, List.length_cons, List.length_nil, on_setw, on_pushw, List.nil_append, List.cons_append, seq_new, its_new, lst_new, ix_new, len_new, iv_new, newL_one, newL_two, newL_nil, iv_t, iv_r, oE_lc2, oE_chn, oE_maxd, oS_brk, oS_cnt, oS_unp, ft_cnt, ft_brk, fl_cnt, wipeW]
  · show G1.sz + 1 ≠ G1.sz
    omega
/-- what atoms may be drawn: letters, or moves and names -/
structure Pool (G : GH) (b : Nat) (moves : Str) (x : W) (names : List Str) : Prop where
  nms : ∃ n, x = .ref n ∧ G.get n = some (.lst (names.map .str)) ∧ n ≠ b
  len : names.length ≤ 100
  oks : ∀ z ∈ names, PyData.strOk z = true
  mvl : moves.length ≤ 100
theorem Pool.fr {G G' : GH} {moves : Str} {x : W} {names : List Str} (p : Pool G b moves x names) (m : Made G G' b) : Pool G' b moves x names := by
  obtain ⟨n, h1, h2, h3⟩ := p.nms
  exact ⟨⟨n, h1, m.fr.get h2 h3, h3⟩, p.len, p.oks, p.mvl⟩
/-- an atom of the pool -/
def okA (moves : Str) (names : List Str) : Fo → Prop
  | .ltr c => moves = "" ∧ ∃ k, c = ⟨#[k]⟩ ∧ k ∈ ("PQR" : Str).cps.toList
  | .mine m => ∃ k, m = ⟨#[k]⟩ ∧ k ∈ moves.cps.toList
  | .yours m => ∃ k, m = ⟨#[k]⟩ ∧ k ∈ moves.cps.toList
  | .yto m n => (∃ k, m = ⟨#[k]⟩ ∧ k ∈ moves.cps.toList) ∧ n ∈ names
  | .shown f => okA moves names f
  | .not f => okA moves names f
  | .and f g => okA moves names f ∧ okA moves names g
  | .or f g => okA moves names f ∧ okA moves names g
  | _ => True
theorem dpt_str {l : List Str} : dpts (l.map Da.str) = 0 := by
  have := dpts_le (n := 0) (l.map Da.str) fun d hd => by
    obtain ⟨z, _, rfl⟩ := List.mem_map.mp hd
    exact Nat.le_refl 0
  omega
theorem oks_str {l : List Str} (h : ∀ z ∈ l, PyData.strOk z = true) : Da.oks (l.map Da.str) = true := by
  rw [oks_all, List.all_map, List.all_eq_true]
  exact h
theorem eq_nilL {n m : Nat} {names : List Str} (h : G.get n = some (.lst (names.map .str))) (h2 : G.get m = some (.lst [])) (hz : ∀ z ∈ names, PyData.strOk z = true) : eqW (on G) (.ref n) (.ref m) = some names.isEmpty := by
  have := eq_da (a := .lst (names.map .str)) (c := .lst []) (isDa_list (f := Da.str) (g := W.str) (fun _ => rfl) h) ⟨m, [], rfl, h2, rfl⟩ ⟨oks_str hz, by show dpts _ + 1 ≤ 50; rw [dpt_str]; decide⟩ ⟨rfl, by decide⟩ rfl
  rw [this]
  cases names <;> rfl
theorem atom_draw [Hf10 T] [Hf11 T] [Hf13 T] {moves : Str} {x : W} {names : List Str} (hb : IsBag G b) (wf : Wf G) (p : Pool G b moves x names) :
    ∃ F G', xC T (d + 1 + 1 + 1) 13 [.ref b, .str moves, x] (on G) = .ok (Fo.w F) (on G') ∧ F.isAt = true ∧ F.dep = 1 ∧ F.sz = 1 ∧ okA moves names F ∧ Made G G' b := by
  by_cases hm : moves = ""
  · obtain ⟨c, G', e, hc, dr⟩ := any_s (T := T) (d := d) (z := "PQR") hb (by decide) wf
    refine ⟨.ltr ⟨#[c]⟩, G', ?_, rfl, rfl, rfl, ⟨hm, c, rfl, hc⟩, dr.made⟩
    rw [cc13]
    have hm := eq_true hm
    simp (config := { decide := true }) only [g13, hm, e, oE_cst, oE_var, oE_bin, oE_cmp, oE_and, oE_or, oE_not, oE_neg, oE_ife, oE_tup, oE_lst, oE_ix, oE_sl, oE_call, oE_mk, oE_met, oE_att, oE_blt, oE_lc, oEs_nil, oEs_cons, oA_nil, oA_e, oA_s, oI_e, oI_rng, oI_zip, oW_eq, oSs_nil, oSs_cons, oS_asg, oS_sub, oS_att, oS_par, oS_exp, oS_ife, oS_for, oS_whl, oS_ret, oS_pass, rb_ok, rt_ok, ft_nx, ft_ret, fl_nx, fl_ret, fo_nx, fo_ret, oo_some, og_some, nox_ok, tru_bl, tru_int, bA_nil, asg_v, c_eq, c_ne, c_in, c_nin, c_lt, c_le, c_gt, c_ge, c_is, c_isn, eq_ss, eq_ii, eq_bb, in_ss, ix_t, ix_r, at_0, at_1, at_2, at_3, at_4, on_get, on_sz, List.getElem?_cons_zero, List.getElem?_cons_succ, List.getElem?_nil, List.set_cons_zero, List.set_cons_succ, Option.map_some, Option.map_none, if_true, if_false, Bool.false_eq_true, decide_true, decide_false, Bool.not_true, Bool.not_false, on_on, List.length_cons, List.length_nil, on_setw, on_pushw, List.nil_append, List.cons_append, seq_new, its_new, lst_new, ix_new, len_new, iv_new, newL_one, newL_two, newL_nil, iv_t, iv_r, oE_lc2, oE_chn, oE_maxd, oS_brk, oS_cnt, oS_unp, ft_cnt, ft_brk, fl_cnt, wipeW]
    rfl
  · have hl : 0 < moves.length := by
      rcases Nat.eq_zero_or_pos moves.length with z | z
      · refine absurd ?_ hm
        have : moves.cps.size = 0 := z
        cases moves with
        | mk cps =>
          have : cps = #[] := Array.size_eq_zero_iff.mp this
          rw [this]
          rfl
      · exact z
    obtain ⟨r, G1, e1, r1, d1⟩ := draw_n (T := T) (d := d + 1) (many := 4) hb (by decide) (by decide) wf
    obtain ⟨c, G2, e2, hc, d2⟩ := any_s (T := T) (d := d) (z := moves) d1.bag ⟨hl, by have := p.mvl; omega⟩ d1.wf
    have m2 := d1.made.trans d2.made
    have hm := eq_false hm
    have pr : parS [3, 4] [.int (r : Int), .str ⟨#[c]⟩] [some (.ref b), some (.str moves), some x, none, none] = some [some (.ref b), some (.str moves), some x, some (.int (r : Int)), some (.str ⟨#[c]⟩)] := rfl
    have p2 := p.fr m2
    obtain ⟨n, rfl, hn, hnb⟩ := p2.nms
    by_cases h0 : (r : Int) = 0
    · refine ⟨.mine ⟨#[c]⟩, G2, ?_, rfl, rfl, rfl, ⟨c, rfl, hc⟩, m2⟩
      rw [cc13]
      have h0 := eq_true h0
      simp (config := { decide := true }) only [g13, hm, e1, e2, pr, h0, oE_cst, oE_var, oE_bin, oE_cmp, oE_and, oE_or, oE_not, oE_neg, oE_ife, oE_tup, oE_lst, oE_ix, oE_sl, oE_call, oE_mk, oE_met, oE_att, oE_blt, oE_lc, oEs_nil, oEs_cons, oA_nil, oA_e, oA_s, oI_e, oI_rng, oI_zip, oW_eq, oSs_nil, oSs_cons, oS_asg, oS_sub, oS_att, oS_par, oS_exp, oS_ife, oS_for, oS_whl, oS_ret, oS_pass, rb_ok, rt_ok, ft_nx, ft_ret, fl_nx, fl_ret, fo_nx, fo_ret, oo_some, og_some, nox_ok, tru_bl, tru_int, bA_nil, asg_v, c_eq, c_ne, c_in, c_nin, c_lt, c_le, c_gt, c_ge, c_is, c_isn, eq_ss, eq_ii, eq_bb, in_ss, ix_t, ix_r, at_0, at_1, at_2, at_3, at_4, on_get, on_sz, List.getElem?_cons_zero, List.getElem?_cons_succ, List.getElem?_nil, List.set_cons_zero, List.set_cons_succ, Option.map_some, Option.map_none, if_true, if_false, Bool.false_eq_true, decide_true, decide_false, Bool.not_true, Bool.not_false, on_on, List.length_cons, List.length_nil, on_setw, on_pushw, List.nil_append, List.cons_append, seq_new, its_new, lst_new, ix_new, len_new, iv_new, newL_one, newL_two, newL_nil, iv_t, iv_r, oE_lc2, oE_chn, oE_maxd, oS_brk, oS_cnt, oS_unp, ft_cnt, ft_brk, fl_cnt, wipeW]
      rfl
    · have h0 := eq_false h0
      by_cases h3 : (r : Int) < 3
      · refine ⟨.yours ⟨#[c]⟩, G2, ?_, rfl, rfl, rfl, ⟨c, rfl, hc⟩, m2⟩
        rw [cc13]
        have h3 := eq_true h3
        simp (config := { decide := true }) only [g13, hm, e1, e2, pr, h0, h3, oE_cst, oE_var, oE_bin, oE_cmp, oE_and, oE_or, oE_not, oE_neg, oE_ife, oE_tup, oE_lst, oE_ix, oE_sl, oE_call, oE_mk, oE_met, oE_att, oE_blt, oE_lc, oEs_nil, oEs_cons, oA_nil, oA_e, oA_s, oI_e, oI_rng, oI_zip, oW_eq, oSs_nil, oSs_cons, oS_asg, oS_sub, oS_att, oS_par, oS_exp, oS_ife, oS_for, oS_whl, oS_ret, oS_pass, rb_ok, rt_ok, ft_nx, ft_ret, fl_nx, fl_ret, fo_nx, fo_ret, oo_some, og_some, nox_ok, tru_bl, tru_int, bA_nil, asg_v, c_eq, c_ne, c_in, c_nin, c_lt, c_le, c_gt, c_ge, c_is, c_isn, eq_ss, eq_ii, eq_bb, in_ss, ix_t, ix_r, at_0, at_1, at_2, at_3, at_4, on_get, on_sz, List.getElem?_cons_zero, List.getElem?_cons_succ, List.getElem?_nil, List.set_cons_zero, List.set_cons_succ, Option.map_some, Option.map_none, if_true, if_false, Bool.false_eq_true, decide_true, decide_false, Bool.not_true, Bool.not_false, on_on, List.length_cons, List.length_nil, on_setw, on_pushw, List.nil_append, List.cons_append, seq_new, its_new, lst_new, ix_new, len_new, iv_new, newL_one, newL_two, newL_nil, iv_t, iv_r, oE_lc2, oE_chn, oE_maxd, oS_brk, oS_cnt, oS_unp, ft_cnt, ft_brk, fl_cnt, wipeW]
        rfl
      · have h3 := eq_false h3
        have m3 : Made G (G2.push (.lst [])) b := m2.push _
        have hq := eq_nilL (G := G2.push (.lst [])) ((Gr.new m2.wf _).get hn) (get_push_self _ _) p.oks
        cases hE : names with
        | nil =>
          rw [hE] at hq
          refine ⟨.yours ⟨#[c]⟩, G2.push (.lst []), ?_, rfl, rfl, rfl, ⟨c, rfl, hc⟩, m3⟩
          rw [cc13]
          have hq : eqW (on (G2.push (.lst []))) (.ref n) (.ref G2.sz) = some true := hq
          simp (config := { decide := true }) only [g13, hm, e1, e2, pr, h0, h3, hq, oE_cst, oE_var, oE_bin, oE_cmp, oE_and, oE_or, oE_not, oE_neg, oE_ife, oE_tup, oE_lst, oE_ix, oE_sl, oE_call, oE_mk, oE_met, oE_att, oE_blt, oE_lc, oEs_nil, oEs_cons, oA_nil, oA_e, oA_s, oI_e, oI_rng, oI_zip, oW_eq, oSs_nil, oSs_cons, oS_asg, oS_sub, oS_att, oS_par, oS_exp, oS_ife, oS_for, oS_whl, oS_ret, oS_pass, rb_ok, rt_ok, ft_nx, ft_ret, fl_nx, fl_ret, fo_nx, fo_ret, oo_some, og_some, nox_ok, tru_bl, tru_int, bA_nil, asg_v, c_eq, c_ne, c_in, c_nin, c_lt, c_le, c_gt, c_ge, c_is, c_isn, eq_ss, eq_ii, eq_bb, in_ss, ix_t, ix_r, at_0, at_1, at_2, at_3, at_4, on_get, on_sz, List.getElem?_cons_zero, List.getElem?_cons_succ, List.getElem?_nil, List.set_cons_zero, List.set_cons_succ, Option.map_some, Option.map_none, if_true, if_false, Bool.false_eq_true, decide_true, decide_false, Bool.not_true, Bool.not_false, on_on, List.length_cons, List.length_nil, on_setw, on_pushw, List.nil_append, List.cons_append, seq_new, its_new, lst_new, ix_new, len_new, iv_new, newL_one, newL_two, newL_nil, iv_t, iv_r, oE_lc2, oE_chn, oE_maxd, oS_brk, oS_cnt, oS_unp, ft_cnt, ft_brk, fl_cnt, wipeW]
          rfl
        | cons nm0 nms =>
          have hq : eqW (on (G2.push (.lst []))) (.ref n) (.ref G2.sz) = some false := by rw [hq, hE]; rfl
          obtain ⟨w, G4, e4, hw, d4⟩ := any_l (T := T) (d := d) (n := n) (ws := names.map .str) m3.bag ((Gr.new m2.wf _).get hn) hnb ⟨by rw [List.length_map, hE]; exact Nat.succ_pos _, by rw [List.length_map]; have := p.len; omega⟩ m3.wf
          obtain ⟨z, hz, rfl⟩ := List.mem_map.mp hw
          rw [← hE]
          refine ⟨.yto ⟨#[c]⟩ z, G4, ?_, rfl, rfl, rfl, ⟨⟨c, rfl, hc⟩, hz⟩, m3.trans d4.made⟩
          rw [cc13]
          simp (config := { decide := true }) only [g13, hm, e1, e2, pr, h0, h3, hq, e4, oE_cst, oE_var, oE_bin, oE_cmp, oE_and, oE_or, oE_not, oE_neg, oE_ife, oE_tup, oE_lst, oE_ix, oE_sl, oE_call, oE_mk, oE_met, oE_att, oE_blt, oE_lc, oEs_nil, oEs_cons, oA_nil, oA_e, oA_s, oI_e, oI_rng, oI_zip, oW_eq, oSs_nil, oSs_cons, oS_asg, oS_sub, oS_att, oS_par, oS_exp, oS_ife, oS_for, oS_whl, oS_ret, oS_pass, rb_ok, rt_ok, ft_nx, ft_ret, fl_nx, fl_ret, fo_nx, fo_ret, oo_some, og_some, nox_ok, tru_bl, tru_int, bA_nil, asg_v, c_eq, c_ne, c_in, c_nin, c_lt, c_le, c_gt, c_ge, c_is, c_isn, eq_ss, eq_ii, eq_bb, in_ss, ix_t, ix_r, at_0, at_1, at_2, at_3, at_4, on_get, on_sz, List.getElem?_cons_zero, List.getElem?_cons_succ, List.getElem?_nil, List.set_cons_zero, List.set_cons_succ, Option.map_some, Option.map_none, if_true, if_false, Bool.false_eq_true, decide_true, decide_false, Bool.not_true, Bool.not_false, on_on, List.length_cons, List.length_nil, on_setw, on_pushw, List.nil_append, List.cons_append, seq_new, its_new, lst_new, ix_new, len_new, iv_new, newL_one, newL_two, newL_nil, iv_t, iv_r, oE_lc2, oE_chn, oE_maxd, oS_brk, oS_cnt, oS_unp, ft_cnt, ft_brk, fl_cnt, wipeW]
          rfl
/-- a drawn formula -/
theorem formula_draw [Hf10 T] [Hf11 T] [Hf13 T] [Hf14 T] {moves : Str} {x : W} {names : List Str} : ∀ (n : Nat) (s : Nat) (G : GH), IsBag G b → Wf G → Pool G b moves x names → ∃ F G', xC T (d + n + 1 + 1 + 1 + 1) 14 [.ref b, .str moves, x, .int n, .int s] (on G) = .ok (Fo.w F) (on G') ∧ okA moves names F ∧ F.dep ≤ n + 1 ∧ F.sz + 1 ≤ 2 ^ (n + 1) ∧ Made G G' b := by
  intro n
  induction n with
  | zero =>
    intro s G hb wf p
    obtain ⟨r, G1, e1, r1, dr⟩ := draw_n (T := T) (d := d + 0 + 1 + 1) (many := 9) hb (by decide) (by decide) wf
    have z0 : (((0 : Nat) : Int) = 0) = True := eq_true rfl
    by_cases h8 : (r : Int) < 8
    · obtain ⟨F, G2, e2, _, hd, hz, ok, m2⟩ := atom_draw (T := T) (d := d + 0) dr.bag dr.wf (p.fr dr.made)
      refine ⟨F, G2, ?_, ok, by omega, by rw [hz]; decide, dr.made.trans m2⟩
      rw [cc14]
      have z8 := eq_true h8
      simp (config := { decide := true }) only [g14, e1, z0, z8, e2, oE_cst, oE_var, oE_bin, oE_cmp, oE_and, oE_or, oE_not, oE_neg, oE_ife, oE_tup, oE_lst, oE_ix, oE_sl, oE_call, oE_mk, oE_met, oE_att, oE_blt, oE_lc, oEs_nil, oEs_cons, oA_nil, oA_e, oA_s, oI_e, oI_rng, oI_zip, oW_eq, oSs_nil, oSs_cons, oS_asg, oS_sub, oS_att, oS_par, oS_exp, oS_ife, oS_for, oS_whl, oS_ret, oS_pass, rb_ok, rt_ok, ft_nx, ft_ret, fl_nx, fl_ret, fo_nx, fo_ret, oo_some, og_some, nox_ok, tru_bl, tru_int, bA_nil, asg_v, c_eq, c_ne, c_in, c_nin, c_lt, c_le, c_gt, c_ge, c_is, c_isn, eq_ss, eq_ii, eq_bb, in_ss, ix_t, ix_r, at_0, at_1, at_2, at_3, at_4, on_get, on_sz, List.getElem?_cons_zero, List.getElem?_cons_succ, List.getElem?_nil, List.set_cons_zero, List.set_cons_succ, Option.map_some, Option.map_none, if_true, if_false, Bool.false_eq_true, decide_true, decide_false, Bool.not_true, Bool.not_false, on_on, List.length_cons, List.length_nil, on_setw, on_pushw, List.nil_append, List.cons_append, seq_new, its_new, lst_new, ix_new, len_new, iv_new, newL_one, newL_two, newL_nil, iv_t, iv_r, oE_lc2, oE_chn, oE_maxd, oS_brk, oS_cnt, oS_unp, ft_cnt, ft_brk, fl_cnt, wipeW]
    · have hb2 := dr.bag.fr (Fr.push (S := fun _ => False) dr.wf (.lst [.str "true", .str "false"]))
      obtain ⟨w, G2, e2, hw, d2⟩ := any_l (T := T) (d := d + 0 + 1) (n := G1.sz) (ws := [.str "true", .str "false"]) hb2 (get_push_self _ _) (by have := dr.bag.lt dr.wf; omega) (by decide) (dr.wf.push _)
      have mm : Made G G2 b := (dr.made.push _).trans d2.made
      have z8 := eq_false h8
      rcases List.mem_cons.mp hw with hw | hw
      · subst hw
        refine ⟨.tru, G2, ?_, trivial, by decide, by decide, mm⟩
        rw [cc14]
        simp (config := { decide := true }) only [g14, e1, z0, z8, e2, oE_cst, oE_var, oE_bin, oE_cmp, oE_and, oE_or, oE_not, oE_neg, oE_ife, oE_tup, oE_lst, oE_ix, oE_sl, oE_call, oE_mk, oE_met, oE_att, oE_blt, oE_lc, oEs_nil, oEs_cons, oA_nil, oA_e, oA_s, oI_e, oI_rng, oI_zip, oW_eq, oSs_nil, oSs_cons, oS_asg, oS_sub, oS_att, oS_par, oS_exp, oS_ife, oS_for, oS_whl, oS_ret, oS_pass, rb_ok, rt_ok, ft_nx, ft_ret, fl_nx, fl_ret, fo_nx, fo_ret, oo_some, og_some, nox_ok, tru_bl, tru_int, bA_nil, asg_v, c_eq, c_ne, c_in, c_nin, c_lt, c_le, c_gt, c_ge, c_is, c_isn, eq_ss, eq_ii, eq_bb, in_ss, ix_t, ix_r, at_0, at_1, at_2, at_3, at_4, on_get, on_sz, List.getElem?_cons_zero, List.getElem?_cons_succ, List.getElem?_nil, List.set_cons_zero, List.set_cons_succ, Option.map_some, Option.map_none, if_true, if_false, Bool.false_eq_true, decide_true, decide_false, Bool.not_true, Bool.not_false, on_on, List.length_cons, List.length_nil, on_setw, on_pushw, List.nil_append, List.cons_append, seq_new, its_new, lst_new, ix_new, len_new, iv_new, newL_one, newL_two, newL_nil, iv_t, iv_r, oE_lc2, oE_chn, oE_maxd, oS_brk, oS_cnt, oS_unp, ft_cnt, ft_brk, fl_cnt, wipeW]
        rfl
      · have hw := List.mem_singleton.mp hw
        subst hw
        refine ⟨.fls, G2, ?_, trivial, by decide, by decide, mm⟩
        rw [cc14]
        simp (config := { decide := true }) only [g14, e1, z0, z8, e2, oE_cst, oE_var, oE_bin, oE_cmp, oE_and, oE_or, oE_not, oE_neg, oE_ife, oE_tup, oE_lst, oE_ix, oE_sl, oE_call, oE_mk, oE_met, oE_att, oE_blt, oE_lc, oEs_nil, oEs_cons, oA_nil, oA_e, oA_s, oI_e, oI_rng, oI_zip, oW_eq, oSs_nil, oSs_cons, oS_asg, oS_sub, oS_att, oS_par, oS_exp, oS_ife, oS_for, oS_whl, oS_ret, oS_pass, rb_ok, rt_ok, ft_nx, ft_ret, fl_nx, fl_ret, fo_nx, fo_ret, oo_some, og_some, nox_ok, tru_bl, tru_int, bA_nil, asg_v, c_eq, c_ne, c_in, c_nin, c_lt, c_le, c_gt, c_ge, c_is, c_isn, eq_ss, eq_ii, eq_bb, in_ss, ix_t, ix_r, at_0, at_1, at_2, at_3, at_4, on_get, on_sz, List.getElem?_cons_zero, List.getElem?_cons_succ, List.getElem?_nil, List.set_cons_zero, List.set_cons_succ, Option.map_some, Option.map_none, if_true, if_false, Bool.false_eq_true, decide_true, decide_false, Bool.not_true, Bool.not_false, on_on, List.length_cons, List.length_nil, on_setw, on_pushw, List.nil_append, List.cons_append, seq_new, its_new, lst_new, ix_new, len_new, iv_new, newL_one, newL_two, newL_nil, iv_t, iv_r, oE_lc2, oE_chn, oE_maxd, oS_brk, oS_cnt, oS_unp, ft_cnt, ft_brk, fl_cnt, wipeW]
        rfl
  | succ n ih =>
    intro s G hb wf p
    obtain ⟨r, G1, e1, r1, dr⟩ := draw_n (T := T) (d := d + (n + 1) + 1 + 1) (many := 9) hb (by decide) (by decide) wf
    have p1 := p.fr dr.made
    have z0 : (((n + 1 : Nat) : Int) = 0) = False := eq_false (by omega)
    have hsub : ((n + 1 : Nat) : Int) - 1 = (n : Nat) := by omega
    have pw : 2 ^ (n + 1 + 1) = 2 ^ (n + 1) + 2 ^ (n + 1) := by rw [Nat.pow_succ]; omega
    have pp : 2 ≤ 2 ^ (n + 1) := by
      have : 0 < 2 ^ n := Nat.two_pow_pos n
      rw [Nat.pow_succ]
      omega
    by_cases h2 : (r : Int) < 2
    · obtain ⟨F, G2, e2, _, hd, hz, ok, m2⟩ := atom_draw (T := T) (d := d + (n + 1)) dr.bag dr.wf p1
      refine ⟨F, G2, ?_, ok, by omega, by omega, dr.made.trans m2⟩
      rw [cc14]
      have z2 := eq_true h2
      have z8 : ((r : Int) < 8) = True := eq_true (by omega)
      simp (config := { decide := true }) only [g14, e1, z0, z2, z8, e2, oE_cst, oE_var, oE_bin, oE_cmp, oE_and, oE_or, oE_not, oE_neg, oE_ife, oE_tup, oE_lst, oE_ix, oE_sl, oE_call, oE_mk, oE_met, oE_att, oE_blt, oE_lc, oEs_nil, oEs_cons, oA_nil, oA_e, oA_s, oI_e, oI_rng, oI_zip, oW_eq, oSs_nil, oSs_cons, oS_asg, oS_sub, oS_att, oS_par, oS_exp, oS_ife, oS_for, oS_whl, oS_ret, oS_pass, rb_ok, rt_ok, ft_nx, ft_ret, fl_nx, fl_ret, fo_nx, fo_ret, oo_some, og_some, nox_ok, tru_bl, tru_int, bA_nil, asg_v, c_eq, c_ne, c_in, c_nin, c_lt, c_le, c_gt, c_ge, c_is, c_isn, eq_ss, eq_ii, eq_bb, in_ss, ix_t, ix_r, at_0, at_1, at_2, at_3, at_4, on_get, on_sz, List.getElem?_cons_zero, List.getElem?_cons_succ, List.getElem?_nil, List.set_cons_zero, List.set_cons_succ, Option.map_some, Option.map_none, if_true, if_false, Bool.false_eq_true, decide_true, decide_false, Bool.not_true, Bool.not_false, on_on, List.length_cons, List.length_nil, on_setw, on_pushw, List.nil_append, List.cons_append, seq_new, its_new, lst_new, ix_new, len_new, iv_new, newL_one, newL_two, newL_nil, iv_t, iv_r, oE_lc2, oE_chn, oE_maxd, oS_brk, oS_cnt, oS_unp, ft_cnt, ft_brk, fl_cnt, wipeW]
    · have z2 := eq_false h2
      have ih' : ∀ (s : Nat) (G : GH), IsBag G b → Wf G → Pool G b moves x names → ∃ F G', xC T (d + (n + 1) + 1 + 1 + 1) 14 [.ref b, .str moves, x, .int n, .int s] (on G) = .ok (Fo.w F) (on G') ∧ okA moves names F ∧ F.dep ≤ n + 1 ∧ F.sz + 1 ≤ 2 ^ (n + 1) ∧ Made G G' b := ih
      by_cases h5 : (r : Int) < 5 ∧ 0 < s
      · obtain ⟨s, rfl⟩ : ∃ t, s = t + 1 := ⟨s - 1, by omega⟩
        obtain ⟨F, G2, e2, ok, q2, q3, m2⟩ := ih' s G1 dr.bag dr.wf p1
        refine ⟨.shown F, G2, ?_, ok, by simp only [Fo.dep]; omega, by simp only [Fo.sz]; omega, dr.made.trans m2⟩
        rw [cc14]
        have z5 := eq_true h5.1
        have zs : ((0 : Int) < ((s + 1 : Nat) : Int)) = True := eq_true (by omega)
        have hss : ((s + 1 : Nat) : Int) - 1 = (s : Nat) := by omega
        simp (config := { decide := true }) only [g14, e1, z0, z2, z5, zs, b_sub, hsub, hss, e2, oE_cst, oE_var, oE_bin, oE_cmp, oE_and, oE_or, oE_not, oE_neg, oE_ife, oE_tup, oE_lst, oE_ix, oE_sl, oE_call, oE_mk, oE_met, oE_att, oE_blt, oE_lc, oEs_nil, oEs_cons, oA_nil, oA_e, oA_s, oI_e, oI_rng, oI_zip, oW_eq, oSs_nil, oSs_cons, oS_asg, oS_sub, oS_att, oS_par, oS_exp, oS_ife, oS_for, oS_whl, oS_ret, oS_pass, rb_ok, rt_ok, ft_nx, ft_ret, fl_nx, fl_ret, fo_nx, fo_ret, oo_some, og_some, nox_ok, tru_bl, tru_int, bA_nil, asg_v, c_eq, c_ne, c_in, c_nin, c_lt, c_le, c_gt, c_ge, c_is, c_isn, eq_ss, eq_ii, eq_bb, in_ss, ix_t, ix_r, at_0, at_1, at_2, at_3, at_4, on_get, on_sz, List.getElem?_cons_zero, List.getElem?_cons_succ, List.getElem?_nil, List.set_cons_zero, List.set_cons_succ, Option.map_some, Option.map_none, if_true, if_false, Bool.false_eq_true, decide_true, decide_false, Bool.not_true, Bool.not_false, on_on, List.length_cons, List.length_nil, on_setw, on_pushw, List.nil_append, List.cons_append, seq_new, its_new, lst_new, ix_new, len_new, iv_new, newL_one, newL_two, newL_nil, iv_t, iv_r, oE_lc2, oE_chn, oE_maxd, oS_brk, oS_cnt, oS_unp, ft_cnt, ft_brk, fl_cnt, wipeW]
        rfl
      · have hz : ((r : Int) < 5) = False ∨ (((r : Int) < 5) = True ∧ ((0 : Int) < (s : Nat)) = False) := by
          by_cases h : (r : Int) < 5
          · exact .inr ⟨eq_true h, eq_false (by omega)⟩
          · exact .inl (eq_false h)
        by_cases h6 : (r : Int) = 5
        · obtain ⟨F, G2, e2, ok, q2, q3, m2⟩ := ih' s G1 dr.bag dr.wf p1
          have z6 := eq_true h6
          refine ⟨.not F, G2, ?_, ok, by simp only [Fo.dep]; omega, by simp only [Fo.sz]; omega, dr.made.trans m2⟩
          rw [cc14]
          rcases hz with z5 | ⟨z5, zs⟩
          · simp (config := { decide := true }) only [g14, e1, z0, z2, z5, z6, b_sub, hsub, e2, oE_cst, oE_var, oE_bin, oE_cmp, oE_and, oE_or, oE_not, oE_neg, oE_ife, oE_tup, oE_lst, oE_ix, oE_sl, oE_call, oE_mk, oE_met, oE_att, oE_blt, oE_lc, oEs_nil, oEs_cons, oA_nil, oA_e, oA_s, oI_e, oI_rng, oI_zip, oW_eq, oSs_nil, oSs_cons, oS_asg, oS_sub, oS_att, oS_par, oS_exp, oS_ife, oS_for, oS_whl, oS_ret, oS_pass, rb_ok, rt_ok, ft_nx, ft_ret, fl_nx, fl_ret, fo_nx, fo_ret, oo_some, og_some, nox_ok, tru_bl, tru_int, bA_nil, asg_v, c_eq, c_ne, c_in, c_nin, c_lt, c_le, c_gt, c_ge, c_is, c_isn, eq_ss, eq_ii, eq_bb, in_ss, ix_t, ix_r, at_0, at_1, at_2, at_3, at_4, on_get, on_sz, List.getElem?_cons_zero, List.getElem?_cons_succ, List.getElem?_nil, List.set_cons_zero, List.set_cons_succ, Option.map_some, Option.map_none, if_true, if_false, Bool.false_eq_true, decide_true, decide_false, Bool.not_true, Bool.not_false, on_on, List.length_cons, List.length_nil, on_setw, on_pushw, List.nil_append, List.cons_append, seq_new, its_new, lst_new, ix_new, len_new, iv_new, newL_one, newL_two, newL_nil, iv_t, iv_r, oE_lc2, oE_chn, oE_maxd, oS_brk, oS_cnt, oS_unp, ft_cnt, ft_brk, fl_cnt, wipeW]
            rfl
          · simp (config := { decide := true }) only [g14, e1, z0, z2, z5, zs, z6, b_sub, hsub, e2, oE_cst, oE_var, oE_bin, oE_cmp, oE_and, oE_or, oE_not, oE_neg, oE_ife, oE_tup, oE_lst, oE_ix, oE_sl, oE_call, oE_mk, oE_met, oE_att, oE_blt, oE_lc, oEs_nil, oEs_cons, oA_nil, oA_e, oA_s, oI_e, oI_rng, oI_zip, oW_eq, oSs_nil, oSs_cons, oS_asg, oS_sub, oS_att, oS_par, oS_exp, oS_ife, oS_for, oS_whl, oS_ret, oS_pass, rb_ok, rt_ok, ft_nx, ft_ret, fl_nx, fl_ret, fo_nx, fo_ret, oo_some, og_some, nox_ok, tru_bl, tru_int, bA_nil, asg_v, c_eq, c_ne, c_in, c_nin, c_lt, c_le, c_gt, c_ge, c_is, c_isn, eq_ss, eq_ii, eq_bb, in_ss, ix_t, ix_r, at_0, at_1, at_2, at_3, at_4, on_get, on_sz, List.getElem?_cons_zero, List.getElem?_cons_succ, List.getElem?_nil, List.set_cons_zero, List.set_cons_succ, Option.map_some, Option.map_none, if_true, if_false, Bool.false_eq_true, decide_true, decide_false, Bool.not_true, Bool.not_false, on_on, List.length_cons, List.length_nil, on_setw, on_pushw, List.nil_append, List.cons_append, seq_new, its_new, lst_new, ix_new, len_new, iv_new, newL_one, newL_two, newL_nil, iv_t, iv_r, oE_lc2, oE_chn, oE_maxd, oS_brk, oS_cnt, oS_unp, ft_cnt, ft_brk, fl_cnt, wipeW]
            rfl
        · have z6 := eq_false h6
          obtain ⟨F1, G2, e2, ok1, q2, q3, m2⟩ := ih' s G1 dr.bag dr.wf p1
          obtain ⟨F2, G3, e3, ok2, t2, t3, m3⟩ := ih' s G2 m2.bag m2.wf (p1.fr m2)
          let G4 := G3.push (.lst [F1.w, F2.w])
          have m4 : Made G G4 b := ((dr.made.trans m2).trans m3).push _
          have m5 : Made G (G4.push (.lst [.str "and", .str "or"])) b := m4.push _
          obtain ⟨w, G6, e6, hw, d6⟩ := any_l (T := T) (d := d + (n + 1) + 1) (n := G4.sz) (ws := [.str "and", .str "or"]) m5.bag (get_push_self _ _) (by have := m4.bag.lt m4.wf; omega) (by decide) m5.wf
          have g4 : G4.get G3.sz = some (.lst [F1.w, F2.w]) := get_push_self _ _
          have lt3 : b < G3.sz := m3.bag.lt m3.wf
          have g6 : G6.get G3.sz = some (.lst [F1.w, F2.w]) := d6.fr.get ((Gr.new m4.wf _).get g4) (by omega)
          have ix6 : ∀ {j : Int}, ixop (on G6) (.ref G3.sz) (.int j) = L2.atI [F1.w, F2.w] j := ix_lst g6
          have mm : Made G G6 b := m5.trans d6.made
          have two : rngOf [.int 2] = some [.int 0, .int 1] := rfl
          have i0 : IV.at (on G1) (.one (.sq [.int 0, .int 1])) 0 = some (some (.int 0)) := rfl
          have i1 : IV.at (on G2) (.one (.sq [.int 0, .int 1])) 1 = some (some (.int 1)) := rfl
          have i2 : IV.at (on G3) (.one (.sq [.int 0, .int 1])) 2 = some none := rfl
          have hd : max F1.dep F2.dep + 1 ≤ n + 1 + 1 := by omega
          have hs : F1.sz + F2.sz + 1 + 1 ≤ 2 ^ (n + 1 + 1) := by omega
          rcases List.mem_cons.mp hw with hw | hw
          · subst hw
            refine ⟨.and F1 F2, G6, ?_, ⟨ok1, ok2⟩, hd, hs, mm⟩
            rw [cc14]
            rcases hz with z5 | ⟨z5, zs⟩
            · simp (config := { decide := true }) only [g14, e1, z0, z2, z5, z6, b_sub, hsub, two, xL_go0 i0 asg_v, e2, xL_go0 i1 asg_v, e3, xL_end i2, e6, ix6, G4, oE_cst, oE_var, oE_bin, oE_cmp, oE_and, oE_or, oE_not, oE_neg, oE_ife, oE_tup, oE_lst, oE_ix, oE_sl, oE_call, oE_mk, oE_met, oE_att, oE_blt, oE_lc, oEs_nil, oEs_cons, oA_nil, oA_e, oA_s, oI_e, oI_rng, oI_zip, oW_eq, oSs_nil, oSs_cons, oS_asg, oS_sub, oS_att, oS_par, oS_exp, oS_ife, oS_for, oS_whl, oS_ret, oS_pass, rb_ok, rt_ok, ft_nx, ft_ret, fl_nx, fl_ret, fo_nx, fo_ret, oo_some, og_some, nox_ok, tru_bl, tru_int, bA_nil, asg_v, c_eq, c_ne, c_in, c_nin, c_lt, c_le, c_gt, c_ge, c_is, c_isn, eq_ss, eq_ii, eq_bb, in_ss, ix_t, ix_r, at_0, at_1, at_2, at_3, at_4, on_get, on_sz, List.getElem?_cons_zero, List.getElem?_cons_succ, List.getElem?_nil, List.set_cons_zero, List.set_cons_succ, Option.map_some, Option.map_none, if_true, if_false, Bool.false_eq_true, decide_true, decide_false, Bool.not_true, Bool.not_false, on_on, List.length_cons, List.length_nil, on_setw, on_pushw, List.nil_append, List.cons_append, seq_new, its_new, lst_new, ix_new, len_new, iv_new, newL_one, newL_two, newL_nil, iv_t, iv_r, oE_lc2, oE_chn, oE_maxd, oS_brk, oS_cnt, oS_unp, ft_cnt, ft_brk, fl_cnt, wipeW]
              rfl
            · simp (config := { decide := true }) only [g14, e1, z0, z2, z5, zs, z6, b_sub, hsub, two, xL_go0 i0 asg_v, e2, xL_go0 i1 asg_v, e3, xL_end i2, e6, ix6, G4, oE_cst, oE_var, oE_bin, oE_cmp, oE_and, oE_or, oE_not, oE_neg, oE_ife, oE_tup, oE_lst, oE_ix, oE_sl, oE_call, oE_mk, oE_met, oE_att, oE_blt, oE_lc, oEs_nil, oEs_cons, oA_nil, oA_e, oA_s, oI_e, oI_rng, oI_zip, oW_eq, oSs_nil, oSs_cons, oS_asg, oS_sub, oS_att, oS_par, oS_exp, oS_ife, oS_for, oS_whl, oS_ret, oS_pass, rb_ok, rt_ok, ft_nx, ft_ret, fl_nx, fl_ret, fo_nx, fo_ret, oo_some, og_some, nox_ok, tru_bl, tru_int, bA_nil, asg_v, c_eq, c_ne, c_in, c_nin, c_lt, c_le, c_gt, c_ge, c_is, c_isn, eq_ss, eq_ii, eq_bb, in_ss, ix_t, ix_r, at_0, at_1, at_2, at_3, at_4, on_get, on_sz, List.getElem?_cons_zero, List.getElem?_cons_succ, List.getElem?_nil, List.set_cons_zero, List.set_cons_succ, Option.map_some, Option.map_none, if_true, if_false, Bool.false_eq_true, decide_true, decide_false, Bool.not_true, Bool.not_false, on_on, List.length_cons, List.length_nil, on_setw, on_pushw, List.nil_append, List.cons_append, seq_new, its_new, lst_new, ix_new, len_new, iv_new, newL_one, newL_two, newL_nil, iv_t, iv_r, oE_lc2, oE_chn, oE_maxd, oS_brk, oS_cnt, oS_unp, ft_cnt, ft_brk, fl_cnt, wipeW]
              rfl
          · have hw := List.mem_singleton.mp hw
            subst hw
            refine ⟨.or F1 F2, G6, ?_, ⟨ok1, ok2⟩, hd, hs, mm⟩
            rw [cc14]
            rcases hz with z5 | ⟨z5, zs⟩
            · simp (config := { decide := true }) only [g14, e1, z0, z2, z5, z6, b_sub, hsub, two, xL_go0 i0 asg_v, e2, xL_go0 i1 asg_v, e3, xL_end i2, e6, ix6, G4, oE_cst, oE_var, oE_bin, oE_cmp, oE_and, oE_or, oE_not, oE_neg, oE_ife, oE_tup, oE_lst, oE_ix, oE_sl, oE_call, oE_mk, oE_met, oE_att, oE_blt, oE_lc, oEs_nil, oEs_cons, oA_nil, oA_e, oA_s, oI_e, oI_rng, oI_zip, oW_eq, oSs_nil, oSs_cons, oS_asg, oS_sub, oS_att, oS_par, oS_exp, oS_ife, oS_for, oS_whl, oS_ret, oS_pass, rb_ok, rt_ok, ft_nx, ft_ret, fl_nx, fl_ret, fo_nx, fo_ret, oo_some, og_some, nox_ok, tru_bl, tru_int, bA_nil, asg_v, c_eq, c_ne, c_in, c_nin, c_lt, c_le, c_gt, c_ge, c_is, c_isn, eq_ss, eq_ii, eq_bb, in_ss, ix_t, ix_r, at_0, at_1, at_2, at_3, at_4, on_get, on_sz, List.getElem?_cons_zero, List.getElem?_cons_succ, List.getElem?_nil, List.set_cons_zero, List.set_cons_succ, Option.map_some, Option.map_none, if_true, if_false, Bool.false_eq_true, decide_true, decide_false, Bool.not_true, Bool.not_false, on_on, List.length_cons, List.length_nil, on_setw, on_pushw, List.nil_append, List.cons_append, seq_new, its_new, lst_new, ix_new, len_new, iv_new, newL_one, newL_two, newL_nil, iv_t, iv_r, oE_lc2, oE_chn, oE_maxd, oS_brk, oS_cnt, oS_unp, ft_cnt, ft_brk, fl_cnt, wipeW]
              rfl
            · simp (config := { decide := true }) only [g14, e1, z0, z2, z5, zs, z6, b_sub, hsub, two, xL_go0 i0 asg_v, e2, xL_go0 i1 asg_v, e3, xL_end i2, e6, ix6, G4, oE_cst, oE_var, oE_bin, oE_cmp, oE_and, oE_or, oE_not, oE_neg, oE_ife, oE_tup, oE_lst, oE_ix, oE_sl, oE_call, oE_mk, oE_met, oE_att, oE_blt, oE_lc, oEs_nil, oEs_cons, oA_nil, oA_e, oA_s, oI_e, oI_rng, oI_zip, oW_eq, oSs_nil, oSs_cons, oS_asg, oS_sub, oS_att, oS_par, oS_exp, oS_ife, oS_for, oS_whl, oS_ret, oS_pass, rb_ok, rt_ok, ft_nx, ft_ret, fl_nx, fl_ret, fo_nx, fo_ret, oo_some, og_some, nox_ok, tru_bl, tru_int, bA_nil, asg_v, c_eq, c_ne, c_in, c_nin, c_lt, c_le, c_gt, c_ge, c_is, c_isn, eq_ss, eq_ii, eq_bb, in_ss, ix_t, ix_r, at_0, at_1, at_2, at_3, at_4, on_get, on_sz, List.getElem?_cons_zero, List.getElem?_cons_succ, List.getElem?_nil, List.set_cons_zero, List.set_cons_succ, Option.map_some, Option.map_none, if_true, if_false, Bool.false_eq_true, decide_true, decide_false, Bool.not_true, Bool.not_false, on_on, List.length_cons, List.length_nil, on_setw, on_pushw, List.nil_append, List.cons_append, seq_new, its_new, lst_new, ix_new, len_new, iv_new, newL_one, newL_two, newL_nil, iv_t, iv_r, oE_lc2, oE_chn, oE_maxd, oS_brk, oS_cnt, oS_unp, ft_cnt, ft_brk, fl_cnt, wipeW]
              rfl
end
end PM

set_option maxHeartbeats 4000000
/-! FoB: the program's functions on formulas. -/
namespace PM
open PySem
/-- a call that answers with a new list -/
def NL (T : Tb) (d f : Nat) (args : List W) (G : GH) (ws : List W) : Prop := ∃ m G', xC T d f args (on G) = .ok (.ref m) (on G') ∧ G'.get m = some (.lst ws) ∧ G.sz ≤ m ∧ Gr G G'
namespace Fo
def isSh : Fo → Bool
  | shown _ => true | _ => false
def isLt : Fo → Bool
  | ltr _ => true | _ => false
def parts : Fo → List Fo
  | shown f => shown f :: f.parts | not f => f.parts | and f g => f.parts ++ g.parts | or f g => f.parts ++ g.parts | _ => []
def atoms : Fo → List Fo
  | shown f => f.atoms | not f => f.atoms | and f g => f.atoms ++ g.atoms | or f g => f.atoms ++ g.atoms | tru => [] | fls => [] | a => [a]
def guard : Fo → Bool
  | shown _ => true | not f => f.guard | and f g => f.guard && g.guard | or f g => f.guard && g.guard | tru => true | fls => true | _ => false
theorem parts_eq (f : Fo) : f.parts = (if f.isSh = true then [f] else []) ++ f.subs.flatMap parts := by cases f <;> simp [parts, isSh, subs]
theorem atoms_eq (f : Fo) : f.atoms = if f.isAt = true then [f] else f.subs.flatMap atoms := by cases f <;> simp [atoms, isAt, subs]
theorem guard_eq (f : Fo) : f.guard = (!f.isAt && (f.isSh || f.subs.all guard)) := by cases f <;> simp [guard, isAt, isSh, subs]
theorem parts_len : ∀ f : Fo, f.parts.length ≤ f.sz
  | shown f => by have := parts_len f; simp only [parts, sz, List.length_cons]; omega
  | not f => by have := parts_len f; simp only [parts, sz]; omega
  | and f g => by have := parts_len f; have := parts_len g; simp only [parts, sz, List.length_append]; omega
  | or f g => by have := parts_len f; have := parts_len g; simp only [parts, sz, List.length_append]; omega
  | tru => Nat.zero_le _
  | fls => Nat.zero_le _
  | ltr _ => Nat.zero_le _
  | mine _ => Nat.zero_le _
  | yours _ => Nat.zero_le _
  | yto _ _ => Nat.zero_le _
theorem atoms_len : ∀ f : Fo, f.atoms.length ≤ f.sz
  | shown f => by have := atoms_len f; simp only [atoms, sz]; omega
  | not f => by have := atoms_len f; simp only [atoms, sz]; omega
  | and f g => by have := atoms_len f; have := atoms_len g; simp only [atoms, sz, List.length_append]; omega
  | or f g => by have := atoms_len f; have := atoms_len g; simp only [atoms, sz, List.length_append]; omega
  | tru => Nat.zero_le _
  | fls => Nat.zero_le _
  | ltr _ => Nat.le_refl _
  | mine _ => Nat.le_refl _
  | yours _ => Nat.le_refl _
  | yto _ _ => Nat.le_refl _
theorem sub_sz {α : Type} (h : Fo → List α) (hl : ∀ f, (h f).length ≤ f.sz) (f : Fo) : (f.subs.map fun g => (h g).length).sum < f.sz := by
  cases f with
  | shown f => have := hl f; simp [subs, sz]; omega
  | not f => have := hl f; simp [subs, sz]; omega
  | and f g => have := hl f; have := hl g; simp [subs, sz]; omega
  | or f g => have := hl f; have := hl g; simp [subs, sz]; omega
  | _ => simp [subs, sz]
theorem dep_max (f : Fo) : (maxI (f.subs.map fun g => (g.dep : Int)) = none ∧ f.dep = 1) ∨ maxI (f.subs.map fun g => (g.dep : Int)) = some ((f.dep : Int) - 1) := by
  cases f with
  | and f g =>
    refine .inr ?_
    show some (max (f.dep : Int) (g.dep : Int)) = some (((max f.dep g.dep + 1 : Nat) : Int) - 1)
    congr 1
    omega
  | or f g =>
    refine .inr ?_
    show some (max (f.dep : Int) (g.dep : Int)) = some (((max f.dep g.dep + 1 : Nat) : Int) - 1)
    congr 1
    omega
  | shown f =>
    refine .inr ?_
    show some (f.dep : Int) = some (((f.dep + 1 : Nat) : Int) - 1)
    congr 1
    omega
  | not f =>
    refine .inr ?_
    show some (f.dep : Int) = some (((f.dep + 1 : Nat) : Int) - 1)
    congr 1
    omega
  | _ => exact .inl ⟨rfl, rfl⟩
/-- the words there are -/
inductive Kd where
  | tru | fls | ltr | mine | yours | shown | not | and | or
def Kd.word : Kd → Str
  | tru => "true" | fls => "false" | ltr => "letter" | mine => "mine" | yours => "yours" | shown => "shown" | not => "not" | and => "and" | or => "or"
def kd : Fo → Kd
  | .tru => .tru | .fls => .fls | .ltr _ => .ltr | .mine _ => .mine | .yours _ => .yours | .yto _ _ => .yours | .shown _ => .shown | .not _ => .not | .and _ _ => .and | .or _ _ => .or
theorem word_kd (f : Fo) : f.word = f.kd.word := by cases f <;> rfl
def Kd.is (z : Str) (k : Kd) : Bool := decide (k.word = z)
def Kd.ins (ws : List W) (k : Kd) : Bool := inFl (.str k.word) ws
theorem is_sh (f : Fo) : decide (f.word = ("shown" : Str)) = f.isSh := by
  have h : ∀ k : Kd, decide (k.word = ("shown" : Str)) = (match k with | .shown => true | _ => false) := fun k => by cases k <;> decide +kernel
  rw [word_kd, h]
  cases f <;> rfl
theorem is_lt (f : Fo) : decide (f.word = ("letter" : Str)) = f.isLt := by
  have h : ∀ k : Kd, decide (k.word = ("letter" : Str)) = (match k with | .ltr => true | _ => false) := fun k => by cases k <;> decide +kernel
  rw [word_kd, h]
  cases f <;> rfl
theorem in_at {G : GH} (f : Fo) : inW G (.str f.word) (.tup [.str "letter", .str "mine", .str "yours"]) = some f.isAt := by
  have h : ∀ k : Kd, inFl (.str k.word) [.str "letter", .str "mine", .str "yours"] = (match k with | .ltr => true | .mine => true | .yours => true | _ => false) := fun k => by cases k <;> decide +kernel
  have e : (match f.kd with | .ltr => true | .mine => true | .yours => true | _ => false) = f.isAt := by cases f <;> rfl
  exact in_t rfl (by rw [word_kd, h, e])
end Fo
theorem cut_1 {x : W} {xs : List W} : cutW (x :: xs) (some 1) none = xs := by
  have : (1 : Int) = ((1 : Nat) : Int) := rfl
  unfold cutW
  rw [this, HT.sIx_nat, HT.sIx_none]
  simp
theorem opt_1 : optI (.int 1) = some (some 1) := rfl
theorem opt_n : optI .non = some none := rfl
section
variable {T : Tb} {d : Nat}
theorem parts_of_ok [Hf0 T] (f : Fo) (G : GH) : xC T (d + 1) 0 [f.w] (on G) = .ok (.tup (f.subs.map Fo.w)) (on G) := by
  rw [cc0, f.w_eq]
  have h1 := f.in_at (G := on G)
  cases h : f.isAt with
  | true =>
    rw [h] at h1
    rw [Fo.subs_at h]
    simp (config := { decide := true }) only [g0, h1, oE_cst, oE_var, oE_bin, oE_cmp, oE_and, oE_or, oE_not, oE_neg, oE_ife, oE_tup, oE_lst, oE_ix, oE_sl, oE_call, oE_mk, oE_met, oE_att, oE_blt, oE_lc, oEs_nil, oEs_cons, oA_nil, oA_e, oA_s, oI_e, oI_rng, oI_zip, oW_eq, oSs_nil, oSs_cons, oS_asg, oS_sub, oS_att, oS_par, oS_exp, oS_ife, oS_for, oS_whl, oS_ret, oS_pass, rb_ok, rt_ok, ft_nx, ft_ret, fl_nx, fl_ret, fo_nx, fo_ret, oo_some, og_some, nox_ok, tru_bl, tru_int, bA_nil, asg_v, c_eq, c_ne, c_in, c_nin, c_lt, c_le, c_gt, c_ge, c_is, c_isn, eq_ss, eq_ii, eq_bb, in_ss, ix_t, ix_r, at_0, at_1, at_2, at_3, at_4, on_get, on_sz, List.getElem?_cons_zero, List.getElem?_cons_succ, List.getElem?_nil, List.set_cons_zero, List.set_cons_succ, Option.map_some, Option.map_none, if_true, if_false, Bool.false_eq_true, decide_true, decide_false, Bool.not_true, Bool.not_false, on_on, List.length_cons, List.length_nil, on_setw, on_pushw, List.nil_append, List.cons_append, seq_new, its_new, lst_new, ix_new, len_new, iv_new, newL_one, newL_two, newL_nil, iv_t, iv_r, oE_lc2, oE_chn, oE_maxd, oS_brk, oS_cnt, oS_unp, ft_cnt, ft_brk, fl_cnt, wipeW]
    rfl
  | false =>
    rw [h] at h1
    rw [← Fo.tail_subs h]
    simp (config := { decide := true }) only [g0, h1, opt_1, opt_n, sl_t, cut_1, oE_cst, oE_var, oE_bin, oE_cmp, oE_and, oE_or, oE_not, oE_neg, oE_ife, oE_tup, oE_lst, oE_ix, oE_sl, oE_call, oE_mk, oE_met, oE_att, oE_blt, oE_lc, oEs_nil, oEs_cons, oA_nil, oA_e, oA_s, oI_e, oI_rng, oI_zip, oW_eq, oSs_nil, oSs_cons, oS_asg, oS_sub, oS_att, oS_par, oS_exp, oS_ife, oS_for, oS_whl, oS_ret, oS_pass, rb_ok, rt_ok, ft_nx, ft_ret, fl_nx, fl_ret, fo_nx, fo_ret, oo_some, og_some, nox_ok, tru_bl, tru_int, bA_nil, asg_v, c_eq, c_ne, c_in, c_nin, c_lt, c_le, c_gt, c_ge, c_is, c_isn, eq_ss, eq_ii, eq_bb, in_ss, ix_t, ix_r, at_0, at_1, at_2, at_3, at_4, on_get, on_sz, List.getElem?_cons_zero, List.getElem?_cons_succ, List.getElem?_nil, List.set_cons_zero, List.set_cons_succ, Option.map_some, Option.map_none, if_true, if_false, Bool.false_eq_true, decide_true, decide_false, Bool.not_true, Bool.not_false, on_on, List.length_cons, List.length_nil, on_setw, on_pushw, List.nil_append, List.cons_append, seq_new, its_new, lst_new, ix_new, len_new, iv_new, newL_one, newL_two, newL_nil, iv_t, iv_r, oE_lc2, oE_chn, oE_maxd, oS_brk, oS_cnt, oS_unp, ft_cnt, ft_brk, fl_cnt, wipeW]
theorem depth_ok [Hf0 T] [Hf1 T] : ∀ (k : Nat) (f : Fo) (G : GH), Wf G → f.dep ≤ k → ∃ G', xC T (d + k + 1) 1 [f.w] (on G) = .ok (.int (f.dep : Int)) (on G') ∧ Gr G G' := by
  intro k
  induction k with
  | zero => intro f G _ h; have := f.dep_pos; omega
  | succ k ih =>
    intro f G wf hk
    have hp := parts_of_ok (T := T) (d := d + k) f G
    obtain ⟨G2, e2, g2⟩ := xL_map (T := T) (d := d + (k + 1)) (iv := .one (.sq (f.subs.map Fo.w))) (tg := .v 1) (e := .call 1 [.var 1] []) (σ := [some f.w, none]) (vs := [1]) Fo.w (fun g => .int (g.dep : Int)) G f.subs 0 f.subs [] G rfl (by have := f.subs_len; simp; omega) (Gr.refl wf) hat_t fun g hg H hG => by
      obtain ⟨H2, e, g2⟩ := ih g H hG.w (by have := Fo.dep_sub hg; omega)
      have e' : xC T (d + (k + 1)) 1 [g.w] (on H) = .ok (.int (g.dep : Int)) (on H2) := e
      exact ⟨_, H2, asg_v, by simp (config := { decide := true }) only [e', oE_cst, oE_var, oE_bin, oE_cmp, oE_and, oE_or, oE_not, oE_neg, oE_ife, oE_tup, oE_lst, oE_ix, oE_sl, oE_call, oE_mk, oE_met, oE_att, oE_blt, oE_lc, oEs_nil, oEs_cons, oA_nil, oA_e, oA_s, oI_e, oI_rng, oI_zip, oW_eq, oSs_nil, oSs_cons, oS_asg, oS_sub, oS_att, oS_par, oS_exp, oS_ife, oS_for, oS_whl, oS_ret, oS_pass, rb_ok, rt_ok, ft_nx, ft_ret, fl_nx, fl_ret, fo_nx, fo_ret, oo_some, og_some, nox_ok, tru_bl, tru_int, bA_nil, asg_v, c_eq, c_ne, c_in, c_nin, c_lt, c_le, c_gt, c_ge, c_is, c_isn, eq_ss, eq_ii, eq_bb, in_ss, ix_t, ix_r, at_0, at_1, at_2, at_3, at_4, on_get, on_sz, List.getElem?_cons_zero, List.getElem?_cons_succ, List.getElem?_nil, List.set_cons_zero, List.set_cons_succ, Option.map_some, Option.map_none, if_true, if_false, Bool.false_eq_true, decide_true, decide_false, Bool.not_true, Bool.not_false, on_on, List.length_cons, List.length_nil, on_setw, on_pushw, List.nil_append, List.cons_append, seq_new, its_new, lst_new, ix_new, len_new, iv_new, newL_one, newL_two, newL_nil, iv_t, iv_r, oE_lc2, oE_chn, oE_maxd, oS_brk, oS_cnt, oS_unp, ft_cnt, ft_brk, fl_cnt, wipeW], g2⟩
    rw [List.nil_append] at e2
    have hp' : xC T (d + (k + 1)) 0 [f.w] (on G) = .ok (.tup (f.subs.map Fo.w)) (on G) := hp
    have hnl := newL_k (G := G2) (ws := f.subs.map fun g => W.int (g.dep : Int)) (by have := f.subs_len; rw [List.length_map]; omega)
    have hi : intsW (f.subs.map fun g => W.int (g.dep : Int)) = some (f.subs.map fun g => (g.dep : Int)) := by
      rw [← intsW_map, List.map_map]
      rfl
    refine ⟨_, ?_, g2.push (.lst (f.subs.map fun g => W.int (g.dep : Int)))⟩
    rcases f.dep_max with ⟨hm, h1⟩ | hm
    · have hs : (1 : Int) + 0 = (f.dep : Int) := by rw [h1]; rfl
      rw [cc1]
      simp (config := { decide := true }) only [g1, hp', e2, hnl, hi, hm, b_add, hs, oE_cst, oE_var, oE_bin, oE_cmp, oE_and, oE_or, oE_not, oE_neg, oE_ife, oE_tup, oE_lst, oE_ix, oE_sl, oE_call, oE_mk, oE_met, oE_att, oE_blt, oE_lc, oEs_nil, oEs_cons, oA_nil, oA_e, oA_s, oI_e, oI_rng, oI_zip, oW_eq, oSs_nil, oSs_cons, oS_asg, oS_sub, oS_att, oS_par, oS_exp, oS_ife, oS_for, oS_whl, oS_ret, oS_pass, rb_ok, rt_ok, ft_nx, ft_ret, fl_nx, fl_ret, fo_nx, fo_ret, oo_some, og_some, nox_ok, tru_bl, tru_int, bA_nil, asg_v, c_eq, c_ne, c_in, c_nin, c_lt, c_le, c_gt, c_ge, c_is, c_isn, eq_ss, eq_ii, eq_bb, in_ss, ix_t, ix_r, at_0, at_1, at_2, at_3, at_4, on_get, on_sz, List.getElem?_cons_zero, List.getElem?_cons_succ, List.getElem?_nil, List.set_cons_zero, List.set_cons_succ, Option.map_some, Option.map_none, if_true, if_false, Bool.false_eq_true, decide_true, decide_false, Bool.not_true, Bool.not_false, on_on, List.length_cons, List.length_nil, on_setw, on_pushw, List.nil_append, List.cons_append, seq_new, its_new, lst_new, ix_new, len_new, iv_new, newL_one, newL_two, newL_nil, iv_t, iv_r, oE_lc2, oE_chn, oE_maxd, oS_brk, oS_cnt, oS_unp, ft_cnt, ft_brk, fl_cnt, wipeW]
    · have hs : (1 : Int) + ((f.dep : Int) - 1) = (f.dep : Int) := by omega
      rw [cc1]
      simp (config := { decide := true }) only [g1, hp', e2, hnl, hi, hm, b_add, hs, oE_cst, oE_var, oE_bin, oE_cmp, oE_and, oE_or, oE_not, oE_neg, oE_ife, oE_tup, oE_lst, oE_ix, oE_sl, oE_call, oE_mk, oE_met, oE_att, oE_blt, oE_lc, oEs_nil, oEs_cons, oA_nil, oA_e, oA_s, oI_e, oI_rng, oI_zip, oW_eq, oSs_nil, oSs_cons, oS_asg, oS_sub, oS_att, oS_par, oS_exp, oS_ife, oS_for, oS_whl, oS_ret, oS_pass, rb_ok, rt_ok, ft_nx, ft_ret, fl_nx, fl_ret, fo_nx, fo_ret, oo_some, og_some, nox_ok, tru_bl, tru_int, bA_nil, asg_v, c_eq, c_ne, c_in, c_nin, c_lt, c_le, c_gt, c_ge, c_is, c_isn, eq_ss, eq_ii, eq_bb, in_ss, ix_t, ix_r, at_0, at_1, at_2, at_3, at_4, on_get, on_sz, List.getElem?_cons_zero, List.getElem?_cons_succ, List.getElem?_nil, List.set_cons_zero, List.set_cons_succ, Option.map_some, Option.map_none, if_true, if_false, Bool.false_eq_true, decide_true, decide_false, Bool.not_true, Bool.not_false, on_on, List.length_cons, List.length_nil, on_setw, on_pushw, List.nil_append, List.cons_append, seq_new, its_new, lst_new, ix_new, len_new, iv_new, newL_one, newL_two, newL_nil, iv_t, iv_r, oE_lc2, oE_chn, oE_maxd, oS_brk, oS_cnt, oS_unp, ft_cnt, ft_brk, fl_cnt, wipeW]
theorem shown_parts_ok [Hf0 T] [Hf2 T] [HBm T .lst 0 .extend] : ∀ (k : Nat) (f : Fo) (G : GH), Wf G → f.dep ≤ k → f.sz ≤ 5000 → NL T (d + k + 1) 2 [f.w] G (f.parts.map Fo.w) := by
  intro k
  induction k with
  | zero => intro f G _ h; have := f.dep_pos; omega
  | succ k ih =>
    intro f G wf hk hz
    let pre : List Fo := if f.isSh = true then [f] else []
    let G1 := G.push (.lst (pre.map Fo.w))
    have g1 : Gr G G1 := Gr.new wf _
    have hp := parts_of_ok (T := T) (d := d + k) f G1
    have hp' : xC T (d + (k + 1)) 0 [f.w] (on G1) = .ok (.tup (f.subs.map Fo.w)) (on G1) := hp
    obtain ⟨σ', G2, e2, hs, hg, gg⟩ := xF_seq (T := T) (d := d + (k + 1)) (iv := .one (.sq (f.subs.map Fo.w))) (tg := .v 2) (b := [.exp (.met (.var 1) 0 [.call 2 [.var 2] []])]) (f.subs.map Fo.w)
      (fun j σ H => (∃ y, σ = [some f.w, some (.ref G.sz), y]) ∧ H.get G.sz = some (.lst ((pre ++ (f.subs.take j).flatMap Fo.parts).map Fo.w)) ∧ Gr G H) (fun j σ H _ => rfl) (fun j w σ H hj hI => by
        obtain ⟨⟨y, rfl⟩, hr, gH⟩ := hI
        have hlt : j < f.subs.length := by
          have := (List.getElem?_eq_some_iff.mp hj).1
          rwa [List.length_map] at this
        rw [List.getElem?_map, List.getElem?_eq_getElem hlt] at hj
        cases hj
        have hm : f.subs[j] ∈ f.subs := List.getElem_mem hlt
        have hsz := Fo.sz_sub hm
        obtain ⟨m, H2, e, hg2, hms, gr2⟩ := ih f.subs[j] H gH.w (by have := Fo.dep_sub hm; omega) (by omega)
        have e' : xC T (d + (k + 1)) 2 [f.subs[j].w] (on H) = .ok (.ref m) (on H2) := e
        have hr2 := gr2.get hr
        have mk := mk_lst (T := T) (m := 0) (k := .extend) hr HBm.h
        have htk : f.subs.take (j + 1) = f.subs.take j ++ [f.subs[j]] := by rw [List.take_add_one, List.getElem?_eq_getElem hlt]; rfl
        have hlen : ((pre ++ (f.subs.take (j + 1)).flatMap Fo.parts)).length ≤ 5000 := by
          have h1 : ((f.subs.take (j + 1)).flatMap Fo.parts).length ≤ (f.subs.flatMap Fo.parts).length := by
            conv => rhs; rw [← List.take_append_drop (j + 1) f.subs]
            rw [List.flatMap_append, List.length_append]
            omega
          have h2 := Fo.parts_len f
          rw [Fo.parts_eq, List.length_append] at h2
          rw [List.length_append]
          show (if f.isSh = true then [f] else []).length + _ ≤ _
          omega
        rw [htk, List.flatMap_append, ← List.append_assoc, List.length_append, List.flatMap_singleton] at hlen
        have ex := extend_l hr2 hg2 (by rw [List.length_map, List.length_map]; omega)
        refine ⟨[some f.w, some (.ref G.sz), some f.subs[j].w], [some f.w, some (.ref G.sz), some f.subs[j].w], H2.set G.sz (.lst ((pre ++ (f.subs.take j).flatMap Fo.parts).map Fo.w ++ f.subs[j].parts.map Fo.w)), rfl, ?_, ⟨_, rfl⟩, ?_, (gH.trans gr2).set wf (Nat.le_refl _) hr2⟩
        · simp (config := { decide := true }) only [mk, e', ex, oE_cst, oE_var, oE_bin, oE_cmp, oE_and, oE_or, oE_not, oE_neg, oE_ife, oE_tup, oE_lst, oE_ix, oE_sl, oE_call, oE_mk, oE_met, oE_att, oE_blt, oE_lc, oEs_nil, oEs_cons, oA_nil, oA_e, oA_s, oI_e, oI_rng, oI_zip, oW_eq, oSs_nil, oSs_cons, oS_asg, oS_sub, oS_att, oS_par, oS_exp, oS_ife, oS_for, oS_whl, oS_ret, oS_pass, rb_ok, rt_ok, ft_nx, ft_ret, fl_nx, fl_ret, fo_nx, fo_ret, oo_some, og_some, nox_ok, tru_bl, tru_int, bA_nil, asg_v, c_eq, c_ne, c_in, c_nin, c_lt, c_le, c_gt, c_ge, c_is, c_isn, eq_ss, eq_ii, eq_bb, in_ss, ix_t, ix_r, at_0, at_1, at_2, at_3, at_4, on_get, on_sz, List.getElem?_cons_zero, List.getElem?_cons_succ, List.getElem?_nil, List.set_cons_zero, List.set_cons_succ, Option.map_some, Option.map_none, if_true, if_false, Bool.false_eq_true, decide_true, decide_false, Bool.not_true, Bool.not_false, on_on, List.length_cons, List.length_nil, on_setw, on_pushw, List.nil_append, List.cons_append, seq_new, its_new, lst_new, ix_new, len_new, iv_new, newL_one, newL_two, newL_nil, iv_t, iv_r, oE_lc2, oE_chn, oE_maxd, oS_brk, oS_cnt, oS_unp, ft_cnt, ft_brk, fl_cnt, wipeW]
        · rw [get_set_self, htk, List.flatMap_append, List.flatMap_singleton, ← List.append_assoc, ← List.map_append]) (f.subs.map Fo.w).length 0 [some f.w, some (.ref G.sz), none] G1 (Nat.zero_add _) ⟨⟨_, rfl⟩, by rw [List.take_zero, List.flatMap_nil, List.append_nil]; exact get_push_self _ _, g1⟩
    rw [List.length_map, List.take_length] at hg
    obtain ⟨y, rfl⟩ := hs
    refine ⟨G.sz, G2, ?_, by rw [Fo.parts_eq]; exact hg, Nat.le_refl _, gg⟩
    have hsh := f.is_sh
    have hw := f.w_eq
    rw [cc2]
    have hpre : G1 = G.push (.lst (pre.map Fo.w)) := rfl
    have i0 : ixop (on G) f.w (.int 0) = some (.str f.word) := by rw [hw, ix_t, at_0]; rfl
    cases h : f.isSh with
    | true =>
      rw [h] at hsh
      have : pre = [f] := if_pos h
      rw [this] at hpre
      rw [hpre] at e2 hp'
      have hpl : List.map Fo.w [f] = [f.w] := rfl
      rw [hpl] at e2 hp'
      simp (config := { decide := true }) only [g2, i0, hsh, hp', e2, oE_cst, oE_var, oE_bin, oE_cmp, oE_and, oE_or, oE_not, oE_neg, oE_ife, oE_tup, oE_lst, oE_ix, oE_sl, oE_call, oE_mk, oE_met, oE_att, oE_blt, oE_lc, oEs_nil, oEs_cons, oA_nil, oA_e, oA_s, oI_e, oI_rng, oI_zip, oW_eq, oSs_nil, oSs_cons, oS_asg, oS_sub, oS_att, oS_par, oS_exp, oS_ife, oS_for, oS_whl, oS_ret, oS_pass, rb_ok, rt_ok, ft_nx, ft_ret, fl_nx, fl_ret, fo_nx, fo_ret, oo_some, og_some, nox_ok, tru_bl, tru_int, bA_nil, asg_v, c_eq, c_ne, c_in, c_nin, c_lt, c_le, c_gt, c_ge, c_is, c_isn, eq_ss, eq_ii, eq_bb, in_ss, ix_t, ix_r, at_0, at_1, at_2, at_3, at_4, on_get, on_sz, List.getElem?_cons_zero, List.getElem?_cons_succ, List.getElem?_nil, List.set_cons_zero, List.set_cons_succ, Option.map_some, Option.map_none, if_true, if_false, Bool.false_eq_true, decide_true, decide_false, Bool.not_true, Bool.not_false, on_on, List.length_cons, List.length_nil, on_setw, on_pushw, List.nil_append, List.cons_append, seq_new, its_new, lst_new, ix_new, len_new, iv_new, newL_one, newL_two, newL_nil, iv_t, iv_r, oE_lc2, oE_chn, oE_maxd, oS_brk, oS_cnt, oS_unp, ft_cnt, ft_brk, fl_cnt, wipeW]
    | false =>
      rw [h] at hsh
      have : pre = [] := if_neg (by rw [h]; decide)
      rw [this] at hpre
      rw [hpre] at e2 hp'
      rw [List.map_nil] at e2 hp'
      simp (config := { decide := true }) only [g2, i0, hsh, hp', e2, oE_cst, oE_var, oE_bin, oE_cmp, oE_and, oE_or, oE_not, oE_neg, oE_ife, oE_tup, oE_lst, oE_ix, oE_sl, oE_call, oE_mk, oE_met, oE_att, oE_blt, oE_lc, oEs_nil, oEs_cons, oA_nil, oA_e, oA_s, oI_e, oI_rng, oI_zip, oW_eq, oSs_nil, oSs_cons, oS_asg, oS_sub, oS_att, oS_par, oS_exp, oS_ife, oS_for, oS_whl, oS_ret, oS_pass, rb_ok, rt_ok, ft_nx, ft_ret, fl_nx, fl_ret, fo_nx, fo_ret, oo_some, og_some, nox_ok, tru_bl, tru_int, bA_nil, asg_v, c_eq, c_ne, c_in, c_nin, c_lt, c_le, c_gt, c_ge, c_is, c_isn, eq_ss, eq_ii, eq_bb, in_ss, ix_t, ix_r, at_0, at_1, at_2, at_3, at_4, on_get, on_sz, List.getElem?_cons_zero, List.getElem?_cons_succ, List.getElem?_nil, List.set_cons_zero, List.set_cons_succ, Option.map_some, Option.map_none, if_true, if_false, Bool.false_eq_true, decide_true, decide_false, Bool.not_true, Bool.not_false, on_on, List.length_cons, List.length_nil, on_setw, on_pushw, List.nil_append, List.cons_append, seq_new, its_new, lst_new, ix_new, len_new, iv_new, newL_one, newL_two, newL_nil, iv_t, iv_r, oE_lc2, oE_chn, oE_maxd, oS_brk, oS_cnt, oS_unp, ft_cnt, ft_brk, fl_cnt, wipeW]
theorem atoms_in_ok [Hf0 T] [Hf3 T] : ∀ (k : Nat) (f : Fo) (G : GH), Wf G → f.dep ≤ k → f.sz ≤ 5000 → NL T (d + k + 1) 3 [f.w] G (f.atoms.map Fo.w) := by
  intro k
  induction k with
  | zero => intro f G _ h; have := f.dep_pos; omega
  | succ k ih =>
    intro f G wf hk hz
    have hw := f.w_eq
    have i0 : ixop (on G) f.w (.int 0) = some (.str f.word) := by rw [hw, ix_t, at_0]; rfl
    have hin := f.in_at (G := on G)
    cases h : f.isAt with
    | true =>
      rw [h] at hin
      have ha : f.atoms = [f] := by rw [Fo.atoms_eq, if_pos h]
      rw [ha]
      refine ⟨G.sz, G.push (.lst [f.w]), ?_, get_push_self _ _, Nat.le_refl _, Gr.new wf _⟩
      rw [cc3]
      simp (config := { decide := true }) only [g3, i0, hin, oE_cst, oE_var, oE_bin, oE_cmp, oE_and, oE_or, oE_not, oE_neg, oE_ife, oE_tup, oE_lst, oE_ix, oE_sl, oE_call, oE_mk, oE_met, oE_att, oE_blt, oE_lc, oEs_nil, oEs_cons, oA_nil, oA_e, oA_s, oI_e, oI_rng, oI_zip, oW_eq, oSs_nil, oSs_cons, oS_asg, oS_sub, oS_att, oS_par, oS_exp, oS_ife, oS_for, oS_whl, oS_ret, oS_pass, rb_ok, rt_ok, ft_nx, ft_ret, fl_nx, fl_ret, fo_nx, fo_ret, oo_some, og_some, nox_ok, tru_bl, tru_int, bA_nil, asg_v, c_eq, c_ne, c_in, c_nin, c_lt, c_le, c_gt, c_ge, c_is, c_isn, eq_ss, eq_ii, eq_bb, in_ss, ix_t, ix_r, at_0, at_1, at_2, at_3, at_4, on_get, on_sz, List.getElem?_cons_zero, List.getElem?_cons_succ, List.getElem?_nil, List.set_cons_zero, List.set_cons_succ, Option.map_some, Option.map_none, if_true, if_false, Bool.false_eq_true, decide_true, decide_false, Bool.not_true, Bool.not_false, on_on, List.length_cons, List.length_nil, on_setw, on_pushw, List.nil_append, List.cons_append, seq_new, its_new, lst_new, ix_new, len_new, iv_new, newL_one, newL_two, newL_nil, iv_t, iv_r, oE_lc2, oE_chn, oE_maxd, oS_brk, oS_cnt, oS_unp, ft_cnt, ft_brk, fl_cnt, wipeW]
    | false =>
      rw [h] at hin
      have ha : f.atoms = f.subs.flatMap Fo.atoms := by rw [Fo.atoms_eq, if_neg (by rw [h]; decide)]
      have hsum := Fo.sub_sz Fo.atoms Fo.atoms_len f
      have hp : xC T (d + (k + 1)) 0 [f.w] (on G) = .ok (.tup (f.subs.map Fo.w)) (on G) := parts_of_ok (T := T) (d := d + k) f G
      obtain ⟨G2, e2, g2⟩ := xK_map (T := T) (d := d + (k + 1)) (iv := .one (.sq (f.subs.map Fo.w))) (tg := .v 1) (tg1 := .v 2) (it1 := .e (.call 3 [.var 1] [])) (ifs1 := []) (e := .var 2) (σ := [some f.w, none, none]) (vs := [2]) Fo.w (fun g => g.atoms.map Fo.w) G f.subs 0 f.subs [] G rfl
        (by simp only [List.length_map, List.length_nil]; omega) (Gr.refl wf) hat_t fun g hg H acc hG hacc => by
          have hsz := Fo.sz_sub hg
          obtain ⟨m, H2, e, hg2, hms, gr2⟩ := ih g H hG.w (by have := Fo.dep_sub hg; omega) (by omega)
          have e' : xC T (d + (k + 1)) 3 [g.w] (on H) = .ok (.ref m) (on H2) := e
          have iv2 := iv_l hg2
          obtain ⟨H3, e3, g3⟩ := xL_map (T := T) (d := d + (k + 1)) (iv := .one (.live m)) (tg := .v 2) (e := .var 2) (σ := [some f.w, some g.w, none]) (vs := [2]) Fo.w Fo.w H2 g.atoms 0 g.atoms acc H2 rfl (by rw [List.length_map] at hacc; exact hacc) (Gr.refl gr2.w) (hat_l hg2) fun a ha H4 h4 => ⟨_, H4, asg_v, by simp (config := { decide := true }) only [oE_cst, oE_var, oE_bin, oE_cmp, oE_and, oE_or, oE_not, oE_neg, oE_ife, oE_tup, oE_lst, oE_ix, oE_sl, oE_call, oE_mk, oE_met, oE_att, oE_blt, oE_lc, oEs_nil, oEs_cons, oA_nil, oA_e, oA_s, oI_e, oI_rng, oI_zip, oW_eq, oSs_nil, oSs_cons, oS_asg, oS_sub, oS_att, oS_par, oS_exp, oS_ife, oS_for, oS_whl, oS_ret, oS_pass, rb_ok, rt_ok, ft_nx, ft_ret, fl_nx, fl_ret, fo_nx, fo_ret, oo_some, og_some, nox_ok, tru_bl, tru_int, bA_nil, asg_v, c_eq, c_ne, c_in, c_nin, c_lt, c_le, c_gt, c_ge, c_is, c_isn, eq_ss, eq_ii, eq_bb, in_ss, ix_t, ix_r, at_0, at_1, at_2, at_3, at_4, on_get, on_sz, List.getElem?_cons_zero, List.getElem?_cons_succ, List.getElem?_nil, List.set_cons_zero, List.set_cons_succ, Option.map_some, Option.map_none, if_true, if_false, Bool.false_eq_true, decide_true, decide_false, Bool.not_true, Bool.not_false, on_on, List.length_cons, List.length_nil, on_setw, on_pushw, List.nil_append, List.cons_append, seq_new, its_new, lst_new, ix_new, len_new, iv_new, newL_one, newL_two, newL_nil, iv_t, iv_r, oE_lc2, oE_chn, oE_maxd, oS_brk, oS_cnt, oS_unp, ft_cnt, ft_brk, fl_cnt, wipeW], Gr.refl h4.w⟩
          exact ⟨[some f.w, some g.w, none], .one (.live m), H2, H3, rfl, by simp (config := { decide := true }) only [e', iv2, oE_cst, oE_var, oE_bin, oE_cmp, oE_and, oE_or, oE_not, oE_neg, oE_ife, oE_tup, oE_lst, oE_ix, oE_sl, oE_call, oE_mk, oE_met, oE_att, oE_blt, oE_lc, oEs_nil, oEs_cons, oA_nil, oA_e, oA_s, oI_e, oI_rng, oI_zip, oW_eq, oSs_nil, oSs_cons, oS_asg, oS_sub, oS_att, oS_par, oS_exp, oS_ife, oS_for, oS_whl, oS_ret, oS_pass, rb_ok, rt_ok, ft_nx, ft_ret, fl_nx, fl_ret, fo_nx, fo_ret, oo_some, og_some, nox_ok, tru_bl, tru_int, bA_nil, asg_v, c_eq, c_ne, c_in, c_nin, c_lt, c_le, c_gt, c_ge, c_is, c_isn, eq_ss, eq_ii, eq_bb, in_ss, ix_t, ix_r, at_0, at_1, at_2, at_3, at_4, on_get, on_sz, List.getElem?_cons_zero, List.getElem?_cons_succ, List.getElem?_nil, List.set_cons_zero, List.set_cons_succ, Option.map_some, Option.map_none, if_true, if_false, Bool.false_eq_true, decide_true, decide_false, Bool.not_true, Bool.not_false, on_on, List.length_cons, List.length_nil, on_setw, on_pushw, List.nil_append, List.cons_append, seq_new, its_new, lst_new, ix_new, len_new, iv_new, newL_one, newL_two, newL_nil, iv_t, iv_r, oE_lc2, oE_chn, oE_maxd, oS_brk, oS_cnt, oS_unp, ft_cnt, ft_brk, fl_cnt, wipeW], e3, gr2.trans g3⟩
      rw [List.nil_append] at e2
      have hfl : f.subs.flatMap (fun g => g.atoms.map Fo.w) = f.atoms.map Fo.w := by rw [ha, List.map_flatMap]
      rw [hfl] at e2
      have hlen := Fo.atoms_len f
      have hnl := newL_k (G := G2) (ws := f.atoms.map Fo.w) (by rw [List.length_map]; omega)
      refine ⟨G2.sz, G2.push (.lst (f.atoms.map Fo.w)), ?_, get_push_self _ _, g2.le, g2.push _⟩
      rw [cc3]
      simp (config := { decide := true }) only [g3, i0, hin, hp, e2, hnl, oE_cst, oE_var, oE_bin, oE_cmp, oE_and, oE_or, oE_not, oE_neg, oE_ife, oE_tup, oE_lst, oE_ix, oE_sl, oE_call, oE_mk, oE_met, oE_att, oE_blt, oE_lc, oEs_nil, oEs_cons, oA_nil, oA_e, oA_s, oI_e, oI_rng, oI_zip, oW_eq, oSs_nil, oSs_cons, oS_asg, oS_sub, oS_att, oS_par, oS_exp, oS_ife, oS_for, oS_whl, oS_ret, oS_pass, rb_ok, rt_ok, ft_nx, ft_ret, fl_nx, fl_ret, fo_nx, fo_ret, oo_some, og_some, nox_ok, tru_bl, tru_int, bA_nil, asg_v, c_eq, c_ne, c_in, c_nin, c_lt, c_le, c_gt, c_ge, c_is, c_isn, eq_ss, eq_ii, eq_bb, in_ss, ix_t, ix_r, at_0, at_1, at_2, at_3, at_4, on_get, on_sz, List.getElem?_cons_zero, List.getElem?_cons_succ, List.getElem?_nil, List.set_cons_zero, List.set_cons_succ, Option.map_some, Option.map_none, if_true, if_false, Bool.false_eq_true, decide_true, decide_false, Bool.not_true, Bool.not_false, on_on, List.length_cons, List.length_nil, on_setw, on_pushw, List.nil_append, List.cons_append, seq_new, its_new, lst_new, ix_new, len_new, iv_new, newL_one, newL_two, newL_nil, iv_t, iv_r, oE_lc2, oE_chn, oE_maxd, oS_brk, oS_cnt, oS_unp, ft_cnt, ft_brk, fl_cnt, wipeW]
theorem is_guarded_ok [Hf0 T] [Hf6 T] : ∀ (k : Nat) (f : Fo) (G : GH), Wf G → f.dep ≤ k → ∃ G', xC T (d + k + 1) 6 [f.w] (on G) = .ok (.bl f.guard) (on G') ∧ Gr G G' := by
  intro k
  induction k with
  | zero => intro f G _ h; have := f.dep_pos; omega
  | succ k ih =>
    intro f G wf hk
    have hw := f.w_eq
    have i0 : ixop (on G) f.w (.int 0) = some (.str f.word) := by rw [hw, ix_t, at_0]; rfl
    have hin := f.in_at (G := on G)
    have hsh := f.is_sh
    have hgd := f.guard_eq
    cases h : f.isAt with
    | true =>
      rw [h] at hin hgd
      rw [hgd]
      refine ⟨G, ?_, Gr.refl wf⟩
      rw [cc6]
      simp (config := { decide := true }) only [g6, i0, hin, oE_cst, oE_var, oE_bin, oE_cmp, oE_and, oE_or, oE_not, oE_neg, oE_ife, oE_tup, oE_lst, oE_ix, oE_sl, oE_call, oE_mk, oE_met, oE_att, oE_blt, oE_lc, oEs_nil, oEs_cons, oA_nil, oA_e, oA_s, oI_e, oI_rng, oI_zip, oW_eq, oSs_nil, oSs_cons, oS_asg, oS_sub, oS_att, oS_par, oS_exp, oS_ife, oS_for, oS_whl, oS_ret, oS_pass, rb_ok, rt_ok, ft_nx, ft_ret, fl_nx, fl_ret, fo_nx, fo_ret, oo_some, og_some, nox_ok, tru_bl, tru_int, bA_nil, asg_v, c_eq, c_ne, c_in, c_nin, c_lt, c_le, c_gt, c_ge, c_is, c_isn, eq_ss, eq_ii, eq_bb, in_ss, ix_t, ix_r, at_0, at_1, at_2, at_3, at_4, on_get, on_sz, List.getElem?_cons_zero, List.getElem?_cons_succ, List.getElem?_nil, List.set_cons_zero, List.set_cons_succ, Option.map_some, Option.map_none, if_true, if_false, Bool.false_eq_true, decide_true, decide_false, Bool.not_true, Bool.not_false, on_on, List.length_cons, List.length_nil, on_setw, on_pushw, List.nil_append, List.cons_append, seq_new, its_new, lst_new, ix_new, len_new, iv_new, newL_one, newL_two, newL_nil, iv_t, iv_r, oE_lc2, oE_chn, oE_maxd, oS_brk, oS_cnt, oS_unp, ft_cnt, ft_brk, fl_cnt, wipeW]
      rfl
    | false =>
      rw [h] at hin hgd
      cases h2 : f.isSh with
      | true =>
        rw [h2] at hsh hgd
        rw [hgd]
        refine ⟨G, ?_, Gr.refl wf⟩
        rw [cc6]
        simp (config := { decide := true }) only [g6, i0, hin, hsh, oE_cst, oE_var, oE_bin, oE_cmp, oE_and, oE_or, oE_not, oE_neg, oE_ife, oE_tup, oE_lst, oE_ix, oE_sl, oE_call, oE_mk, oE_met, oE_att, oE_blt, oE_lc, oEs_nil, oEs_cons, oA_nil, oA_e, oA_s, oI_e, oI_rng, oI_zip, oW_eq, oSs_nil, oSs_cons, oS_asg, oS_sub, oS_att, oS_par, oS_exp, oS_ife, oS_for, oS_whl, oS_ret, oS_pass, rb_ok, rt_ok, ft_nx, ft_ret, fl_nx, fl_ret, fo_nx, fo_ret, oo_some, og_some, nox_ok, tru_bl, tru_int, bA_nil, asg_v, c_eq, c_ne, c_in, c_nin, c_lt, c_le, c_gt, c_ge, c_is, c_isn, eq_ss, eq_ii, eq_bb, in_ss, ix_t, ix_r, at_0, at_1, at_2, at_3, at_4, on_get, on_sz, List.getElem?_cons_zero, List.getElem?_cons_succ, List.getElem?_nil, List.set_cons_zero, List.set_cons_succ, Option.map_some, Option.map_none, if_true, if_false, Bool.false_eq_true, decide_true, decide_false, Bool.not_true, Bool.not_false, on_on, List.length_cons, List.length_nil, on_setw, on_pushw, List.nil_append, List.cons_append, seq_new, its_new, lst_new, ix_new, len_new, iv_new, newL_one, newL_two, newL_nil, iv_t, iv_r, oE_lc2, oE_chn, oE_maxd, oS_brk, oS_cnt, oS_unp, ft_cnt, ft_brk, fl_cnt, wipeW]
        rfl
      | false =>
        rw [h2] at hsh hgd
        have hp : xC T (d + (k + 1)) 0 [f.w] (on G) = .ok (.tup (f.subs.map Fo.w)) (on G) := parts_of_ok (T := T) (d := d + k) f G
        obtain ⟨G2, e2, gr2⟩ := xL_map (T := T) (d := d + (k + 1)) (iv := .one (.sq (f.subs.map Fo.w))) (tg := .v 1) (e := .call 6 [.var 1] []) (σ := [some f.w, none]) (vs := [1]) Fo.w (fun g => .bl g.guard) G f.subs 0 f.subs [] G rfl (by have := f.subs_len; simp; omega) (Gr.refl wf) hat_t fun g hg H hG => by
          obtain ⟨H2, e, gr2⟩ := ih g H hG.w (by have := Fo.dep_sub hg; omega)
          have e' : xC T (d + (k + 1)) 6 [g.w] (on H) = .ok (.bl g.guard) (on H2) := e
          exact ⟨_, H2, asg_v, by simp (config := { decide := true }) only [e', oE_cst, oE_var, oE_bin, oE_cmp, oE_and, oE_or, oE_not, oE_neg, oE_ife, oE_tup, oE_lst, oE_ix, oE_sl, oE_call, oE_mk, oE_met, oE_att, oE_blt, oE_lc, oEs_nil, oEs_cons, oA_nil, oA_e, oA_s, oI_e, oI_rng, oI_zip, oW_eq, oSs_nil, oSs_cons, oS_asg, oS_sub, oS_att, oS_par, oS_exp, oS_ife, oS_for, oS_whl, oS_ret, oS_pass, rb_ok, rt_ok, ft_nx, ft_ret, fl_nx, fl_ret, fo_nx, fo_ret, oo_some, og_some, nox_ok, tru_bl, tru_int, bA_nil, asg_v, c_eq, c_ne, c_in, c_nin, c_lt, c_le, c_gt, c_ge, c_is, c_isn, eq_ss, eq_ii, eq_bb, in_ss, ix_t, ix_r, at_0, at_1, at_2, at_3, at_4, on_get, on_sz, List.getElem?_cons_zero, List.getElem?_cons_succ, List.getElem?_nil, List.set_cons_zero, List.set_cons_succ, Option.map_some, Option.map_none, if_true, if_false, Bool.false_eq_true, decide_true, decide_false, Bool.not_true, Bool.not_false, on_on, List.length_cons, List.length_nil, on_setw, on_pushw, List.nil_append, List.cons_append, seq_new, its_new, lst_new, ix_new, len_new, iv_new, newL_one, newL_two, newL_nil, iv_t, iv_r, oE_lc2, oE_chn, oE_maxd, oS_brk, oS_cnt, oS_unp, ft_cnt, ft_brk, fl_cnt, wipeW], gr2⟩
        rw [List.nil_append] at e2
        have hmm : (f.subs.map fun g => W.bl g.guard) = (f.subs.map Fo.guard).map W.bl := by rw [List.map_map]; rfl
        rw [hmm] at e2
        have hnl := newL_k (G := G2) (ws := (f.subs.map Fo.guard).map W.bl) (by have := f.subs_len; rw [List.length_map, List.length_map]; omega)
        have hall := all_k (T := T) (G := G2.push (.lst ((f.subs.map Fo.guard).map W.bl))) (m := G2.sz) (bs := f.subs.map Fo.guard) (get_push_self _ _)
        refine ⟨_, ?_, gr2.push (.lst ((f.subs.map Fo.guard).map W.bl))⟩
        have hr : f.guard = (f.subs.map Fo.guard).all id := by
          rw [hgd, List.all_map]
          rfl
        rw [hr, cc6]
        simp (config := { decide := true }) only [g6, i0, hin, hsh, hp, e2, hnl, hall, oE_cst, oE_var, oE_bin, oE_cmp, oE_and, oE_or, oE_not, oE_neg, oE_ife, oE_tup, oE_lst, oE_ix, oE_sl, oE_call, oE_mk, oE_met, oE_att, oE_blt, oE_lc, oEs_nil, oEs_cons, oA_nil, oA_e, oA_s, oI_e, oI_rng, oI_zip, oW_eq, oSs_nil, oSs_cons, oS_asg, oS_sub, oS_att, oS_par, oS_exp, oS_ife, oS_for, oS_whl, oS_ret, oS_pass, rb_ok, rt_ok, ft_nx, ft_ret, fl_nx, fl_ret, fo_nx, fo_ret, oo_some, og_some, nox_ok, tru_bl, tru_int, bA_nil, asg_v, c_eq, c_ne, c_in, c_nin, c_lt, c_le, c_gt, c_ge, c_is, c_isn, eq_ss, eq_ii, eq_bb, in_ss, ix_t, ix_r, at_0, at_1, at_2, at_3, at_4, on_get, on_sz, List.getElem?_cons_zero, List.getElem?_cons_succ, List.getElem?_nil, List.set_cons_zero, List.set_cons_succ, Option.map_some, Option.map_none, if_true, if_false, Bool.false_eq_true, decide_true, decide_false, Bool.not_true, Bool.not_false, on_on, List.length_cons, List.length_nil, on_setw, on_pushw, List.nil_append, List.cons_append, seq_new, its_new, lst_new, ix_new, len_new, iv_new, newL_one, newL_two, newL_nil, iv_t, iv_r, oE_lc2, oE_chn, oE_maxd, oS_brk, oS_cnt, oS_unp, ft_cnt, ft_brk, fl_cnt, wipeW]
end
end PM

set_option maxHeartbeats 4000000
/-! FoC: letters and names; the laws' own functions on formulas. -/
namespace PM
open PySem
namespace Fo
def lt : Fo → Str
  | ltr c => c | _ => ""
def isTo : Fo → Bool
  | yto _ _ => true | _ => false
def nm : Fo → Str
  | yto _ n => n | _ => ""
def ltrs (f : Fo) : List Str := (f.atoms.filter isLt).map lt
def lets (f : Fo) : List Str := (["P", "Q", "R"] : List Str).filter fun c => f.ltrs.any (· == c)
def names (f : Fo) : List Str := (f.atoms.filter isTo).map nm
theorem atoms_at : ∀ (f a : Fo), a ∈ f.atoms → a.isAt = true
  | shown f, a, h => atoms_at f a h
  | not f, a, h => atoms_at f a h
  | and f g, a, h => (List.mem_append.mp h).elim (atoms_at f a) (atoms_at g a)
  | or f g, a, h => (List.mem_append.mp h).elim (atoms_at f a) (atoms_at g a)
  | tru, a, h => nomatch h
  | fls, a, h => nomatch h
  | ltr _, a, h => by rw [List.mem_singleton.mp h]; rfl
  | mine _, a, h => by rw [List.mem_singleton.mp h]; rfl
  | yours _, a, h => by rw [List.mem_singleton.mp h]; rfl
  | yto _ _, a, h => by rw [List.mem_singleton.mp h]; rfl
theorem ltrs_w (f : Fo) : (f.atoms.filter isLt).map (fun a => W.str a.lt) = f.ltrs.map .str := by
  unfold ltrs
  rw [List.map_map]
  rfl
theorem names_w (f : Fo) : (f.atoms.filter isTo).map (fun a => W.str a.nm) = f.names.map .str := by
  unfold names
  rw [List.map_map]
  rfl
theorem ltrs_len (f : Fo) : f.ltrs.length ≤ f.sz := by
  unfold ltrs
  rw [List.length_map]
  exact Nat.le_trans (List.length_filter_le _ _) f.atoms_len
theorem names_len (f : Fo) : f.names.length ≤ f.sz := by
  unfold names
  rw [List.length_map]
  exact Nat.le_trans (List.length_filter_le _ _) f.atoms_len
end Fo
theorem flat_strs : ∀ l : List Str, (l.map W.str).all flatW = true
  | [] => rfl
  | _ :: r => by
    rw [List.map_cons, List.all_cons, flat_strs r]
    rfl
theorem inFl_str {c : Str} : ∀ l : List Str, inFl (.str c) (l.map .str) = l.any (· == c)
  | [] => rfl
  | a :: r => by
    show (eqFl (.str a) (.str c) || inFl (.str c) (r.map .str)) = ((a == c) || r.any (· == c))
    rw [inFl_str r]
    rfl
theorem in_strs {G : GH} {n : Nat} {c : Str} {l : List Str} (h : G.get n = some (.lst (l.map .str))) : inW (on G) (.str c) (.ref n) = some (l.any (· == c)) := by
  have e0 : inW (on G) (.str c) (.ref n) = (match seqOf (on G) (.ref n) with
      | some ws => if (flatW (.str c) && ws.all flatW) = true then some (inFl (.str c) ws) else inD (on G) (.str c) (.ref n)
      | none => none) := rfl
  rw [e0, seq_l h]
  show (if (flatW (.str c) && (l.map W.str).all flatW) = true then some (inFl (.str c) (l.map .str)) else inD (on G) (.str c) (.ref n)) = _
  rw [flat_strs, if_pos (show (flatW (.str c) && true) = true from rfl), inFl_str]
theorem pqr_len (p : Str → Bool) : (((["P", "Q", "R"] : List Str).filter p).map Str.length).sum + ((["P", "Q", "R"] : List Str).filter p).length * ("" : Str).length ≤ 16777216 := by
  simp only [List.filter]
  cases p "P" <;> cases p "Q" <;> cases p "R" <;> decide +kernel
theorem pqr_len2 (p : Str → Bool) : ((["P", "Q", "R"] : List Str).filter p).length ≤ 3 := List.length_filter_le _ _
section
variable {T : Tb} {d : Nat}
theorem letters_ok [Hf0 T] [Hf3 T] [Hf4 T] [HBm T .str 1 .join] (k : Nat) (f : Fo) (G : GH) (wf : Wf G) (hk : f.dep ≤ k) (hz : f.sz ≤ 5000) : ∃ G', xC T (d + k + 1 + 1) 4 [f.w] (on G) = .ok (.str (Txt.join "" f.lets)) (on G') ∧ Gr G G' := by
  obtain ⟨m, G1, e1, hm, hms, gr1⟩ := atoms_in_ok (T := T) (d := d) k f G wf hk hz
  have hl := f.atoms_len
  have hiv := iv_l hm
  obtain ⟨G2, e2, gr2⟩ := xL_filt (T := T) (d := d + k + 1) (iv := .one (.live m)) (tg := .v 2) (c := .cmp .eq (.ix (.var 2) (.cst (.int 0))) (.cst (.str "letter"))) (e := .ix (.var 2) (.cst (.int 1))) (σ := [some f.w, none, none, none]) (vs := [2]) Fo.w (fun a => .str a.lt) Fo.isLt G1 f.atoms 0 f.atoms [] G1 rfl
    (by simp; omega) (Gr.refl gr1.w) (hat_l hm) fun a ha H hH => by
      have i0 : ixop (on H) a.w (.int 0) = some (.str a.word) := by rw [a.w_eq, ix_t, at_0]; rfl
      have il := a.is_lt
      refine ⟨[some f.w, none, some a.w, none], .bl (decide (a.word = ("letter" : Str))), H, rfl, by simp (config := { decide := true }) only [i0, oE_cst, oE_var, oE_bin, oE_cmp, oE_and, oE_or, oE_not, oE_neg, oE_ife, oE_tup, oE_lst, oE_ix, oE_sl, oE_call, oE_mk, oE_met, oE_att, oE_blt, oE_lc, oEs_nil, oEs_cons, oA_nil, oA_e, oA_s, oI_e, oI_rng, oI_zip, oW_eq, oSs_nil, oSs_cons, oS_asg, oS_sub, oS_att, oS_par, oS_exp, oS_ife, oS_for, oS_whl, oS_ret, oS_pass, rb_ok, rt_ok, ft_nx, ft_ret, fl_nx, fl_ret, fo_nx, fo_ret, oo_some, og_some, nox_ok, tru_bl, tru_int, bA_nil, asg_v, c_eq, c_ne, c_in, c_nin, c_lt, c_le, c_gt, c_ge, c_is, c_isn, eq_ss, eq_ii, eq_bb, in_ss, ix_t, ix_r, at_0, at_1, at_2, at_3, at_4, on_get, on_sz, List.getElem?_cons_zero, List.getElem?_cons_succ, List.getElem?_nil, List.set_cons_zero, List.set_cons_succ, Option.map_some, Option.map_none, if_true, if_false, Bool.false_eq_true, decide_true, decide_false, Bool.not_true, Bool.not_false, on_on, List.length_cons, List.length_nil, on_setw, on_pushw, List.nil_append, List.cons_append, seq_new, its_new, lst_new, ix_new, len_new, iv_new, newL_one, newL_two, newL_nil, iv_t, iv_r, oE_lc2, oE_chn, oE_maxd, oS_brk, oS_cnt, oS_unp, ft_cnt, ft_brk, fl_cnt, wipeW], by rw [il]; rfl, Gr.refl hH.w, fun h => ⟨H, ?_, Gr.refl hH.w⟩⟩
      cases a <;> first | cases h | skip
      rename_i c
      have i1 : ixop (on H) (Fo.ltr c).w (.int 1) = some (.str c) := by
        show ixop (on H) (.tup [.str "letter", .str c]) (.int 1) = _
        rw [ix_t, at_1]
        rfl
      simp (config := { decide := true }) only [i1, oE_cst, oE_var, oE_bin, oE_cmp, oE_and, oE_or, oE_not, oE_neg, oE_ife, oE_tup, oE_lst, oE_ix, oE_sl, oE_call, oE_mk, oE_met, oE_att, oE_blt, oE_lc, oEs_nil, oEs_cons, oA_nil, oA_e, oA_s, oI_e, oI_rng, oI_zip, oW_eq, oSs_nil, oSs_cons, oS_asg, oS_sub, oS_att, oS_par, oS_exp, oS_ife, oS_for, oS_whl, oS_ret, oS_pass, rb_ok, rt_ok, ft_nx, ft_ret, fl_nx, fl_ret, fo_nx, fo_ret, oo_some, og_some, nox_ok, tru_bl, tru_int, bA_nil, asg_v, c_eq, c_ne, c_in, c_nin, c_lt, c_le, c_gt, c_ge, c_is, c_isn, eq_ss, eq_ii, eq_bb, in_ss, ix_t, ix_r, at_0, at_1, at_2, at_3, at_4, on_get, on_sz, List.getElem?_cons_zero, List.getElem?_cons_succ, List.getElem?_nil, List.set_cons_zero, List.set_cons_succ, Option.map_some, Option.map_none, if_true, if_false, Bool.false_eq_true, decide_true, decide_false, Bool.not_true, Bool.not_false, on_on, List.length_cons, List.length_nil, on_setw, on_pushw, List.nil_append, List.cons_append, seq_new, its_new, lst_new, ix_new, len_new, iv_new, newL_one, newL_two, newL_nil, iv_t, iv_r, oE_lc2, oE_chn, oE_maxd, oS_brk, oS_cnt, oS_unp, ft_cnt, ft_brk, fl_cnt, wipeW]
      rfl
  rw [List.nil_append, f.ltrs_w] at e2
  have hnl := newL_k (G := G2) (ws := f.ltrs.map .str) (by rw [List.length_map]; have := f.ltrs_len; omega)
  let G3 := G2.push (.lst (f.ltrs.map .str))
  have g3 : G3.get G2.sz = some (.lst (f.ltrs.map .str)) := get_push_self _ _
  have gr3 : Gr G G3 := (gr1.trans gr2).push _
  obtain ⟨G4, e4, gr4⟩ := xL_filt (T := T) (d := d + k + 1) (iv := .one (.sq [.str "P", .str "Q", .str "R"])) (tg := .v 3) (c := .cmp .isin (.var 3) (.var 1)) (e := .var 3) (σ := [some f.w, some (.ref G2.sz), none, none]) (vs := [3]) W.str W.str (fun c => f.ltrs.any (· == c)) G3 ["P", "Q", "R"] 0 ["P", "Q", "R"] [] G3 rfl
    (by decide) (Gr.refl gr3.w) hat_t fun c hc H hH => by
      have hi := in_strs (c := c) (hH.get g3)
      exact ⟨[some f.w, some (.ref G2.sz), none, some (.str c)], .bl (f.ltrs.any (· == c)), H, rfl, by simp (config := { decide := true }) only [hi, oE_cst, oE_var, oE_bin, oE_cmp, oE_and, oE_or, oE_not, oE_neg, oE_ife, oE_tup, oE_lst, oE_ix, oE_sl, oE_call, oE_mk, oE_met, oE_att, oE_blt, oE_lc, oEs_nil, oEs_cons, oA_nil, oA_e, oA_s, oI_e, oI_rng, oI_zip, oW_eq, oSs_nil, oSs_cons, oS_asg, oS_sub, oS_att, oS_par, oS_exp, oS_ife, oS_for, oS_whl, oS_ret, oS_pass, rb_ok, rt_ok, ft_nx, ft_ret, fl_nx, fl_ret, fo_nx, fo_ret, oo_some, og_some, nox_ok, tru_bl, tru_int, bA_nil, asg_v, c_eq, c_ne, c_in, c_nin, c_lt, c_le, c_gt, c_ge, c_is, c_isn, eq_ss, eq_ii, eq_bb, in_ss, ix_t, ix_r, at_0, at_1, at_2, at_3, at_4, on_get, on_sz, List.getElem?_cons_zero, List.getElem?_cons_succ, List.getElem?_nil, List.set_cons_zero, List.set_cons_succ, Option.map_some, Option.map_none, if_true, if_false, Bool.false_eq_true, decide_true, decide_false, Bool.not_true, Bool.not_false, on_on, List.length_cons, List.length_nil, on_setw, on_pushw, List.nil_append, List.cons_append, seq_new, its_new, lst_new, ix_new, len_new, iv_new, newL_one, newL_two, newL_nil, iv_t, iv_r, oE_lc2, oE_chn, oE_maxd, oS_brk, oS_cnt, oS_unp, ft_cnt, ft_brk, fl_cnt, wipeW], rfl, Gr.refl hH.w, fun _ => ⟨H, by simp (config := { decide := true }) only [oE_cst, oE_var, oE_bin, oE_cmp, oE_and, oE_or, oE_not, oE_neg, oE_ife, oE_tup, oE_lst, oE_ix, oE_sl, oE_call, oE_mk, oE_met, oE_att, oE_blt, oE_lc, oEs_nil, oEs_cons, oA_nil, oA_e, oA_s, oI_e, oI_rng, oI_zip, oW_eq, oSs_nil, oSs_cons, oS_asg, oS_sub, oS_att, oS_par, oS_exp, oS_ife, oS_for, oS_whl, oS_ret, oS_pass, rb_ok, rt_ok, ft_nx, ft_ret, fl_nx, fl_ret, fo_nx, fo_ret, oo_some, og_some, nox_ok, tru_bl, tru_int, bA_nil, asg_v, c_eq, c_ne, c_in, c_nin, c_lt, c_le, c_gt, c_ge, c_is, c_isn, eq_ss, eq_ii, eq_bb, in_ss, ix_t, ix_r, at_0, at_1, at_2, at_3, at_4, on_get, on_sz, List.getElem?_cons_zero, List.getElem?_cons_succ, List.getElem?_nil, List.set_cons_zero, List.set_cons_succ, Option.map_some, Option.map_none, if_true, if_false, Bool.false_eq_true, decide_true, decide_false, Bool.not_true, Bool.not_false, on_on, List.length_cons, List.length_nil, on_setw, on_pushw, List.nil_append, List.cons_append, seq_new, its_new, lst_new, ix_new, len_new, iv_new, newL_one, newL_two, newL_nil, iv_t, iv_r, oE_lc2, oE_chn, oE_maxd, oS_brk, oS_cnt, oS_unp, ft_cnt, ft_brk, fl_cnt, wipeW], Gr.refl hH.w⟩⟩
  rw [List.nil_append] at e4
  have hnl4 := newL_k (G := G4) (ws := f.lets.map .str) (by rw [List.length_map]; have := pqr_len2 fun c => f.ltrs.any (· == c); show f.lets.length ≤ _; unfold Fo.lets; omega)
  have hj := join_k (G := G4.push (.lst (f.lets.map .str))) (n := G4.sz) (l := f.lets) (z := "") (get_push_self _ _) (pqr_len _)
  have hmk : mkOf T (on G3) (.str "") 1 = some (.b .join) := mk_str HBm.h
  have hiv4 : ivOf (on G3) (.str "PQR") = some (.sq [.str "P", .str "Q", .str "R"]) := rfl
  refine ⟨_, ?_, (gr3.trans gr4).push (.lst (f.lets.map .str))⟩
  have e4' : xL T (d + k + 1) (.one (.sq [.str "P", .str "Q", .str "R"])) 0 (.v 3) [.cmp .isin (.var 3) (.var 1)] (.var 3) [some f.w, some (.ref G2.sz), none, none] [3] [] (on G3) = .ok (f.lets.map .str) (on G4) := e4
  dsimp only [G3] at e4' hmk hiv4
  rw [cc4]
  simp (config := { decide := true }) only [g4, e1, hiv, e2, hnl, hmk, hiv4, e4', hnl4, hj, oE_cst, oE_var, oE_bin, oE_cmp, oE_and, oE_or, oE_not, oE_neg, oE_ife, oE_tup, oE_lst, oE_ix, oE_sl, oE_call, oE_mk, oE_met, oE_att, oE_blt, oE_lc, oEs_nil, oEs_cons, oA_nil, oA_e, oA_s, oI_e, oI_rng, oI_zip, oW_eq, oSs_nil, oSs_cons, oS_asg, oS_sub, oS_att, oS_par, oS_exp, oS_ife, oS_for, oS_whl, oS_ret, oS_pass, rb_ok, rt_ok, ft_nx, ft_ret, fl_nx, fl_ret, fo_nx, fo_ret, oo_some, og_some, nox_ok, tru_bl, tru_int, bA_nil, asg_v, c_eq, c_ne, c_in, c_nin, c_lt, c_le, c_gt, c_ge, c_is, c_isn, eq_ss, eq_ii, eq_bb, in_ss, ix_t, ix_r, at_0, at_1, at_2, at_3, at_4, on_get, on_sz, List.getElem?_cons_zero, List.getElem?_cons_succ, List.getElem?_nil, List.set_cons_zero, List.set_cons_succ, Option.map_some, Option.map_none, if_true, if_false, Bool.false_eq_true, decide_true, decide_false, Bool.not_true, Bool.not_false, on_on, List.length_cons, List.length_nil, on_setw, on_pushw, List.nil_append, List.cons_append, seq_new, its_new, lst_new, ix_new, len_new, iv_new, newL_one, newL_two, newL_nil, iv_t, iv_r, oE_lc2, oE_chn, oE_maxd, oS_brk, oS_cnt, oS_unp, ft_cnt, ft_brk, fl_cnt, wipeW]
theorem names_in_ok [Hf0 T] [Hf3 T] [Hf5 T] (k : Nat) (f : Fo) (G : GH) (wf : Wf G) (hk : f.dep ≤ k) (hz : f.sz ≤ 5000) : NL T (d + k + 1 + 1) 5 [f.w] G (f.names.map .str) := by
  obtain ⟨m, G1, e1, hm, hms, gr1⟩ := atoms_in_ok (T := T) (d := d) k f G wf hk hz
  have hl := f.atoms_len
  have hiv := iv_l hm
  obtain ⟨G2, e2, gr2⟩ := xL_filt (T := T) (d := d + k + 1) (iv := .one (.live m)) (tg := .v 1) (c := .cmp .eq (.blt .len [.var 1]) (.cst (.int 3))) (e := .ix (.var 1) (.cst (.int 2))) (σ := [some f.w, none]) (vs := [1]) Fo.w (fun a => .str a.nm) Fo.isTo G1 f.atoms 0 f.atoms [] G1 rfl
    (by simp; omega) (Gr.refl gr1.w) (hat_l hm) fun a ha H hH => by
      have hat := f.atoms_at a ha
      have il : bfop T .len [a.w] (on H) = some (.int (a.tail.length + 1 : Nat), on H) := by rw [a.w_eq, len_t]; rfl
      have hd : decide (((a.tail.length + 1 : Nat) : Int) = 3) = a.isTo := by cases a <;> first | rfl | cases hat
      refine ⟨[some f.w, some a.w], .bl (decide (((a.tail.length + 1 : Nat) : Int) = 3)), H, rfl, by simp (config := { decide := true }) only [il, oE_cst, oE_var, oE_bin, oE_cmp, oE_and, oE_or, oE_not, oE_neg, oE_ife, oE_tup, oE_lst, oE_ix, oE_sl, oE_call, oE_mk, oE_met, oE_att, oE_blt, oE_lc, oEs_nil, oEs_cons, oA_nil, oA_e, oA_s, oI_e, oI_rng, oI_zip, oW_eq, oSs_nil, oSs_cons, oS_asg, oS_sub, oS_att, oS_par, oS_exp, oS_ife, oS_for, oS_whl, oS_ret, oS_pass, rb_ok, rt_ok, ft_nx, ft_ret, fl_nx, fl_ret, fo_nx, fo_ret, oo_some, og_some, nox_ok, tru_bl, tru_int, bA_nil, asg_v, c_eq, c_ne, c_in, c_nin, c_lt, c_le, c_gt, c_ge, c_is, c_isn, eq_ss, eq_ii, eq_bb, in_ss, ix_t, ix_r, at_0, at_1, at_2, at_3, at_4, on_get, on_sz, List.getElem?_cons_zero, List.getElem?_cons_succ, List.getElem?_nil, List.set_cons_zero, List.set_cons_succ, Option.map_some, Option.map_none, if_true, if_false, Bool.false_eq_true, decide_true, decide_false, Bool.not_true, Bool.not_false, on_on, List.length_cons, List.length_nil, on_setw, on_pushw, List.nil_append, List.cons_append, seq_new, its_new, lst_new, ix_new, len_new, iv_new, newL_one, newL_two, newL_nil, iv_t, iv_r, oE_lc2, oE_chn, oE_maxd, oS_brk, oS_cnt, oS_unp, ft_cnt, ft_brk, fl_cnt, wipeW], by rw [hd]; rfl, Gr.refl hH.w, fun h => ⟨H, ?_, Gr.refl hH.w⟩⟩
      cases a <;> first | cases h | skip
      rename_i c n
      have i1 : ixop (on H) (Fo.yto c n).w (.int 2) = some (.str n) := by
        show ixop (on H) (.tup [.str "yours", .str c, .str n]) (.int 2) = _
        rw [ix_t, at_2]
        rfl
      simp (config := { decide := true }) only [i1, oE_cst, oE_var, oE_bin, oE_cmp, oE_and, oE_or, oE_not, oE_neg, oE_ife, oE_tup, oE_lst, oE_ix, oE_sl, oE_call, oE_mk, oE_met, oE_att, oE_blt, oE_lc, oEs_nil, oEs_cons, oA_nil, oA_e, oA_s, oI_e, oI_rng, oI_zip, oW_eq, oSs_nil, oSs_cons, oS_asg, oS_sub, oS_att, oS_par, oS_exp, oS_ife, oS_for, oS_whl, oS_ret, oS_pass, rb_ok, rt_ok, ft_nx, ft_ret, fl_nx, fl_ret, fo_nx, fo_ret, oo_some, og_some, nox_ok, tru_bl, tru_int, bA_nil, asg_v, c_eq, c_ne, c_in, c_nin, c_lt, c_le, c_gt, c_ge, c_is, c_isn, eq_ss, eq_ii, eq_bb, in_ss, ix_t, ix_r, at_0, at_1, at_2, at_3, at_4, on_get, on_sz, List.getElem?_cons_zero, List.getElem?_cons_succ, List.getElem?_nil, List.set_cons_zero, List.set_cons_succ, Option.map_some, Option.map_none, if_true, if_false, Bool.false_eq_true, decide_true, decide_false, Bool.not_true, Bool.not_false, on_on, List.length_cons, List.length_nil, on_setw, on_pushw, List.nil_append, List.cons_append, seq_new, its_new, lst_new, ix_new, len_new, iv_new, newL_one, newL_two, newL_nil, iv_t, iv_r, oE_lc2, oE_chn, oE_maxd, oS_brk, oS_cnt, oS_unp, ft_cnt, ft_brk, fl_cnt, wipeW]
      rfl
  rw [List.nil_append, f.names_w] at e2
  have hnl := newL_k (G := G2) (ws := f.names.map .str) (by rw [List.length_map]; have := f.names_len; omega)
  refine ⟨G2.sz, G2.push (.lst (f.names.map .str)), ?_, get_push_self _ _, Nat.le_trans gr1.le gr2.le, (gr1.trans gr2).push _⟩
  rw [cc5]
  simp (config := { decide := true }) only [g5, e1, hiv, e2, hnl, oE_cst, oE_var, oE_bin, oE_cmp, oE_and, oE_or, oE_not, oE_neg, oE_ife, oE_tup, oE_lst, oE_ix, oE_sl, oE_call, oE_mk, oE_met, oE_att, oE_blt, oE_lc, oEs_nil, oEs_cons, oA_nil, oA_e, oA_s, oI_e, oI_rng, oI_zip, oW_eq, oSs_nil, oSs_cons, oS_asg, oS_sub, oS_att, oS_par, oS_exp, oS_ife, oS_for, oS_whl, oS_ret, oS_pass, rb_ok, rt_ok, ft_nx, ft_ret, fl_nx, fl_ret, fo_nx, fo_ret, oo_some, og_some, nox_ok, tru_bl, tru_int, bA_nil, asg_v, c_eq, c_ne, c_in, c_nin, c_lt, c_le, c_gt, c_ge, c_is, c_isn, eq_ss, eq_ii, eq_bb, in_ss, ix_t, ix_r, at_0, at_1, at_2, at_3, at_4, on_get, on_sz, List.getElem?_cons_zero, List.getElem?_cons_succ, List.getElem?_nil, List.set_cons_zero, List.set_cons_succ, Option.map_some, Option.map_none, if_true, if_false, Bool.false_eq_true, decide_true, decide_false, Bool.not_true, Bool.not_false, on_on, List.length_cons, List.length_nil, on_setw, on_pushw, List.nil_append, List.cons_append, seq_new, its_new, lst_new, ix_new, len_new, iv_new, newL_one, newL_two, newL_nil, iv_t, iv_r, oE_lc2, oE_chn, oE_maxd, oS_brk, oS_cnt, oS_unp, ft_cnt, ft_brk, fl_cnt, wipeW]
/-! ### the laws' own -/
/-- found = found + f(part), part by part -/
theorem acc_loop {i k : Nat} {f : Fo} {G G1 : GH} {r1 : Nat} {pre : List Fo} (h : Fo → List Fo) (hlen : pre.length + (f.subs.flatMap h).length ≤ 10000) (g1 : Gr G G1) (hr1 : G1.get r1 = some (.lst (pre.map Fo.w))) (hr0 : G.sz ≤ r1)
    (ih : ∀ g ∈ f.subs, ∀ H, Wf H → NL T (d + k + 1) i [g.w] H ((h g).map Fo.w)) :
    ∃ r y G2, xF T (d + k + 1) (.one (.sq (f.subs.map Fo.w))) 0 (.v 2) [.asg (.v 1) (.bin .add (.var 1) (.call i [.var 2] []))] [some f.w, some (.ref r1), none] (on G1) = .nx [some f.w, some (.ref r), y] (on G2) ∧ G2.get r = some (.lst ((pre ++ f.subs.flatMap h).map Fo.w)) ∧ G.sz ≤ r ∧ Gr G G2 := by
  obtain ⟨σ', G2, e2, r, y, hs, hg, hr, gg⟩ := xF_seq (T := T) (d := d + k + 1) (iv := .one (.sq (f.subs.map Fo.w))) (tg := .v 2) (b := [.asg (.v 1) (.bin .add (.var 1) (.call i [.var 2] []))]) (f.subs.map Fo.w)
    (fun j σ H => ∃ r y, σ = [some f.w, some (.ref r), y] ∧ H.get r = some (.lst ((pre ++ (f.subs.take j).flatMap h).map Fo.w)) ∧ G.sz ≤ r ∧ Gr G H) (fun j σ H _ => rfl) (fun j w σ H hj hI => by
      obtain ⟨r, y, rfl, hr, hr0, gH⟩ := hI
      have hlt : j < f.subs.length := by
        have := (List.getElem?_eq_some_iff.mp hj).1
        rwa [List.length_map] at this
      rw [List.getElem?_map, List.getElem?_eq_getElem hlt] at hj
      cases hj
      obtain ⟨m, H2, e, hg2, hms, gr2⟩ := ih f.subs[j] (List.getElem_mem hlt) H gH.w
      have hr2 := gr2.get hr
      have htk : f.subs.take (j + 1) = f.subs.take j ++ [f.subs[j]] := by rw [List.take_add_one, List.getElem?_eq_getElem hlt]; rfl
      have hlen : ((pre ++ (f.subs.take (j + 1)).flatMap h)).length ≤ 10000 := by
        have h1 : ((f.subs.take (j + 1)).flatMap h).length ≤ (f.subs.flatMap h).length := by
          conv => rhs; rw [← List.take_append_drop (j + 1) f.subs]
          rw [List.flatMap_append, List.length_append]
          omega
        rw [List.length_append]
        omega
      rw [htk, List.flatMap_append, ← List.append_assoc, List.length_append, List.flatMap_singleton] at hlen
      have ad := add_k hr2 hg2 (by rw [List.length_map, List.length_map]; omega)
      refine ⟨[some f.w, some (.ref r), some f.subs[j].w], [some f.w, some (.ref H2.sz), some f.subs[j].w], H2.push (.lst ((pre ++ (f.subs.take j).flatMap h).map Fo.w ++ (h f.subs[j]).map Fo.w)), rfl, ?_, H2.sz, _, rfl, ?_, Nat.le_trans gH.le gr2.le, (gH.trans gr2).push _⟩
      · simp (config := { decide := true }) only [e, ad, oE_cst, oE_var, oE_bin, oE_cmp, oE_and, oE_or, oE_not, oE_neg, oE_ife, oE_tup, oE_lst, oE_ix, oE_sl, oE_call, oE_mk, oE_met, oE_att, oE_blt, oE_lc, oEs_nil, oEs_cons, oA_nil, oA_e, oA_s, oI_e, oI_rng, oI_zip, oW_eq, oSs_nil, oSs_cons, oS_asg, oS_sub, oS_att, oS_par, oS_exp, oS_ife, oS_for, oS_whl, oS_ret, oS_pass, rb_ok, rt_ok, ft_nx, ft_ret, fl_nx, fl_ret, fo_nx, fo_ret, oo_some, og_some, nox_ok, tru_bl, tru_int, bA_nil, asg_v, c_eq, c_ne, c_in, c_nin, c_lt, c_le, c_gt, c_ge, c_is, c_isn, eq_ss, eq_ii, eq_bb, in_ss, ix_t, ix_r, at_0, at_1, at_2, at_3, at_4, on_get, on_sz, List.getElem?_cons_zero, List.getElem?_cons_succ, List.getElem?_nil, List.set_cons_zero, List.set_cons_succ, Option.map_some, Option.map_none, if_true, if_false, Bool.false_eq_true, decide_true, decide_false, Bool.not_true, Bool.not_false, on_on, List.length_cons, List.length_nil, on_setw, on_pushw, List.nil_append, List.cons_append, seq_new, its_new, lst_new, ix_new, len_new, iv_new, newL_one, newL_two, newL_nil, iv_t, iv_r, oE_lc2, oE_chn, oE_maxd, oS_brk, oS_cnt, oS_unp, ft_cnt, ft_brk, fl_cnt, wipeW]
      · rw [get_push_self, htk, List.flatMap_append, List.flatMap_singleton, ← List.append_assoc, ← List.map_append]) (f.subs.map Fo.w).length 0 [some f.w, some (.ref r1), none] G1 (Nat.zero_add _) ⟨r1, none, rfl, by rw [List.take_zero, List.flatMap_nil, List.append_nil]; exact hr1, hr0, g1⟩
  rw [List.length_map, List.take_length] at hg
  exact ⟨r, y, G2, by rw [e2, hs], hg, hr, gg⟩
theorem sl_f {G : GH} {f : Fo} (h : f.isAt = false) : slop G f.w (some 1) none = some (.tup (f.subs.map Fo.w), G) := by
  rw [f.w_eq, sl_t, cut_1, Fo.tail_subs h]
theorem law_atoms_ok [Hf15 T] : ∀ (k : Nat) (f : Fo) (G : GH), Wf G → f.dep ≤ k → f.sz ≤ 5000 → NL T (d + k + 1) 15 [f.w] G (f.atoms.map Fo.w) := by
  intro k
  induction k with
  | zero => intro f G _ h; have := f.dep_pos; omega
  | succ k ih =>
    intro f G wf hk hz
    have i0 : ixop (on G) f.w (.int 0) = some (.str f.word) := by rw [f.w_eq, ix_t, at_0]; rfl
    have hin := f.in_at (G := on G)
    have hl := f.atoms_len
    cases h : f.isAt with
    | true =>
      rw [h] at hin
      have ha : f.atoms = [f] := by rw [Fo.atoms_eq, if_pos h]
      rw [ha]
      refine ⟨G.sz, G.push (.lst [f.w]), ?_, get_push_self _ _, Nat.le_refl _, Gr.new wf _⟩
      rw [cc15]
      simp (config := { decide := true }) only [g15, i0, hin, oE_cst, oE_var, oE_bin, oE_cmp, oE_and, oE_or, oE_not, oE_neg, oE_ife, oE_tup, oE_lst, oE_ix, oE_sl, oE_call, oE_mk, oE_met, oE_att, oE_blt, oE_lc, oEs_nil, oEs_cons, oA_nil, oA_e, oA_s, oI_e, oI_rng, oI_zip, oW_eq, oSs_nil, oSs_cons, oS_asg, oS_sub, oS_att, oS_par, oS_exp, oS_ife, oS_for, oS_whl, oS_ret, oS_pass, rb_ok, rt_ok, ft_nx, ft_ret, fl_nx, fl_ret, fo_nx, fo_ret, oo_some, og_some, nox_ok, tru_bl, tru_int, bA_nil, asg_v, c_eq, c_ne, c_in, c_nin, c_lt, c_le, c_gt, c_ge, c_is, c_isn, eq_ss, eq_ii, eq_bb, in_ss, ix_t, ix_r, at_0, at_1, at_2, at_3, at_4, on_get, on_sz, List.getElem?_cons_zero, List.getElem?_cons_succ, List.getElem?_nil, List.set_cons_zero, List.set_cons_succ, Option.map_some, Option.map_none, if_true, if_false, Bool.false_eq_true, decide_true, decide_false, Bool.not_true, Bool.not_false, on_on, List.length_cons, List.length_nil, on_setw, on_pushw, List.nil_append, List.cons_append, seq_new, its_new, lst_new, ix_new, len_new, iv_new, newL_one, newL_two, newL_nil, iv_t, iv_r, oE_lc2, oE_chn, oE_maxd, oS_brk, oS_cnt, oS_unp, ft_cnt, ft_brk, fl_cnt, wipeW]
    | false =>
      rw [h] at hin
      have ha : f.atoms = f.subs.flatMap Fo.atoms := by rw [Fo.atoms_eq, if_neg (by rw [h]; decide)]
      rw [ha] at hl
      obtain ⟨r, y, G2, e2, hg, hr, gg⟩ := acc_loop (T := T) (d := d) (i := 15) (k := k) (f := f) (G := G) (G1 := G.push (.lst [])) (r1 := G.sz) (pre := []) Fo.atoms (by rw [List.length_nil]; omega) (Gr.new wf _) (get_push_self _ _) (Nat.le_refl _) fun g hg H wH => ih g H wH (by have := Fo.dep_sub hg; omega) (by have := Fo.sz_sub hg; omega)
      have hs := sl_f (G := on (G.push (.lst []))) h
      refine ⟨r, G2, ?_, by rw [ha]; exact hg, hr, gg⟩
      have e2' : xF T (d + (k + 1)) (.one (.sq (f.subs.map Fo.w))) 0 (.v 2) [.asg (.v 1) (.bin .add (.var 1) (.call 15 [.var 2] []))] [some f.w, some (.ref G.sz), none] (on (G.push (.lst []))) = .nx [some f.w, some (.ref r), y] (on G2) := e2
      rw [cc15]
      simp (config := { decide := true }) only [g15, i0, hin, opt_1, opt_n, hs, e2', oE_cst, oE_var, oE_bin, oE_cmp, oE_and, oE_or, oE_not, oE_neg, oE_ife, oE_tup, oE_lst, oE_ix, oE_sl, oE_call, oE_mk, oE_met, oE_att, oE_blt, oE_lc, oEs_nil, oEs_cons, oA_nil, oA_e, oA_s, oI_e, oI_rng, oI_zip, oW_eq, oSs_nil, oSs_cons, oS_asg, oS_sub, oS_att, oS_par, oS_exp, oS_ife, oS_for, oS_whl, oS_ret, oS_pass, rb_ok, rt_ok, ft_nx, ft_ret, fl_nx, fl_ret, fo_nx, fo_ret, oo_some, og_some, nox_ok, tru_bl, tru_int, bA_nil, asg_v, c_eq, c_ne, c_in, c_nin, c_lt, c_le, c_gt, c_ge, c_is, c_isn, eq_ss, eq_ii, eq_bb, in_ss, ix_t, ix_r, at_0, at_1, at_2, at_3, at_4, on_get, on_sz, List.getElem?_cons_zero, List.getElem?_cons_succ, List.getElem?_nil, List.set_cons_zero, List.set_cons_succ, Option.map_some, Option.map_none, if_true, if_false, Bool.false_eq_true, decide_true, decide_false, Bool.not_true, Bool.not_false, on_on, List.length_cons, List.length_nil, on_setw, on_pushw, List.nil_append, List.cons_append, seq_new, its_new, lst_new, ix_new, len_new, iv_new, newL_one, newL_two, newL_nil, iv_t, iv_r, oE_lc2, oE_chn, oE_maxd, oS_brk, oS_cnt, oS_unp, ft_cnt, ft_brk, fl_cnt, wipeW]
theorem in_op {G : GH} (f : Fo) : inW G (.str f.word) (.tup [.str "shown", .str "not", .str "and", .str "or"]) = some (!f.subs.isEmpty) := by
  have h : ∀ k : Fo.Kd, inFl (.str k.word) [.str "shown", .str "not", .str "and", .str "or"] = (match k with | .shown => true | .not => true | .and => true | .or => true | _ => false) := fun k => by cases k <;> decide +kernel
  have e : (match f.kd with | .shown => true | .not => true | .and => true | .or => true | _ => false) = (!f.subs.isEmpty) := by cases f <;> rfl
  exact in_t rfl (by rw [Fo.word_kd, h, e])
theorem in_one {G : GH} (f : Fo) : inW G (.str f.word) (.tup [.str "true", .str "false", .str "letter", .str "mine", .str "yours"]) = some f.subs.isEmpty := by
  have h : ∀ k : Fo.Kd, inFl (.str k.word) [.str "true", .str "false", .str "letter", .str "mine", .str "yours"] = (match k with | .shown => false | .not => false | .and => false | .or => false | _ => true) := fun k => by cases k <;> decide +kernel
  have e : (match f.kd with | .shown => false | .not => false | .and => false | .or => false | _ => true) = f.subs.isEmpty := by cases f <;> rfl
  exact in_t rfl (by rw [Fo.word_kd, h, e])
def Fo.isTfs : Fo → Bool
  | .tru => true | .fls => true | .shown _ => true | _ => false
theorem in_tfs {G : GH} (f : Fo) : inW G (.str f.word) (.tup [.str "true", .str "false", .str "shown"]) = some f.isTfs := by
  have h : ∀ k : Fo.Kd, inFl (.str k.word) [.str "true", .str "false", .str "shown"] = (match k with | .shown => true | .tru => true | .fls => true | _ => false) := fun k => by cases k <;> decide +kernel
  have e : (match f.kd with | .shown => true | .tru => true | .fls => true | _ => false) = f.isTfs := by cases f <;> rfl
  exact in_t rfl (by rw [Fo.word_kd, h, e])
theorem at_subs {f : Fo} (h : f.subs.isEmpty = false) : f.isAt = false := by cases f <;> first | rfl | cases h
theorem law_parts_ok [Hf17 T] : ∀ (k : Nat) (f : Fo) (G : GH), Wf G → f.dep ≤ k → f.sz ≤ 5000 → NL T (d + k + 1) 17 [f.w] G (f.parts.map Fo.w) := by
  intro k
  induction k with
  | zero => intro f G _ h; have := f.dep_pos; omega
  | succ k ih =>
    intro f G wf hk hz
    have i0 : ∀ {G}, ixop (on G) f.w (.int 0) = some (.str f.word) := by intro G; rw [f.w_eq, ix_t, at_0]; rfl
    have hl := f.parts_len
    have hsh := f.is_sh
    let pre : List Fo := if f.isSh = true then [f] else []
    have hpe : f.parts = pre ++ f.subs.flatMap Fo.parts := f.parts_eq
    have hin := in_op (G := on (G.push (.lst (pre.map Fo.w)))) f
    rw [hpe, List.length_append] at hl
    obtain ⟨r, y, G2, e2, hg, hr, gg⟩ := acc_loop (T := T) (d := d) (i := 17) (k := k) (f := f) (G := G) (G1 := G.push (.lst (pre.map Fo.w))) (r1 := G.sz) (pre := pre) Fo.parts (by omega) (Gr.new wf _) (get_push_self _ _) (Nat.le_refl _) fun g hg H wH => ih g H wH (by have := Fo.dep_sub hg; omega) (by have := Fo.sz_sub hg; omega)
    have e2' : xF T (d + (k + 1)) (.one (.sq (f.subs.map Fo.w))) 0 (.v 2) [.asg (.v 1) (.bin .add (.var 1) (.call 17 [.var 2] []))] [some f.w, some (.ref G.sz), none] (on (G.push (.lst (pre.map Fo.w)))) = .nx [some f.w, some (.ref r), y] (on G2) := e2
    cases hE : f.subs.isEmpty with
    | true =>
      rw [hE] at hin
      have hsh0 : f.isSh = false := by cases f <;> first | rfl | cases hE
      have hp0 : pre = [] := if_neg (by rw [hsh0]; decide)
      have hs0 : f.subs = [] := List.isEmpty_iff.mp hE
      rw [hsh0] at hsh
      rw [hp0] at hin
      have hin : inW (on (G.push (.lst []))) (.str f.word) (.tup [.str "shown", .str "not", .str "and", .str "or"]) = some false := hin
      refine ⟨G.sz, G.push (.lst []), ?_, by rw [hpe, hp0, hs0]; exact get_push_self _ _, Nat.le_refl _, Gr.new wf _⟩
      rw [cc17]
      simp (config := { decide := true }) only [g17, i0, hsh, hin, oE_cst, oE_var, oE_bin, oE_cmp, oE_and, oE_or, oE_not, oE_neg, oE_ife, oE_tup, oE_lst, oE_ix, oE_sl, oE_call, oE_mk, oE_met, oE_att, oE_blt, oE_lc, oEs_nil, oEs_cons, oA_nil, oA_e, oA_s, oI_e, oI_rng, oI_zip, oW_eq, oSs_nil, oSs_cons, oS_asg, oS_sub, oS_att, oS_par, oS_exp, oS_ife, oS_for, oS_whl, oS_ret, oS_pass, rb_ok, rt_ok, ft_nx, ft_ret, fl_nx, fl_ret, fo_nx, fo_ret, oo_some, og_some, nox_ok, tru_bl, tru_int, bA_nil, asg_v, c_eq, c_ne, c_in, c_nin, c_lt, c_le, c_gt, c_ge, c_is, c_isn, eq_ss, eq_ii, eq_bb, in_ss, ix_t, ix_r, at_0, at_1, at_2, at_3, at_4, on_get, on_sz, List.getElem?_cons_zero, List.getElem?_cons_succ, List.getElem?_nil, List.set_cons_zero, List.set_cons_succ, Option.map_some, Option.map_none, if_true, if_false, Bool.false_eq_true, decide_true, decide_false, Bool.not_true, Bool.not_false, on_on, List.length_cons, List.length_nil, on_setw, on_pushw, List.nil_append, List.cons_append, seq_new, its_new, lst_new, ix_new, len_new, iv_new, newL_one, newL_two, newL_nil, iv_t, iv_r, oE_lc2, oE_chn, oE_maxd, oS_brk, oS_cnt, oS_unp, ft_cnt, ft_brk, fl_cnt, wipeW]
    | false =>
      rw [hE] at hin
      have hs := sl_f (G := on (G.push (.lst (pre.map Fo.w)))) (at_subs hE)
      refine ⟨r, G2, ?_, by rw [hpe]; exact hg, hr, gg⟩
      rw [cc17]
      cases h : f.isSh with
      | true =>
        rw [h] at hsh
        have hp : pre = [f] := if_pos h
        rw [hp] at hin e2' hs
        have hpl : List.map Fo.w [f] = [f.w] := rfl
        rw [hpl] at hin e2' hs
        have hin : inW (on (G.push (.lst [f.w]))) (.str f.word) (.tup [.str "shown", .str "not", .str "and", .str "or"]) = some true := hin
        simp (config := { decide := true }) only [g17, i0, hsh, hin, opt_1, opt_n, hs, e2', oE_cst, oE_var, oE_bin, oE_cmp, oE_and, oE_or, oE_not, oE_neg, oE_ife, oE_tup, oE_lst, oE_ix, oE_sl, oE_call, oE_mk, oE_met, oE_att, oE_blt, oE_lc, oEs_nil, oEs_cons, oA_nil, oA_e, oA_s, oI_e, oI_rng, oI_zip, oW_eq, oSs_nil, oSs_cons, oS_asg, oS_sub, oS_att, oS_par, oS_exp, oS_ife, oS_for, oS_whl, oS_ret, oS_pass, rb_ok, rt_ok, ft_nx, ft_ret, fl_nx, fl_ret, fo_nx, fo_ret, oo_some, og_some, nox_ok, tru_bl, tru_int, bA_nil, asg_v, c_eq, c_ne, c_in, c_nin, c_lt, c_le, c_gt, c_ge, c_is, c_isn, eq_ss, eq_ii, eq_bb, in_ss, ix_t, ix_r, at_0, at_1, at_2, at_3, at_4, on_get, on_sz, List.getElem?_cons_zero, List.getElem?_cons_succ, List.getElem?_nil, List.set_cons_zero, List.set_cons_succ, Option.map_some, Option.map_none, if_true, if_false, Bool.false_eq_true, decide_true, decide_false, Bool.not_true, Bool.not_false, on_on, List.length_cons, List.length_nil, on_setw, on_pushw, List.nil_append, List.cons_append, seq_new, its_new, lst_new, ix_new, len_new, iv_new, newL_one, newL_two, newL_nil, iv_t, iv_r, oE_lc2, oE_chn, oE_maxd, oS_brk, oS_cnt, oS_unp, ft_cnt, ft_brk, fl_cnt, wipeW]
      | false =>
        rw [h] at hsh
        have hp : pre = [] := if_neg (by rw [h]; decide)
        rw [hp, List.map_nil] at hin e2' hs
        have hin : inW (on (G.push (.lst []))) (.str f.word) (.tup [.str "shown", .str "not", .str "and", .str "or"]) = some true := hin
        simp (config := { decide := true }) only [g17, i0, hsh, hin, opt_1, opt_n, hs, e2', oE_cst, oE_var, oE_bin, oE_cmp, oE_and, oE_or, oE_not, oE_neg, oE_ife, oE_tup, oE_lst, oE_ix, oE_sl, oE_call, oE_mk, oE_met, oE_att, oE_blt, oE_lc, oEs_nil, oEs_cons, oA_nil, oA_e, oA_s, oI_e, oI_rng, oI_zip, oW_eq, oSs_nil, oSs_cons, oS_asg, oS_sub, oS_att, oS_par, oS_exp, oS_ife, oS_for, oS_whl, oS_ret, oS_pass, rb_ok, rt_ok, ft_nx, ft_ret, fl_nx, fl_ret, fo_nx, fo_ret, oo_some, og_some, nox_ok, tru_bl, tru_int, bA_nil, asg_v, c_eq, c_ne, c_in, c_nin, c_lt, c_le, c_gt, c_ge, c_is, c_isn, eq_ss, eq_ii, eq_bb, in_ss, ix_t, ix_r, at_0, at_1, at_2, at_3, at_4, on_get, on_sz, List.getElem?_cons_zero, List.getElem?_cons_succ, List.getElem?_nil, List.set_cons_zero, List.set_cons_succ, Option.map_some, Option.map_none, if_true, if_false, Bool.false_eq_true, decide_true, decide_false, Bool.not_true, Bool.not_false, on_on, List.length_cons, List.length_nil, on_setw, on_pushw, List.nil_append, List.cons_append, seq_new, its_new, lst_new, ix_new, len_new, iv_new, newL_one, newL_two, newL_nil, iv_t, iv_r, oE_lc2, oE_chn, oE_maxd, oS_brk, oS_cnt, oS_unp, ft_cnt, ft_brk, fl_cnt, wipeW]
theorem law_depth_ok [Hf16 T] : ∀ (k : Nat) (f : Fo) (G : GH), Wf G → f.dep ≤ k → ∃ G', xC T (d + k + 1) 16 [f.w] (on G) = .ok (.int (f.dep : Int)) (on G') ∧ Gr G G' := by
  intro k
  induction k with
  | zero => intro f G _ h; have := f.dep_pos; omega
  | succ k ih =>
    intro f G wf hk
    have i0 : ∀ {G}, ixop (on G) f.w (.int 0) = some (.str f.word) := by intro G; rw [f.w_eq, ix_t, at_0]; rfl
    have hin := in_one (G := on G) f
    cases hE : f.subs.isEmpty with
    | true =>
      rw [hE] at hin
      have h1 : f.dep = 1 := by cases f <;> first | rfl | cases hE
      refine ⟨G, ?_, Gr.refl wf⟩
      rw [h1, cc16]
      simp (config := { decide := true }) only [g16, i0, hin, oE_cst, oE_var, oE_bin, oE_cmp, oE_and, oE_or, oE_not, oE_neg, oE_ife, oE_tup, oE_lst, oE_ix, oE_sl, oE_call, oE_mk, oE_met, oE_att, oE_blt, oE_lc, oEs_nil, oEs_cons, oA_nil, oA_e, oA_s, oI_e, oI_rng, oI_zip, oW_eq, oSs_nil, oSs_cons, oS_asg, oS_sub, oS_att, oS_par, oS_exp, oS_ife, oS_for, oS_whl, oS_ret, oS_pass, rb_ok, rt_ok, ft_nx, ft_ret, fl_nx, fl_ret, fo_nx, fo_ret, oo_some, og_some, nox_ok, tru_bl, tru_int, bA_nil, asg_v, c_eq, c_ne, c_in, c_nin, c_lt, c_le, c_gt, c_ge, c_is, c_isn, eq_ss, eq_ii, eq_bb, in_ss, ix_t, ix_r, at_0, at_1, at_2, at_3, at_4, on_get, on_sz, List.getElem?_cons_zero, List.getElem?_cons_succ, List.getElem?_nil, List.set_cons_zero, List.set_cons_succ, Option.map_some, Option.map_none, if_true, if_false, Bool.false_eq_true, decide_true, decide_false, Bool.not_true, Bool.not_false, on_on, List.length_cons, List.length_nil, on_setw, on_pushw, List.nil_append, List.cons_append, seq_new, its_new, lst_new, ix_new, len_new, iv_new, newL_one, newL_two, newL_nil, iv_t, iv_r, oE_lc2, oE_chn, oE_maxd, oS_brk, oS_cnt, oS_unp, ft_cnt, ft_brk, fl_cnt, wipeW]
      rfl
    | false =>
      rw [hE] at hin
      have hs := sl_f (G := on G) (at_subs hE)
      obtain ⟨G2, e2, g2⟩ := xL_map (T := T) (d := d + (k + 1)) (iv := .one (.sq (f.subs.map Fo.w))) (tg := .v 1) (e := .call 16 [.var 1] []) (σ := [some f.w, none]) (vs := [1]) Fo.w (fun g => .int (g.dep : Int)) G f.subs 0 f.subs [] G rfl (by have := f.subs_len; simp; omega) (Gr.refl wf) hat_t fun g hg H hG => by
        obtain ⟨H2, e, g2⟩ := ih g H hG.w (by have := Fo.dep_sub hg; omega)
        have e' : xC T (d + (k + 1)) 16 [g.w] (on H) = .ok (.int (g.dep : Int)) (on H2) := e
        exact ⟨_, H2, asg_v, by simp (config := { decide := true }) only [e', oE_cst, oE_var, oE_bin, oE_cmp, oE_and, oE_or, oE_not, oE_neg, oE_ife, oE_tup, oE_lst, oE_ix, oE_sl, oE_call, oE_mk, oE_met, oE_att, oE_blt, oE_lc, oEs_nil, oEs_cons, oA_nil, oA_e, oA_s, oI_e, oI_rng, oI_zip, oW_eq, oSs_nil, oSs_cons, oS_asg, oS_sub, oS_att, oS_par, oS_exp, oS_ife, oS_for, oS_whl, oS_ret, oS_pass, rb_ok, rt_ok, ft_nx, ft_ret, fl_nx, fl_ret, fo_nx, fo_ret, oo_some, og_some, nox_ok, tru_bl, tru_int, bA_nil, asg_v, c_eq, c_ne, c_in, c_nin, c_lt, c_le, c_gt, c_ge, c_is, c_isn, eq_ss, eq_ii, eq_bb, in_ss, ix_t, ix_r, at_0, at_1, at_2, at_3, at_4, on_get, on_sz, List.getElem?_cons_zero, List.getElem?_cons_succ, List.getElem?_nil, List.set_cons_zero, List.set_cons_succ, Option.map_some, Option.map_none, if_true, if_false, Bool.false_eq_true, decide_true, decide_false, Bool.not_true, Bool.not_false, on_on, List.length_cons, List.length_nil, on_setw, on_pushw, List.nil_append, List.cons_append, seq_new, its_new, lst_new, ix_new, len_new, iv_new, newL_one, newL_two, newL_nil, iv_t, iv_r, oE_lc2, oE_chn, oE_maxd, oS_brk, oS_cnt, oS_unp, ft_cnt, ft_brk, fl_cnt, wipeW], g2⟩
      have hmm : (f.subs.map fun g => W.int (g.dep : Int)) = (f.subs.map fun g => (g.dep : Int)).map W.int := by rw [List.map_map]; rfl
      rw [List.nil_append, hmm] at e2
      have hnl := newL_k (G := G2) (ws := (f.subs.map fun g => (g.dep : Int)).map W.int) (by have := f.subs_len; rw [List.length_map, List.length_map]; omega)
      have hmx : maxI (f.subs.map fun g => (g.dep : Int)) = some ((f.dep : Int) - 1) := by
        rcases f.dep_max with ⟨h1, h2⟩ | h
        · cases f <;> first | (cases hE; done) | (simp [Fo.subs, maxI] at h1; done)
        · exact h
      have hm := max_k (T := T) (G := G2.push (.lst ((f.subs.map fun g => (g.dep : Int)).map W.int))) (m := G2.sz) (get_push_self _ _) hmx
      have hsum : (1 : Int) + ((f.dep : Int) - 1) = (f.dep : Int) := by omega
      refine ⟨_, ?_, g2.push (.lst ((f.subs.map fun g => (g.dep : Int)).map W.int))⟩
      rw [cc16]
      simp (config := { decide := true }) only [g16, i0, hin, opt_1, opt_n, hs, e2, hnl, hm, b_add, hsum, oE_cst, oE_var, oE_bin, oE_cmp, oE_and, oE_or, oE_not, oE_neg, oE_ife, oE_tup, oE_lst, oE_ix, oE_sl, oE_call, oE_mk, oE_met, oE_att, oE_blt, oE_lc, oEs_nil, oEs_cons, oA_nil, oA_e, oA_s, oI_e, oI_rng, oI_zip, oW_eq, oSs_nil, oSs_cons, oS_asg, oS_sub, oS_att, oS_par, oS_exp, oS_ife, oS_for, oS_whl, oS_ret, oS_pass, rb_ok, rt_ok, ft_nx, ft_ret, fl_nx, fl_ret, fo_nx, fo_ret, oo_some, og_some, nox_ok, tru_bl, tru_int, bA_nil, asg_v, c_eq, c_ne, c_in, c_nin, c_lt, c_le, c_gt, c_ge, c_is, c_isn, eq_ss, eq_ii, eq_bb, in_ss, ix_t, ix_r, at_0, at_1, at_2, at_3, at_4, on_get, on_sz, List.getElem?_cons_zero, List.getElem?_cons_succ, List.getElem?_nil, List.set_cons_zero, List.set_cons_succ, Option.map_some, Option.map_none, if_true, if_false, Bool.false_eq_true, decide_true, decide_false, Bool.not_true, Bool.not_false, on_on, List.length_cons, List.length_nil, on_setw, on_pushw, List.nil_append, List.cons_append, seq_new, its_new, lst_new, ix_new, len_new, iv_new, newL_one, newL_two, newL_nil, iv_t, iv_r, oE_lc2, oE_chn, oE_maxd, oS_brk, oS_cnt, oS_unp, ft_cnt, ft_brk, fl_cnt, wipeW]
theorem law_guard_ok [Hf18 T] : ∀ (k : Nat) (f : Fo) (G : GH), Wf G → f.dep ≤ k → ∃ G', xC T (d + k + 1) 18 [f.w] (on G) = .ok (.bl f.guard) (on G') ∧ Gr G G' := by
  intro k
  induction k with
  | zero => intro f G _ h; have := f.dep_pos; omega
  | succ k ih =>
    intro f G wf hk
    have i0 : ∀ {G}, ixop (on G) f.w (.int 0) = some (.str f.word) := by intro G; rw [f.w_eq, ix_t, at_0]; rfl
    have hin := f.in_at (G := on G)
    have hin2 := in_tfs (G := on G) f
    cases h : f.isAt with
    | true =>
      rw [h] at hin
      have hgd : f.guard = false := by cases f <;> first | rfl | cases h
      rw [hgd]
      refine ⟨G, ?_, Gr.refl wf⟩
      rw [cc18]
      simp (config := { decide := true }) only [g18, i0, hin, oE_cst, oE_var, oE_bin, oE_cmp, oE_and, oE_or, oE_not, oE_neg, oE_ife, oE_tup, oE_lst, oE_ix, oE_sl, oE_call, oE_mk, oE_met, oE_att, oE_blt, oE_lc, oEs_nil, oEs_cons, oA_nil, oA_e, oA_s, oI_e, oI_rng, oI_zip, oW_eq, oSs_nil, oSs_cons, oS_asg, oS_sub, oS_att, oS_par, oS_exp, oS_ife, oS_for, oS_whl, oS_ret, oS_pass, rb_ok, rt_ok, ft_nx, ft_ret, fl_nx, fl_ret, fo_nx, fo_ret, oo_some, og_some, nox_ok, tru_bl, tru_int, bA_nil, asg_v, c_eq, c_ne, c_in, c_nin, c_lt, c_le, c_gt, c_ge, c_is, c_isn, eq_ss, eq_ii, eq_bb, in_ss, ix_t, ix_r, at_0, at_1, at_2, at_3, at_4, on_get, on_sz, List.getElem?_cons_zero, List.getElem?_cons_succ, List.getElem?_nil, List.set_cons_zero, List.set_cons_succ, Option.map_some, Option.map_none, if_true, if_false, Bool.false_eq_true, decide_true, decide_false, Bool.not_true, Bool.not_false, on_on, List.length_cons, List.length_nil, on_setw, on_pushw, List.nil_append, List.cons_append, seq_new, its_new, lst_new, ix_new, len_new, iv_new, newL_one, newL_two, newL_nil, iv_t, iv_r, oE_lc2, oE_chn, oE_maxd, oS_brk, oS_cnt, oS_unp, ft_cnt, ft_brk, fl_cnt, wipeW]
    | false =>
      rw [h] at hin
      cases h2 : f.isTfs with
      | true =>
        rw [h2] at hin2
        have hgd : f.guard = true := by cases f <;> first | rfl | cases h2
        rw [hgd]
        refine ⟨G, ?_, Gr.refl wf⟩
        rw [cc18]
        simp (config := { decide := true }) only [g18, i0, hin, hin2, oE_cst, oE_var, oE_bin, oE_cmp, oE_and, oE_or, oE_not, oE_neg, oE_ife, oE_tup, oE_lst, oE_ix, oE_sl, oE_call, oE_mk, oE_met, oE_att, oE_blt, oE_lc, oEs_nil, oEs_cons, oA_nil, oA_e, oA_s, oI_e, oI_rng, oI_zip, oW_eq, oSs_nil, oSs_cons, oS_asg, oS_sub, oS_att, oS_par, oS_exp, oS_ife, oS_for, oS_whl, oS_ret, oS_pass, rb_ok, rt_ok, ft_nx, ft_ret, fl_nx, fl_ret, fo_nx, fo_ret, oo_some, og_some, nox_ok, tru_bl, tru_int, bA_nil, asg_v, c_eq, c_ne, c_in, c_nin, c_lt, c_le, c_gt, c_ge, c_is, c_isn, eq_ss, eq_ii, eq_bb, in_ss, ix_t, ix_r, at_0, at_1, at_2, at_3, at_4, on_get, on_sz, List.getElem?_cons_zero, List.getElem?_cons_succ, List.getElem?_nil, List.set_cons_zero, List.set_cons_succ, Option.map_some, Option.map_none, if_true, if_false, Bool.false_eq_true, decide_true, decide_false, Bool.not_true, Bool.not_false, on_on, List.length_cons, List.length_nil, on_setw, on_pushw, List.nil_append, List.cons_append, seq_new, its_new, lst_new, ix_new, len_new, iv_new, newL_one, newL_two, newL_nil, iv_t, iv_r, oE_lc2, oE_chn, oE_maxd, oS_brk, oS_cnt, oS_unp, ft_cnt, ft_brk, fl_cnt, wipeW]
      | false =>
        rw [h2] at hin2
        have hs := sl_f (G := on G) h
        obtain ⟨G2, e2, gr2⟩ := xL_map (T := T) (d := d + (k + 1)) (iv := .one (.sq (f.subs.map Fo.w))) (tg := .v 1) (e := .call 18 [.var 1] []) (σ := [some f.w, none]) (vs := [1]) Fo.w (fun g => .bl g.guard) G f.subs 0 f.subs [] G rfl (by have := f.subs_len; simp; omega) (Gr.refl wf) hat_t fun g hg H hG => by
          obtain ⟨H2, e, gr2⟩ := ih g H hG.w (by have := Fo.dep_sub hg; omega)
          have e' : xC T (d + (k + 1)) 18 [g.w] (on H) = .ok (.bl g.guard) (on H2) := e
          exact ⟨_, H2, asg_v, by simp (config := { decide := true }) only [e', oE_cst, oE_var, oE_bin, oE_cmp, oE_and, oE_or, oE_not, oE_neg, oE_ife, oE_tup, oE_lst, oE_ix, oE_sl, oE_call, oE_mk, oE_met, oE_att, oE_blt, oE_lc, oEs_nil, oEs_cons, oA_nil, oA_e, oA_s, oI_e, oI_rng, oI_zip, oW_eq, oSs_nil, oSs_cons, oS_asg, oS_sub, oS_att, oS_par, oS_exp, oS_ife, oS_for, oS_whl, oS_ret, oS_pass, rb_ok, rt_ok, ft_nx, ft_ret, fl_nx, fl_ret, fo_nx, fo_ret, oo_some, og_some, nox_ok, tru_bl, tru_int, bA_nil, asg_v, c_eq, c_ne, c_in, c_nin, c_lt, c_le, c_gt, c_ge, c_is, c_isn, eq_ss, eq_ii, eq_bb, in_ss, ix_t, ix_r, at_0, at_1, at_2, at_3, at_4, on_get, on_sz, List.getElem?_cons_zero, List.getElem?_cons_succ, List.getElem?_nil, List.set_cons_zero, List.set_cons_succ, Option.map_some, Option.map_none, if_true, if_false, Bool.false_eq_true, decide_true, decide_false, Bool.not_true, Bool.not_false, on_on, List.length_cons, List.length_nil, on_setw, on_pushw, List.nil_append, List.cons_append, seq_new, its_new, lst_new, ix_new, len_new, iv_new, newL_one, newL_two, newL_nil, iv_t, iv_r, oE_lc2, oE_chn, oE_maxd, oS_brk, oS_cnt, oS_unp, ft_cnt, ft_brk, fl_cnt, wipeW], gr2⟩
        have hmm : (f.subs.map fun g => W.bl g.guard) = (f.subs.map Fo.guard).map W.bl := by rw [List.map_map]; rfl
        rw [List.nil_append, hmm] at e2
        have hnl := newL_k (G := G2) (ws := (f.subs.map Fo.guard).map W.bl) (by have := f.subs_len; rw [List.length_map, List.length_map]; omega)
        have hall := all_k (T := T) (G := G2.push (.lst ((f.subs.map Fo.guard).map W.bl))) (m := G2.sz) (bs := f.subs.map Fo.guard) (get_push_self _ _)
        have hr : f.guard = (f.subs.map Fo.guard).all id := by
          cases f <;> first | (cases h; done) | (cases h2; done) | simp [Fo.guard, Fo.subs]
        refine ⟨_, ?_, gr2.push (.lst ((f.subs.map Fo.guard).map W.bl))⟩
        rw [hr, cc18]
        simp (config := { decide := true }) only [g18, i0, hin, hin2, opt_1, opt_n, hs, e2, hnl, hall, oE_cst, oE_var, oE_bin, oE_cmp, oE_and, oE_or, oE_not, oE_neg, oE_ife, oE_tup, oE_lst, oE_ix, oE_sl, oE_call, oE_mk, oE_met, oE_att, oE_blt, oE_lc, oEs_nil, oEs_cons, oA_nil, oA_e, oA_s, oI_e, oI_rng, oI_zip, oW_eq, oSs_nil, oSs_cons, oS_asg, oS_sub, oS_att, oS_par, oS_exp, oS_ife, oS_for, oS_whl, oS_ret, oS_pass, rb_ok, rt_ok, ft_nx, ft_ret, fl_nx, fl_ret, fo_nx, fo_ret, oo_some, og_some, nox_ok, tru_bl, tru_int, bA_nil, asg_v, c_eq, c_ne, c_in, c_nin, c_lt, c_le, c_gt, c_ge, c_is, c_isn, eq_ss, eq_ii, eq_bb, in_ss, ix_t, ix_r, at_0, at_1, at_2, at_3, at_4, on_get, on_sz, List.getElem?_cons_zero, List.getElem?_cons_succ, List.getElem?_nil, List.set_cons_zero, List.set_cons_succ, Option.map_some, Option.map_none, if_true, if_false, Bool.false_eq_true, decide_true, decide_false, Bool.not_true, Bool.not_false, on_on, List.length_cons, List.length_nil, on_setw, on_pushw, List.nil_append, List.cons_append, seq_new, its_new, lst_new, ix_new, len_new, iv_new, newL_one, newL_two, newL_nil, iv_t, iv_r, oE_lc2, oE_chn, oE_maxd, oS_brk, oS_cnt, oS_unp, ft_cnt, ft_brk, fl_cnt, wipeW]
end
end PM

set_option maxHeartbeats 4000000
/-! FoD: names drawn; both, same; alike. -/
namespace PM
open PySem
theorem len_app (a c : Str) : (a ++ c).length = a.length + c.length := Array.size_append
theorem join_sok : ∀ l : List Str, (∀ z ∈ l, PyData.strOk z = true ∧ z.length ≤ 1) → PyData.strOk (Txt.join "" l) = true ∧ (Txt.join "" l).length ≤ l.length := by
  intro l
  rw [TL.join_eq]
  induction l with
  | nil => intro _; exact ⟨by decide +kernel, by decide +kernel⟩
  | cons x r ih =>
    intro h
    have hx := h x List.mem_cons_self
    cases r with
    | nil => exact hx
    | cons y r =>
      have hr := ih fun z hz => h z (List.mem_cons_of_mem _ hz)
      have e : Str.join "" (x :: y :: r) = x ++ "" ++ Str.join "" (y :: r) := rfl
      rw [e, len_app, len_app]
      refine ⟨strOk_app (strOk_app hx.1 (by decide +kernel)) hr.1, ?_⟩
      have : ("" : Str).length = 0 := by decide +kernel
      rw [List.length_cons]
      omega
theorem cut_sok {z : Str} (h : PyData.strOk z = true) (lo hi : Option Int) : PyData.strOk (L2.cutS z lo hi) = true ∧ (L2.cutS z lo hi).length ≤ z.length := by
  have h1 : ∀ k ∈ z.cps.toList, k < 0x110000 := by
    intro k hk
    have : z.cps.all (· < 0x110000) = true := h
    rw [Array.all_eq_true'] at this
    simpa using this k (Array.mem_toList_iff.mp hk)
  unfold L2.cutS
  constructor
  · show Array.all _ _ = true
    rw [List.all_toArray', List.all_eq_true] <;> try rfl
    intro k hk
    exact decide_eq_true (h1 k (List.mem_of_mem_drop (List.mem_of_mem_take hk)))
  · show (List.toArray _).size ≤ z.cps.size
    rw [List.size_toArray, List.length_take, List.length_drop, Array.length_toList]
    omega
theorem mul_r {i j : Int} {G : GH} (h : j.natAbs < 18446744073709551616) : binop .mul (.int i) (.int j) G = some (.int (i * j), G) := b_mul (by rw [decide_eq_true h, Bool.or_true])
section
variable {T : Tb} {d b : Nat} {G : GH}
theorem named_ok [Hf10 T] [Hf11 T] [Hf12 T] [HBm T .str 1 .join] [HBm T .lst 2 .append] (n : Nat) (hn : n ≤ 50) (hb : IsBag G b) (wf : Wf G) : ∃ (zs : List Str) (m : Nat) (G' : GH), xC T (d + 1 + 1 + 1) 12 [.ref b, .int (n : Int)] (on G) = .ok (.ref m) (on G') ∧ G'.get m = some (.lst (zs.map .str)) ∧ m ≠ b ∧ zs.length = n ∧ (∀ z ∈ zs, PyData.strOk z = true ∧ z.length ≤ 6) ∧ Made G G' b := by
  -- the stem
  obtain ⟨r, G1, e1, r1, d1⟩ := draw_n (T := T) (d := d + 1) (many := 6) hb (by decide) (by decide) wf
  have hr := rng_1 (n := r) (by omega)
  obtain ⟨acc, G2, e2, ⟨⟨l, hl, hz⟩, m2⟩, hlen⟩ := xL_seq (T := T) (d := d + 1 + 1) (iv := .one (.sq (rngW 0 r))) (tg := .v 6) (e := .call 11 [.var 0, .cst (.str "abcxz")] []) (σ := [some (.ref b), some (.int (n : Int)), none, none, none, none, none]) (vs := [6]) (rngW 0 r)
    (fun j acc H => (∃ l : List Str, acc = l.map .str ∧ ∀ z ∈ l, PyData.strOk z = true ∧ z.length ≤ 1) ∧ Made G H b) (by rw [rngW_len]; omega) (fun j acc H _ => sq_at) (fun j w H acc hj _ hI => by
      obtain ⟨⟨l, hl, hz⟩, m1⟩ := hI
      obtain ⟨c, H2, e, hc, dr⟩ := any_s (T := T) (d := d) (z := "abcxz") m1.bag (by decide) m1.wf
      refine ⟨_, .str ⟨#[c]⟩, H2, asg_v, by simp (config := { decide := true }) only [e, oE_cst, oE_var, oE_bin, oE_cmp, oE_and, oE_or, oE_not, oE_neg, oE_ife, oE_tup, oE_lst, oE_ix, oE_sl, oE_call, oE_mk, oE_met, oE_att, oE_blt, oE_lc, oEs_nil, oEs_cons, oA_nil, oA_e, oA_s, oI_e, oI_rng, oI_zip, oW_eq, oSs_nil, oSs_cons, oS_asg, oS_sub, oS_att, oS_par, oS_exp, oS_ife, oS_for, oS_whl, oS_ret, oS_pass, rb_ok, rt_ok, ft_nx, ft_ret, fl_nx, fl_ret, fo_nx, fo_ret, oo_some, og_some, nox_ok, tru_bl, tru_int, bA_nil, asg_v, c_eq, c_ne, c_in, c_nin, c_lt, c_le, c_gt, c_ge, c_is, c_isn, eq_ss, eq_ii, eq_bb, in_ss, ix_t, ix_r, at_0, at_1, at_2, at_3, at_4, on_get, on_sz, List.getElem?_cons_zero, List.getElem?_cons_succ, List.getElem?_nil, List.set_cons_zero, List.set_cons_succ, Option.map_some, Option.map_none, if_true, if_false, Bool.false_eq_true, decide_true, decide_false, Bool.not_true, Bool.not_false, on_on, List.length_cons, List.length_nil, on_setw, on_pushw, List.nil_append, List.cons_append, seq_new, its_new, lst_new, ix_new, len_new, iv_new, newL_one, newL_two, newL_nil, iv_t, iv_r, oE_lc2, oE_chn, oE_maxd, oS_brk, oS_cnt, oS_unp, ft_cnt, ft_brk, fl_cnt, wipeW], ⟨l ++ [⟨#[c]⟩], by rw [hl, List.map_append]; rfl, fun z hz2 => ?_⟩, m1.trans dr.made⟩
      rcases List.mem_append.mp hz2 with q | q
      · exact hz z q
      · rw [List.mem_singleton.mp q]
        exact ⟨strOk_one hc (by decide +kernel), Nat.le_refl 1⟩) r 0 [] G1 (by rw [rngW_len]; omega) rfl ⟨⟨[], rfl, fun z h => nomatch h⟩, d1.made⟩
  rw [rngW_len, hl, List.length_map] at hlen
  rw [hl] at e2
  have hnl := newL_k (G := G2) (ws := l.map .str) (by rw [List.length_map]; omega)
  have hs := join_sok l hz
  let stem := Txt.join "" l
  have hj := join_k (G := G2.push (.lst (l.map .str))) (n := G2.sz) (l := l) (z := "") (get_push_self _ _) (by
    have h1 : ∀ l : List Str, (∀ z ∈ l, PyData.strOk z = true ∧ z.length ≤ 1) → (l.map Str.length).sum ≤ l.length := by
      intro l
      induction l with
      | nil => intro _; exact Nat.le_refl _
      | cons a r ih =>
        intro h
        have := (h a List.mem_cons_self).2
        have := ih fun z hz => h z (List.mem_cons_of_mem _ hz)
        rw [List.map_cons, List.sum_cons, List.length_cons]
        omega
    have := h1 l hz
    have : ("" : Str).length = 0 := by decide +kernel
    rw [this]
    omega)
  have hmk : mkOf T (on G) (.str "") 1 = some (.b .join) := mk_str HBm.h
  have m3 : Made G (G2.push (.lst (l.map .str))) b := m2.push _
  have hsl : stem.length ≤ 5 := by show (Txt.join "" l).length ≤ 5; omega
  have hlen2 : bfop T .len [.str stem] (on (G2.push (.lst (l.map .str)))) = some (.int (stem.length : Nat), on (G2.push (.lst (l.map .str)))) := len_s (szOk_k (by omega))
  obtain ⟨at_, G4, e4, a4, d4⟩ := draw_n (T := T) (d := d + 1) (many := ((stem.length + 1 : Nat) : Int)) m3.bag (by omega) (by omega) m3.wf
  obtain ⟨fi, G5, e5, a5, d5⟩ := draw_n (T := T) (d := d + 1) (many := 26) d4.bag (by decide) (by decide) d4.wf
  have m5 := (m3.trans d4.made).trans d5.made
  let G6 := G5.push (.lst [])
  have hbl : b < G5.sz := m5.bag.lt m5.wf
  obtain ⟨σ', G7, e7, hσ, ⟨zs, h7, h8, h9⟩, m7⟩ := xF_seq (T := T) (d := d + 1 + 1) (iv := .one (.sq (rngW 0 n))) (tg := .v 6) (b := [.exp (.met (.var 5) 2 [.bin .add (.bin .add (.sl (.var 2) (.cst .non) (.var 3)) (.ix (.cst (.str "abcdefghijklmnopqrstuvwxyz")) (.bin .mod (.blt .int [.bin .add (.var 4) (.bin .mul (.cst (.int 7)) (.var 6))]) (.cst (.int 26))))) (.sl (.var 2) (.var 3) (.cst .non))])]) (rngW 0 n)
    (fun j σ H => (∃ y, σ = [some (.ref b), some (.int (n : Int)), some (.str stem), some (.int (at_ : Int)), some (.int (fi : Int)), some (.ref G5.sz), y]) ∧ (∃ zs : List Str, H.get G5.sz = some (.lst (zs.map .str)) ∧ zs.length = j ∧ ∀ z ∈ zs, PyData.strOk z = true ∧ z.length ≤ 6) ∧ Gr G5 H) (fun j σ H _ => rfl) (fun j w σ H hj hI => by
      obtain ⟨⟨y, rfl⟩, ⟨zs, h1, h2, h3⟩, mH⟩ := hI
      rw [rngW_get] at hj
      split at hj
      · rename_i hlt
        cases hj
        have hz0 : (0 : Int) + (j : Nat) = (j : Int) := by omega
        have mk := mk_lst (T := T) (m := 2) (k := .append) h1 HBm.h
        have mu : binop .mul (.int 7) (.int (j : Int)) (on H) = some (.int (7 * (j : Int)), on H) := mul_r (by omega)
        have mo : binop .mod (.int ((fi : Int) + 7 * (j : Int))) (.int 26) (on H) = some (.int (((fi : Int) + 7 * (j : Int)).fmod 26), on H) := b_mod (by decide)
        obtain ⟨c0, c1⟩ := fmod_in (a := (fi : Int) + 7 * (j : Int)) (m := 26) (by decide)
        obtain ⟨c, hc, hcm⟩ := at_lt (xs := ("abcdefghijklmnopqrstuvwxyz" : Str).cps.toList) c0 c1
        have hix : ixop (on H) (.str "abcdefghijklmnopqrstuvwxyz") (.int (((fi : Int) + 7 * (j : Int)).fmod 26)) = some (.str ⟨#[c]⟩) := by
          show (if szOk ("abcdefghijklmnopqrstuvwxyz" : Str).length = true then (L2.atI ("abcdefghijklmnopqrstuvwxyz" : Str).cps.toList _).map fun c => W.str ⟨#[c]⟩ else none) = _
          rw [if_pos (by decide), hc]
          rfl
        have s1 : slop (on H) (.str stem) none (some (at_ : Int)) = some (.str (L2.cutS stem none (some (at_ : Int))), on H) := by
          show (if szOk stem.length = true then _ else _) = _
          rw [if_pos (szOk_k (by omega))]
        have s2 : slop (on H) (.str stem) (some (at_ : Int)) none = some (.str (L2.cutS stem (some (at_ : Int)) none), on H) := by
          show (if szOk stem.length = true then _ else _) = _
          rw [if_pos (szOk_k (by omega))]
        have k1 := cut_sok hs.1 none (some (at_ : Int))
        have k2 := cut_sok hs.1 (some (at_ : Int)) none
        have k1l : (L2.cutS stem none (some (at_ : Int))).length ≤ 5 := Nat.le_trans k1.2 hsl
        have k2l : (L2.cutS stem (some (at_ : Int)) none).length ≤ 5 := Nat.le_trans k2.2 hsl
        have hone : (⟨#[c]⟩ : Str).length = 1 := rfl
        have a1 : binop .add (.str (L2.cutS stem none (some (at_ : Int)))) (.str ⟨#[c]⟩) (on H) = some (.str (L2.cutS stem none (some (at_ : Int)) ++ ⟨#[c]⟩), on H) := by
          show (if szOk _ = true then _ else _) = _
          rw [if_pos (szOk_k (by omega))]
        have a2 : binop .add (.str (L2.cutS stem none (some (at_ : Int)) ++ ⟨#[c]⟩)) (.str (L2.cutS stem (some (at_ : Int)) none)) (on H) = some (.str (L2.cutS stem none (some (at_ : Int)) ++ ⟨#[c]⟩ ++ L2.cutS stem (some (at_ : Int)) none), on H) := by
          show (if szOk _ = true then _ else _) = _
          rw [if_pos (szOk_k (by rw [len_app]; omega))]
        have ap := app_k (w := .str (L2.cutS stem none (some (at_ : Int)) ++ ⟨#[c]⟩ ++ L2.cutS stem (some (at_ : Int)) none)) h1 (by rw [List.length_map]; omega)
        have oi : optI (.int (at_ : Int)) = some (some (at_ : Int)) := rfl
        have hlen3 : (L2.cutS stem none (some (at_ : Int)) ++ ⟨#[c]⟩ ++ L2.cutS stem (some (at_ : Int)) none).length ≤ 6 := by
          have q1 : ((stem.cps.toList.take at_).toArray).size + ((stem.cps.toList.drop at_).toArray).size = stem.length := by
            rw [List.size_toArray, List.size_toArray, List.length_take, List.length_drop, Array.length_toList]
            show min at_ stem.length + (stem.length - at_) = stem.length
            omega
          have hle : at_ ≤ stem.length := by omega
          have q2 : (L2.cutS stem none (some (at_ : Int))).length = ((stem.cps.toList.take at_).toArray).size := by
            unfold L2.cutS
            rw [HT.sIx_none, HT.sIx_nat, List.drop_zero, Nat.sub_zero, Nat.min_eq_left hle]
            rfl
          have q3 : (L2.cutS stem (some (at_ : Int)) none).length = ((stem.cps.toList.drop at_).toArray).size := by
            unfold L2.cutS
            rw [HT.sIx_none, HT.sIx_nat, Nat.min_eq_left hle, List.take_of_length_le (by rw [List.length_drop, Array.length_toList]; exact Nat.le_refl _)]
            rfl
          rw [len_app, len_app, q2, q3]
          omega
        refine ⟨[some (.ref b), some (.int (n : Int)), some (.str stem), some (.int (at_ : Int)), some (.int (fi : Int)), some (.ref G5.sz), some (.int (j : Int))], [some (.ref b), some (.int (n : Int)), some (.str stem), some (.int (at_ : Int)), some (.int (fi : Int)), some (.ref G5.sz), some (.int (j : Int))], H.set G5.sz (.lst (zs.map .str ++ [.str (L2.cutS stem none (some (at_ : Int)) ++ ⟨#[c]⟩ ++ L2.cutS stem (some (at_ : Int)) none)])), by rw [hz0]; rfl, ?_, ⟨_, rfl⟩, ⟨zs ++ [L2.cutS stem none (some (at_ : Int)) ++ ⟨#[c]⟩ ++ L2.cutS stem (some (at_ : Int)) none], (get_set_self _ _ _).trans (by rw [List.map_append]; rfl), by rw [List.length_append, h2]; rfl, fun z hz2 => ?_⟩, ?_⟩
        · simp (config := { decide := true }) only [mk, mu, mo, int_i, b_add, hix, s1, s2, oi, opt_n, a1, a2, ap, oE_cst, oE_var, oE_bin, oE_cmp, oE_and, oE_or, oE_not, oE_neg, oE_ife, oE_tup, oE_lst, oE_ix, oE_sl, oE_call, oE_mk, oE_met, oE_att, oE_blt, oE_lc, oEs_nil, oEs_cons, oA_nil, oA_e, oA_s, oI_e, oI_rng, oI_zip, oW_eq, oSs_nil, oSs_cons, oS_asg, oS_sub, oS_att, oS_par, oS_exp, oS_ife, oS_for, oS_whl, oS_ret, oS_pass, rb_ok, rt_ok, ft_nx, ft_ret, fl_nx, fl_ret, fo_nx, fo_ret, oo_some, og_some, nox_ok, tru_bl, tru_int, bA_nil, asg_v, c_eq, c_ne, c_in, c_nin, c_lt, c_le, c_gt, c_ge, c_is, c_isn, eq_ss, eq_ii, eq_bb, in_ss, ix_t, ix_r, at_0, at_1, at_2, at_3, at_4, on_get, on_sz, List.getElem?_cons_zero, List.getElem?_cons_succ, List.getElem?_nil, List.set_cons_zero, List.set_cons_succ, Option.map_some, Option.map_none, if_true, if_false, Bool.false_eq_true, decide_true, decide_false, Bool.not_true, Bool.not_false, on_on, List.length_cons, List.length_nil, on_setw, on_pushw, List.nil_append, List.cons_append, seq_new, its_new, lst_new, ix_new, len_new, iv_new, newL_one, newL_two, newL_nil, iv_t, iv_r, oE_lc2, oE_chn, oE_maxd, oS_brk, oS_cnt, oS_unp, ft_cnt, ft_brk, fl_cnt, wipeW]
        · rcases List.mem_append.mp hz2 with q | q
          · exact h3 z q
          · rw [List.mem_singleton.mp q]
            exact ⟨strOk_app (strOk_app k1.1 (strOk_one hcm (by decide +kernel))) k2.1, hlen3⟩
        · exact mH.set m5.wf (Nat.le_refl _) h1
      · cases hj) n 0 [some (.ref b), some (.int (n : Int)), some (.str stem), some (.int (at_ : Int)), some (.int (fi : Int)), some (.ref G5.sz), none] G6 (by rw [rngW_len]; omega) ⟨⟨_, rfl⟩, ⟨[], get_push_self _ _, rfl, fun z h => nomatch h⟩, Gr.new m5.wf _⟩
  obtain ⟨y, rfl⟩ := hσ
  rw [rngW_len] at h8
  have hrn := rng_1 (n := n) (by omega)
  have hat : ((stem.length : Nat) : Int) + 1 = ((stem.length + 1 : Nat) : Int) := by omega
  have pr : parS [3, 4] [.int (at_ : Int), .int (fi : Int)] [some (.ref b), some (.int (n : Int)), some (.str stem), none, none, none, none] = some [some (.ref b), some (.int (n : Int)), some (.str stem), some (.int (at_ : Int)), some (.int (fi : Int)), none, none] := rfl
  have e2' : xL T (d + 1 + 1) (.one (.sq (rngW 0 r))) 0 (.v 6) [] (.call 11 [.var 0, .cst (.str "abcxz")] []) [some (.ref b), some (.int (n : Int)), none, none, none, none, none] [6] [] (on G1) = .ok (l.map .str) (on G2) := e2
  have hj' : bmop Bm.join (.str "") [.ref G2.sz] (on (G2.push (.lst (l.map .str)))) = some (.str stem, on (G2.push (.lst (l.map .str)))) := hj
  refine ⟨zs, G5.sz, G7, ?_, h7, by omega, h8, h9, m5.gr m7⟩
  rw [cc12]
  dsimp only [G6] at e7
  simp (config := { decide := true }) only [g12, e1, hr, e2', hnl, hmk, hj', hlen2, b_add, hat, e4, e5, pr, hrn, e7, oE_cst, oE_var, oE_bin, oE_cmp, oE_and, oE_or, oE_not, oE_neg, oE_ife, oE_tup, oE_lst, oE_ix, oE_sl, oE_call, oE_mk, oE_met, oE_att, oE_blt, oE_lc, oEs_nil, oEs_cons, oA_nil, oA_e, oA_s, oI_e, oI_rng, oI_zip, oW_eq, oSs_nil, oSs_cons, oS_asg, oS_sub, oS_att, oS_par, oS_exp, oS_ife, oS_for, oS_whl, oS_ret, oS_pass, rb_ok, rt_ok, ft_nx, ft_ret, fl_nx, fl_ret, fo_nx, fo_ret, oo_some, og_some, nox_ok, tru_bl, tru_int, bA_nil, asg_v, c_eq, c_ne, c_in, c_nin, c_lt, c_le, c_gt, c_ge, c_is, c_isn, eq_ss, eq_ii, eq_bb, in_ss, ix_t, ix_r, at_0, at_1, at_2, at_3, at_4, on_get, on_sz, List.getElem?_cons_zero, List.getElem?_cons_succ, List.getElem?_nil, List.set_cons_zero, List.set_cons_succ, Option.map_some, Option.map_none, if_true, if_false, Bool.false_eq_true, decide_true, decide_false, Bool.not_true, Bool.not_false, on_on, List.length_cons, List.length_nil, on_setw, on_pushw, List.nil_append, List.cons_append, seq_new, its_new, lst_new, ix_new, len_new, iv_new, newL_one, newL_two, newL_nil, iv_t, iv_r, oE_lc2, oE_chn, oE_maxd, oS_brk, oS_cnt, oS_unp, ft_cnt, ft_brk, fl_cnt, wipeW]
end
end PM

set_option maxHeartbeats 4000000
/-! FoE: both, same; alike; letters by looking. -/
namespace PM
open PySem
theorem pool_str : ∀ {moves : Str} {names : List Str}, PyData.strOk moves = true → (∀ z ∈ names, PyData.strOk z = true) → ∀ {f : Fo}, okA moves names f → f.da.ok = true := by
  intro moves names hm hn
  have one : ∀ {c : Nat} {z : Str}, c ∈ z.cps.toList → PyData.strOk z = true → (Da.str ⟨#[c]⟩).ok = true := fun h hz => strOk_one h hz
  have k2 : ∀ (w : Str) (x : Da), PyData.strOk w = true → x.ok = true → (Da.tup [.str w, x]).ok = true := fun w x h1 h2 => by
    show (PyData.strOk w && (x.ok && true)) = true
    rw [h1, h2]
    rfl
  have k3 : ∀ (w : Str) (x y : Da), PyData.strOk w = true → x.ok = true → y.ok = true → (Da.tup [.str w, x, y]).ok = true := fun w x y h1 h2 h3 => by
    show (PyData.strOk w && (x.ok && (y.ok && true))) = true
    rw [h1, h2, h3]
    rfl
  intro f
  induction f with
  | tru => intro _; decide +kernel
  | fls => intro _; decide +kernel
  | ltr c =>
    intro h
    obtain ⟨_, k, rfl, hk⟩ := h
    exact k2 _ _ (by decide +kernel) (one hk (by decide +kernel))
  | mine m =>
    intro h
    obtain ⟨k, rfl, hk⟩ := h
    exact k2 _ _ (by decide +kernel) (one hk hm)
  | yours m =>
    intro h
    obtain ⟨k, rfl, hk⟩ := h
    exact k2 _ _ (by decide +kernel) (one hk hm)
  | yto m n =>
    intro h
    obtain ⟨⟨k, rfl, hk⟩, h2⟩ := h
    exact k3 _ _ _ (by decide +kernel) (one hk hm) (hn _ h2)
  | shown f ih => intro h; exact k2 _ _ (by decide +kernel) (ih h)
  | not f ih => intro h; exact k2 _ _ (by decide +kernel) (ih h)
  | and f g ih1 ih2 => intro h; exact k3 _ _ _ (by decide +kernel) (ih1 h.1) (ih2 h.2)
  | or f g ih1 ih2 => intro h; exact k3 _ _ _ (by decide +kernel) (ih1 h.1) (ih2 h.2)
namespace Fo
def bothL : List Fo → Fo
  | [] => tru
  | f :: fs => fs.foldl and f
def sameF (f g : Fo) : Fo := or (and f g) (and (not f) (not g))
theorem kd_word {f : Fo} {z : Str} (h : decide (f.word = z) = false) : ¬ f.word = z := of_decide_eq_false h
theorem py_head (f : Fo) : ∃ r, f.da.py = .tuple (.str f.word :: r) := by cases f <;> exact ⟨_, rfl⟩
theorem eqv_ltr (f : Fo) (c : Str) : PyData.eqv f.da.py (Da.py (.tup [.str "letter", .str c])) = (f.isLt && f.lt == c) := by
  have hl := f.is_lt
  cases h : f.isLt with
  | false =>
    rw [h] at hl
    obtain ⟨r, hr⟩ := f.py_head
    rw [hr]
    show PyData.eqv (.tuple (.str f.word :: r)) (.tuple [.str "letter", .str c]) = _
    rw [PyData.eqv, PyData.eqvAll, PyData.eqv]
    have : (f.word == ("letter" : Str)) = false := by
      rw [beq_eq_false_iff_ne]
      exact of_decide_eq_false hl
    rw [this]
    rfl
  | true =>
    cases f <;> first | (cases h; done) | skip
    rename_i x
    show PyData.eqv (.tuple [.str "letter", .str x]) (.tuple [.str "letter", .str c]) = _
    rw [PyData.eqv, PyData.eqvAll, PyData.eqv, PyData.eqvAll, PyData.eqv, PyData.eqvAll, beq_self_eq_true, Bool.true_and, Bool.and_true]
    rfl
end Fo
theorem any_ltr (c : Str) (l : List Fo) : ((l.map Fo.da).any fun z => PyData.eqv z.py (Da.py (.tup [.str "letter", .str c]))) = ((l.filter Fo.isLt).map Fo.lt).any (· == c) := by
  induction l with
  | nil => rfl
  | cons f r ih =>
    rw [List.map_cons, List.any_cons, ih, Fo.eqv_ltr]
    cases h : f.isLt with
    | false => rw [List.filter_cons_of_neg (by rw [h]; decide)]; rfl
    | true => rw [List.filter_cons_of_pos (by rw [h]), List.map_cons, List.any_cons]; rfl
theorem oks_fo {l : List Fo} (h : ∀ f ∈ l, f.da.ok = true) : Da.oks (l.map Fo.da) = true := by
  rw [oks_all, List.all_map, List.all_eq_true]
  exact h
theorem dpts_fo {l : List Fo} {n : Nat} (h : ∀ f ∈ l, f.dep ≤ n) : dpts (l.map Fo.da) ≤ n := dpts_le _ fun d hd => by
  obtain ⟨f, hf, rfl⟩ := List.mem_map.mp hd
  rw [Fo.dpt_da]
  exact h f hf
/-- ('letter', c) in atoms -/
theorem in_atoms {G : GH} {n : Nat} {f : Fo} {c : Str} (h : G.get n = some (.lst (f.atoms.map Fo.w))) (hz : ∀ g ∈ f.atoms, g.da.ok = true) (hd : ∀ g ∈ f.atoms, g.dep ≤ 40) (hc : PyData.strOk c = true) : inW (on G) (.tup [.str "letter", .str c]) (.ref n) = some (f.ltrs.any (· == c)) := by
  rw [in_da (a := .tup [.str "letter", .str c]) (ds := f.atoms.map Fo.da) ⟨_, rfl, _, _, rfl, rfl, _, _, rfl, rfl, rfl⟩ (isDa_list (fun a => a.isDa) h) ⟨by show (PyData.strOk "letter" && (PyData.strOk c && true)) = true; rw [hc]; decide +kernel, by show 1 ≤ 50; decide⟩ ⟨oks_fo hz, Nat.le_trans (dpts_fo hd) (by decide)⟩ rfl, any_ltr]
  rfl
theorem eq_nilT {G : GH} {l : List Fo} (hz : ∀ g ∈ l, g.da.ok = true) (hd : ∀ g ∈ l, g.dep ≤ 40) : eqW (on G) (.tup (l.map Fo.w)) (.tup []) = some l.isEmpty := by
  have := eq_da (G := G) (a := .tup (l.map Fo.da)) (c := .tup []) ⟨_, rfl, isDas_map (fun a => a.isDa) l⟩ ⟨[], rfl, rfl⟩ ⟨oks_fo hz, by have := dpts_fo hd; show dpts _ + 1 ≤ 50; omega⟩ ⟨rfl, by decide⟩ rfl
  rw [this]
  cases l <;> rfl
section
variable {T : Tb} {d : Nat}
theorem both_ok [Hf7 T] (fs : List Fo) (G : GH) (wf : Wf G) (hl : fs.length ≤ 10000) (hz : ∀ g ∈ fs, g.da.ok = true) (hd : ∀ g ∈ fs, g.dep ≤ 40) : ∃ G', xC T (d + 1) 7 (fs.map Fo.w) (on G) = .ok (Fo.bothL fs).w (on G') ∧ Gr G G' := by
  have hargs : argsOf ⟨1, 4, true, g7⟩ (fs.map Fo.w) = some [.tup (fs.map Fo.w)] := by
    unfold argsOf
    rw [if_pos rfl, if_pos (by rw [Bool.and_eq_true, Bool.and_eq_true]; exact ⟨decide_eq_true (Nat.zero_le _), szOk_k (by rw [List.length_map]; exact hl), rfl⟩)]
    rfl
  have hq := eq_nilT (G := G) hz hd
  rw [xC_eq (us := [.tup (fs.map Fo.w)]) Hf7.h hargs]
  show ∃ G', (xSs T d g7 [some (.tup (fs.map Fo.w)), none, none, none] (on G)).out = _ ∧ _
  cases fs with
  | nil =>
    have hq : eqW (on G) (.tup ([].map Fo.w)) (.tup []) = some true := hq
    refine ⟨G, ?_, Gr.refl wf⟩
    simp (config := { decide := true }) only [g7, hq, oE_cst, oE_var, oE_bin, oE_cmp, oE_and, oE_or, oE_not, oE_neg, oE_ife, oE_tup, oE_lst, oE_ix, oE_sl, oE_call, oE_mk, oE_met, oE_att, oE_blt, oE_lc, oEs_nil, oEs_cons, oA_nil, oA_e, oA_s, oI_e, oI_rng, oI_zip, oW_eq, oSs_nil, oSs_cons, oS_asg, oS_sub, oS_att, oS_par, oS_exp, oS_ife, oS_for, oS_whl, oS_ret, oS_pass, rb_ok, rt_ok, ft_nx, ft_ret, fl_nx, fl_ret, fo_nx, fo_ret, oo_some, og_some, nox_ok, tru_bl, tru_int, bA_nil, asg_v, c_eq, c_ne, c_in, c_nin, c_lt, c_le, c_gt, c_ge, c_is, c_isn, eq_ss, eq_ii, eq_bb, in_ss, ix_t, ix_r, at_0, at_1, at_2, at_3, at_4, on_get, on_sz, List.getElem?_cons_zero, List.getElem?_cons_succ, List.getElem?_nil, List.set_cons_zero, List.set_cons_succ, Option.map_some, Option.map_none, if_true, if_false, Bool.false_eq_true, decide_true, decide_false, Bool.not_true, Bool.not_false, on_on, List.length_cons, List.length_nil, on_setw, on_pushw, List.nil_append, List.cons_append, seq_new, its_new, lst_new, ix_new, len_new, iv_new, newL_one, newL_two, newL_nil, iv_t, iv_r, oE_lc2, oE_chn, oE_maxd, oS_brk, oS_cnt, oS_unp, ft_cnt, ft_brk, fl_cnt, wipeW]
    rfl
  | cons f fs =>
    have hq : eqW (on G) (.tup (f.w :: fs.map Fo.w)) (.tup []) = some false := hq
    let G1 := G.push (.lst (fs.map Fo.w))
    have g1 : Gr G G1 := Gr.new wf _
    have hg : G1.get G.sz = some (.lst (fs.map Fo.w)) := get_push_self _ _
    have hiv : ivOf (on G1) (.ref G.sz) = some (.live G.sz) := iv_l hg
    obtain ⟨σ', G2, e2, ⟨y, hs⟩, g2⟩ := xF_seq (T := T) (d := d) (iv := .one (.live G.sz)) (tg := .v 3) (b := [.asg (.v 1) (.tup [.e (.cst (.str "and")), .e (.var 1), .e (.var 3)])]) (fs.map Fo.w)
      (fun j σ H => (∃ y, σ = [some (.tup (f.w :: fs.map Fo.w)), some ((fs.take j).foldl Fo.and f).w, some (.ref G.sz), y]) ∧ Gr G1 H) (fun j σ H hI => lv_at (hI.2.get hg)) (fun j w σ H hj hI => by
        obtain ⟨⟨y, rfl⟩, gH⟩ := hI
        have hlt : j < fs.length := by
          have := (List.getElem?_eq_some_iff.mp hj).1
          rwa [List.length_map] at this
        rw [List.getElem?_map, List.getElem?_eq_getElem hlt] at hj
        cases hj
        have hf : (fs.take (j + 1)).foldl Fo.and f = Fo.and ((fs.take j).foldl Fo.and f) fs[j] := by
          rw [List.take_add_one, List.getElem?_eq_getElem hlt, Option.toList, List.foldl_append]
          rfl
        refine ⟨[some (.tup (f.w :: fs.map Fo.w)), some ((fs.take j).foldl Fo.and f).w, some (.ref G.sz), some fs[j].w], [some (.tup (f.w :: fs.map Fo.w)), some (Fo.and ((fs.take j).foldl Fo.and f) fs[j]).w, some (.ref G.sz), some fs[j].w], H, rfl, by simp (config := { decide := true }) only [oE_cst, oE_var, oE_bin, oE_cmp, oE_and, oE_or, oE_not, oE_neg, oE_ife, oE_tup, oE_lst, oE_ix, oE_sl, oE_call, oE_mk, oE_met, oE_att, oE_blt, oE_lc, oEs_nil, oEs_cons, oA_nil, oA_e, oA_s, oI_e, oI_rng, oI_zip, oW_eq, oSs_nil, oSs_cons, oS_asg, oS_sub, oS_att, oS_par, oS_exp, oS_ife, oS_for, oS_whl, oS_ret, oS_pass, rb_ok, rt_ok, ft_nx, ft_ret, fl_nx, fl_ret, fo_nx, fo_ret, oo_some, og_some, nox_ok, tru_bl, tru_int, bA_nil, asg_v, c_eq, c_ne, c_in, c_nin, c_lt, c_le, c_gt, c_ge, c_is, c_isn, eq_ss, eq_ii, eq_bb, in_ss, ix_t, ix_r, at_0, at_1, at_2, at_3, at_4, on_get, on_sz, List.getElem?_cons_zero, List.getElem?_cons_succ, List.getElem?_nil, List.set_cons_zero, List.set_cons_succ, Option.map_some, Option.map_none, if_true, if_false, Bool.false_eq_true, decide_true, decide_false, Bool.not_true, Bool.not_false, on_on, List.length_cons, List.length_nil, on_setw, on_pushw, List.nil_append, List.cons_append, seq_new, its_new, lst_new, ix_new, len_new, iv_new, newL_one, newL_two, newL_nil, iv_t, iv_r, oE_lc2, oE_chn, oE_maxd, oS_brk, oS_cnt, oS_unp, ft_cnt, ft_brk, fl_cnt, wipeW]; rfl, ⟨some fs[j].w, by rw [hf]⟩, gH⟩) (fs.map Fo.w).length 0 [some (.tup (f.w :: fs.map Fo.w)), some f.w, some (.ref G.sz), none] G1 (Nat.zero_add _) ⟨⟨none, rfl⟩, Gr.refl g1.w⟩
    rw [List.length_map, List.take_length] at hs
    have sz : szOk ((fs.map Fo.w).length + 1) = true := szOk_k (by rw [List.length_map]; exact hl)
    refine ⟨G2, ?_, g1.trans g2⟩
    rw [hs] at e2
    rw [List.map_cons]
    dsimp only [G1] at e2 hiv
    simp (config := { decide := true }) only [g7, hq, sz, hiv, e2, oE_cst, oE_var, oE_bin, oE_cmp, oE_and, oE_or, oE_not, oE_neg, oE_ife, oE_tup, oE_lst, oE_ix, oE_sl, oE_call, oE_mk, oE_met, oE_att, oE_blt, oE_lc, oEs_nil, oEs_cons, oA_nil, oA_e, oA_s, oI_e, oI_rng, oI_zip, oW_eq, oSs_nil, oSs_cons, oS_asg, oS_sub, oS_att, oS_par, oS_exp, oS_ife, oS_for, oS_whl, oS_ret, oS_pass, rb_ok, rt_ok, ft_nx, ft_ret, fl_nx, fl_ret, fo_nx, fo_ret, oo_some, og_some, nox_ok, tru_bl, tru_int, bA_nil, asg_v, c_eq, c_ne, c_in, c_nin, c_lt, c_le, c_gt, c_ge, c_is, c_isn, eq_ss, eq_ii, eq_bb, in_ss, ix_t, ix_r, at_0, at_1, at_2, at_3, at_4, on_get, on_sz, List.getElem?_cons_zero, List.getElem?_cons_succ, List.getElem?_nil, List.set_cons_zero, List.set_cons_succ, Option.map_some, Option.map_none, if_true, if_false, Bool.false_eq_true, decide_true, decide_false, Bool.not_true, Bool.not_false, on_on, List.length_cons, List.length_nil, on_setw, on_pushw, List.nil_append, List.cons_append, seq_new, its_new, lst_new, ix_new, len_new, iv_new, newL_one, newL_two, newL_nil, iv_t, iv_r, oE_lc2, oE_chn, oE_maxd, oS_brk, oS_cnt, oS_unp, ft_cnt, ft_brk, fl_cnt, wipeW]
    rfl
theorem same_ok [Hf8 T] (f g : Fo) (G : GH) : xC T (d + 1) 8 [f.w, g.w] (on G) = .ok (Fo.sameF f g).w (on G) := by
  rw [cc8]
  simp (config := { decide := true }) only [g8, oE_cst, oE_var, oE_bin, oE_cmp, oE_and, oE_or, oE_not, oE_neg, oE_ife, oE_tup, oE_lst, oE_ix, oE_sl, oE_call, oE_mk, oE_met, oE_att, oE_blt, oE_lc, oEs_nil, oEs_cons, oA_nil, oA_e, oA_s, oI_e, oI_rng, oI_zip, oW_eq, oSs_nil, oSs_cons, oS_asg, oS_sub, oS_att, oS_par, oS_exp, oS_ife, oS_for, oS_whl, oS_ret, oS_pass, rb_ok, rt_ok, ft_nx, ft_ret, fl_nx, fl_ret, fo_nx, fo_ret, oo_some, og_some, nox_ok, tru_bl, tru_int, bA_nil, asg_v, c_eq, c_ne, c_in, c_nin, c_lt, c_le, c_gt, c_ge, c_is, c_isn, eq_ss, eq_ii, eq_bb, in_ss, ix_t, ix_r, at_0, at_1, at_2, at_3, at_4, on_get, on_sz, List.getElem?_cons_zero, List.getElem?_cons_succ, List.getElem?_nil, List.set_cons_zero, List.set_cons_succ, Option.map_some, Option.map_none, if_true, if_false, Bool.false_eq_true, decide_true, decide_false, Bool.not_true, Bool.not_false, on_on, List.length_cons, List.length_nil, on_setw, on_pushw, List.nil_append, List.cons_append, seq_new, its_new, lst_new, ix_new, len_new, iv_new, newL_one, newL_two, newL_nil, iv_t, iv_r, oE_lc2, oE_chn, oE_maxd, oS_brk, oS_cnt, oS_unp, ft_cnt, ft_brk, fl_cnt, wipeW]
  rfl
theorem like_fo [Hf19 T] [HIsi T] {a : Da} {w w' : W} {G : GH} {k : Nat} (h1 : dpt a + 1 ≤ k) (h2 : few a) (h3 : IsDa G a w) (h4 : IsDa G a w') (wf : Wf G) : ∃ G', xC T (d + k) 19 [w, w'] (on G) = .ok (.bl true) (on G') ∧ Gr G G' := by
  obtain ⟨G', e, x, w⟩ := like_ok (T := T) (i := 19) (d := d) (show T.fn 19 = some ⟨2, 3, false, likeB 19⟩ from Hf19.h) HIsi.h k a w w' G k (by omega) h2 h3 h4 wf h1
  exact ⟨G', e, x, w⟩
end
end PM

set_option maxHeartbeats 4000000
/-! K03_T: the text as small Python. -/
namespace PM
open PySem
/-- law(_law_script); 0:_law_script 1:_law_bag_here 2:_law_turn 3:_law_names 4:_law_moves 5:_law_formula_z 6:_law_other_z 7:_law_atoms_here 8:_law_due 9:_law_again 10:_law_told 11:_law_one_z 12:_law_atom_here -/
def g20 : List S := [.asg (.v 1) (.call 9 [.var 0] []), .for (.v 2) (.rng [.cst (.int 8)]) [.asg (.v 3) (.call 12 [.var 1, .cst (.int 2)] []), .asg (.v 4) (.call 11 [.var 1, .lst [.e (.cst (.str "")), .e (.cst (.str "cd")), .e (.cst (.str "xyz"))]] []), .par [5, 6] [.call 14 [.var 1, .var 4, .var 3, .cst (.int 4), .cst (.int 3)] [], .call 14 [.var 1, .var 4, .var 3, .cst (.int 2), .cst (.int 1)] []], .asg (.v 7) (.call 15 [.var 5] []), .asg (.v 8) (.lst [.e (.call 16 [.var 5] []), .e (.call 17 [.var 5] []), .e (.met (.cst (.str "")) 1 [.lc [11] (.v 11) (.e (.cst (.str "PQR"))) [.cmp .isin (.tup [.e (.cst (.str "letter")), .e (.var 11)]) (.var 7)] (.var 11)])]), .asg (.v 8) (.bin .add (.var 8) (.lst [.e (.lc [12] (.v 12) (.e (.var 7)) [.cmp .eq (.blt .len [.var 12]) (.cst (.int 3))] (.ix (.var 12) (.cst (.int 2)))), .e (.call 18 [.var 5] [])])), .for (.v 9) (.rng [.cst (.int 2)]) [.asg (.v 10) (.lst [.e (.call 1 [.var 5] []), .e (.call 2 [.var 5] []), .e (.call 4 [.var 5] []), .e (.call 5 [.var 5] []), .e (.call 6 [.var 5] [])]), .ife (.not (.call 19 [.var 10, .var 8] [])) [.ret (.cst (.bl false))] [], .exp (.met (.ix (.var 10) (.cst (.int 1))) 2 [.cst (.str "zz")]), .exp (.met (.ix (.var 10) (.cst (.int 3))) 3 [])], .asg (.v 10) (.lst [.e (.call 7 [] []), .e (.call 7 [.var 5] []), .e (.call 7 [.var 5, .var 6] []), .e (.call 7 [.var 6, .var 5, .var 6] [])]), .ife (.not (.call 19 [.var 10, .lst [.e (.tup [.e (.cst (.str "true"))]), .e (.var 5), .e (.tup [.e (.cst (.str "and")), .e (.var 5), .e (.var 6)]), .e (.tup [.e (.cst (.str "and")), .e (.tup [.e (.cst (.str "and")), .e (.var 6), .e (.var 5)]), .e (.var 6)])]] [])) [.ret (.cst (.bl false))] [], .ife (.not (.call 19 [.call 8 [.var 5, .var 6] [], .tup [.e (.cst (.str "or")), .e (.tup [.e (.cst (.str "and")), .e (.var 5), .e (.var 6)]), .e (.tup [.e (.cst (.str "and")), .e (.tup [.e (.cst (.str "not")), .e (.var 5)]), .e (.tup [.e (.cst (.str "not")), .e (.var 6)])])]] [])) [.ret (.cst (.bl false))] [], .asg (.v 10) (.lst [.e (.call 1 [.var 6] [.a 0]), .e (.call 2 [.var 6] [.a 0]), .e (.call 4 [.var 6] [.a 0]), .e (.call 5 [.var 6] [.a 0])]), .ife (.cmp .ne (.var 10) (.lst [.e (.call 16 [.var 6] []), .e (.call 2 [.var 6] []), .e (.call 4 [.var 6] []), .e (.call 5 [.var 6] [])])) [.ret (.cst (.bl false))] []], .ret (.and (.call 6 [.tup [.e (.cst (.str "true"))]] [.a 0]) (.cmp .eq (.call 8 [.tup [.e (.cst (.str "true"))], .tup [.e (.cst (.str "false"))]] [.a 1, .a 0]) (.call 8 [.tup [.e (.cst (.str "false"))], .tup [.e (.cst (.str "true"))]] [])))]
class Hf20 (T : Tb) : Prop where
  h : T.fn 20 = some ⟨1, 13, false, g20⟩
theorem cc20 {T : Tb} [Hf20 T] {d : Nat} {G : GH} (a0 : W) : xC T (d + 1) 20 [a0] (on G) = (xSs T d g20 [some a0, none, none, none, none, none, none, none, none, none, none, none, none] (on G)).out := by rw [xC_eq (us := [a0]) Hf20.h rfl]; rfl
end PM
namespace K03
open PySem PM
def T : Tb where
  fns := [(0, ⟨1, 1, false, g0⟩), (1, ⟨1, 2, false, g1⟩), (2, ⟨1, 3, false, g2⟩), (3, ⟨1, 3, false, g3⟩), (4, ⟨1, 4, false, g4⟩), (5, ⟨1, 2, false, g5⟩), (6, ⟨1, 2, false, g6⟩), (7, ⟨1, 4, true, g7⟩), (8, ⟨2, 2, false, g8⟩), (9, ⟨1, 1, false, g9⟩), (10, ⟨2, 5, false, g10⟩), (11, ⟨2, 2, false, g11⟩), (12, ⟨2, 7, false, g12⟩), (13, ⟨3, 5, false, g13⟩), (14, ⟨5, 8, false, g14⟩), (15, ⟨1, 3, false, g15⟩), (16, ⟨1, 2, false, g16⟩), (17, ⟨1, 3, false, g17⟩), (18, ⟨1, 2, false, g18⟩), (19, ⟨2, 3, false, g19⟩), (20, ⟨1, 13, false, g20⟩)]
  ms := []
  ini := []
  isi := [((.b "NoneType", .b "bool"), false), ((.b "NoneType", .b "int"), false), ((.b "NoneType", .b "list"), false), ((.b "NoneType", .b "str"), false), ((.b "NoneType", .b "tuple"), false), ((.b "bool", .b "bool"), true), ((.b "bool", .b "int"), true), ((.b "bool", .b "list"), false), ((.b "bool", .b "str"), false), ((.b "bool", .b "tuple"), false), ((.b "int", .b "bool"), false), ((.b "int", .b "int"), true), ((.b "int", .b "list"), false), ((.b "int", .b "str"), false), ((.b "int", .b "tuple"), false), ((.b "str", .b "bool"), false), ((.b "str", .b "int"), false), ((.b "str", .b "list"), false), ((.b "str", .b "str"), true), ((.b "str", .b "tuple"), false), ((.b "tuple", .b "bool"), false), ((.b "tuple", .b "int"), false), ((.b "tuple", .b "list"), false), ((.b "tuple", .b "str"), false), ((.b "tuple", .b "tuple"), true), ((.b "list", .b "bool"), false), ((.b "list", .b "int"), false), ((.b "list", .b "list"), true), ((.b "list", .b "str"), false), ((.b "list", .b "tuple"), false)]
  bm := [((.lst, 2), .append), ((.lst, 3), .clear), ((.lst, 0), .extend), ((.str, 1), .join)]
  fl := []
def nms : List Str := ["extend", "join", "append", "clear", "atom", "row", "code", "most", "about", "listed", "always", "is_right", "found"]
instance : Hf0 T := ⟨rfl⟩
instance : Hf1 T := ⟨rfl⟩
instance : Hf2 T := ⟨rfl⟩
instance : Hf3 T := ⟨rfl⟩
instance : Hf4 T := ⟨rfl⟩
instance : Hf5 T := ⟨rfl⟩
instance : Hf6 T := ⟨rfl⟩
instance : Hf7 T := ⟨rfl⟩
instance : Hf8 T := ⟨rfl⟩
instance : Hf9 T := ⟨rfl⟩
instance : Hf10 T := ⟨rfl⟩
instance : Hf11 T := ⟨rfl⟩
instance : Hf12 T := ⟨rfl⟩
instance : Hf13 T := ⟨rfl⟩
instance : Hf14 T := ⟨rfl⟩
instance : Hf15 T := ⟨rfl⟩
instance : Hf16 T := ⟨rfl⟩
instance : Hf17 T := ⟨rfl⟩
instance : Hf18 T := ⟨rfl⟩
instance : Hf19 T := ⟨rfl⟩
instance : Hf20 T := ⟨rfl⟩
instance : HBm T .lst 2 .append := ⟨rfl⟩
instance : HBm T .lst 3 .clear := ⟨rfl⟩
instance : HBm T .lst 0 .extend := ⟨rfl⟩
instance : HBm T .str 1 .join := ⟨rfl⟩
instance : HIsi T := ⟨by unfold StdI; decide +kernel⟩
end K03

set_option maxHeartbeats 4000000
/-! K03_P: the law whole. -/
namespace K03
open PySem PM
def n1 : S := .asg (.v 10) (.lst [.e (.call 1 [.var 5] []), .e (.call 2 [.var 5] []), .e (.call 4 [.var 5] []), .e (.call 5 [.var 5] []), .e (.call 6 [.var 5] [])])
def n2 : S := .ife (.not (.call 19 [.var 10, .var 8] [])) [.ret (.cst (.bl false))] []
def n3 : S := .exp (.met (.ix (.var 10) (.cst (.int 1))) 2 [.cst (.str "zz")])
def n4 : S := .exp (.met (.ix (.var 10) (.cst (.int 3))) 3 [])
def inner : List S := [n1, n2, n3, n4]
def t1 : S := .asg (.v 3) (.call 12 [.var 1, .cst (.int 2)] [])
def t2 : S := .asg (.v 4) (.call 11 [.var 1, .lst [.e (.cst (.str "")), .e (.cst (.str "cd")), .e (.cst (.str "xyz"))]] [])
def t3 : S := .par [5, 6] [.call 14 [.var 1, .var 4, .var 3, .cst (.int 4), .cst (.int 3)] [], .call 14 [.var 1, .var 4, .var 3, .cst (.int 2), .cst (.int 1)] []]
def t4 : S := .asg (.v 7) (.call 15 [.var 5] [])
def t5 : S := .asg (.v 8) (.lst [.e (.call 16 [.var 5] []), .e (.call 17 [.var 5] []), .e (.met (.cst (.str "")) 1 [.lc [11] (.v 11) (.e (.cst (.str "PQR"))) [.cmp .isin (.tup [.e (.cst (.str "letter")), .e (.var 11)]) (.var 7)] (.var 11)])])
def t6 : S := .asg (.v 8) (.bin .add (.var 8) (.lst [.e (.lc [12] (.v 12) (.e (.var 7)) [.cmp .eq (.blt .len [.var 12]) (.cst (.int 3))] (.ix (.var 12) (.cst (.int 2)))), .e (.call 18 [.var 5] [])]))
def t7 : S := .for (.v 9) (.rng [.cst (.int 2)]) inner
def t8 : S := .asg (.v 10) (.lst [.e (.call 7 [] []), .e (.call 7 [.var 5] []), .e (.call 7 [.var 5, .var 6] []), .e (.call 7 [.var 6, .var 5, .var 6] [])])
def t9 : S := .ife (.not (.call 19 [.var 10, .lst [.e (.tup [.e (.cst (.str "true"))]), .e (.var 5), .e (.tup [.e (.cst (.str "and")), .e (.var 5), .e (.var 6)]), .e (.tup [.e (.cst (.str "and")), .e (.tup [.e (.cst (.str "and")), .e (.var 6), .e (.var 5)]), .e (.var 6)])]] [])) [.ret (.cst (.bl false))] []
def t10 : S := .ife (.not (.call 19 [.call 8 [.var 5, .var 6] [], .tup [.e (.cst (.str "or")), .e (.tup [.e (.cst (.str "and")), .e (.var 5), .e (.var 6)]), .e (.tup [.e (.cst (.str "and")), .e (.tup [.e (.cst (.str "not")), .e (.var 5)]), .e (.tup [.e (.cst (.str "not")), .e (.var 6)])])]] [])) [.ret (.cst (.bl false))] []
def t11 : S := .asg (.v 10) (.lst [.e (.call 1 [.var 6] [.a 0]), .e (.call 2 [.var 6] [.a 0]), .e (.call 4 [.var 6] [.a 0]), .e (.call 5 [.var 6] [.a 0])])
def t12 : S := .ife (.cmp .ne (.var 10) (.lst [.e (.call 16 [.var 6] []), .e (.call 2 [.var 6] []), .e (.call 4 [.var 6] []), .e (.call 5 [.var 6] [])])) [.ret (.cst (.bl false))] []
def turn : List S := [t1, t2, t3, t4, t5, t6, t7, t8, t9, t10, t11, t12]
def tEnd : S := .ret (.and (.call 6 [.tup [.e (.cst (.str "true"))]] [.a 0]) (.cmp .eq (.call 8 [.tup [.e (.cst (.str "true"))], .tup [.e (.cst (.str "false"))]] [.a 1, .a 0]) (.call 8 [.tup [.e (.cst (.str "false"))], .tup [.e (.cst (.str "true"))]] [])))
theorem g20_eq : g20 = [.asg (.v 1) (.call 9 [.var 0] []), .for (.v 2) (.rng [.cst (.int 8)]) turn, tEnd] := rfl
theorem newL_3 {G : GH} {a c e : W} : newL (on G) [a, c, e] = some (.ref G.sz, G.push (.lst [a, c, e])) := newL_k (show 3 ≤ 10000 by decide)
theorem newL_4 {G : GH} {a c e f : W} : newL (on G) [a, c, e, f] = some (.ref G.sz, G.push (.lst [a, c, e, f])) := newL_k (show 4 ≤ 10000 by decide)
theorem newL_5 {G : GH} {a c e f g : W} : newL (on G) [a, c, e, f, g] = some (.ref G.sz, G.push (.lst [a, c, e, f, g])) := newL_k (show 5 ≤ 10000 by decide)
/-- what is due of a formula -/
def dueL (f : Fo) : List Da := [.int (f.dep : Int), .lst (f.parts.map Fo.da), .str (Txt.join "" f.lets), .lst (f.names.map .str), .bl f.guard]
structure Sm (f : Fo) : Prop where
  ok : f.da.ok = true
  dep : f.dep ≤ 5
  sz : f.sz ≤ 31
theorem parts_ok : ∀ {f : Fo} {g : Fo}, g ∈ f.parts → f.da.ok = true → g.da.ok = true ∧ g.dep ≤ f.dep := by
  have k2 : ∀ {w : Str} {x : Da}, (Da.tup [.str w, x]).ok = true → x.ok = true := fun {w x} h => by
    have : (PyData.strOk w && (x.ok && true)) = true := h
    rw [Bool.and_true, Bool.and_eq_true] at this
    exact this.2
  have k3 : ∀ {w : Str} {x y : Da}, (Da.tup [.str w, x, y]).ok = true → x.ok = true ∧ y.ok = true := fun {w x y} h => by
    have : (PyData.strOk w && (x.ok && (y.ok && true))) = true := h
    rw [Bool.and_true, Bool.and_eq_true, Bool.and_eq_true] at this
    exact this.2
  intro f
  induction f with
  | shown f ih =>
    intro g h ho
    rcases List.mem_cons.mp h with h | h
    · rw [h]; exact ⟨ho, Nat.le_refl _⟩
    · have := ih h (k2 ho); exact ⟨this.1, Nat.le_trans this.2 (Nat.le_succ _)⟩
  | not f ih =>
    intro g h ho
    have := ih h (k2 ho)
    exact ⟨this.1, Nat.le_trans this.2 (Nat.le_succ _)⟩
  | and f1 f2 ih1 ih2 =>
    intro g h ho
    rcases List.mem_append.mp h with h | h
    · have := ih1 h (k3 ho).1; exact ⟨this.1, by show g.dep ≤ max f1.dep f2.dep + 1; omega⟩
    · have := ih2 h (k3 ho).2; exact ⟨this.1, by show g.dep ≤ max f1.dep f2.dep + 1; omega⟩
  | or f1 f2 ih1 ih2 =>
    intro g h ho
    rcases List.mem_append.mp h with h | h
    · have := ih1 h (k3 ho).1; exact ⟨this.1, by show g.dep ≤ max f1.dep f2.dep + 1; omega⟩
    · have := ih2 h (k3 ho).2; exact ⟨this.1, by show g.dep ≤ max f1.dep f2.dep + 1; omega⟩
  | _ => intro g h; nomatch h
theorem atoms_ok : ∀ {f : Fo} {g : Fo}, g ∈ f.atoms → f.da.ok = true → g.da.ok = true := by
  have k2 : ∀ {w : Str} {x : Da}, (Da.tup [.str w, x]).ok = true → x.ok = true := fun {w x} h => by
    have : (PyData.strOk w && (x.ok && true)) = true := h
    rw [Bool.and_true, Bool.and_eq_true] at this
    exact this.2
  have k3 : ∀ {w : Str} {x y : Da}, (Da.tup [.str w, x, y]).ok = true → x.ok = true ∧ y.ok = true := fun {w x y} h => by
    have : (PyData.strOk w && (x.ok && (y.ok && true))) = true := h
    rw [Bool.and_true, Bool.and_eq_true, Bool.and_eq_true] at this
    exact this.2
  intro f
  induction f with
  | shown f ih => intro g h ho; exact ih h (k2 ho)
  | not f ih => intro g h ho; exact ih h (k2 ho)
  | and f1 f2 ih1 ih2 => intro g h ho; exact (List.mem_append.mp h).elim (fun h => ih1 h (k3 ho).1) fun h => ih2 h (k3 ho).2
  | or f1 f2 ih1 ih2 => intro g h ho; exact (List.mem_append.mp h).elim (fun h => ih1 h (k3 ho).1) fun h => ih2 h (k3 ho).2
  | tru => intro g h; nomatch h
  | fls => intro g h; nomatch h
  | _ => intro g h ho; rw [List.mem_singleton.mp h]; exact ho
theorem at_dep {g f : Fo} (h : g ∈ f.atoms) : g.dep = 1 := by
  have := f.atoms_at g h
  cases g <;> first | rfl | cases this
theorem names_ok {f : Fo} {z : Str} (h : z ∈ f.names) (ho : f.da.ok = true) : PyData.strOk z = true := by
  unfold Fo.names at h
  obtain ⟨a, ha, rfl⟩ := List.mem_map.mp h
  rw [List.mem_filter] at ha
  have hk := atoms_ok ha.1 ho
  cases a <;> first | (cases ha.2; done) | skip
  rename_i m n
  have : (PyData.strOk "yours" && (PyData.strOk m && (PyData.strOk n && true))) = true := hk
  rw [Bool.and_true, Bool.and_eq_true, Bool.and_eq_true] at this
  exact this.2.2
theorem few_due (f : Fo) (h : f.sz ≤ 31) : few (.lst (dueL f)) := by
  have h1 := f.parts_len
  have h2 := f.names_len
  exact ⟨show 5 ≤ 10000 by decide, trivial, ⟨by rw [List.length_map]; omega, fews_map (fun a => a.few_da) _⟩, trivial, ⟨by rw [List.length_map]; omega, fews_map (f := Da.str) (fun a => trivial) _⟩, trivial, trivial⟩
theorem dpt_due (f : Fo) (h : Sm f) : dpt (.lst (dueL f)) ≤ 7 := by
  have h1 : dpts (f.parts.map Fo.da) ≤ 5 := dpts_fo fun g hg => Nat.le_trans (parts_ok hg h.ok).2 h.dep
  have h2 := dpt_str (l := f.names)
  show max 0 (max (dpts (f.parts.map Fo.da) + 1) (max 0 (max (dpts (f.names.map Da.str) + 1) (max 0 0)))) + 1 ≤ 7
  omega
section
variable {d b : Nat} {G : GH} {o0 o1 o2 o3 o4 o5 o6 o7 o8 o9 o10 o11 o12 : Option W}
theorem t1_ok (hb : IsBag G b) (wf : Wf G) : ∃ (zs : List Str) (m : Nat) (G' : GH), xS T (d + 20) t1 [o0, some (.ref b), o2, o3, o4, o5, o6, o7, o8, o9, o10, o11, o12] (on G) = .nx [o0, some (.ref b), o2, some (.ref m), o4, o5, o6, o7, o8, o9, o10, o11, o12] (on G') ∧ G'.get m = some (.lst (zs.map .str)) ∧ m ≠ b ∧ zs.length = 2 ∧ (∀ z ∈ zs, PyData.strOk z = true ∧ z.length ≤ 6) ∧ Made G G' b := by
  obtain ⟨zs, m, G', e, h⟩ := named_ok (T := T) (d := d + 17) 2 (by decide) hb wf
  refine ⟨zs, m, G', ?_, h⟩
  have e' : xC T (d + 20) 12 [.ref b, .int 2] (on G) = .ok (.ref m) (on G') := e
  simp (config := { decide := true }) only [t1, e', oE_cst, oE_var, oE_bin, oE_cmp, oE_and, oE_or, oE_not, oE_neg, oE_ife, oE_tup, oE_lst, oE_ix, oE_sl, oE_call, oE_mk, oE_met, oE_att, oE_blt, oE_lc, oEs_nil, oEs_cons, oA_nil, oA_e, oA_s, oI_e, oI_rng, oI_zip, oW_eq, oSs_nil, oSs_cons, oS_asg, oS_sub, oS_att, oS_par, oS_exp, oS_ife, oS_for, oS_whl, oS_ret, oS_pass, rb_ok, rt_ok, ft_nx, ft_ret, fl_nx, fl_ret, fo_nx, fo_ret, oo_some, og_some, nox_ok, tru_bl, tru_int, bA_nil, asg_v, c_eq, c_ne, c_in, c_nin, c_lt, c_le, c_gt, c_ge, c_is, c_isn, eq_ss, eq_ii, eq_bb, in_ss, ix_t, ix_r, at_0, at_1, at_2, at_3, at_4, on_get, on_sz, List.getElem?_cons_zero, List.getElem?_cons_succ, List.getElem?_nil, List.set_cons_zero, List.set_cons_succ, Option.map_some, Option.map_none, if_true, if_false, Bool.false_eq_true, decide_true, decide_false, Bool.not_true, Bool.not_false, on_on, List.length_cons, List.length_nil, on_setw, on_pushw, List.nil_append, List.cons_append, seq_new, its_new, lst_new, ix_new, len_new, iv_new, newL_one, newL_two, newL_nil, iv_t, iv_r, oE_lc2, oE_chn, oE_maxd, oS_brk, oS_cnt, oS_unp, ft_cnt, ft_brk, fl_cnt, wipeW]
theorem t2_ok (hb : IsBag G b) (wf : Wf G) : ∃ (mv : Str) (G' : GH), xS T (d + 20) t2 [o0, some (.ref b), o2, o3, o4, o5, o6, o7, o8, o9, o10, o11, o12] (on G) = .nx [o0, some (.ref b), o2, o3, some (.str mv), o5, o6, o7, o8, o9, o10, o11, o12] (on G') ∧ mv.length ≤ 3 ∧ PyData.strOk mv = true ∧ Made G G' b := by
  have m0 : Made G (G.push (.lst [.str "", .str "cd", .str "xyz"])) b := (Made.refl hb wf).push _
  obtain ⟨w, G', e, hw, d2⟩ := any_l (T := T) (d := d + 18) (n := G.sz) (ws := [.str "", .str "cd", .str "xyz"]) m0.bag (get_push_self _ _) (by have := hb.lt wf; omega) (by decide) m0.wf
  have e' : xC T (d + 20) 11 [.ref b, .ref G.sz] (on (G.push (.lst [.str "", .str "cd", .str "xyz"]))) = .ok w (on G') := e
  have key : ∃ mv : Str, w = .str mv ∧ mv.length ≤ 3 ∧ PyData.strOk mv = true := by
    rcases List.mem_cons.mp hw with h | h
    · exact ⟨_, h, by decide +kernel, by decide +kernel⟩
    · rcases List.mem_cons.mp h with h | h
      · exact ⟨_, h, by decide +kernel, by decide +kernel⟩
      · exact ⟨_, List.mem_singleton.mp h, by decide +kernel, by decide +kernel⟩
  obtain ⟨mv, rfl, h1, h2⟩ := key
  refine ⟨mv, G', ?_, h1, h2, m0.trans d2.made⟩
  simp (config := { decide := true }) only [t2, newL_3, e', oE_cst, oE_var, oE_bin, oE_cmp, oE_and, oE_or, oE_not, oE_neg, oE_ife, oE_tup, oE_lst, oE_ix, oE_sl, oE_call, oE_mk, oE_met, oE_att, oE_blt, oE_lc, oEs_nil, oEs_cons, oA_nil, oA_e, oA_s, oI_e, oI_rng, oI_zip, oW_eq, oSs_nil, oSs_cons, oS_asg, oS_sub, oS_att, oS_par, oS_exp, oS_ife, oS_for, oS_whl, oS_ret, oS_pass, rb_ok, rt_ok, ft_nx, ft_ret, fl_nx, fl_ret, fo_nx, fo_ret, oo_some, og_some, nox_ok, tru_bl, tru_int, bA_nil, asg_v, c_eq, c_ne, c_in, c_nin, c_lt, c_le, c_gt, c_ge, c_is, c_isn, eq_ss, eq_ii, eq_bb, in_ss, ix_t, ix_r, at_0, at_1, at_2, at_3, at_4, on_get, on_sz, List.getElem?_cons_zero, List.getElem?_cons_succ, List.getElem?_nil, List.set_cons_zero, List.set_cons_succ, Option.map_some, Option.map_none, if_true, if_false, Bool.false_eq_true, decide_true, decide_false, Bool.not_true, Bool.not_false, on_on, List.length_cons, List.length_nil, on_setw, on_pushw, List.nil_append, List.cons_append, seq_new, its_new, lst_new, ix_new, len_new, iv_new, newL_one, newL_two, newL_nil, iv_t, iv_r, oE_lc2, oE_chn, oE_maxd, oS_brk, oS_cnt, oS_unp, ft_cnt, ft_brk, fl_cnt, wipeW]
theorem t3_ok {mv : Str} {x : W} {zs : List Str} (hb : IsBag G b) (wf : Wf G) (p : Pool G b mv x zs) (hm : PyData.strOk mv = true) : ∃ (F O : Fo) (G' : GH), xS T (d + 20) t3 [o0, some (.ref b), o2, some x, some (.str mv), o5, o6, o7, o8, o9, o10, o11, o12] (on G) = .nx [o0, some (.ref b), o2, some x, some (.str mv), some F.w, some O.w, o7, o8, o9, o10, o11, o12] (on G') ∧ Sm F ∧ Sm O ∧ Made G G' b := by
  obtain ⟨F, G1, e1, p1, p2, p3, m1⟩ := formula_draw (T := T) (d := d + 12) 4 3 G hb wf p
  obtain ⟨O, G2, e2, q1, q2, q3, m2⟩ := formula_draw (T := T) (d := d + 14) 2 1 G1 m1.bag m1.wf (p.fr m1)
  have e1' : xC T (d + 20) 14 [.ref b, .str mv, x, .int 4, .int 3] (on G) = .ok F.w (on G1) := e1
  have e2' : xC T (d + 20) 14 [.ref b, .str mv, x, .int 2, .int 1] (on G1) = .ok O.w (on G2) := e2
  have pr : parS [5, 6] [F.w, O.w] [o0, some (.ref b), o2, some x, some (.str mv), o5, o6, o7, o8, o9, o10, o11, o12] = some [o0, some (.ref b), o2, some x, some (.str mv), some F.w, some O.w, o7, o8, o9, o10, o11, o12] := rfl
  have z1 : (2 : Nat) ^ (4 + 1) = 32 := rfl
  have z2 : (2 : Nat) ^ (2 + 1) = 8 := rfl
  refine ⟨F, O, G2, ?_, ⟨pool_str hm p.oks p1, p2, by omega⟩, ⟨pool_str hm p.oks q1, by omega, by omega⟩, m1.trans m2⟩
  simp (config := { decide := true }) only [t3, e1', e2', pr, oE_cst, oE_var, oE_bin, oE_cmp, oE_and, oE_or, oE_not, oE_neg, oE_ife, oE_tup, oE_lst, oE_ix, oE_sl, oE_call, oE_mk, oE_met, oE_att, oE_blt, oE_lc, oEs_nil, oEs_cons, oA_nil, oA_e, oA_s, oI_e, oI_rng, oI_zip, oW_eq, oSs_nil, oSs_cons, oS_asg, oS_sub, oS_att, oS_par, oS_exp, oS_ife, oS_for, oS_whl, oS_ret, oS_pass, rb_ok, rt_ok, ft_nx, ft_ret, fl_nx, fl_ret, fo_nx, fo_ret, oo_some, og_some, nox_ok, tru_bl, tru_int, bA_nil, asg_v, c_eq, c_ne, c_in, c_nin, c_lt, c_le, c_gt, c_ge, c_is, c_isn, eq_ss, eq_ii, eq_bb, in_ss, ix_t, ix_r, at_0, at_1, at_2, at_3, at_4, on_get, on_sz, List.getElem?_cons_zero, List.getElem?_cons_succ, List.getElem?_nil, List.set_cons_zero, List.set_cons_succ, Option.map_some, Option.map_none, if_true, if_false, Bool.false_eq_true, decide_true, decide_false, Bool.not_true, Bool.not_false, on_on, List.length_cons, List.length_nil, on_setw, on_pushw, List.nil_append, List.cons_append, seq_new, its_new, lst_new, ix_new, len_new, iv_new, newL_one, newL_two, newL_nil, iv_t, iv_r, oE_lc2, oE_chn, oE_maxd, oS_brk, oS_cnt, oS_unp, ft_cnt, ft_brk, fl_cnt, wipeW]
theorem t4_ok {F : Fo} (s : Sm F) (wf : Wf G) : ∃ (m : Nat) (G' : GH), xS T (d + 20) t4 [o0, o1, o2, o3, o4, some F.w, o6, o7, o8, o9, o10, o11, o12] (on G) = .nx [o0, o1, o2, o3, o4, some F.w, o6, some (.ref m), o8, o9, o10, o11, o12] (on G') ∧ G'.get m = some (.lst (F.atoms.map Fo.w)) ∧ Gr G G' := by
  obtain ⟨m, G', e, h1, h2, h3⟩ := law_atoms_ok (T := T) (d := d + 14) 5 F G wf s.dep (Nat.le_trans s.sz (by decide))
  have e' : xC T (d + 20) 15 [F.w] (on G) = .ok (.ref m) (on G') := e
  refine ⟨m, G', ?_, h1, h3⟩
  simp (config := { decide := true }) only [t4, e', oE_cst, oE_var, oE_bin, oE_cmp, oE_and, oE_or, oE_not, oE_neg, oE_ife, oE_tup, oE_lst, oE_ix, oE_sl, oE_call, oE_mk, oE_met, oE_att, oE_blt, oE_lc, oEs_nil, oEs_cons, oA_nil, oA_e, oA_s, oI_e, oI_rng, oI_zip, oW_eq, oSs_nil, oSs_cons, oS_asg, oS_sub, oS_att, oS_par, oS_exp, oS_ife, oS_for, oS_whl, oS_ret, oS_pass, rb_ok, rt_ok, ft_nx, ft_ret, fl_nx, fl_ret, fo_nx, fo_ret, oo_some, og_some, nox_ok, tru_bl, tru_int, bA_nil, asg_v, c_eq, c_ne, c_in, c_nin, c_lt, c_le, c_gt, c_ge, c_is, c_isn, eq_ss, eq_ii, eq_bb, in_ss, ix_t, ix_r, at_0, at_1, at_2, at_3, at_4, on_get, on_sz, List.getElem?_cons_zero, List.getElem?_cons_succ, List.getElem?_nil, List.set_cons_zero, List.set_cons_succ, Option.map_some, Option.map_none, if_true, if_false, Bool.false_eq_true, decide_true, decide_false, Bool.not_true, Bool.not_false, on_on, List.length_cons, List.length_nil, on_setw, on_pushw, List.nil_append, List.cons_append, seq_new, its_new, lst_new, ix_new, len_new, iv_new, newL_one, newL_two, newL_nil, iv_t, iv_r, oE_lc2, oE_chn, oE_maxd, oS_brk, oS_cnt, oS_unp, ft_cnt, ft_brk, fl_cnt, wipeW]
theorem t5_ok {F : Fo} {m7 : Nat} (s : Sm F) (wf : Wf G) (h7 : G.get m7 = some (.lst (F.atoms.map Fo.w))) : ∃ (mp m : Nat) (G' : GH), xS T (d + 20) t5 [o0, o1, o2, o3, o4, some F.w, o6, some (.ref m7), o8, o9, o10, o11, o12] (on G) = .nx [o0, o1, o2, o3, o4, some F.w, o6, some (.ref m7), some (.ref m), o9, o10, o11, o12] (on G') ∧ G'.get m = some (.lst [.int (F.dep : Int), .ref mp, .str (Txt.join "" F.lets)]) ∧ G'.get mp = some (.lst (F.parts.map Fo.w)) ∧ Gr G G' := by
  obtain ⟨G1, e1, g1⟩ := law_depth_ok (T := T) (d := d + 14) 5 F G wf s.dep
  obtain ⟨mp, G2, e2, p2, _, g2⟩ := law_parts_ok (T := T) (d := d + 14) 5 F G1 g1.w s.dep (Nat.le_trans s.sz (by decide))
  have e1' : xC T (d + 20) 16 [F.w] (on G) = .ok (.int (F.dep : Int)) (on G1) := e1
  have e2' : xC T (d + 20) 17 [F.w] (on G1) = .ok (.ref mp) (on G2) := e2
  have g12 := g1.trans g2
  obtain ⟨G4, e4, gr4⟩ := xL_filt (T := T) (d := d + 20) (iv := .one (.sq [.str "P", .str "Q", .str "R"])) (tg := .v 11) (c := .cmp .isin (.tup [.e (.cst (.str "letter")), .e (.var 11)]) (.var 7)) (e := .var 11) (σ := [o0, o1, o2, o3, o4, some F.w, o6, some (.ref m7), o8, o9, o10, none, o12]) (vs := [11]) W.str W.str (fun c => F.ltrs.any (· == c)) G2 ["P", "Q", "R"] 0 ["P", "Q", "R"] [] G2 rfl
    (by decide) (Gr.refl g2.w) hat_t fun c hc H hH => by
      have hk : PyData.strOk c = true := by
        rcases List.mem_cons.mp hc with h | h
        · rw [h]; decide +kernel
        · rcases List.mem_cons.mp h with h | h
          · rw [h]; decide +kernel
          · rw [List.mem_singleton.mp h]; decide +kernel
      have hi := in_atoms (G := H) (c := c) ((g12.trans hH).get h7) (fun g hg => atoms_ok hg s.ok) (fun g hg => by rw [at_dep hg]; decide) hk
      exact ⟨[o0, o1, o2, o3, o4, some F.w, o6, some (.ref m7), o8, o9, o10, some (.str c), o12], .bl (F.ltrs.any (· == c)), H, rfl, by simp (config := { decide := true }) only [hi, oE_cst, oE_var, oE_bin, oE_cmp, oE_and, oE_or, oE_not, oE_neg, oE_ife, oE_tup, oE_lst, oE_ix, oE_sl, oE_call, oE_mk, oE_met, oE_att, oE_blt, oE_lc, oEs_nil, oEs_cons, oA_nil, oA_e, oA_s, oI_e, oI_rng, oI_zip, oW_eq, oSs_nil, oSs_cons, oS_asg, oS_sub, oS_att, oS_par, oS_exp, oS_ife, oS_for, oS_whl, oS_ret, oS_pass, rb_ok, rt_ok, ft_nx, ft_ret, fl_nx, fl_ret, fo_nx, fo_ret, oo_some, og_some, nox_ok, tru_bl, tru_int, bA_nil, asg_v, c_eq, c_ne, c_in, c_nin, c_lt, c_le, c_gt, c_ge, c_is, c_isn, eq_ss, eq_ii, eq_bb, in_ss, ix_t, ix_r, at_0, at_1, at_2, at_3, at_4, on_get, on_sz, List.getElem?_cons_zero, List.getElem?_cons_succ, List.getElem?_nil, List.set_cons_zero, List.set_cons_succ, Option.map_some, Option.map_none, if_true, if_false, Bool.false_eq_true, decide_true, decide_false, Bool.not_true, Bool.not_false, on_on, List.length_cons, List.length_nil, on_setw, on_pushw, List.nil_append, List.cons_append, seq_new, its_new, lst_new, ix_new, len_new, iv_new, newL_one, newL_two, newL_nil, iv_t, iv_r, oE_lc2, oE_chn, oE_maxd, oS_brk, oS_cnt, oS_unp, ft_cnt, ft_brk, fl_cnt, wipeW], rfl, Gr.refl hH.w, fun _ => ⟨H, by simp (config := { decide := true }) only [oE_cst, oE_var, oE_bin, oE_cmp, oE_and, oE_or, oE_not, oE_neg, oE_ife, oE_tup, oE_lst, oE_ix, oE_sl, oE_call, oE_mk, oE_met, oE_att, oE_blt, oE_lc, oEs_nil, oEs_cons, oA_nil, oA_e, oA_s, oI_e, oI_rng, oI_zip, oW_eq, oSs_nil, oSs_cons, oS_asg, oS_sub, oS_att, oS_par, oS_exp, oS_ife, oS_for, oS_whl, oS_ret, oS_pass, rb_ok, rt_ok, ft_nx, ft_ret, fl_nx, fl_ret, fo_nx, fo_ret, oo_some, og_some, nox_ok, tru_bl, tru_int, bA_nil, asg_v, c_eq, c_ne, c_in, c_nin, c_lt, c_le, c_gt, c_ge, c_is, c_isn, eq_ss, eq_ii, eq_bb, in_ss, ix_t, ix_r, at_0, at_1, at_2, at_3, at_4, on_get, on_sz, List.getElem?_cons_zero, List.getElem?_cons_succ, List.getElem?_nil, List.set_cons_zero, List.set_cons_succ, Option.map_some, Option.map_none, if_true, if_false, Bool.false_eq_true, decide_true, decide_false, Bool.not_true, Bool.not_false, on_on, List.length_cons, List.length_nil, on_setw, on_pushw, List.nil_append, List.cons_append, seq_new, its_new, lst_new, ix_new, len_new, iv_new, newL_one, newL_two, newL_nil, iv_t, iv_r, oE_lc2, oE_chn, oE_maxd, oS_brk, oS_cnt, oS_unp, ft_cnt, ft_brk, fl_cnt, wipeW], Gr.refl hH.w⟩⟩
  rw [List.nil_append] at e4
  have hnl4 := newL_k (G := G4) (ws := F.lets.map .str) (by rw [List.length_map]; have := pqr_len2 fun c => F.ltrs.any (· == c); show F.lets.length ≤ _; unfold Fo.lets; omega)
  let G5 := G4.push (.lst (F.lets.map .str))
  have hj := join_k (G := G5) (n := G4.sz) (l := F.lets) (z := "") (get_push_self _ _) (pqr_len _)
  have hmk : mkOf T (on G2) (.str "") 1 = some (.b .join) := mk_str HBm.h
  have hiv4 : ivOf (on G2) (.str "PQR") = some (.sq [.str "P", .str "Q", .str "R"]) := rfl
  have e4' : xL T (d + 20) (.one (.sq [.str "P", .str "Q", .str "R"])) 0 (.v 11) [.cmp .isin (.tup [.e (.cst (.str "letter")), .e (.var 11)]) (.var 7)] (.var 11) [o0, o1, o2, o3, o4, some F.w, o6, some (.ref m7), o8, o9, o10, none, o12] [11] [] (on G2) = .ok (F.lets.map .str) (on G4) := e4
  have g5 : Gr G2 (G5.push (.lst [.int (F.dep : Int), .ref mp, .str (Txt.join "" F.lets)])) := (gr4.push _).push _
  refine ⟨mp, G5.sz, G5.push (.lst [.int (F.dep : Int), .ref mp, .str (Txt.join "" F.lets)]), ?_, get_push_self _ _, g5.get p2, g12.trans g5⟩
  dsimp only [G5] at hj ⊢
  simp (config := { decide := true }) only [t5, e1', e2', hmk, hiv4, e4', hnl4, hj, newL_3, oE_cst, oE_var, oE_bin, oE_cmp, oE_and, oE_or, oE_not, oE_neg, oE_ife, oE_tup, oE_lst, oE_ix, oE_sl, oE_call, oE_mk, oE_met, oE_att, oE_blt, oE_lc, oEs_nil, oEs_cons, oA_nil, oA_e, oA_s, oI_e, oI_rng, oI_zip, oW_eq, oSs_nil, oSs_cons, oS_asg, oS_sub, oS_att, oS_par, oS_exp, oS_ife, oS_for, oS_whl, oS_ret, oS_pass, rb_ok, rt_ok, ft_nx, ft_ret, fl_nx, fl_ret, fo_nx, fo_ret, oo_some, og_some, nox_ok, tru_bl, tru_int, bA_nil, asg_v, c_eq, c_ne, c_in, c_nin, c_lt, c_le, c_gt, c_ge, c_is, c_isn, eq_ss, eq_ii, eq_bb, in_ss, ix_t, ix_r, at_0, at_1, at_2, at_3, at_4, on_get, on_sz, List.getElem?_cons_zero, List.getElem?_cons_succ, List.getElem?_nil, List.set_cons_zero, List.set_cons_succ, Option.map_some, Option.map_none, if_true, if_false, Bool.false_eq_true, decide_true, decide_false, Bool.not_true, Bool.not_false, on_on, List.length_cons, List.length_nil, on_setw, on_pushw, List.nil_append, List.cons_append, seq_new, its_new, lst_new, ix_new, len_new, iv_new, newL_one, newL_two, newL_nil, iv_t, iv_r, oE_lc2, oE_chn, oE_maxd, oS_brk, oS_cnt, oS_unp, ft_cnt, ft_brk, fl_cnt, wipeW]
theorem t6_ok {F : Fo} {m7 m8 mp : Nat} (s : Sm F) (wf : Wf G) (h7 : G.get m7 = some (.lst (F.atoms.map Fo.w))) (h8 : G.get m8 = some (.lst [.int (F.dep : Int), .ref mp, .str (Txt.join "" F.lets)])) (hp : G.get mp = some (.lst (F.parts.map Fo.w))) : ∃ (m : Nat) (G' : GH), xS T (d + 20) t6 [o0, o1, o2, o3, o4, some F.w, o6, some (.ref m7), some (.ref m8), o9, o10, o11, o12] (on G) = .nx [o0, o1, o2, o3, o4, some F.w, o6, some (.ref m7), some (.ref m), o9, o10, o11, o12] (on G') ∧ IsDa G' (.lst (dueL F)) (.ref m) ∧ Gr G G' := by
  have hl := F.atoms_len
  have hs := s.sz
  have hiv : ivOf (on G) (.ref m7) = some (.live m7) := iv_l h7
  obtain ⟨G2, e2, gr2⟩ := xL_filt (T := T) (d := d + 20) (iv := .one (.live m7)) (tg := .v 12) (c := .cmp .eq (.blt .len [.var 12]) (.cst (.int 3))) (e := .ix (.var 12) (.cst (.int 2))) (σ := [o0, o1, o2, o3, o4, some F.w, o6, some (.ref m7), some (.ref m8), o9, o10, o11, none]) (vs := [12]) Fo.w (fun a => .str a.nm) Fo.isTo G F.atoms 0 F.atoms [] G rfl
    (by simp; omega) (Gr.refl wf) (hat_l h7) fun a ha H hH => by
      have hat := F.atoms_at a ha
      have il : bfop T .len [a.w] (on H) = some (.int (a.tail.length + 1 : Nat), on H) := by rw [a.w_eq, len_t]; rfl
      have hd : decide (((a.tail.length + 1 : Nat) : Int) = 3) = a.isTo := by cases a <;> first | rfl | cases hat
      refine ⟨[o0, o1, o2, o3, o4, some F.w, o6, some (.ref m7), some (.ref m8), o9, o10, o11, some a.w], .bl (decide (((a.tail.length + 1 : Nat) : Int) = 3)), H, rfl, by simp (config := { decide := true }) only [il, oE_cst, oE_var, oE_bin, oE_cmp, oE_and, oE_or, oE_not, oE_neg, oE_ife, oE_tup, oE_lst, oE_ix, oE_sl, oE_call, oE_mk, oE_met, oE_att, oE_blt, oE_lc, oEs_nil, oEs_cons, oA_nil, oA_e, oA_s, oI_e, oI_rng, oI_zip, oW_eq, oSs_nil, oSs_cons, oS_asg, oS_sub, oS_att, oS_par, oS_exp, oS_ife, oS_for, oS_whl, oS_ret, oS_pass, rb_ok, rt_ok, ft_nx, ft_ret, fl_nx, fl_ret, fo_nx, fo_ret, oo_some, og_some, nox_ok, tru_bl, tru_int, bA_nil, asg_v, c_eq, c_ne, c_in, c_nin, c_lt, c_le, c_gt, c_ge, c_is, c_isn, eq_ss, eq_ii, eq_bb, in_ss, ix_t, ix_r, at_0, at_1, at_2, at_3, at_4, on_get, on_sz, List.getElem?_cons_zero, List.getElem?_cons_succ, List.getElem?_nil, List.set_cons_zero, List.set_cons_succ, Option.map_some, Option.map_none, if_true, if_false, Bool.false_eq_true, decide_true, decide_false, Bool.not_true, Bool.not_false, on_on, List.length_cons, List.length_nil, on_setw, on_pushw, List.nil_append, List.cons_append, seq_new, its_new, lst_new, ix_new, len_new, iv_new, newL_one, newL_two, newL_nil, iv_t, iv_r, oE_lc2, oE_chn, oE_maxd, oS_brk, oS_cnt, oS_unp, ft_cnt, ft_brk, fl_cnt, wipeW], by rw [hd]; rfl, Gr.refl hH.w, fun h => ⟨H, ?_, Gr.refl hH.w⟩⟩
      cases a <;> first | cases h | skip
      rename_i c n
      have i1 : ixop (on H) (Fo.yto c n).w (.int 2) = some (.str n) := by
        show ixop (on H) (.tup [.str "yours", .str c, .str n]) (.int 2) = _
        rw [ix_t, at_2]
        rfl
      simp (config := { decide := true }) only [i1, oE_cst, oE_var, oE_bin, oE_cmp, oE_and, oE_or, oE_not, oE_neg, oE_ife, oE_tup, oE_lst, oE_ix, oE_sl, oE_call, oE_mk, oE_met, oE_att, oE_blt, oE_lc, oEs_nil, oEs_cons, oA_nil, oA_e, oA_s, oI_e, oI_rng, oI_zip, oW_eq, oSs_nil, oSs_cons, oS_asg, oS_sub, oS_att, oS_par, oS_exp, oS_ife, oS_for, oS_whl, oS_ret, oS_pass, rb_ok, rt_ok, ft_nx, ft_ret, fl_nx, fl_ret, fo_nx, fo_ret, oo_some, og_some, nox_ok, tru_bl, tru_int, bA_nil, asg_v, c_eq, c_ne, c_in, c_nin, c_lt, c_le, c_gt, c_ge, c_is, c_isn, eq_ss, eq_ii, eq_bb, in_ss, ix_t, ix_r, at_0, at_1, at_2, at_3, at_4, on_get, on_sz, List.getElem?_cons_zero, List.getElem?_cons_succ, List.getElem?_nil, List.set_cons_zero, List.set_cons_succ, Option.map_some, Option.map_none, if_true, if_false, Bool.false_eq_true, decide_true, decide_false, Bool.not_true, Bool.not_false, on_on, List.length_cons, List.length_nil, on_setw, on_pushw, List.nil_append, List.cons_append, seq_new, its_new, lst_new, ix_new, len_new, iv_new, newL_one, newL_two, newL_nil, iv_t, iv_r, oE_lc2, oE_chn, oE_maxd, oS_brk, oS_cnt, oS_unp, ft_cnt, ft_brk, fl_cnt, wipeW]
      rfl
  rw [List.nil_append, F.names_w] at e2
  have hnl := newL_k (G := G2) (ws := F.names.map .str) (by rw [List.length_map]; have := F.names_len; omega)
  let G3 := G2.push (.lst (F.names.map .str))
  have g3 : Gr G G3 := gr2.push _
  obtain ⟨G4, e4, g4⟩ := law_guard_ok (T := T) (d := d + 14) 5 F G3 g3.w s.dep
  have e4' : xC T (d + 20) 18 [F.w] (on G3) = .ok (.bl F.guard) (on G4) := e4
  let G5 := G4.push (.lst [.ref G2.sz, .bl F.guard])
  have g5 : Gr G4 G5 := Gr.new g4.w _
  have g05 := (g3.trans g4).trans g5
  have ad := add_k (G := G5) (g05.get h8) (get_push_self G4 (.lst [.ref G2.sz, .bl F.guard])) (show 3 + 2 ≤ 10000 by decide)
  let G6 := G5.push (.lst ([.int (F.dep : Int), .ref mp, .str (Txt.join "" F.lets)] ++ [.ref G2.sz, .bl F.guard]))
  have g6 : Gr G G6 := g05.push _
  have hn : G6.get G2.sz = some (.lst (F.names.map .str)) := ((g4.trans g5).push _).get (get_push_self _ _)
  refine ⟨G5.sz, G6, ?_, ⟨_, _, rfl, get_push_self _ _, _, _, rfl, rfl, _, _, rfl, isDa_list (fun a => a.isDa) (g6.get hp), _, _, rfl, rfl, _, _, rfl, isDa_list (f := Da.str) (g := W.str) (fun _ => rfl) hn, _, _, rfl, rfl, rfl⟩, g6⟩
  dsimp only [G6, G5, G3] at ad e4' ⊢
  simp (config := { decide := true }) only [t6, hiv, e2, hnl, e4', ad, oE_cst, oE_var, oE_bin, oE_cmp, oE_and, oE_or, oE_not, oE_neg, oE_ife, oE_tup, oE_lst, oE_ix, oE_sl, oE_call, oE_mk, oE_met, oE_att, oE_blt, oE_lc, oEs_nil, oEs_cons, oA_nil, oA_e, oA_s, oI_e, oI_rng, oI_zip, oW_eq, oSs_nil, oSs_cons, oS_asg, oS_sub, oS_att, oS_par, oS_exp, oS_ife, oS_for, oS_whl, oS_ret, oS_pass, rb_ok, rt_ok, ft_nx, ft_ret, fl_nx, fl_ret, fo_nx, fo_ret, oo_some, og_some, nox_ok, tru_bl, tru_int, bA_nil, asg_v, c_eq, c_ne, c_in, c_nin, c_lt, c_le, c_gt, c_ge, c_is, c_isn, eq_ss, eq_ii, eq_bb, in_ss, ix_t, ix_r, at_0, at_1, at_2, at_3, at_4, on_get, on_sz, List.getElem?_cons_zero, List.getElem?_cons_succ, List.getElem?_nil, List.set_cons_zero, List.set_cons_succ, Option.map_some, Option.map_none, if_true, if_false, Bool.false_eq_true, decide_true, decide_false, Bool.not_true, Bool.not_false, on_on, List.length_cons, List.length_nil, on_setw, on_pushw, List.nil_append, List.cons_append, seq_new, its_new, lst_new, ix_new, len_new, iv_new, newL_one, newL_two, newL_nil, iv_t, iv_r, oE_lc2, oE_chn, oE_maxd, oS_brk, oS_cnt, oS_unp, ft_cnt, ft_brk, fl_cnt, wipeW]
theorem five_ok {F : Fo} (s : Sm F) (wf : Wf G) : ∃ (mp mn : Nat) (G' : GH), G.sz ≤ mp ∧ G.sz ≤ mn ∧ Gr G G' ∧ G'.get mp = some (.lst (F.parts.map Fo.w)) ∧ G'.get mn = some (.lst (F.names.map .str)) ∧
    ∃ G1 G2 G3 G4, xC T (d + 20) 1 [F.w] (on G) = .ok (.int (F.dep : Int)) (on G1) ∧ xC T (d + 20) 2 [F.w] (on G1) = .ok (.ref mp) (on G2) ∧ xC T (d + 20) 4 [F.w] (on G2) = .ok (.str (Txt.join "" F.lets)) (on G3) ∧ xC T (d + 20) 5 [F.w] (on G3) = .ok (.ref mn) (on G4) ∧ Gr G4 G' ∧ xC T (d + 20) 6 [F.w] (on G4) = .ok (.bl F.guard) (on G') ∧
    Gr G G4 ∧ G4.get mp = some (.lst (F.parts.map Fo.w)) ∧ G4.get mn = some (.lst (F.names.map .str)) := by
  have z : F.sz ≤ 5000 := Nat.le_trans s.sz (by decide)
  obtain ⟨G1, e1, g1⟩ := depth_ok (T := T) (d := d + 14) 5 F G wf s.dep
  obtain ⟨mp, G2, e2, p2, q2, g2⟩ := shown_parts_ok (T := T) (d := d + 14) 5 F G1 g1.w s.dep z
  obtain ⟨G3, e3, g3⟩ := letters_ok (T := T) (d := d + 13) 5 F G2 g2.w s.dep z
  obtain ⟨mn, G4, e4, p4, q4, g4⟩ := names_in_ok (T := T) (d := d + 13) 5 F G3 g3.w s.dep z
  obtain ⟨G5, e5, g5⟩ := is_guarded_ok (T := T) (d := d + 14) 5 F G4 g4.w s.dep
  have g12 := g1.trans g2
  have g123 := g12.trans g3
  have g34 := g3.trans g4
  exact ⟨mp, mn, G5, Nat.le_trans g1.le q2, Nat.le_trans g123.le q4, (g123.trans g4).trans g5, (g34.trans g5).get p2, g5.get p4, G1, G2, G3, G4, e1, e2, e3, e4, g5, e5, g123.trans g4, g34.get p2, p4⟩
theorem inner_ok {F : Fo} {m8 : Nat} (s : Sm F) (wf : Wf G) (h8 : IsDa G (.lst (dueL F)) (.ref m8)) : ∃ (m : Nat) (G' : GH), xSs T (d + 20) inner [o0, o1, o2, o3, o4, some F.w, o6, o7, some (.ref m8), o9, o10, o11, o12] (on G) = .nx [o0, o1, o2, o3, o4, some F.w, o6, o7, some (.ref m8), o9, some (.ref m), o11, o12] (on G') ∧ Gr G G' := by
  obtain ⟨mp, mn, G5, lp, ln, g5, hp, hn, G1, G2, G3, G4, e1, e2, e3, e4, _, e5, _, _, _⟩ := five_ok (d := d) s wf
  let told : List W := [.int (F.dep : Int), .ref mp, .str (Txt.join "" F.lets), .ref mn, .bl F.guard]
  let G6 := G5.push (.lst told)
  have g6 : Gr G G6 := g5.push _
  have x6 : Gr G5 G6 := Gr.new g5.w _
  have hk : IsDa G6 (.lst (dueL F)) (.ref G5.sz) := ⟨_, _, rfl, get_push_self _ _, _, _, rfl, rfl, _, _, rfl, isDa_list (fun a => a.isDa) (x6.get hp), _, _, rfl, rfl, _, _, rfl, isDa_list (f := Da.str) (g := W.str) (fun _ => rfl) (x6.get hn), _, _, rfl, rfl, rfl⟩
  have hdp := dpt_due F s
  obtain ⟨G7, e7, g7⟩ := like_fo (T := T) (d := d) (k := 20) (by omega) (few_due F s.sz) hk (IsDa.fr g6.x _ h8) g6.w
  have g67 := g6.trans g7
  have ht : G7.get G5.sz = some (.lst told) := g7.get (get_push_self _ _)
  have hp7 : G7.get mp = some (.lst (F.parts.map Fo.w)) := (x6.trans g7).get hp
  have hn7 : G7.get mn = some (.lst (F.names.map .str)) := (x6.trans g7).get hn
  have lpt : mp ≠ G5.sz := by have := g5.w _ _ hp; omega
  have lnt : mn ≠ G5.sz := by have := g5.w _ _ hn; omega
  have zl := F.parts_len
  have zs := s.sz
  have i1 : ixop (on G7) (.ref G5.sz) (.int 1) = some (.ref mp) := by rw [ix_lst ht]; rfl
  have k1 := mk_lst (T := T) (m := 2) (k := .append) hp7 HBm.h
  have a1 := app_k (w := .str "zz") hp7 (by rw [List.length_map]; omega)
  let G8 := G7.set mp (.lst (F.parts.map Fo.w ++ [.str "zz"]))
  have g8 : Gr G G8 := g67.set wf lp hp7
  have ht8 : G8.get G5.sz = some (.lst told) := by rw [GH.get_set, if_neg (fun h => lpt h.symm)]; exact ht
  have hn8 : ∃ ws, G8.get mn = some (.lst ws) := by
    by_cases h : mn = mp
    · exact ⟨_, by rw [GH.get_set, if_pos h]⟩
    · exact ⟨_, by rw [GH.get_set, if_neg h]; exact hn7⟩
  obtain ⟨ws, hn8⟩ := hn8
  have i3 : ixop (on G8) (.ref G5.sz) (.int 3) = some (.ref mn) := by rw [ix_lst ht8]; rfl
  have k3 := mk_lst (T := T) (m := 3) (k := .clear) hn8 HBm.h
  have a3 := clear_l hn8
  refine ⟨G5.sz, G8.set mn (.lst []), ?_, g8.set wf ln hn8⟩
  dsimp only [G8] at i3 k3 a3 ⊢
  dsimp only [G6, told] at e7
  simp (config := { decide := true }) only [inner, n1, n2, n3, n4, e1, e2, e3, e4, e5, newL_5, e7, i1, k1, a1, i3, k3, a3, oE_cst, oE_var, oE_bin, oE_cmp, oE_and, oE_or, oE_not, oE_neg, oE_ife, oE_tup, oE_lst, oE_ix, oE_sl, oE_call, oE_mk, oE_met, oE_att, oE_blt, oE_lc, oEs_nil, oEs_cons, oA_nil, oA_e, oA_s, oI_e, oI_rng, oI_zip, oW_eq, oSs_nil, oSs_cons, oS_asg, oS_sub, oS_att, oS_par, oS_exp, oS_ife, oS_for, oS_whl, oS_ret, oS_pass, rb_ok, rt_ok, ft_nx, ft_ret, fl_nx, fl_ret, fo_nx, fo_ret, oo_some, og_some, nox_ok, tru_bl, tru_int, bA_nil, asg_v, c_eq, c_ne, c_in, c_nin, c_lt, c_le, c_gt, c_ge, c_is, c_isn, eq_ss, eq_ii, eq_bb, in_ss, ix_t, ix_r, at_0, at_1, at_2, at_3, at_4, on_get, on_sz, List.getElem?_cons_zero, List.getElem?_cons_succ, List.getElem?_nil, List.set_cons_zero, List.set_cons_succ, Option.map_some, Option.map_none, if_true, if_false, Bool.false_eq_true, decide_true, decide_false, Bool.not_true, Bool.not_false, on_on, List.length_cons, List.length_nil, on_setw, on_pushw, List.nil_append, List.cons_append, seq_new, its_new, lst_new, ix_new, len_new, iv_new, newL_one, newL_two, newL_nil, iv_t, iv_r, oE_lc2, oE_chn, oE_maxd, oS_brk, oS_cnt, oS_unp, ft_cnt, ft_brk, fl_cnt, wipeW]
theorem t7_ok {F : Fo} {m8 : Nat} (s : Sm F) (wf : Wf G) (h8 : IsDa G (.lst (dueL F)) (.ref m8)) : ∃ p9 p10 G', xS T (d + 20) t7 [o0, o1, o2, o3, o4, some F.w, o6, o7, some (.ref m8), o9, o10, o11, o12] (on G) = .nx [o0, o1, o2, o3, o4, some F.w, o6, o7, some (.ref m8), p9, p10, o11, o12] (on G') ∧ Gr G G' := by
  obtain ⟨σ', G2, e2, ⟨p9, p10, hs⟩, g2⟩ := xF_seq (T := T) (d := d + 20) (iv := .one (.sq (rngW 0 2))) (tg := .v 9) (b := inner) (rngW 0 2)
    (fun _ σ H => (∃ p9 p10, σ = [o0, o1, o2, o3, o4, some F.w, o6, o7, some (.ref m8), p9, p10, o11, o12]) ∧ Gr G H) (fun j σ H _ => sq_at) (fun j w σ H _ hI => by
      obtain ⟨⟨p9, p10, rfl⟩, gH⟩ := hI
      obtain ⟨m, H2, e, g2⟩ := inner_ok (d := d) (o0 := o0) (o1 := o1) (o2 := o2) (o3 := o3) (o4 := o4) (o6 := o6) (o7 := o7) (o9 := some w) (o10 := p10) (o11 := o11) (o12 := o12) s gH.w (IsDa.fr gH.x _ h8)
      exact ⟨_, _, H2, asg_v, e, ⟨_, _, rfl⟩, gH.trans g2⟩) 2 0 [o0, o1, o2, o3, o4, some F.w, o6, o7, some (.ref m8), o9, o10, o11, o12] G rfl ⟨⟨_, _, rfl⟩, Gr.refl wf⟩
  have hr : rngOf [.int 2] = some (rngW 0 2) := rfl
  refine ⟨p9, p10, G2, ?_, g2⟩
  rw [hs] at e2
  simp (config := { decide := true }) only [t7, hr, e2, oE_cst, oE_var, oE_bin, oE_cmp, oE_and, oE_or, oE_not, oE_neg, oE_ife, oE_tup, oE_lst, oE_ix, oE_sl, oE_call, oE_mk, oE_met, oE_att, oE_blt, oE_lc, oEs_nil, oEs_cons, oA_nil, oA_e, oA_s, oI_e, oI_rng, oI_zip, oW_eq, oSs_nil, oSs_cons, oS_asg, oS_sub, oS_att, oS_par, oS_exp, oS_ife, oS_for, oS_whl, oS_ret, oS_pass, rb_ok, rt_ok, ft_nx, ft_ret, fl_nx, fl_ret, fo_nx, fo_ret, oo_some, og_some, nox_ok, tru_bl, tru_int, bA_nil, asg_v, c_eq, c_ne, c_in, c_nin, c_lt, c_le, c_gt, c_ge, c_is, c_isn, eq_ss, eq_ii, eq_bb, in_ss, ix_t, ix_r, at_0, at_1, at_2, at_3, at_4, on_get, on_sz, List.getElem?_cons_zero, List.getElem?_cons_succ, List.getElem?_nil, List.set_cons_zero, List.set_cons_succ, Option.map_some, Option.map_none, if_true, if_false, Bool.false_eq_true, decide_true, decide_false, Bool.not_true, Bool.not_false, on_on, List.length_cons, List.length_nil, on_setw, on_pushw, List.nil_append, List.cons_append, seq_new, its_new, lst_new, ix_new, len_new, iv_new, newL_one, newL_two, newL_nil, iv_t, iv_r, oE_lc2, oE_chn, oE_maxd, oS_brk, oS_cnt, oS_unp, ft_cnt, ft_brk, fl_cnt, wipeW]
def bothD (F O : Fo) : List Da := [.tup [.str "true"], F.da, .tup [.str "and", F.da, O.da], .tup [.str "and", .tup [.str "and", O.da, F.da], O.da]]
def bothW (F O : Fo) : List W := [.tup [.str "true"], F.w, .tup [.str "and", F.w, O.w], .tup [.str "and", .tup [.str "and", O.w, F.w], O.w]]
theorem both_da {F O : Fo} {m : Nat} (h : G.get m = some (.lst (bothW F O))) : IsDa G (.lst (bothD F O)) (.ref m) := ⟨_, _, rfl, h, _, _, rfl, Fo.isDa .tru, _, _, rfl, F.isDa, _, _, rfl, Fo.isDa (.and F O), _, _, rfl, Fo.isDa (.and (.and O F) O), rfl⟩
theorem few_both (F O : Fo) : few (.lst (bothD F O)) := ⟨show 4 ≤ 10000 by decide, Fo.few_da .tru, F.few_da, Fo.few_da (.and F O), Fo.few_da (.and (.and O F) O), trivial⟩
theorem dpt_both {F O : Fo} (h1 : F.dep ≤ 5) (h2 : O.dep ≤ 5) : dpt (.lst (bothD F O)) ≤ 8 := by
  have e : dpt (.lst (bothD F O)) = max (dpt (Fo.da .tru)) (max (dpt F.da) (max (dpt (Fo.da (.and F O))) (max (dpt (Fo.da (.and (.and O F) O))) 0))) + 1 := rfl
  rw [e, Fo.dpt_da, Fo.dpt_da, Fo.dpt_da, Fo.dpt_da]
  simp only [Fo.dep]
  omega
theorem t8_ok {F O : Fo} (s : Sm F) (t : Sm O) (wf : Wf G) : ∃ (m : Nat) (G' : GH), xS T (d + 20) t8 [o0, o1, o2, o3, o4, some F.w, some O.w, o7, o8, o9, o10, o11, o12] (on G) = .nx [o0, o1, o2, o3, o4, some F.w, some O.w, o7, o8, o9, some (.ref m), o11, o12] (on G') ∧ G'.get m = some (.lst (bothW F O)) ∧ Gr G G' := by
  have k : ∀ {fs : List Fo}, (∀ g ∈ fs, g = F ∨ g = O) → (∀ g ∈ fs, g.da.ok = true) ∧ ∀ g ∈ fs, g.dep ≤ 40 := fun h => ⟨fun g hg => (h g hg).elim (fun e => e ▸ s.ok) fun e => e ▸ t.ok, fun g hg => (h g hg).elim (fun e => by rw [e]; exact Nat.le_trans s.dep (by decide)) fun e => by rw [e]; exact Nat.le_trans t.dep (by decide)⟩
  have k1 := k (fs := []) (by simp)
  have k2 := k (fs := [F]) (by simp)
  have k3 := k (fs := [F, O]) (by simp)
  have k4 := k (fs := [O, F, O]) (by simp)
  obtain ⟨G1, e1, g1⟩ := both_ok (T := T) (d := d + 19) [] G wf (by simp) k1.1 k1.2
  obtain ⟨G2, e2, g2⟩ := both_ok (T := T) (d := d + 19) [F] G1 g1.w (by simp) k2.1 k2.2
  obtain ⟨G3, e3, g3⟩ := both_ok (T := T) (d := d + 19) [F, O] G2 g2.w (by simp) k3.1 k3.2
  obtain ⟨G4, e4, g4⟩ := both_ok (T := T) (d := d + 19) [O, F, O] G3 g3.w (by simp) k4.1 k4.2
  have e1' : xC T (d + 20) 7 [] (on G) = .ok (.tup [.str "true"]) (on G1) := e1
  have e2' : xC T (d + 20) 7 [F.w] (on G1) = .ok F.w (on G2) := e2
  have e3' : xC T (d + 20) 7 [F.w, O.w] (on G2) = .ok (.tup [.str "and", F.w, O.w]) (on G3) := e3
  have e4' : xC T (d + 20) 7 [O.w, F.w, O.w] (on G3) = .ok (.tup [.str "and", .tup [.str "and", O.w, F.w], O.w]) (on G4) := e4
  refine ⟨G4.sz, G4.push (.lst (bothW F O)), ?_, get_push_self _ _, (((g1.trans g2).trans g3).trans g4).push _⟩
  simp (config := { decide := true }) only [t8, e1', e2', e3', e4', newL_4, oE_cst, oE_var, oE_bin, oE_cmp, oE_and, oE_or, oE_not, oE_neg, oE_ife, oE_tup, oE_lst, oE_ix, oE_sl, oE_call, oE_mk, oE_met, oE_att, oE_blt, oE_lc, oEs_nil, oEs_cons, oA_nil, oA_e, oA_s, oI_e, oI_rng, oI_zip, oW_eq, oSs_nil, oSs_cons, oS_asg, oS_sub, oS_att, oS_par, oS_exp, oS_ife, oS_for, oS_whl, oS_ret, oS_pass, rb_ok, rt_ok, ft_nx, ft_ret, fl_nx, fl_ret, fo_nx, fo_ret, oo_some, og_some, nox_ok, tru_bl, tru_int, bA_nil, asg_v, c_eq, c_ne, c_in, c_nin, c_lt, c_le, c_gt, c_ge, c_is, c_isn, eq_ss, eq_ii, eq_bb, in_ss, ix_t, ix_r, at_0, at_1, at_2, at_3, at_4, on_get, on_sz, List.getElem?_cons_zero, List.getElem?_cons_succ, List.getElem?_nil, List.set_cons_zero, List.set_cons_succ, Option.map_some, Option.map_none, if_true, if_false, Bool.false_eq_true, decide_true, decide_false, Bool.not_true, Bool.not_false, on_on, List.length_cons, List.length_nil, on_setw, on_pushw, List.nil_append, List.cons_append, seq_new, its_new, lst_new, ix_new, len_new, iv_new, newL_one, newL_two, newL_nil, iv_t, iv_r, oE_lc2, oE_chn, oE_maxd, oS_brk, oS_cnt, oS_unp, ft_cnt, ft_brk, fl_cnt, wipeW]
  rfl
theorem t9_ok {F O : Fo} {m : Nat} (s : Sm F) (t : Sm O) (wf : Wf G) (h : G.get m = some (.lst (bothW F O))) : ∃ (G' : GH), xS T (d + 20) t9 [o0, o1, o2, o3, o4, some F.w, some O.w, o7, o8, o9, some (.ref m), o11, o12] (on G) = .nx [o0, o1, o2, o3, o4, some F.w, some O.w, o7, o8, o9, some (.ref m), o11, o12] (on G') ∧ Gr G G' := by
  let G1 := G.push (.lst (bothW F O))
  have g1 : Gr G G1 := Gr.new wf _
  have hd := dpt_both s.dep t.dep
  obtain ⟨G2, e2, g2⟩ := like_fo (T := T) (d := d) (k := 20) (by omega) (few_both F O) (both_da (g1.get h)) (both_da (get_push_self G (.lst (bothW F O)))) g1.w
  refine ⟨G2, ?_, g1.trans g2⟩
  dsimp only [G1, bothW] at e2
  simp (config := { decide := true }) only [t9, newL_4, e2, oE_cst, oE_var, oE_bin, oE_cmp, oE_and, oE_or, oE_not, oE_neg, oE_ife, oE_tup, oE_lst, oE_ix, oE_sl, oE_call, oE_mk, oE_met, oE_att, oE_blt, oE_lc, oEs_nil, oEs_cons, oA_nil, oA_e, oA_s, oI_e, oI_rng, oI_zip, oW_eq, oSs_nil, oSs_cons, oS_asg, oS_sub, oS_att, oS_par, oS_exp, oS_ife, oS_for, oS_whl, oS_ret, oS_pass, rb_ok, rt_ok, ft_nx, ft_ret, fl_nx, fl_ret, fo_nx, fo_ret, oo_some, og_some, nox_ok, tru_bl, tru_int, bA_nil, asg_v, c_eq, c_ne, c_in, c_nin, c_lt, c_le, c_gt, c_ge, c_is, c_isn, eq_ss, eq_ii, eq_bb, in_ss, ix_t, ix_r, at_0, at_1, at_2, at_3, at_4, on_get, on_sz, List.getElem?_cons_zero, List.getElem?_cons_succ, List.getElem?_nil, List.set_cons_zero, List.set_cons_succ, Option.map_some, Option.map_none, if_true, if_false, Bool.false_eq_true, decide_true, decide_false, Bool.not_true, Bool.not_false, on_on, List.length_cons, List.length_nil, on_setw, on_pushw, List.nil_append, List.cons_append, seq_new, its_new, lst_new, ix_new, len_new, iv_new, newL_one, newL_two, newL_nil, iv_t, iv_r, oE_lc2, oE_chn, oE_maxd, oS_brk, oS_cnt, oS_unp, ft_cnt, ft_brk, fl_cnt, wipeW]
theorem t10_ok {F O : Fo} (s : Sm F) (t : Sm O) (wf : Wf G) : ∃ (G' : GH), xS T (d + 20) t10 [o0, o1, o2, o3, o4, some F.w, some O.w, o7, o8, o9, o10, o11, o12] (on G) = .nx [o0, o1, o2, o3, o4, some F.w, some O.w, o7, o8, o9, o10, o11, o12] (on G') ∧ Gr G G' := by
  have e1 : xC T (d + 20) 8 [F.w, O.w] (on G) = .ok (Fo.sameF F O).w (on G) := same_ok (T := T) (d := d + 19) F O G
  have hs := s.dep
  have ht := t.dep
  obtain ⟨G2, e2, g2⟩ := like_fo (T := T) (d := d) (k := 20) (a := (Fo.sameF F O).da) (by rw [Fo.dpt_da]; simp only [Fo.sameF, Fo.dep]; omega) (Fo.few_da _) (Fo.isDa (Fo.sameF F O)) (Fo.isDa (Fo.sameF F O)) wf
  refine ⟨G2, ?_, g2⟩
  have e2' : xC T (d + 20) 19 [(Fo.sameF F O).w, .tup [.str "or", .tup [.str "and", F.w, O.w], .tup [.str "and", .tup [.str "not", F.w], .tup [.str "not", O.w]]]] (on G) = .ok (.bl true) (on G2) := e2
  simp (config := { decide := true }) only [t10, e1, e2', oE_cst, oE_var, oE_bin, oE_cmp, oE_and, oE_or, oE_not, oE_neg, oE_ife, oE_tup, oE_lst, oE_ix, oE_sl, oE_call, oE_mk, oE_met, oE_att, oE_blt, oE_lc, oEs_nil, oEs_cons, oA_nil, oA_e, oA_s, oI_e, oI_rng, oI_zip, oW_eq, oSs_nil, oSs_cons, oS_asg, oS_sub, oS_att, oS_par, oS_exp, oS_ife, oS_for, oS_whl, oS_ret, oS_pass, rb_ok, rt_ok, ft_nx, ft_ret, fl_nx, fl_ret, fo_nx, fo_ret, oo_some, og_some, nox_ok, tru_bl, tru_int, bA_nil, asg_v, c_eq, c_ne, c_in, c_nin, c_lt, c_le, c_gt, c_ge, c_is, c_isn, eq_ss, eq_ii, eq_bb, in_ss, ix_t, ix_r, at_0, at_1, at_2, at_3, at_4, on_get, on_sz, List.getElem?_cons_zero, List.getElem?_cons_succ, List.getElem?_nil, List.set_cons_zero, List.set_cons_succ, Option.map_some, Option.map_none, if_true, if_false, Bool.false_eq_true, decide_true, decide_false, Bool.not_true, Bool.not_false, on_on, List.length_cons, List.length_nil, on_setw, on_pushw, List.nil_append, List.cons_append, seq_new, its_new, lst_new, ix_new, len_new, iv_new, newL_one, newL_two, newL_nil, iv_t, iv_r, oE_lc2, oE_chn, oE_maxd, oS_brk, oS_cnt, oS_unp, ft_cnt, ft_brk, fl_cnt, wipeW]
def fourD (F : Fo) : List Da := [.int (F.dep : Int), .lst (F.parts.map Fo.da), .str (Txt.join "" F.lets), .lst (F.names.map .str)]
theorem t11_ok {O : Fo} (s : Sm O) (wf : Wf G) : ∃ (m : Nat) (G' : GH), xS T (d + 20) t11 [o0, o1, o2, o3, o4, o5, some O.w, o7, o8, o9, o10, o11, o12] (on G) = .nx [o0, o1, o2, o3, o4, o5, some O.w, o7, o8, o9, some (.ref m), o11, o12] (on G') ∧ IsDa G' (.lst (fourD O)) (.ref m) ∧ Gr G G' := by
  obtain ⟨mp, mn, _, _, _, _, _, _, G1, G2, G3, G4, e1, e2, e3, e4, _, _, g4, hp, hn⟩ := five_ok (d := d) s wf
  have b1 : bindA [.a 0] [O.w] = some [O.w] := rfl
  let G5 := G4.push (.lst [.int (O.dep : Int), .ref mp, .str (Txt.join "" O.lets), .ref mn])
  have g5 : Gr G4 G5 := Gr.new g4.w _
  refine ⟨G4.sz, G5, ?_, ⟨_, _, rfl, get_push_self _ _, _, _, rfl, rfl, _, _, rfl, isDa_list (fun a => a.isDa) (g5.get hp), _, _, rfl, rfl, _, _, rfl, isDa_list (f := Da.str) (g := W.str) (fun _ => rfl) (g5.get hn), rfl⟩, g4.trans g5⟩
  dsimp only [G5]
  simp (config := { decide := true }) only [t11, b1, e1, e2, e3, e4, newL_4, oE_cst, oE_var, oE_bin, oE_cmp, oE_and, oE_or, oE_not, oE_neg, oE_ife, oE_tup, oE_lst, oE_ix, oE_sl, oE_call, oE_mk, oE_met, oE_att, oE_blt, oE_lc, oEs_nil, oEs_cons, oA_nil, oA_e, oA_s, oI_e, oI_rng, oI_zip, oW_eq, oSs_nil, oSs_cons, oS_asg, oS_sub, oS_att, oS_par, oS_exp, oS_ife, oS_for, oS_whl, oS_ret, oS_pass, rb_ok, rt_ok, ft_nx, ft_ret, fl_nx, fl_ret, fo_nx, fo_ret, oo_some, og_some, nox_ok, tru_bl, tru_int, bA_nil, asg_v, c_eq, c_ne, c_in, c_nin, c_lt, c_le, c_gt, c_ge, c_is, c_isn, eq_ss, eq_ii, eq_bb, in_ss, ix_t, ix_r, at_0, at_1, at_2, at_3, at_4, on_get, on_sz, List.getElem?_cons_zero, List.getElem?_cons_succ, List.getElem?_nil, List.set_cons_zero, List.set_cons_succ, Option.map_some, Option.map_none, if_true, if_false, Bool.false_eq_true, decide_true, decide_false, Bool.not_true, Bool.not_false, on_on, List.length_cons, List.length_nil, on_setw, on_pushw, List.nil_append, List.cons_append, seq_new, its_new, lst_new, ix_new, len_new, iv_new, newL_one, newL_two, newL_nil, iv_t, iv_r, oE_lc2, oE_chn, oE_maxd, oS_brk, oS_cnt, oS_unp, ft_cnt, ft_brk, fl_cnt, wipeW]
theorem join_sok2 : ∀ l : List Str, (∀ z ∈ l, PyData.strOk z = true) → PyData.strOk (Txt.join "" l) = true := by
  intro l
  rw [TL.join_eq]
  induction l with
  | nil => intro _; decide +kernel
  | cons x r ih =>
    intro h
    have hx := h x List.mem_cons_self
    cases r with
    | nil => exact hx
    | cons y r =>
      have hr := ih fun z hz => h z (List.mem_cons_of_mem _ hz)
      have e : Str.join "" (x :: y :: r) = x ++ "" ++ Str.join "" (y :: r) := rfl
      rw [e]
      exact strOk_app (strOk_app hx (by decide +kernel)) hr
theorem lets_ok (F : Fo) : ∀ z ∈ F.lets, PyData.strOk z = true := by
  intro z hz
  unfold Fo.lets at hz
  have h := (List.mem_filter.mp hz).1
  rcases List.mem_cons.mp h with h | h
  · rw [h]; decide +kernel
  · rcases List.mem_cons.mp h with h | h
    · rw [h]; decide +kernel
    · rw [List.mem_singleton.mp h]; decide +kernel
theorem four_ok {F : Fo} (s : Sm F) : (Da.lst (fourD F)).ok = true ∧ dpt (.lst (fourD F)) ≤ 50 := by
  have h1 : Da.oks (F.parts.map Fo.da) = true := oks_fo fun g hg => (parts_ok hg s.ok).1
  have h2 : Da.oks (F.names.map Da.str) = true := oks_str fun z hz => names_ok hz s.ok
  have h3 : PyData.strOk (Txt.join "" F.lets) = true := join_sok2 _ (lets_ok F)
  have d1 : dpts (F.parts.map Fo.da) ≤ 5 := dpts_fo fun g hg => Nat.le_trans (parts_ok hg s.ok).2 s.dep
  have d2 := dpt_str (l := F.names)
  constructor
  · show (true && (Da.oks (F.parts.map Fo.da) && (PyData.strOk (Txt.join "" F.lets) && (Da.oks (F.names.map Da.str) && true)))) = true
    rw [h1, h2, h3]
    rfl
  · show max 0 (max (dpts (F.parts.map Fo.da) + 1) (max 0 (max (dpts (F.names.map Da.str) + 1) 0))) + 1 ≤ 50
    omega
theorem t12_ok {O : Fo} {m : Nat} (s : Sm O) (wf : Wf G) (h : IsDa G (.lst (fourD O)) (.ref m)) : ∃ (G' : GH), xS T (d + 20) t12 [o0, o1, o2, o3, o4, o5, some O.w, o7, o8, o9, some (.ref m), o11, o12] (on G) = .nx [o0, o1, o2, o3, o4, o5, some O.w, o7, o8, o9, some (.ref m), o11, o12] (on G') ∧ Gr G G' := by
  have z : O.sz ≤ 5000 := Nat.le_trans s.sz (by decide)
  obtain ⟨G1, e1, g1⟩ := law_depth_ok (T := T) (d := d + 14) 5 O G wf s.dep
  obtain ⟨mp, G2, e2, p2, q2, g2⟩ := shown_parts_ok (T := T) (d := d + 14) 5 O G1 g1.w s.dep z
  obtain ⟨G3, e3, g3⟩ := letters_ok (T := T) (d := d + 13) 5 O G2 g2.w s.dep z
  obtain ⟨mn, G4, e4, p4, q4, g4⟩ := names_in_ok (T := T) (d := d + 13) 5 O G3 g3.w s.dep z
  have e1' : xC T (d + 20) 16 [O.w] (on G) = .ok (.int (O.dep : Int)) (on G1) := e1
  have e2' : xC T (d + 20) 2 [O.w] (on G1) = .ok (.ref mp) (on G2) := e2
  have e3' : xC T (d + 20) 4 [O.w] (on G2) = .ok (.str (Txt.join "" O.lets)) (on G3) := e3
  have e4' : xC T (d + 20) 5 [O.w] (on G3) = .ok (.ref mn) (on G4) := e4
  let G5 := G4.push (.lst [.int (O.dep : Int), .ref mp, .str (Txt.join "" O.lets), .ref mn])
  have g5 : Gr G4 G5 := Gr.new g4.w _
  have gg := (((g1.trans g2).trans g3).trans g4).trans g5
  have h5 : IsDa G5 (.lst (fourD O)) (.ref G4.sz) := ⟨_, _, rfl, get_push_self _ _, _, _, rfl, rfl, _, _, rfl, isDa_list (fun a => a.isDa) (((g3.trans g4).trans g5).get p2), _, _, rfl, rfl, _, _, rfl, isDa_list (f := Da.str) (g := W.str) (fun _ => rfl) (g5.get p4), rfl⟩
  have hq := same_da (IsDa.fr gg.x _ h) h5 (four_ok s) rfl
  refine ⟨G5, ?_, gg⟩
  dsimp only [G5] at hq ⊢
  simp (config := { decide := true }) only [t12, e1', e2', e3', e4', newL_4, hq, oE_cst, oE_var, oE_bin, oE_cmp, oE_and, oE_or, oE_not, oE_neg, oE_ife, oE_tup, oE_lst, oE_ix, oE_sl, oE_call, oE_mk, oE_met, oE_att, oE_blt, oE_lc, oEs_nil, oEs_cons, oA_nil, oA_e, oA_s, oI_e, oI_rng, oI_zip, oW_eq, oSs_nil, oSs_cons, oS_asg, oS_sub, oS_att, oS_par, oS_exp, oS_ife, oS_for, oS_whl, oS_ret, oS_pass, rb_ok, rt_ok, ft_nx, ft_ret, fl_nx, fl_ret, fo_nx, fo_ret, oo_some, og_some, nox_ok, tru_bl, tru_int, bA_nil, asg_v, c_eq, c_ne, c_in, c_nin, c_lt, c_le, c_gt, c_ge, c_is, c_isn, eq_ss, eq_ii, eq_bb, in_ss, ix_t, ix_r, at_0, at_1, at_2, at_3, at_4, on_get, on_sz, List.getElem?_cons_zero, List.getElem?_cons_succ, List.getElem?_nil, List.set_cons_zero, List.set_cons_succ, Option.map_some, Option.map_none, if_true, if_false, Bool.false_eq_true, decide_true, decide_false, Bool.not_true, Bool.not_false, on_on, List.length_cons, List.length_nil, on_setw, on_pushw, List.nil_append, List.cons_append, seq_new, its_new, lst_new, ix_new, len_new, iv_new, newL_one, newL_two, newL_nil, iv_t, iv_r, oE_lc2, oE_chn, oE_maxd, oS_brk, oS_cnt, oS_unp, ft_cnt, ft_brk, fl_cnt, wipeW]
theorem tEnd_ok (wf : Wf G) : ∃ G', xS T (d + 20) tEnd [o0, o1, o2, o3, o4, o5, o6, o7, o8, o9, o10, o11, o12] (on G) = .ret (.bl true) (on G') := by
  obtain ⟨G1, e1, g1⟩ := is_guarded_ok (T := T) (d := d + 14) 5 .tru G wf (by decide)
  have e1' : xC T (d + 20) 6 [.tup [.str "true"]] (on G) = .ok (.bl true) (on G1) := e1
  have e2 : xC T (d + 20) 8 [.tup [.str "false"], .tup [.str "true"]] (on G1) = .ok (Fo.sameF .fls .tru).w (on G1) := same_ok (T := T) (d := d + 19) .fls .tru G1
  have b1 : bindA [.a 0] [.tup [.str "true"]] = some [.tup [.str "true"]] := rfl
  have b2 : bindA [.a 1, .a 0] [.tup [.str "true"], .tup [.str "false"]] = some [.tup [.str "false"], .tup [.str "true"]] := rfl
  have hq := same_da (G := G1) (Fo.isDa (Fo.sameF .fls .tru)) (Fo.isDa (Fo.sameF .fls .tru)) ⟨by decide +kernel, by decide +kernel⟩ rfl
  exact ⟨G1, by simp (config := { decide := true }) only [tEnd, b1, e1', b2, e2, hq, oE_cst, oE_var, oE_bin, oE_cmp, oE_and, oE_or, oE_not, oE_neg, oE_ife, oE_tup, oE_lst, oE_ix, oE_sl, oE_call, oE_mk, oE_met, oE_att, oE_blt, oE_lc, oEs_nil, oEs_cons, oA_nil, oA_e, oA_s, oI_e, oI_rng, oI_zip, oW_eq, oSs_nil, oSs_cons, oS_asg, oS_sub, oS_att, oS_par, oS_exp, oS_ife, oS_for, oS_whl, oS_ret, oS_pass, rb_ok, rt_ok, ft_nx, ft_ret, fl_nx, fl_ret, fo_nx, fo_ret, oo_some, og_some, nox_ok, tru_bl, tru_int, bA_nil, asg_v, c_eq, c_ne, c_in, c_nin, c_lt, c_le, c_gt, c_ge, c_is, c_isn, eq_ss, eq_ii, eq_bb, in_ss, ix_t, ix_r, at_0, at_1, at_2, at_3, at_4, on_get, on_sz, List.getElem?_cons_zero, List.getElem?_cons_succ, List.getElem?_nil, List.set_cons_zero, List.set_cons_succ, Option.map_some, Option.map_none, if_true, if_false, Bool.false_eq_true, decide_true, decide_false, Bool.not_true, Bool.not_false, on_on, List.length_cons, List.length_nil, on_setw, on_pushw, List.nil_append, List.cons_append, seq_new, its_new, lst_new, ix_new, len_new, iv_new, newL_one, newL_two, newL_nil, iv_t, iv_r, oE_lc2, oE_chn, oE_maxd, oS_brk, oS_cnt, oS_unp, ft_cnt, ft_brk, fl_cnt, wipeW]⟩
theorem turn_ok (hb : IsBag G b) (wf : Wf G) : ∃ G' p3 p4 p5 p6 p7 p8 p9 p10, xSs T (d + 20) turn [o0, some (.ref b), o2, o3, o4, o5, o6, o7, o8, o9, o10, none, none] (on G) = .nx [o0, some (.ref b), o2, p3, p4, p5, p6, p7, p8, p9, p10, none, none] (on G') ∧ Made G G' b := by
  obtain ⟨zs, m3, G1, e1, h3, n3, l3, z3, m1⟩ := t1_ok (d := d) (o0 := o0) (o2 := o2) (o3 := o3) (o4 := o4) (o5 := o5) (o6 := o6) (o7 := o7) (o8 := o8) (o9 := o9) (o10 := o10) (o11 := none) (o12 := none) hb wf
  obtain ⟨mv, G2, e2, l4, s4, m2⟩ := t2_ok (d := d) (o0 := o0) (o2 := o2) (o3 := some (.ref m3)) (o4 := o4) (o5 := o5) (o6 := o6) (o7 := o7) (o8 := o8) (o9 := o9) (o10 := o10) (o11 := none) (o12 := none) m1.bag m1.wf
  have p : Pool G2 b mv (.ref m3) zs := ⟨⟨m3, rfl, m2.fr.get h3 n3, n3⟩, by omega, fun z hz => (z3 z hz).1, by omega⟩
  obtain ⟨F, O, G3, e3, sF, sO, mm3⟩ := t3_ok (d := d) (o0 := o0) (o2 := o2) (o5 := o5) (o6 := o6) (o7 := o7) (o8 := o8) (o9 := o9) (o10 := o10) (o11 := none) (o12 := none) m2.bag m2.wf p s4
  have mm := (m1.trans m2).trans mm3
  obtain ⟨m7, G4, e4, h7, g4⟩ := t4_ok (d := d) (o0 := o0) (o1 := some (.ref b)) (o2 := o2) (o3 := some (.ref m3)) (o4 := some (.str mv)) (o6 := some O.w) (o7 := o7) (o8 := o8) (o9 := o9) (o10 := o10) (o11 := none) (o12 := none) sF mm.wf
  obtain ⟨mp, m8, G5, e5, h8, hp, g5⟩ := t5_ok (d := d) (o0 := o0) (o1 := some (.ref b)) (o2 := o2) (o3 := some (.ref m3)) (o4 := some (.str mv)) (o6 := some O.w) (o8 := o8) (o9 := o9) (o10 := o10) (o11 := none) (o12 := none) sF g4.w h7
  obtain ⟨m9, G6, e6, h9, g6⟩ := t6_ok (d := d) (o0 := o0) (o1 := some (.ref b)) (o2 := o2) (o3 := some (.ref m3)) (o4 := some (.str mv)) (o6 := some O.w) (o9 := o9) (o10 := o10) (o11 := none) (o12 := none) sF g5.w (g5.get h7) h8 hp
  obtain ⟨p9, p10, G7, e7, g7⟩ := t7_ok (d := d) (o0 := o0) (o1 := some (.ref b)) (o2 := o2) (o3 := some (.ref m3)) (o4 := some (.str mv)) (o6 := some O.w) (o7 := some (.ref m7)) (o9 := o9) (o10 := o10) (o11 := none) (o12 := none) sF g6.w h9
  obtain ⟨m10, G8, e8, h10, g8⟩ := t8_ok (d := d) (o0 := o0) (o1 := some (.ref b)) (o2 := o2) (o3 := some (.ref m3)) (o4 := some (.str mv)) (o7 := some (.ref m7)) (o8 := some (.ref m9)) (o9 := p9) (o10 := p10) (o11 := none) (o12 := none) sF sO g7.w
  obtain ⟨G9, e9, g9⟩ := t9_ok (d := d) (o0 := o0) (o1 := some (.ref b)) (o2 := o2) (o3 := some (.ref m3)) (o4 := some (.str mv)) (o7 := some (.ref m7)) (o8 := some (.ref m9)) (o9 := p9) (o11 := none) (o12 := none) sF sO g8.w h10
  obtain ⟨G10, e10, g10⟩ := t10_ok (d := d) (o0 := o0) (o1 := some (.ref b)) (o2 := o2) (o3 := some (.ref m3)) (o4 := some (.str mv)) (o7 := some (.ref m7)) (o8 := some (.ref m9)) (o9 := p9) (o10 := some (.ref m10)) (o11 := none) (o12 := none) sF sO g9.w
  obtain ⟨m11, G11, e11, h11, g11⟩ := t11_ok (d := d) (o0 := o0) (o1 := some (.ref b)) (o2 := o2) (o3 := some (.ref m3)) (o4 := some (.str mv)) (o5 := some F.w) (o7 := some (.ref m7)) (o8 := some (.ref m9)) (o9 := p9) (o10 := some (.ref m10)) (o11 := none) (o12 := none) sO g10.w
  obtain ⟨G12, e12, g12⟩ := t12_ok (d := d) (o0 := o0) (o1 := some (.ref b)) (o2 := o2) (o3 := some (.ref m3)) (o4 := some (.str mv)) (o5 := some F.w) (o7 := some (.ref m7)) (o8 := some (.ref m9)) (o9 := p9) (o11 := none) (o12 := none) sO g11.w h11
  have gg := (((((((g4.trans g5).trans g6).trans g7).trans g8).trans g9).trans g10).trans g11).trans g12
  refine ⟨G12, some (.ref m3), some (.str mv), some F.w, some O.w, some (.ref m7), some (.ref m9), p9, some (.ref m11), ?_, mm.gr gg⟩
  unfold turn
  rw [xSs_cons, e1, ft_nx, xSs_cons, e2, ft_nx, xSs_cons, e3, ft_nx, xSs_cons, e4, ft_nx, xSs_cons, e5, ft_nx, xSs_cons, e6, ft_nx, xSs_cons, e7, ft_nx, xSs_cons, e8, ft_nx, xSs_cons, e9, ft_nx, xSs_cons, e10, ft_nx, xSs_cons, e11, ft_nx, xSs_cons, e12, ft_nx, xSs_nil]
theorem loop_ok (hb : IsBag G b) (wf : Wf G) : ∃ p2 p3 p4 p5 p6 p7 p8 p9 p10 G', xF T (d + 20) (.one (.sq (rngW 0 8))) 0 (.v 2) turn [o0, some (.ref b), o2, o3, o4, o5, o6, o7, o8, o9, o10, none, none] (on G) = .nx [o0, some (.ref b), p2, p3, p4, p5, p6, p7, p8, p9, p10, none, none] (on G') ∧ Wf G' := by
  obtain ⟨σ', G2, e2, ⟨p2, p3, p4, p5, p6, p7, p8, p9, p10, hs⟩, m2⟩ := xF_seq (T := T) (d := d + 20) (iv := .one (.sq (rngW 0 8))) (tg := .v 2) (b := turn) (rngW 0 8)
    (fun _ σ H => (∃ p2 p3 p4 p5 p6 p7 p8 p9 p10, σ = [o0, some (.ref b), p2, p3, p4, p5, p6, p7, p8, p9, p10, none, none]) ∧ Made G H b) (fun j σ H _ => sq_at) (fun j w σ H _ hI => by
      obtain ⟨⟨p2, p3, p4, p5, p6, p7, p8, p9, p10, rfl⟩, m1⟩ := hI
      obtain ⟨H2, q3, q4, q5, q6, q7, q8, q9, q10, e, m2⟩ := turn_ok (d := d) (o0 := o0) (o2 := some w) (o3 := p3) (o4 := p4) (o5 := p5) (o6 := p6) (o7 := p7) (o8 := p8) (o9 := p9) (o10 := p10) m1.bag m1.wf
      exact ⟨_, _, H2, asg_v, e, ⟨_, _, _, _, _, _, _, _, _, rfl⟩, m1.trans m2⟩) 8 0 [o0, some (.ref b), o2, o3, o4, o5, o6, o7, o8, o9, o10, none, none] G rfl ⟨⟨_, _, _, _, _, _, _, _, _, rfl⟩, Made.refl hb wf⟩
  exact ⟨p2, p3, p4, p5, p6, p7, p8, p9, p10, G2, by rw [e2, hs], m2.wf⟩
end
theorem rng8 : rngOf [.int 8] = some (rngW 0 8) := rfl
def depth : Nat := 100
theorem ev (ns : List Int) (_ : ns.length ≤ 63) : ∃ G', xC T depth 20 [.rol (ns.map .int)] ⟨0, .e⟩ = .ok (.bl true) G' := by
  have d0 : depth = 79 + 20 + 1 := rfl
  obtain ⟨b, G1, e1, hb, w1⟩ := bag_ok (T := T) (d := 98) Wf.nil ns
  obtain ⟨p2, p3, p4, p5, p6, p7, p8, p9, p10, G2, e2, w2⟩ := loop_ok (d := 79) (o0 := some (.rol (ns.map .int))) (o2 := none) (o3 := none) (o4 := none) (o5 := none) (o6 := none) (o7 := none) (o8 := none) (o9 := none) (o10 := none) hb w1
  obtain ⟨G3, e3⟩ := tEnd_ok (d := 79) (o0 := some (.rol (ns.map .int))) (o1 := some (.ref b)) (o2 := p2) (o3 := p3) (o4 := p4) (o5 := p5) (o6 := p6) (o7 := p7) (o8 := p8) (o9 := p9) (o10 := p10) (o11 := none) (o12 := none) w2
  refine ⟨on G3, ?_⟩
  rw [← on_eq ⟨0, .e⟩, d0, cc20, g20_eq]
  have e1' : xC T (79 + 20) 9 [.rol (ns.map .int)] (on ⟨0, .e⟩) = .ok (.ref b) (on G1) := e1
  generalize hD : (79 : Nat) + 20 = D at e1' e2 e3 ⊢
  simp (config := { decide := true }) only [e1', rng8, e2, e3, oE_cst, oE_var, oE_bin, oE_cmp, oE_and, oE_or, oE_not, oE_neg, oE_ife, oE_tup, oE_lst, oE_ix, oE_sl, oE_call, oE_mk, oE_met, oE_att, oE_blt, oE_lc, oEs_nil, oEs_cons, oA_nil, oA_e, oA_s, oI_e, oI_rng, oI_zip, oW_eq, oSs_nil, oSs_cons, oS_asg, oS_sub, oS_att, oS_par, oS_exp, oS_ife, oS_for, oS_whl, oS_ret, oS_pass, rb_ok, rt_ok, ft_nx, ft_ret, fl_nx, fl_ret, fo_nx, fo_ret, oo_some, og_some, nox_ok, tru_bl, tru_int, bA_nil, asg_v, c_eq, c_ne, c_in, c_nin, c_lt, c_le, c_gt, c_ge, c_is, c_isn, eq_ss, eq_ii, eq_bb, in_ss, ix_t, ix_r, at_0, at_1, at_2, at_3, at_4, on_get, on_sz, List.getElem?_cons_zero, List.getElem?_cons_succ, List.getElem?_nil, List.set_cons_zero, List.set_cons_succ, Option.map_some, Option.map_none, if_true, if_false, Bool.false_eq_true, decide_true, decide_false, Bool.not_true, Bool.not_false, on_on, List.length_cons, List.length_nil, on_setw, on_pushw, List.nil_append, List.cons_append, seq_new, its_new, lst_new, ix_new, len_new, iv_new, newL_one, newL_two, newL_nil, iv_t, iv_r, oE_lc2, oE_chn, oE_maxd, oS_brk, oS_cnt, oS_unp, ft_cnt, ft_brk, fl_cnt, wipeW]
end K03

set_option maxHeartbeats 0
/-! K03_I: the program joined. -/
namespace K03
open PySem PySem.Spec PyProof.Rows L2 PM
def top (i : Nat) : Stmt := PySem.Challenge.pw_shownplay_k03_parts_of_formulas.main.body.getD i (.Pass ⟨0, 0, 0, 0⟩)
def inC (st : Stmt) (j : Nat) : Stmt := match st with
  | .ClassDef _ _ _ b _ _ _ _ _ _ _ => b.getD j (.Pass ⟨0, 0, 0, 0⟩)
  | _ => st
def s0 : Stmt := top 3
def d0 : He.DefD := ⟨("parts_of", none), "parts_of", "parts_of", defArgs s0, defBody s0, defScope s0, [], []⟩
def s1 : Stmt := top 4
def d1 : He.DefD := ⟨("depth", none), "depth", "depth", defArgs s1, defBody s1, defScope s1, [], []⟩
def s2 : Stmt := top 5
def d2 : He.DefD := ⟨("shown_parts", none), "shown_parts", "shown_parts", defArgs s2, defBody s2, defScope s2, [], []⟩
def s3 : Stmt := top 6
def d3 : He.DefD := ⟨("atoms_in", none), "atoms_in", "atoms_in", defArgs s3, defBody s3, defScope s3, [], []⟩
def s4 : Stmt := top 7
def d4 : He.DefD := ⟨("letters", none), "letters", "letters", defArgs s4, defBody s4, defScope s4, [], []⟩
def s5 : Stmt := top 8
def d5 : He.DefD := ⟨("names_in", none), "names_in", "names_in", defArgs s5, defBody s5, defScope s5, [], []⟩
def s6 : Stmt := top 9
def d6 : He.DefD := ⟨("is_guarded", none), "is_guarded", "is_guarded", defArgs s6, defBody s6, defScope s6, [], []⟩
def s7 : Stmt := top 10
def d7 : He.DefD := ⟨("both", none), "both", "both", defArgs s7, defBody s7, defScope s7, [], []⟩
def s8 : Stmt := top 11
def d8 : He.DefD := ⟨("same", none), "same", "same", defArgs s8, defBody s8, defScope s8, [], []⟩
def s9 : Stmt := top 13
def d9 : He.DefD := ⟨("_law_bag", none), "_law_bag", "_law_bag", defArgs s9, defBody s9, defScope s9, [], []⟩
def s10 : Stmt := top 14
def d10 : He.DefD := ⟨("_law_draw", none), "_law_draw", "_law_draw", defArgs s10, defBody s10, defScope s10, [], []⟩
def s11 : Stmt := top 15
def d11 : He.DefD := ⟨("_law_any", none), "_law_any", "_law_any", defArgs s11, defBody s11, defScope s11, [], []⟩
def s12 : Stmt := top 16
def d12 : He.DefD := ⟨("_law_named", none), "_law_named", "_law_named", defArgs s12, defBody s12, defScope s12, [], []⟩
def s13 : Stmt := top 17
def d13 : He.DefD := ⟨("_law_atom", none), "_law_atom", "_law_atom", defArgs s13, defBody s13, defScope s13, [], []⟩
def s14 : Stmt := top 18
def d14 : He.DefD := ⟨("_law_formula", none), "_law_formula", "_law_formula", defArgs s14, defBody s14, defScope s14, [], []⟩
def s15 : Stmt := top 19
def d15 : He.DefD := ⟨("_law_atoms", none), "_law_atoms", "_law_atoms", defArgs s15, defBody s15, defScope s15, [], []⟩
def s16 : Stmt := top 20
def d16 : He.DefD := ⟨("_law_depth", none), "_law_depth", "_law_depth", defArgs s16, defBody s16, defScope s16, [], []⟩
def s17 : Stmt := top 21
def d17 : He.DefD := ⟨("_law_parts", none), "_law_parts", "_law_parts", defArgs s17, defBody s17, defScope s17, [], []⟩
def s18 : Stmt := top 22
def d18 : He.DefD := ⟨("_law_is_guarded", none), "_law_is_guarded", "_law_is_guarded", defArgs s18, defBody s18, defScope s18, [], []⟩
def s19 : Stmt := top 23
def d19 : He.DefD := ⟨("_law_like", none), "_law_like", "_law_like", defArgs s19, defBody s19, defScope s19, [], []⟩
def s20 : Stmt := top 24
def d20 : He.DefD := ⟨("law", none), "law", "law", defArgs s20, defBody s20, defScope s20, [], []⟩
def fnL : List He.DefD := [d0, d1, d2, d3, d4, d5, d6, d7, d8, d9, d10, d11, d12, d13, d14, d15, d16, d17, d18, d19, d20]
def faL : List He.Fa := [.glo "parts_of", .glo "depth", .glo "shown_parts", .glo "atoms_in", .glo "letters", .glo "names_in", .glo "is_guarded", .glo "both", .glo "same", .glo "_law_bag", .glo "_law_draw", .glo "_law_any", .glo "_law_named", .glo "_law_atom", .glo "_law_formula", .glo "_law_atoms", .glo "_law_depth", .glo "_law_parts", .glo "_law_is_guarded", .glo "_law_like", .glo "law", .free "max", .free "len", .free "all", .free "list", .free "int", .free "range", .free "tuple", .free "isinstance", .free "bool", .free "str", .str "LETTERS" "PQR", .glo "ATOMS"]
def ex (K : PySem.W.Frag) : List Bool := [He.tupB K "ATOMS" ((["letter", "mine", "yours"] : List Str).map He.Dv.str)]
abbrev R : PySem.W.OpenRow := PySem.W.OpenLaw.row PySem.Challenge.rw_shownplay_k03_parts_of_formulas
abbrev hk : PySem.W.Hook := He.hookX 5 faL fnL [] [] fun K => (ex K).all id
def ob (s : PySem.W.SharedT) : He.AlX := He.obsX 5 faL fnL [] [] (fun K => (ex K).all id) (HandSHeadRun.getT s)
theorem ob_eq (s : PySem.W.SharedT) : ob s = hk.obs s.abs := He.obsX_eq (HandSHeadRun.getT_eq s)
def loose : List Str := ["__name__", "LETTERS", "ATOMS", "parts_of", "depth", "shown_parts", "atoms_in", "letters", "names_in", "is_guarded", "both", "same", "_law_bag", "_law_draw", "_law_any", "_law_named", "_law_atom", "_law_formula", "_law_atoms", "_law_depth", "_law_parts", "_law_is_guarded", "_law_like"]
theorem run (w : World) : HandSHeadRun.RunEq R (PySem.W.view R.prog [24]) hk ob 4000 ["__name__", "LETTERS", "ATOMS", "parts_of", "depth", "shown_parts", "atoms_in", "letters", "names_in", "is_guarded", "both", "same", "_law_bag", "_law_draw", "_law_any", "_law_named", "_law_atom", "_law_formula", "_law_atoms", "_law_depth", "_law_parts", "_law_is_guarded", "_law_like"] w := by
  intro os
  kernel_rfl
def g : Gn where
  fns := [("parts_of", 0), ("depth", 1), ("shown_parts", 2), ("atoms_in", 3), ("letters", 4), ("names_in", 5), ("is_guarded", 6), ("both", 7), ("same", 8), ("_law_bag", 9), ("_law_draw", 10), ("_law_any", 11), ("_law_named", 12), ("_law_atom", 13), ("_law_formula", 14), ("_law_atoms", 15), ("_law_depth", 16), ("_law_parts", 17), ("_law_is_guarded", 18), ("_law_like", 19), ("law", 20)]
  clss := []
  csts := [("LETTERS", .str "PQR"), ("ATOMS", .tup [.str "letter", .str "mine", .str "yours"])]
  free := ["max", "len", "all", "list", "int", "range", "tuple", "isinstance", "bool", "str"]
  nms := nms
  sh := [((0, 1, []), []), ((1, 1, []), []), ((2, 1, []), []), ((3, 1, []), []), ((6, 1, []), []), ((10, 2, []), []), ((11, 2, []), []), ((13, 3, []), []), ((14, 5, []), []), ((15, 1, []), []), ((16, 1, []), []), ((17, 1, []), []), ((18, 1, []), []), ((19, 2, []), []), ((9, 1, []), []), ((12, 2, []), []), ((4, 1, []), []), ((5, 1, []), []), ((8, 2, []), []), ((1, 0, ["formula"]), [.a 0]), ((2, 0, ["formula"]), [.a 0]), ((4, 0, ["formula"]), [.a 0]), ((5, 0, ["formula"]), [.a 0]), ((6, 0, ["formula"]), [.a 0]), ((8, 0, ["other", "one"]), [.a 1, .a 0])]
  shv := [7]
  shc := []
def N0 : List Str := ["formula"]
def P0 : List Str := ["formula"]
theorem sc0 : FnScope N0 P0 (defScope s0) := ⟨rfl, rfl, rfl, by decide +kernel, rfl, by decide +kernel, by decide +kernel⟩
theorem tr0 : trSs g 60 ⟨N0, defScope s0, N0⟩ (defBody s0) = some g0 := by kernel_rfl
theorem bi0 (kV doc pm : Value) (an : Option Addr) (cdv ct : Value) (us : List Value) (hl : us.length = P0.length) : bindArgs (PySem.W.fnOf d0.name d0.qual (defArgs s0) (defBody s0) (defScope s0) .none kV doc pm an cdv ct) ⟨us, []⟩ = pure (P0.zip us) := match us, hl with | [_], _ => rfl
def N1 : List Str := ["formula", "part"]
def P1 : List Str := ["formula"]
theorem sc1 : FnScope N1 P1 (defScope s1) := ⟨rfl, rfl, rfl, by decide +kernel, rfl, by decide +kernel, by decide +kernel⟩
theorem tr1 : trSs g 60 ⟨N1, defScope s1, N1⟩ (defBody s1) = some g1 := by kernel_rfl
theorem bi1 (kV doc pm : Value) (an : Option Addr) (cdv ct : Value) (us : List Value) (hl : us.length = P1.length) : bindArgs (PySem.W.fnOf d1.name d1.qual (defArgs s1) (defBody s1) (defScope s1) .none kV doc pm an cdv ct) ⟨us, []⟩ = pure (P1.zip us) := match us, hl with | [_], _ => rfl
def N2 : List Str := ["formula", "found", "part"]
def P2 : List Str := ["formula"]
theorem sc2 : FnScope N2 P2 (defScope s2) := ⟨rfl, rfl, rfl, by decide +kernel, rfl, by decide +kernel, by decide +kernel⟩
theorem tr2 : trSs g 60 ⟨N2, defScope s2, N2⟩ (defBody s2) = some g2 := by kernel_rfl
theorem bi2 (kV doc pm : Value) (an : Option Addr) (cdv ct : Value) (us : List Value) (hl : us.length = P2.length) : bindArgs (PySem.W.fnOf d2.name d2.qual (defArgs s2) (defBody s2) (defScope s2) .none kV doc pm an cdv ct) ⟨us, []⟩ = pure (P2.zip us) := match us, hl with | [_], _ => rfl
def N3 : List Str := ["formula", "part", "atom"]
def P3 : List Str := ["formula"]
theorem sc3 : FnScope N3 P3 (defScope s3) := ⟨rfl, rfl, rfl, by decide +kernel, rfl, by decide +kernel, by decide +kernel⟩
theorem tr3 : trSs g 60 ⟨N3, defScope s3, N3⟩ (defBody s3) = some g3 := by kernel_rfl
theorem bi3 (kV doc pm : Value) (an : Option Addr) (cdv ct : Value) (us : List Value) (hl : us.length = P3.length) : bindArgs (PySem.W.fnOf d3.name d3.qual (defArgs s3) (defBody s3) (defScope s3) .none kV doc pm an cdv ct) ⟨us, []⟩ = pure (P3.zip us) := match us, hl with | [_], _ => rfl
def N4 : List Str := ["formula", "there", "atom", "letter"]
def P4 : List Str := ["formula"]
theorem sc4 : FnScope N4 P4 (defScope s4) := ⟨rfl, rfl, rfl, by decide +kernel, rfl, by decide +kernel, by decide +kernel⟩
theorem tr4 : trSs g 60 ⟨N4, defScope s4, N4⟩ (defBody s4) = some g4 := by kernel_rfl
theorem bi4 (kV doc pm : Value) (an : Option Addr) (cdv ct : Value) (us : List Value) (hl : us.length = P4.length) : bindArgs (PySem.W.fnOf d4.name d4.qual (defArgs s4) (defBody s4) (defScope s4) .none kV doc pm an cdv ct) ⟨us, []⟩ = pure (P4.zip us) := match us, hl with | [_], _ => rfl
def N5 : List Str := ["formula", "atom"]
def P5 : List Str := ["formula"]
theorem sc5 : FnScope N5 P5 (defScope s5) := ⟨rfl, rfl, rfl, by decide +kernel, rfl, by decide +kernel, by decide +kernel⟩
theorem tr5 : trSs g 60 ⟨N5, defScope s5, N5⟩ (defBody s5) = some g5 := by kernel_rfl
theorem bi5 (kV doc pm : Value) (an : Option Addr) (cdv ct : Value) (us : List Value) (hl : us.length = P5.length) : bindArgs (PySem.W.fnOf d5.name d5.qual (defArgs s5) (defBody s5) (defScope s5) .none kV doc pm an cdv ct) ⟨us, []⟩ = pure (P5.zip us) := match us, hl with | [_], _ => rfl
def N6 : List Str := ["formula", "part"]
def P6 : List Str := ["formula"]
theorem sc6 : FnScope N6 P6 (defScope s6) := ⟨rfl, rfl, rfl, by decide +kernel, rfl, by decide +kernel, by decide +kernel⟩
theorem tr6 : trSs g 60 ⟨N6, defScope s6, N6⟩ (defBody s6) = some g6 := by kernel_rfl
theorem bi6 (kV doc pm : Value) (an : Option Addr) (cdv ct : Value) (us : List Value) (hl : us.length = P6.length) : bindArgs (PySem.W.fnOf d6.name d6.qual (defArgs s6) (defBody s6) (defScope s6) .none kV doc pm an cdv ct) ⟨us, []⟩ = pure (P6.zip us) := match us, hl with | [_], _ => rfl
def N7 : List Str := ["formulas", "found", "rest", "formula"]
def P7 : List Str := ["formulas"]
theorem sc7 : FnScope N7 P7 (defScope s7) := ⟨rfl, rfl, rfl, by decide +kernel, rfl, by decide +kernel, by decide +kernel⟩
theorem tr7 : trSs g 60 ⟨N7, defScope s7, N7⟩ (defBody s7) = some g7 := by kernel_rfl
theorem bv7 (kV doc pm : Value) (an : Option Addr) (cdv ct : Value) (us rest : List Value) (hl : us.length = 0) : bindArgs (PySem.W.fnOf d7.name d7.qual (defArgs s7) (defBody s7) (defScope s7) .none kV doc pm an cdv ct) ⟨us ++ rest, []⟩ = (newTuple rest >>= fun t => pure (([] : List Str).zip us ++ [(("formulas" : Str), t)])) := match us, rest, hl with | [], [], _ => rfl | [], _ :: _, _ => rfl
def N8 : List Str := ["one", "other"]
def P8 : List Str := ["one", "other"]
theorem sc8 : FnScope N8 P8 (defScope s8) := ⟨rfl, rfl, rfl, by decide +kernel, rfl, by decide +kernel, by decide +kernel⟩
theorem tr8 : trSs g 60 ⟨N8, defScope s8, N8⟩ (defBody s8) = some g8 := by kernel_rfl
theorem bi8 (kV doc pm : Value) (an : Option Addr) (cdv ct : Value) (us : List Value) (hl : us.length = P8.length) : bindArgs (PySem.W.fnOf d8.name d8.qual (defArgs s8) (defBody s8) (defScope s8) .none kV doc pm an cdv ct) ⟨us, []⟩ = pure (P8.zip us) := match us, hl with | [_, _], _ => rfl
def N9 : List Str := ["_law_script"]
def P9 : List Str := ["_law_script"]
theorem sc9 : FnScope N9 P9 (defScope s9) := ⟨rfl, rfl, rfl, by decide +kernel, rfl, by decide +kernel, by decide +kernel⟩
theorem tr9 : trSs g 60 ⟨N9, defScope s9, N9⟩ (defBody s9) = some g9 := by kernel_rfl
theorem bi9 (kV doc pm : Value) (an : Option Addr) (cdv ct : Value) (us : List Value) (hl : us.length = P9.length) : bindArgs (PySem.W.fnOf d9.name d9.qual (defArgs s9) (defBody s9) (defScope s9) .none kV doc pm an cdv ct) ⟨us, []⟩ = pure (P9.zip us) := match us, hl with | [_], _ => rfl
def N10 : List Str := ["_law_bag_here", "_law_many", "_law_cell", "_law_found", "_law_seed"]
def P10 : List Str := ["_law_bag_here", "_law_many"]
theorem sc10 : FnScope N10 P10 (defScope s10) := ⟨rfl, rfl, rfl, by decide +kernel, rfl, by decide +kernel, by decide +kernel⟩
theorem tr10 : trSs g 60 ⟨N10, defScope s10, N10⟩ (defBody s10) = some g10 := by kernel_rfl
theorem bi10 (kV doc pm : Value) (an : Option Addr) (cdv ct : Value) (us : List Value) (hl : us.length = P10.length) : bindArgs (PySem.W.fnOf d10.name d10.qual (defArgs s10) (defBody s10) (defScope s10) .none kV doc pm an cdv ct) ⟨us, []⟩ = pure (P10.zip us) := match us, hl with | [_, _], _ => rfl
def N11 : List Str := ["_law_bag_here", "_law_things"]
def P11 : List Str := ["_law_bag_here", "_law_things"]
theorem sc11 : FnScope N11 P11 (defScope s11) := ⟨rfl, rfl, rfl, by decide +kernel, rfl, by decide +kernel, by decide +kernel⟩
theorem tr11 : trSs g 60 ⟨N11, defScope s11, N11⟩ (defBody s11) = some g11 := by kernel_rfl
theorem bi11 (kV doc pm : Value) (an : Option Addr) (cdv ct : Value) (us : List Value) (hl : us.length = P11.length) : bindArgs (PySem.W.fnOf d11.name d11.qual (defArgs s11) (defBody s11) (defScope s11) .none kV doc pm an cdv ct) ⟨us, []⟩ = pure (P11.zip us) := match us, hl with | [_, _], _ => rfl
def N12 : List Str := ["_law_bag_here", "_law_many", "_law_stem", "_law_at", "_law_first", "_law_found", "_law_k"]
def P12 : List Str := ["_law_bag_here", "_law_many"]
theorem sc12 : FnScope N12 P12 (defScope s12) := ⟨rfl, rfl, rfl, by decide +kernel, rfl, by decide +kernel, by decide +kernel⟩
theorem tr12 : trSs g 60 ⟨N12, defScope s12, N12⟩ (defBody s12) = some g12 := by kernel_rfl
theorem bi12 (kV doc pm : Value) (an : Option Addr) (cdv ct : Value) (us : List Value) (hl : us.length = P12.length) : bindArgs (PySem.W.fnOf d12.name d12.qual (defArgs s12) (defBody s12) (defScope s12) .none kV doc pm an cdv ct) ⟨us, []⟩ = pure (P12.zip us) := match us, hl with | [_, _], _ => rfl
def N13 : List Str := ["_law_bag_here", "_law_moves", "_law_names", "_law_way", "_law_move"]
def P13 : List Str := ["_law_bag_here", "_law_moves", "_law_names"]
theorem sc13 : FnScope N13 P13 (defScope s13) := ⟨rfl, rfl, rfl, by decide +kernel, rfl, by decide +kernel, by decide +kernel⟩
theorem tr13 : trSs g 60 ⟨N13, defScope s13, N13⟩ (defBody s13) = some g13 := by kernel_rfl
theorem bi13 (kV doc pm : Value) (an : Option Addr) (cdv ct : Value) (us : List Value) (hl : us.length = P13.length) : bindArgs (PySem.W.fnOf d13.name d13.qual (defArgs s13) (defBody s13) (defScope s13) .none kV doc pm an cdv ct) ⟨us, []⟩ = pure (P13.zip us) := match us, hl with | [_, _, _], _ => rfl
def N14 : List Str := ["_law_bag_here", "_law_moves", "_law_names", "_law_deep", "_law_shown", "_law_way", "_law_parts_here", "_law_k"]
def P14 : List Str := ["_law_bag_here", "_law_moves", "_law_names", "_law_deep", "_law_shown"]
theorem sc14 : FnScope N14 P14 (defScope s14) := ⟨rfl, rfl, rfl, by decide +kernel, rfl, by decide +kernel, by decide +kernel⟩
theorem tr14 : trSs g 60 ⟨N14, defScope s14, N14⟩ (defBody s14) = some g14 := by kernel_rfl
theorem bi14 (kV doc pm : Value) (an : Option Addr) (cdv ct : Value) (us : List Value) (hl : us.length = P14.length) : bindArgs (PySem.W.fnOf d14.name d14.qual (defArgs s14) (defBody s14) (defScope s14) .none kV doc pm an cdv ct) ⟨us, []⟩ = pure (P14.zip us) := match us, hl with | [_, _, _, _, _], _ => rfl
def N15 : List Str := ["_law_formula_z", "_law_found", "_law_part"]
def P15 : List Str := ["_law_formula_z"]
theorem sc15 : FnScope N15 P15 (defScope s15) := ⟨rfl, rfl, rfl, by decide +kernel, rfl, by decide +kernel, by decide +kernel⟩
theorem tr15 : trSs g 60 ⟨N15, defScope s15, N15⟩ (defBody s15) = some g15 := by kernel_rfl
theorem bi15 (kV doc pm : Value) (an : Option Addr) (cdv ct : Value) (us : List Value) (hl : us.length = P15.length) : bindArgs (PySem.W.fnOf d15.name d15.qual (defArgs s15) (defBody s15) (defScope s15) .none kV doc pm an cdv ct) ⟨us, []⟩ = pure (P15.zip us) := match us, hl with | [_], _ => rfl
def N16 : List Str := ["_law_formula_z", "_law_part"]
def P16 : List Str := ["_law_formula_z"]
theorem sc16 : FnScope N16 P16 (defScope s16) := ⟨rfl, rfl, rfl, by decide +kernel, rfl, by decide +kernel, by decide +kernel⟩
theorem tr16 : trSs g 60 ⟨N16, defScope s16, N16⟩ (defBody s16) = some g16 := by kernel_rfl
theorem bi16 (kV doc pm : Value) (an : Option Addr) (cdv ct : Value) (us : List Value) (hl : us.length = P16.length) : bindArgs (PySem.W.fnOf d16.name d16.qual (defArgs s16) (defBody s16) (defScope s16) .none kV doc pm an cdv ct) ⟨us, []⟩ = pure (P16.zip us) := match us, hl with | [_], _ => rfl
def N17 : List Str := ["_law_formula_z", "_law_found", "_law_part"]
def P17 : List Str := ["_law_formula_z"]
theorem sc17 : FnScope N17 P17 (defScope s17) := ⟨rfl, rfl, rfl, by decide +kernel, rfl, by decide +kernel, by decide +kernel⟩
theorem tr17 : trSs g 60 ⟨N17, defScope s17, N17⟩ (defBody s17) = some g17 := by kernel_rfl
theorem bi17 (kV doc pm : Value) (an : Option Addr) (cdv ct : Value) (us : List Value) (hl : us.length = P17.length) : bindArgs (PySem.W.fnOf d17.name d17.qual (defArgs s17) (defBody s17) (defScope s17) .none kV doc pm an cdv ct) ⟨us, []⟩ = pure (P17.zip us) := match us, hl with | [_], _ => rfl
def N18 : List Str := ["_law_formula_z", "_law_part"]
def P18 : List Str := ["_law_formula_z"]
theorem sc18 : FnScope N18 P18 (defScope s18) := ⟨rfl, rfl, rfl, by decide +kernel, rfl, by decide +kernel, by decide +kernel⟩
theorem tr18 : trSs g 60 ⟨N18, defScope s18, N18⟩ (defBody s18) = some g18 := by kernel_rfl
theorem bi18 (kV doc pm : Value) (an : Option Addr) (cdv ct : Value) (us : List Value) (hl : us.length = P18.length) : bindArgs (PySem.W.fnOf d18.name d18.qual (defArgs s18) (defBody s18) (defScope s18) .none kV doc pm an cdv ct) ⟨us, []⟩ = pure (P18.zip us) := match us, hl with | [_], _ => rfl
def N19 : List Str := ["_law_found", "_law_due", "_law_at"]
def P19 : List Str := ["_law_found", "_law_due"]
theorem sc19 : FnScope N19 P19 (defScope s19) := ⟨rfl, rfl, rfl, by decide +kernel, rfl, by decide +kernel, by decide +kernel⟩
theorem tr19 : trSs g 60 ⟨N19, defScope s19, N19⟩ (defBody s19) = some g19 := by kernel_rfl
theorem bi19 (kV doc pm : Value) (an : Option Addr) (cdv ct : Value) (us : List Value) (hl : us.length = P19.length) : bindArgs (PySem.W.fnOf d19.name d19.qual (defArgs s19) (defBody s19) (defScope s19) .none kV doc pm an cdv ct) ⟨us, []⟩ = pure (P19.zip us) := match us, hl with | [_, _], _ => rfl
def N20 : List Str := ["_law_script", "_law_bag_here", "_law_turn", "_law_names", "_law_moves", "_law_formula_z", "_law_other_z", "_law_atoms_here", "_law_due", "_law_again", "_law_told", "_law_one_z", "_law_atom_here"]
def P20 : List Str := ["_law_script"]
theorem sc20 : FnScope N20 P20 (defScope s20) := ⟨rfl, rfl, rfl, by decide +kernel, rfl, by decide +kernel, by decide +kernel⟩
theorem tr20 : trSs g 60 ⟨N20, defScope s20, N20⟩ (defBody s20) = some g20 := by kernel_rfl
theorem bi20 (kV doc pm : Value) (an : Option Addr) (cdv ct : Value) (us : List Value) (hl : us.length = P20.length) : bindArgs (PySem.W.fnOf d20.name d20.qual (defArgs s20) (defBody s20) (defScope s20) .none kV doc pm an cdv ct) ⟨us, []⟩ = pure (P20.zip us) := match us, hl with | [_], _ => rfl
section
variable {K : PySem.W.Frag}
def as (K : PySem.W.Frag) : List (Nat × Addr) := [(0, He.fAd K d0.at_), (1, He.fAd K d1.at_), (2, He.fAd K d2.at_), (3, He.fAd K d3.at_), (4, He.fAd K d4.at_), (5, He.fAd K d5.at_), (6, He.fAd K d6.at_), (7, He.fAd K d7.at_), (8, He.fAd K d8.at_), (9, He.fAd K d9.at_), (10, He.fAd K d10.at_), (11, He.fAd K d11.at_), (12, He.fAd K d12.at_), (13, He.fAd K d13.at_), (14, He.fAd K d14.at_), (15, He.fAd K d15.at_), (16, He.fAd K d16.at_), (17, He.fAd K d17.at_), (18, He.fAd K d18.at_), (19, He.fAd K d19.at_), (20, He.fAd K d20.at_)]
def cs (K : PySem.W.Frag) : List (Nat × Addr) := []
def En (K : PySem.W.Frag) : PM.En := ⟨K, fun i => ((as K).lookup i).getD 0, fun i => ((cs K).lookup i).getD 0, nmOf nms⟩
abbrev FD (K : PySem.W.Frag) (d : He.DefD) (fd : FuncData) : Prop := FunD K d.name d.qual d.params d.body d.scope (d.dvs K) (d.kws K) (He.fAd K d.at_) fd
def dfs (f0 f1 f2 f3 f4 f5 f6 f7 f8 f9 f10 f11 f12 f13 f14 f15 f16 f17 f18 f19 f20 : FuncData) : List (Nat × Df) := [(0, ⟨d0.name, d0.qual, d0.params, d0.body, d0.scope, [], [], f0, P0, N0⟩), (1, ⟨d1.name, d1.qual, d1.params, d1.body, d1.scope, [], [], f1, P1, N1⟩), (2, ⟨d2.name, d2.qual, d2.params, d2.body, d2.scope, [], [], f2, P2, N2⟩), (3, ⟨d3.name, d3.qual, d3.params, d3.body, d3.scope, [], [], f3, P3, N3⟩), (4, ⟨d4.name, d4.qual, d4.params, d4.body, d4.scope, [], [], f4, P4, N4⟩), (5, ⟨d5.name, d5.qual, d5.params, d5.body, d5.scope, [], [], f5, P5, N5⟩), (6, ⟨d6.name, d6.qual, d6.params, d6.body, d6.scope, [], [], f6, P6, N6⟩), (7, ⟨d7.name, d7.qual, d7.params, d7.body, d7.scope, [], [], f7, P7, N7⟩), (8, ⟨d8.name, d8.qual, d8.params, d8.body, d8.scope, [], [], f8, P8, N8⟩), (9, ⟨d9.name, d9.qual, d9.params, d9.body, d9.scope, [], [], f9, P9, N9⟩), (10, ⟨d10.name, d10.qual, d10.params, d10.body, d10.scope, [], [], f10, P10, N10⟩), (11, ⟨d11.name, d11.qual, d11.params, d11.body, d11.scope, [], [], f11, P11, N11⟩), (12, ⟨d12.name, d12.qual, d12.params, d12.body, d12.scope, [], [], f12, P12, N12⟩), (13, ⟨d13.name, d13.qual, d13.params, d13.body, d13.scope, [], [], f13, P13, N13⟩), (14, ⟨d14.name, d14.qual, d14.params, d14.body, d14.scope, [], [], f14, P14, N14⟩), (15, ⟨d15.name, d15.qual, d15.params, d15.body, d15.scope, [], [], f15, P15, N15⟩), (16, ⟨d16.name, d16.qual, d16.params, d16.body, d16.scope, [], [], f16, P16, N16⟩), (17, ⟨d17.name, d17.qual, d17.params, d17.body, d17.scope, [], [], f17, P17, N17⟩), (18, ⟨d18.name, d18.qual, d18.params, d18.body, d18.scope, [], [], f18, P18, N18⟩), (19, ⟨d19.name, d19.qual, d19.params, d19.body, d19.scope, [], [], f19, P19, N19⟩), (20, ⟨d20.name, d20.qual, d20.params, d20.body, d20.scope, [], [], f20, P20, N20⟩)]
def D0 (f : FuncData) : Df := ⟨"", "", d0.params, [], d0.scope, [], [], f, [], []⟩
theorem lk {P : Program} {w : World} {base h : Heap} {mg : Str → Option Value} (X : K.In h) (G : h.Ns mainGlobals mg) (c : He.SaysD faL fnL K) (xt : (ex K).all id = true) {f0 : FuncData} {f1 : FuncData} {f2 : FuncData} {f3 : FuncData} {f4 : FuncData} {f5 : FuncData} {f6 : FuncData} {f7 : FuncData} {f8 : FuncData} {f9 : FuncData} {f10 : FuncData} {f11 : FuncData} {f12 : FuncData} {f13 : FuncData} {f14 : FuncData} {f15 : FuncData} {f16 : FuncData} {f17 : FuncData} {f18 : FuncData} {f19 : FuncData} {f20 : FuncData} (F0 : FD K d0 f0) (F1 : FD K d1 f1) (F2 : FD K d2 f2) (F3 : FD K d3 f3) (F4 : FD K d4 f4) (F5 : FD K d5 f5) (F6 : FD K d6 f6) (F7 : FD K d7 f7) (F8 : FD K d8 f8) (F9 : FD K d9 f9) (F10 : FD K d10 f10) (F11 : FD K d11 f11) (F12 : FD K d12 f12) (F13 : FD K d13 f13) (F14 : FD K d14 f14) (F15 : FD K d15 f15) (F16 : FD K d16 f16) (F17 : FD K d17 f17) (F18 : FD K d18 f18) (F19 : FD K d19 f19) (F20 : FD K d20 f20) : Lk ⟨P, w, mg, base, En K, T, g, (fun i => ((dfs f0 f1 f2 f3 f4 f5 f6 f7 f8 f9 f10 f11 f12 f13 f14 f15 f16 f17 f18 f19 f20).lookup i).getD (D0 f0))⟩ where
  nmI := nmOf_inj (by decide +kernel) (by decide +kernel)
  nmE := fun x i h => nmOf_ix h
  fn := fun x f h => look_all (l := g.fns) (P := fun (p : Str × Nat) => mg p.1 = some (.ref ((En K).fa p.2)) ∧ PySem.W.keepIn K (.ref ((En K).fa p.2)) = true) (al_cons (⟨He.glo_ok X G (c.fact 0 (f := .glo "parts_of") rfl), F0.kp⟩) (al_cons (⟨He.glo_ok X G (c.fact 1 (f := .glo "depth") rfl), F1.kp⟩) (al_cons (⟨He.glo_ok X G (c.fact 2 (f := .glo "shown_parts") rfl), F2.kp⟩) (al_cons (⟨He.glo_ok X G (c.fact 3 (f := .glo "atoms_in") rfl), F3.kp⟩) (al_cons (⟨He.glo_ok X G (c.fact 4 (f := .glo "letters") rfl), F4.kp⟩) (al_cons (⟨He.glo_ok X G (c.fact 5 (f := .glo "names_in") rfl), F5.kp⟩) (al_cons (⟨He.glo_ok X G (c.fact 6 (f := .glo "is_guarded") rfl), F6.kp⟩) (al_cons (⟨He.glo_ok X G (c.fact 7 (f := .glo "both") rfl), F7.kp⟩) (al_cons (⟨He.glo_ok X G (c.fact 8 (f := .glo "same") rfl), F8.kp⟩) (al_cons (⟨He.glo_ok X G (c.fact 9 (f := .glo "_law_bag") rfl), F9.kp⟩) (al_cons (⟨He.glo_ok X G (c.fact 10 (f := .glo "_law_draw") rfl), F10.kp⟩) (al_cons (⟨He.glo_ok X G (c.fact 11 (f := .glo "_law_any") rfl), F11.kp⟩) (al_cons (⟨He.glo_ok X G (c.fact 12 (f := .glo "_law_named") rfl), F12.kp⟩) (al_cons (⟨He.glo_ok X G (c.fact 13 (f := .glo "_law_atom") rfl), F13.kp⟩) (al_cons (⟨He.glo_ok X G (c.fact 14 (f := .glo "_law_formula") rfl), F14.kp⟩) (al_cons (⟨He.glo_ok X G (c.fact 15 (f := .glo "_law_atoms") rfl), F15.kp⟩) (al_cons (⟨He.glo_ok X G (c.fact 16 (f := .glo "_law_depth") rfl), F16.kp⟩) (al_cons (⟨He.glo_ok X G (c.fact 17 (f := .glo "_law_parts") rfl), F17.kp⟩) (al_cons (⟨He.glo_ok X G (c.fact 18 (f := .glo "_law_is_guarded") rfl), F18.kp⟩) (al_cons (⟨He.glo_ok X G (c.fact 19 (f := .glo "_law_like") rfl), F19.kp⟩) (al_cons (⟨He.glo_ok X G (c.fact 20 (f := .glo "law") rfl), F20.kp⟩) (al_nil)))))))))))))))))))))) h
  df := fun f fd h => look_all (l := T.fns) (P := fun (p : Nat × FnD) => DefOk K g p.2 ((fun i => ((dfs f0 f1 f2 f3 f4 f5 f6 f7 f8 f9 f10 f11 f12 f13 f14 f15 f16 f17 f18 f19 f20).lookup i).getD (D0 f0)) p.1) ((En K).fa p.1)) (al_cons (⟨F0, sc0, ⟨60, tr0⟩, rfl, rfl, fun z => Bool.noConfusion z⟩) (al_cons (⟨F1, sc1, ⟨60, tr1⟩, rfl, rfl, fun z => Bool.noConfusion z⟩) (al_cons (⟨F2, sc2, ⟨60, tr2⟩, rfl, rfl, fun z => Bool.noConfusion z⟩) (al_cons (⟨F3, sc3, ⟨60, tr3⟩, rfl, rfl, fun z => Bool.noConfusion z⟩) (al_cons (⟨F4, sc4, ⟨60, tr4⟩, rfl, rfl, fun z => Bool.noConfusion z⟩) (al_cons (⟨F5, sc5, ⟨60, tr5⟩, rfl, rfl, fun z => Bool.noConfusion z⟩) (al_cons (⟨F6, sc6, ⟨60, tr6⟩, rfl, rfl, fun z => Bool.noConfusion z⟩) (al_cons (⟨F7, sc7, ⟨60, tr7⟩, rfl, rfl, fun _ => bindV_of F7 [] "formulas" rfl bv7⟩) (al_cons (⟨F8, sc8, ⟨60, tr8⟩, rfl, rfl, fun z => Bool.noConfusion z⟩) (al_cons (⟨F9, sc9, ⟨60, tr9⟩, rfl, rfl, fun z => Bool.noConfusion z⟩) (al_cons (⟨F10, sc10, ⟨60, tr10⟩, rfl, rfl, fun z => Bool.noConfusion z⟩) (al_cons (⟨F11, sc11, ⟨60, tr11⟩, rfl, rfl, fun z => Bool.noConfusion z⟩) (al_cons (⟨F12, sc12, ⟨60, tr12⟩, rfl, rfl, fun z => Bool.noConfusion z⟩) (al_cons (⟨F13, sc13, ⟨60, tr13⟩, rfl, rfl, fun z => Bool.noConfusion z⟩) (al_cons (⟨F14, sc14, ⟨60, tr14⟩, rfl, rfl, fun z => Bool.noConfusion z⟩) (al_cons (⟨F15, sc15, ⟨60, tr15⟩, rfl, rfl, fun z => Bool.noConfusion z⟩) (al_cons (⟨F16, sc16, ⟨60, tr16⟩, rfl, rfl, fun z => Bool.noConfusion z⟩) (al_cons (⟨F17, sc17, ⟨60, tr17⟩, rfl, rfl, fun z => Bool.noConfusion z⟩) (al_cons (⟨F18, sc18, ⟨60, tr18⟩, rfl, rfl, fun z => Bool.noConfusion z⟩) (al_cons (⟨F19, sc19, ⟨60, tr19⟩, rfl, rfl, fun z => Bool.noConfusion z⟩) (al_cons (⟨F20, sc20, ⟨60, tr20⟩, rfl, rfl, fun z => Bool.noConfusion z⟩) (al_nil)))))))))))))))))))))) h
  shv := fun f h => contains_all (l := g.shv) (P := fun f => ∃ fd, T.fn f = some fd ∧ fd.va = true) (al_cons (⟨_, rfl, rfl⟩) (al_nil)) h
  sh := fun f n ks bd h => look_all (l := g.sh) (P := fun (p : (Nat × Nat × List Str) × List Bd) => ∃ gg gV, KBn K ((fun i => ((dfs f0 f1 f2 f3 f4 f5 f6 f7 f8 f9 f10 f11 f12 f13 f14 f15 f16 f17 f18 f19 f20).lookup i).getD (D0 f0)) p.1.1).fd ((fun i => ((dfs f0 f1 f2 f3 f4 f5 f6 f7 f8 f9 f10 f11 f12 f13 f14 f15 f16 f17 f18 f19 f20).lookup i).getD (D0 f0)) p.1.1).ps p.1.2.1 p.1.2.2 gg gV ∧ BdOk ⟨P, w, mg, base, En K, T, g, (fun i => ((dfs f0 f1 f2 f3 f4 f5 f6 f7 f8 f9 f10 f11 f12 f13 f14 f15 f16 f17 f18 f19 f20).lookup i).getD (D0 f0))⟩ p.2 p.1.2.1 p.1.2.2.length gV ∧ Fx T p.1.1) (al_cons (⟨_, _, kbn_same F0 bi0, bd_same _ _, _, rfl, rfl⟩) (al_cons (⟨_, _, kbn_same F1 bi1, bd_same _ _, _, rfl, rfl⟩) (al_cons (⟨_, _, kbn_same F2 bi2, bd_same _ _, _, rfl, rfl⟩) (al_cons (⟨_, _, kbn_same F3 bi3, bd_same _ _, _, rfl, rfl⟩) (al_cons (⟨_, _, kbn_same F6 bi6, bd_same _ _, _, rfl, rfl⟩) (al_cons (⟨_, _, kbn_same F10 bi10, bd_same _ _, _, rfl, rfl⟩) (al_cons (⟨_, _, kbn_same F11 bi11, bd_same _ _, _, rfl, rfl⟩) (al_cons (⟨_, _, kbn_same F13 bi13, bd_same _ _, _, rfl, rfl⟩) (al_cons (⟨_, _, kbn_same F14 bi14, bd_same _ _, _, rfl, rfl⟩) (al_cons (⟨_, _, kbn_same F15 bi15, bd_same _ _, _, rfl, rfl⟩) (al_cons (⟨_, _, kbn_same F16 bi16, bd_same _ _, _, rfl, rfl⟩) (al_cons (⟨_, _, kbn_same F17 bi17, bd_same _ _, _, rfl, rfl⟩) (al_cons (⟨_, _, kbn_same F18 bi18, bd_same _ _, _, rfl, rfl⟩) (al_cons (⟨_, _, kbn_same F19 bi19, bd_same _ _, _, rfl, rfl⟩) (al_cons (⟨_, _, kbn_same F9 bi9, bd_same _ _, _, rfl, rfl⟩) (al_cons (⟨_, _, kbn_same F12 bi12, bd_same _ _, _, rfl, rfl⟩) (al_cons (⟨_, _, kbn_same F4 bi4, bd_same _ _, _, rfl, rfl⟩) (al_cons (⟨_, _, kbn_same F5 bi5, bd_same _ _, _, rfl, rfl⟩) (al_cons (⟨_, _, kbn_same F8 bi8, bd_same _ _, _, rfl, rfl⟩) (al_cons (⟨_, _, kbn_pick F1 0 ["formula"] [0] (fun kV doc pm an cdv ct us ws l1 l2 => match us, ws, l1, l2 with | [], [_], _, _ => rfl), bd_pick _ _ _ [0] (by decide), _, rfl, rfl⟩) (al_cons (⟨_, _, kbn_pick F2 0 ["formula"] [0] (fun kV doc pm an cdv ct us ws l1 l2 => match us, ws, l1, l2 with | [], [_], _, _ => rfl), bd_pick _ _ _ [0] (by decide), _, rfl, rfl⟩) (al_cons (⟨_, _, kbn_pick F4 0 ["formula"] [0] (fun kV doc pm an cdv ct us ws l1 l2 => match us, ws, l1, l2 with | [], [_], _, _ => rfl), bd_pick _ _ _ [0] (by decide), _, rfl, rfl⟩) (al_cons (⟨_, _, kbn_pick F5 0 ["formula"] [0] (fun kV doc pm an cdv ct us ws l1 l2 => match us, ws, l1, l2 with | [], [_], _, _ => rfl), bd_pick _ _ _ [0] (by decide), _, rfl, rfl⟩) (al_cons (⟨_, _, kbn_pick F6 0 ["formula"] [0] (fun kV doc pm an cdv ct us ws l1 l2 => match us, ws, l1, l2 with | [], [_], _, _ => rfl), bd_pick _ _ _ [0] (by decide), _, rfl, rfl⟩) (al_cons (⟨_, _, kbn_pick F8 0 ["other", "one"] [1, 0] (fun kV doc pm an cdv ct us ws l1 l2 => match us, ws, l1, l2 with | [], [_, _], _, _ => rfl), bd_pick _ _ _ [1, 0] (by decide), _, rfl, rfl⟩) (al_nil)))))))))))))))))))))))))) h
  cl := fun x cc h => look_all (l := g.clss) (P := fun (p : Str × Nat) => mg p.1 = some (.ref ((En K).ca p.2))) (al_nil) h
  mkc := fun cc f h => look_all (l := T.ini) (P := fun (p : Nat × Nat) => L2.Mk K ((En K).ca p.1) ((En K).fa p.2) ∧ Fx T p.2) (al_nil) h
  shc := fun cc n ks bd f h hi => look_all (l := g.shc) (P := fun (p : (Nat × Nat × List Str) × List Bd) => ∀ f, T.ini.lookup p.1.1 = some f → ∃ gg gV, KBn K ((fun i => ((dfs f0 f1 f2 f3 f4 f5 f6 f7 f8 f9 f10 f11 f12 f13 f14 f15 f16 f17 f18 f19 f20).lookup i).getD (D0 f0)) f).fd ((fun i => ((dfs f0 f1 f2 f3 f4 f5 f6 f7 f8 f9 f10 f11 f12 f13 f14 f15 f16 f17 f18 f19 f20).lookup i).getD (D0 f0)) f).ps (p.1.2.1 + 1) p.1.2.2 gg gV ∧ BdOk ⟨P, w, mg, base, En K, T, g, (fun i => ((dfs f0 f1 f2 f3 f4 f5 f6 f7 f8 f9 f10 f11 f12 f13 f14 f15 f16 f17 f18 f19 f20).lookup i).getD (D0 f0))⟩ p.2 (p.1.2.1 + 1) p.1.2.2.length gV) (al_nil) h f hi
  ms := fun cc m f h => look_all (l := T.ms) (P := fun (p : (Nat × Nat) × Nat) => Cls K ((En K).ca p.1.1) ∧ Meth K ((En K).ca p.1.1) (nmOf nms p.1.2) ((En K).fa p.2) ∧ Binds K ((fun i => ((dfs f0 f1 f2 f3 f4 f5 f6 f7 f8 f9 f10 f11 f12 f13 f14 f15 f16 f17 f18 f19 f20).lookup i).getD (D0 f0)) p.2).fd ((fun i => ((dfs f0 f1 f2 f3 f4 f5 f6 f7 f8 f9 f10 f11 f12 f13 f14 f15 f16 f17 f18 f19 f20).lookup i).getD (D0 f0)) p.2).ps [] ∧ Fx T p.2) (al_nil) h
  fl := fun cc f h => contains_all (l := T.fl) (P := fun (p : Nat × Nat) => Cls K ((En K).ca p.1) ∧ NoAttr K ((En K).ca p.1) (nmOf nms p.2)) (al_nil) h
  cst := fun x v h => look_all (l := g.csts) (P := fun (p : Str × W) => ∃ v u, mg p.1 = some u ∧ RelV v u ∧ ∀ ρ H, Rw (En K) ρ H p.2 v) (al_cons (c_str X G _ (c.fact 31 (f := .str "LETTERS" "PQR") rfl)) (al_cons (c_tup (zs := ["letter", "mine", "yours"]) X G _ rfl (c.fact 32 (f := .glo "ATOMS") rfl) (List.all_eq_true.mp xt _ (List.mem_of_getElem? (i := 0) rfl))) (al_nil))) h
  free := fun x h => contains_all (l := g.free) (P := fun (x : Str) => mg x = none) (al_cons (He.free_ok X G (c.fact 21 (f := .free "max") rfl)) (al_cons (He.free_ok X G (c.fact 22 (f := .free "len") rfl)) (al_cons (He.free_ok X G (c.fact 23 (f := .free "all") rfl)) (al_cons (He.free_ok X G (c.fact 24 (f := .free "list") rfl)) (al_cons (He.free_ok X G (c.fact 25 (f := .free "int") rfl)) (al_cons (He.free_ok X G (c.fact 26 (f := .free "range") rfl)) (al_cons (He.free_ok X G (c.fact 27 (f := .free "tuple") rfl)) (al_cons (He.free_ok X G (c.fact 28 (f := .free "isinstance") rfl)) (al_cons (He.free_ok X G (c.fact 29 (f := .free "bool") rfl)) (al_cons (He.free_ok X G (c.fact 30 (f := .free "str") rfl)) (al_nil))))))))))) h
  bm := fun t m k h => look_all (l := T.bm) (P := fun (p : (Bt × Nat) × Bm) => bmTy p.2 = p.1.1 ∧ nmOf nms p.1.2 = bmNm p.2) (al_cons (⟨rfl, rfl⟩) (al_cons (⟨rfl, rfl⟩) (al_cons (⟨rfl, rfl⟩) (al_cons (⟨rfl, rfl⟩) (al_nil))))) h
  isi := ⟨fun t u b h => look_all (l := T.isi) (P := fun (p : (Ty × Ty) × Bool) => PySem.W.kitOne K (tyV' (En K) p.1.1) (tyV' (En K) p.1.2) = some p.2) (al_cons (by rfl) (al_cons (by rfl) (al_cons (by rfl) (al_cons (by rfl) (al_cons (by rfl) (al_cons (by rfl) (al_cons (by rfl) (al_cons (by rfl) (al_cons (by rfl) (al_cons (by rfl) (al_cons (by rfl) (al_cons (by rfl) (al_cons (by rfl) (al_cons (by rfl) (al_cons (by rfl) (al_cons (by rfl) (al_cons (by rfl) (al_cons (by rfl) (al_cons (by rfl) (al_cons (by rfl) (al_cons (by rfl) (al_cons (by rfl) (al_cons (by rfl) (al_cons (by rfl) (al_cons (by rfl) (al_cons (by rfl) (al_cons (by rfl) (al_cons (by rfl) (al_cons (by rfl) (al_cons (by rfl) (al_nil))))))))))))))))))))))))))))))) h, fun cc u b h => look_all (l := T.isi) (P := fun (p : (Ty × Ty) × Bool) => ∀ cc, p.1.1 = .c cc → _) (al_cons (fun cc z => nomatch z) (al_cons (fun cc z => nomatch z) (al_cons (fun cc z => nomatch z) (al_cons (fun cc z => nomatch z) (al_cons (fun cc z => nomatch z) (al_cons (fun cc z => nomatch z) (al_cons (fun cc z => nomatch z) (al_cons (fun cc z => nomatch z) (al_cons (fun cc z => nomatch z) (al_cons (fun cc z => nomatch z) (al_cons (fun cc z => nomatch z) (al_cons (fun cc z => nomatch z) (al_cons (fun cc z => nomatch z) (al_cons (fun cc z => nomatch z) (al_cons (fun cc z => nomatch z) (al_cons (fun cc z => nomatch z) (al_cons (fun cc z => nomatch z) (al_cons (fun cc z => nomatch z) (al_cons (fun cc z => nomatch z) (al_cons (fun cc z => nomatch z) (al_cons (fun cc z => nomatch z) (al_cons (fun cc z => nomatch z) (al_cons (fun cc z => nomatch z) (al_cons (fun cc z => nomatch z) (al_cons (fun cc z => nomatch z) (al_cons (fun cc z => nomatch z) (al_cons (fun cc z => nomatch z) (al_cons (fun cc z => nomatch z) (al_cons (fun cc z => nomatch z) (al_cons (fun cc z => nomatch z) (al_nil))))))))))))))))))))))))))))))) h cc rfl⟩
end
end K03

set_option maxHeartbeats 0
open PySem PySem.W PySem.Calls PyProof.Rows in
theorem PySem.Challenge.cw_shownplay_k03_parts_of_formulas_holds : PySem.Challenge.rw_shownplay_k03_parts_of_formulas.Holds := by
  w_on; o_law
  refine HandSHeadRun.head_any (r := OpenLaw.row PySem.Challenge.rw_shownplay_k03_parts_of_formulas) (q := view (OpenLaw.row PySem.Challenge.rw_shownplay_k03_parts_of_formulas).prog [24]) (H := K03.hk) (ob := K03.ob) (M := 4000) (loose := ["__name__", "LETTERS", "ATOMS", "parts_of", "depth", "shown_parts", "atoms_in", "letters", "names_in", "is_guarded", "both", "same", "_law_bag", "_law_draw", "_law_any", "_law_named", "_law_atom", "_law_formula", "_law_atoms", "_law_depth", "_law_parts", "_law_is_guarded", "_law_like"]) (d := HandSHeadRun.topDef (OpenLaw.row PySem.Challenge.rw_shownplay_k03_parts_of_formulas).prog 24) (kwd := []) K03.ob_eq
    (by kernel_rfl) (fun s => by kernel_rfl) K03.run (by kernel_rfl) (by kernel_rfl) (by kernel_rfl) (by rfl) (by first | assumption | decide +kernel) (by decide +kernel) ⟨rfl, rfl, rfl, rfl, rfl, by decide +kernel⟩ ?hw ?hc
  case hw => w_witness2
  case hc =>
    refine PM.law_pm (l := PySem.Challenge.rw_shownplay_k03_parts_of_formulas) (k := K03.depth) (x := "_law_script") (T := K03.T) (i := 20) rfl (by kernel_rfl) ⟨rfl, by decide, by decide⟩ ⟨_, rfl, rfl⟩ K03.ev ?F
    intro w mg fa h Y G hmg0
    obtain ⟨K, KX, cx⟩ := Y
    have c := cx.t.d
    have hmg : mg ("law" : PySem.Str) = some (.ref fa) := by
      have e : (HandSHeadRun.topDef (OpenLaw.row PySem.Challenge.rw_shownplay_k03_parts_of_formulas).prog 24).name = ("law" : PySem.Str) := by kernel_rfl
      rw [← e]
      exact hmg0
    obtain ⟨f0, F0⟩ := c.def_ 0 (d := K03.d0) rfl
    obtain ⟨f1, F1⟩ := c.def_ 1 (d := K03.d1) rfl
    obtain ⟨f2, F2⟩ := c.def_ 2 (d := K03.d2) rfl
    obtain ⟨f3, F3⟩ := c.def_ 3 (d := K03.d3) rfl
    obtain ⟨f4, F4⟩ := c.def_ 4 (d := K03.d4) rfl
    obtain ⟨f5, F5⟩ := c.def_ 5 (d := K03.d5) rfl
    obtain ⟨f6, F6⟩ := c.def_ 6 (d := K03.d6) rfl
    obtain ⟨f7, F7⟩ := c.def_ 7 (d := K03.d7) rfl
    obtain ⟨f8, F8⟩ := c.def_ 8 (d := K03.d8) rfl
    obtain ⟨f9, F9⟩ := c.def_ 9 (d := K03.d9) rfl
    obtain ⟨f10, F10⟩ := c.def_ 10 (d := K03.d10) rfl
    obtain ⟨f11, F11⟩ := c.def_ 11 (d := K03.d11) rfl
    obtain ⟨f12, F12⟩ := c.def_ 12 (d := K03.d12) rfl
    obtain ⟨f13, F13⟩ := c.def_ 13 (d := K03.d13) rfl
    obtain ⟨f14, F14⟩ := c.def_ 14 (d := K03.d14) rfl
    obtain ⟨f15, F15⟩ := c.def_ 15 (d := K03.d15) rfl
    obtain ⟨f16, F16⟩ := c.def_ 16 (d := K03.d16) rfl
    obtain ⟨f17, F17⟩ := c.def_ 17 (d := K03.d17) rfl
    obtain ⟨f18, F18⟩ := c.def_ 18 (d := K03.d18) rfl
    obtain ⟨f19, F19⟩ := c.def_ 19 (d := K03.d19) rfl
    obtain ⟨f20, F20⟩ := c.def_ 20 (d := K03.d20) rfl
    have e := hmg.symm.trans (He.glo_ok KX G (c.fact 20 (f := .glo "law") rfl))
    cases e
    refine ⟨K03.En K, K03.g, fun i => ((K03.dfs f0 f1 f2 f3 f4 f5 f6 f7 f8 f9 f10 f11 f12 f13 f14 f15 f16 f17 f18 f19 f20).lookup i).getD (K03.D0 f0), KX, rfl, rfl, fun s u => L2.FunD.bindsA (ps := ["_law_script"]) F20 K03.bi20 s [u] rfl, fun base => K03.lk KX G c cx.more F0 F1 F2 F3 F4 F5 F6 F7 F8 F9 F10 F11 F12 F13 F14 F15 F16 F17 F18 F19 F20⟩

