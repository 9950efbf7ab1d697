import PyProof.Rows.All
import Wide.All
import OpenK.AllK
import Wide.FinOn
import HandS.ForMost
import HandS.ForExc
import HandS.TupAny
import HandS.Wide
import KE.DataEq
import HandS.Lambda
import HandS.IsInst
import HandS.ExcIs
import HandS.EndTab
import KE.RegKIsAll
import KE.RegKTryMore
import KE.KNestM
import PySem.Challenge.RW_windowdog_k11_keepers_and_what_is_found
set_option Elab.async false
set_option linter.all false
set_option maxRecDepth 100000
/-! WD, part 1: the mini language and its evaluator (plain Lean). -/
namespace WD
open PySem PySem.Spec PyProof.Rows L2
noncomputable section

/-- data: trees; t: a list's mark (true: younger than the last mark) -/
inductive D where
  | non
  | bl (b : Bool)
  | int (i : Int)
  | str (x : Str)
  | tup (ds : List D)
  | lst (t : Bool) (ds : List D)
  | scr (ns : List Int)
  | obj (C : Nat) (ns : List Str) (ds : List D)
  | opq
/-- what a slot holds: shared data, or a thing of its own that may be changed -/
inductive O where
  | sh (d : D)
  | lst (t : Bool) (ds : List D)
  | dic (t : Bool) (kvs : List (D × D))
  | obj (C : Nat) (ns : List Str) (os : List O)
abbrev Fr := List (Option O)
structure Xn where
  cls : Nat
  arg : Option D
inductive R (α : Type) where
  | ok (a : α) (ρ : Fr)
  | exn (x : Xn) (ρ : Fr)
  | fail
def bnd {α β : Type} (m : R α) (f : α → Fr → R β) : R β := match m with
  | .ok a ρ => f a ρ
  | .exn x ρ => .exn x ρ
  | .fail => .fail
@[simp] theorem bnd_ok {α β : Type} (a : α) (ρ : Fr) (f : α → Fr → R β) : bnd (.ok a ρ) f = f a ρ := rfl
@[simp] theorem bnd_exn {α β : Type} (x : Xn) (ρ : Fr) (f : α → Fr → R β) : bnd (.exn x ρ) f = .exn x ρ := rfl
@[simp] theorem bnd_fail {α β : Type} (f : α → Fr → R β) : bnd (.fail : R α) f = .fail := rfl
/-- an option's value, or the end -/
def opt {α β : Type} (o : Option α) (f : α → R β) : R β := match o with
  | some a => f a
  | none => .fail
@[simp] theorem opt_some {α β : Type} (a : α) (f : α → R β) : opt (some a) f = f a := rfl
@[simp] theorem opt_none {α β : Type} (f : α → R β) : opt (none : Option α) f = .fail := rfl

def getS : Fr → Nat → Option O
  | [], _ => none
  | x :: _, 0 => x
  | _ :: r, i + 1 => getS r i
def setS : Fr → Nat → Option O → Fr
  | [], _, _ => []
  | _ :: r, 0, o => o :: r
  | x :: r, i + 1, o => x :: setS r i o
def lookN {α : Type} : List Str → List α → Str → Option α
  | n :: ns, a :: as, f => if n = f then some a else lookN ns as f
  | _, _, _ => none
def setN {α : Type} : List Str → List α → Str → α → List α
  | n :: ns, a :: as, f, b => if n = f then b :: as else a :: setN ns as f b
  | _, as, _, _ => as
mutual
def frz : O → Option D
  | .sh d => some d
  | .lst t ds => some (.lst t ds)
  | .dic _ _ => none
  | .obj C ns os => match frzs os with
    | some ds => some (.obj C ns ds)
    | none => none
def frzs : List O → Option (List D)
  | [] => some []
  | o :: r => match frz o, frzs r with
    | some d, some ds => some (d :: ds)
    | _, _ => none
end

/-- an operand: a value, or the thing of a slot's own (looked at late) -/
inductive Pd where
  | val (d : D)
  | «at» (i : Nat)
def look (ρ : Fr) : Pd → Option D
  | .val d => some d
  | .at i => match getS ρ i with
    | some (.lst t ds) => some (.lst t ds)
    | some (.sh d) => some d
    | _ => none
def looks (ρ : Fr) : List Pd → Option (List D)
  | [] => some []
  | p :: r => match look ρ p, looks ρ r with
    | some d, some ds => some (d :: ds)
    | _, _ => none
/-- a slot's thing is shared from now on -/
def frzAt (ρ : Fr) (i : Nat) : Option (D × Fr) := match getS ρ i with
  | some o => match frz o with
    | some d => some (d, setS ρ i (some (.sh d)))
    | none => none
  | none => none
def give (ρ : Fr) : Pd → Option (D × Fr)
  | .val d => some (d, ρ)
  | .at i => frzAt ρ i
def gives (ρ : Fr) : List Pd → Option (List D × Fr)
  | [] => some ([], ρ)
  | p :: r => match give ρ p with
    | some (d, ρ1) => match gives ρ1 r with
      | some (ds, ρ2) => some (d :: ds, ρ2)
      | none => none
    | none => none

/-! ### operators -/
inductive Bop where
  | add | sub | mul | fdiv | mod | pow
  deriving DecidableEq
inductive Cop where
  | eq | ne | lt | le | gt | ge | «is» | isn | «in» | nin
  deriving DecidableEq
def big : Nat := 10000000
def cutA {α : Type} (xs : List α) (lo hi : Option Int) : List α := (xs.drop (HT.sIx xs.length 0 lo)).take (HT.sIx xs.length xs.length hi - HT.sIx xs.length 0 lo)
def lt64 (i : Int) : Bool := decide (-(2 ^ 64) < i) && decide (i < 2 ^ 64)
def binD : Bop → D → D → Option O
  | .add, .int i, .int j => some (.sh (.int (i + j)))
  | .add, .lst _ xs, .lst _ ys => if xs.length + ys.length ≤ big then some (.lst true (xs ++ ys)) else none
  | .add, .tup xs, .tup ys => if xs.length + ys.length ≤ big then some (.sh (.tup (xs ++ ys))) else none
  | .sub, .int i, .int j => some (.sh (.int (i - j)))
  | .mul, .int i, .int j => if lt64 i || lt64 j then some (.sh (.int (i * j))) else none
  | .mul, .lst _ xs, .int k => if decide (-1000000 ≤ k) && decide (k ≤ 1000000) && decide (xs.length * k.toNat ≤ big) then some (.lst true (List.replicate k.toNat xs).flatten) else none
  | .fdiv, .int i, .int j => if 0 < j ∧ j < 2 ^ 200 then some (.sh (.int (i / j))) else none
  | .mod, .int i, .int j => if 0 < j then some (.sh (.int (i % j))) else none
  | .pow, .int i, .int j => if 0 ≤ j ∧ j ≤ 1000 ∧ i.natAbs < 1000000 then some (.sh (.int (i ^ j.toNat))) else none
  | _, _, _ => none
mutual
/-- as the library's data -/
def py : D → PyData
  | .non => .none
  | .bl b => .bool b
  | .int i => .int i
  | .str x => .str x
  | .tup ds => .tuple (pys ds)
  | .lst _ ds => .list (pys ds)
  | .scr ns => .list (ns.map .int)
  | .obj _ _ _ => .dict []
  | .opq => .dict []
def pys : List D → List PyData
  | [] => []
  | d :: r => py d :: pys r
end
/-- == where it is known -/
def eqD (a b : D) : Option Bool := if (py a).plain && (py b).plain && decide (min (py a).depth (py b).depth ≤ 32) then some (PyData.eqv (py a) (py b)) else none
def flatD : D → Bool
  | .non => true
  | .bl _ => true
  | .int _ => true
  | .str _ => true
  | _ => false
def toV : D → V
  | .non => .non
  | .bl b => .bl b
  | .int i => .int i
  | .str x => .str x
  | _ => .non
def inD (a : D) (xs : List D) : Option Bool := if flatD a && xs.all flatD then some (inV (toV a) (xs.map toV)) else none
def isNon : D → Bool
  | .non => true
  | _ => false
def cmpD : Cop → D → D → Option Bool
  | .eq, a, b => eqD a b
  | .ne, a, b => (eqD a b).map (!·)
  | .lt, .int i, .int j => some (decide (i < j))
  | .le, .int i, .int j => some (decide (i ≤ j))
  | .gt, .int i, .int j => some (decide (j < i))
  | .ge, .int i, .int j => some (decide (j ≤ i))
  | .is, a, .non => some (isNon a)
  | .isn, a, .non => some (!isNon a)
  | .in, a, .lst _ xs => inD a xs
  | .in, a, .tup xs => inD a xs
  | .nin, a, .lst _ xs => (inD a xs).map (!·)
  | .nin, a, .tup xs => (inD a xs).map (!·)
  | _, _, _ => none
def ixD : D → D → Option D
  | .lst _ xs, .int i => atI xs i
  | .tup xs, .int i => atI xs i
  | .scr ns, .int i => (atI ns i).map .int
  | _, _ => none
def slD (lo hi : Option Int) : D → Option O
  | .lst _ xs => some (.lst true (cutA xs lo hi))
  | .tup xs => some (.sh (.tup (cutA xs lo hi)))
  | _ => none
def seqD : D → Option (List D)
  | .lst _ xs => some xs
  | .tup xs => some xs
  | .scr ns => some (ns.map .int)
  | _ => none
def seqLD : D → Option (List D)
  | .lst _ xs => some xs
  | .scr ns => some (ns.map .int)
  | _ => none
def intsD : List D → Option (List Int)
  | [] => some []
  | .int i :: r => match intsD r with
    | some is => some (i :: is)
    | none => none
  | _ => none
def maxI : List Int → Int
  | [] => 0
  | [x] => x
  | x :: r => if x ≤ maxI r then maxI r else x
def minI : List Int → Int
  | [] => 0
  | [x] => x
  | x :: r => if minI r ≤ x then minI r else x
/-- built-ins -/
inductive Bi where
  | len | list | tuple | int | max | min | sum
  deriving DecidableEq
def biD : Bi → List D → Option O
  | .len, [.lst _ xs] => some (.sh (.int xs.length))
  | .len, [.tup xs] => some (.sh (.int xs.length))
  | .len, [.scr xs] => some (.sh (.int xs.length))
  | .list, [.lst _ xs] => some (.lst true xs)
  | .list, [.tup xs] => some (.lst true xs)
  | .tuple, [.lst _ xs] => some (.sh (.tup xs))
  | .tuple, [.tup xs] => some (.sh (.tup xs))
  | .int, [.int i] => some (.sh (.int i))
  | .int, [.bl b] => some (.sh (.int (if b then 1 else 0)))
  | .max, [.int i, .int j] => some (.sh (.int (if j > i then j else i)))
  | .min, [.int i, .int j] => some (.sh (.int (if j < i then j else i)))
  | .max, [.lst _ xs] => match intsD xs with
    | some (x :: r) => some (.sh (.int (maxI (x :: r))))
    | _ => none
  | .min, [.lst _ xs] => match intsD xs with
    | some (x :: r) => some (.sh (.int (minI (x :: r))))
    | _ => none
  | .sum, [.lst _ xs] => match intsD xs with
    | some is => some (.sh (.int is.sum))
    | _ => none
  | _, _ => none
/-- types by name -/
inductive Ty where
  | int | bool | str | list | tuple | none
  deriving DecidableEq
def tyD : D → Option Ty
  | .non => some .none
  | .bl _ => some .bool
  | .int _ => some .int
  | .str _ => some .str
  | .tup _ => some .tuple
  | .lst _ _ => some .list
  | _ => none
def isT : Ty → Ty → Bool
  | .bool, .int => true
  | a, b => decide (a = b)
def isiD (d : D) (ts : List Ty) : Option Bool := match tyD d with
  | some t => some (ts.any (isT t))
  | none => none
def ranges : List D → Option (Int × Int × Int)
  | [.int n] => some (0, n, 1)
  | [.int a, .int b] => some (a, b, 1)
  | [.int a, .int b, .int c] => some (a, b, c)
  | _ => none
/-- 2 ^ 40, not to be unfolded -/
def lim40 : Int := Classical.choose (⟨2 ^ 40, rfl⟩ : ∃ n : Int, n = 2 ^ 40)
theorem lim40_eq : lim40 = 2 ^ 40 := Classical.choose_spec (⟨2 ^ 40, rfl⟩ : ∃ n : Int, n = 2 ^ 40)
/-- the numbers of a range, upwards -/
def rngI (a b c : Int) : Option (List D) := if decide (-lim40 < a) && decide (a < lim40) && decide (-lim40 < b) && decide (b < lim40) && decide (0 < c) && decide (c < 1000000)
  then some ((List.range ((b - a + c - 1) / c).toNat).map fun (k : Nat) => .int (a + (k : Int) * c)) else none

/-! ### the language -/
/-- targets -/
inductive T where
  | name (i : Nat)
  | tup (ts : T)
  | nil
  | cons (t ts : T)
/-- a place that holds a changeable thing -/
inductive Pl where
  | s (i : Nat)
  | f (i : Nat) (n : Str)
inductive E where
  | nil | cons (e es : E)
  | cint (i : Int) | cbl (b : Bool) | cstr (x : Str) | cnon | gint (x : Str) (i : Int)
  | var (i : Nat) | fld (i : Nat) (f : Str)
  | bin (op : Bop) (a b : E) | neg (a : E)
  | cmp (op : Cop) (a b : E) | chn (a : E) (ops : List Cop) (es : E)
  | not (a : E) | bop (isAnd : Bool) (es : E) | ite (c a b : E)
  | lst (es : E) | tup (es : E)
  | ix (a i : E) | sl (a lo hi : E)
  | call (f : Nat) (es : E) | mcall (f : Nat) (i : Nat) (es : E) | new (C f : Nat) (es : E)
  | bi (b : Bi) (es : E)
  | isi (a : E) (many : Bool) (ts : List Ty)
  | kind (e : E) (nm : List (Nat × Str))
  | isx (i : Nat) (x : Str) (b : Bool) | cntT (i : Nat) | idxT (i : Nat)
  | rng (es : E) | enu (e : E) | zip (a b : E)
  | lc (elt : E) (tg : T) (it ifs : E) (own : List Nat)
inductive S where
  | skip | seq (a b : S)
  | set (i : Nat) (e : E)
  | unp (tg : T) (e : E)
  | setix (p : Nat) (i e : E)
  | setfld (i : Nat) (f : Str) (e : E)
  | ex (e : E)
  | app (pl : Pl) (e : E)
  | ext (pl : Pl) (e : E)
  | ret (e : E)
  | ite (c : E) (a b : S)
  | for_ (mk : Bool) (tg : T) (it : E) (b : S)
  | whl (c : E) (b : S)
  | rais (C : Nat)
  | poke (t e : E)
  | never

/-! ### the evaluator -/
inductive CR where
  | ok (o : O) (outs : List O)
  | exn (x : Xn) (outs : List O)
  | fail
structure Fn where
  np : Nat
  ns : Nat
  io : List Bool
  body : S
/-- what a body may lean on: the defs' answers, which of their parameters are in and out -/
structure Cl where
  io : Nat → List Bool
  run : Nat → List O → CR
mutual
def asg : T → D → Fr → Option Fr
  | .name i, d, ρ => some (setS ρ i (some (.sh d)))
  | .tup ts, .tup ds, ρ => asgs ts ds ρ
  | _, _, _ => none
def asgs : T → List D → Fr → Option Fr
  | .nil, [], ρ => some ρ
  | .cons t ts, d :: ds, ρ => match asg t d ρ with
    | some ρ1 => asgs ts ds ρ1
    | none => none
  | _, _, _ => none
end
/-- an expression's answer as an operand: a name's own thing stays its own -/
def opd (e : E) (r : Fr → R O) (ρ : Fr) : R Pd := match e with
  | .var i => match getS ρ i with
    | some (.sh d) => .ok (.val d) ρ
    | some _ => .ok (.at i) ρ
    | none => .fail
  | _ => bnd (r ρ) fun o ρ => opt (frz o) fun d => .ok (.val d) ρ
/-- the arguments of a call: taken out where they are in and out -/
def takeA (ρ : Fr) : List Bool → List Pd → Option (List O × List Nat × Fr)
  | [], [] => some ([], [], ρ)
  | true :: fs, .at i :: ps => match getS ρ i with
    | some o => match takeA (setS ρ i none) fs ps with
      | some (os, is, ρ1) => some (o :: os, i :: is, ρ1)
      | none => none
    | none => none
  | false :: fs, p :: ps => match give ρ p with
    | some (d, ρ1) => match takeA ρ1 fs ps with
      | some (os, is, ρ2) => some (.sh d :: os, is, ρ2)
      | none => none
    | none => none
  | _, _ => none
def backA (ρ : Fr) : List Nat → List O → Option Fr
  | [], [] => some ρ
  | i :: is, o :: os => backA (setS ρ i (some o)) is os
  | _, _ => none
def doCall (cl : Cl) (f : Nat) (ps : List Pd) (ρ : Fr) : R O := match takeA ρ (cl.io f) ps with
  | none => .fail
  | some (os, is, ρ1) => match cl.run f os with
    | .ok o outs => opt (backA ρ1 is outs) fun ρ2 => .ok o ρ2
    | .exn x outs => opt (backA ρ1 is outs) fun ρ2 => .exn x ρ2
    | .fail => .fail
def doNew (cl : Cl) (C f : Nat) (ps : List Pd) (ρ : Fr) : R O := match takeA ρ ((cl.io f).drop 1) ps with
  | none => .fail
  | some (os, is, ρ1) => match is with
    | [] => match cl.run f (.obj C [] [] :: os) with
      | .ok (.sh .non) [o] => .ok o ρ1
      | _ => .fail
    | _ => .fail
def asB {β : Type} (m : R O) (f : Bool → Fr → R β) : R β := bnd m fun o ρ => match o with
  | .sh (.bl b) => f b ρ
  | _ => .fail
@[simp] theorem asB_ok {β : Type} (b : Bool) (ρ : Fr) (f : Bool → Fr → R β) : asB (.ok (.sh (.bl b)) ρ) f = f b ρ := rfl
@[simp] theorem asB_exn {β : Type} (x : Xn) (ρ : Fr) (f : Bool → Fr → R β) : asB (.exn x ρ) f = .exn x ρ := rfl
/-- a comprehension's turns -/
def lcL (step : D → Fr → R (Option D)) : List D → List D → Fr → R (List D)
  | [], acc, ρ => .ok acc ρ
  | d :: r, acc, ρ => match step d ρ with
    | .ok (some y) ρ1 => if acc.length < big then lcL step r (acc ++ [y]) ρ1 else .fail
    | .ok none ρ1 => lcL step r acc ρ1
    | _ => .fail
def shOrNone : Option O → Bool
  | none => true
  | some (.sh _) => true
  | _ => false
def wipeF (ρ : Fr) : List Nat → Fr
  | [] => ρ
  | i :: is => setS (wipeF ρ is) i none
def backF (ρ0 ρ : Fr) : List Nat → Fr
  | [] => ρ
  | i :: is => setS (backF ρ0 ρ is) i (getS ρ0 i)
def enumD : Nat → List D → List D
  | _, [] => []
  | k, d :: r => .tup [.int k, d] :: enumD (k + 1) r
def zipD : List D → List D → List D
  | a :: r, b :: s => .tup [a, b] :: zipD r s
  | _, _ => []
def asI (m : R O) : R (Option Int) := bnd m fun o ρ => match o with
  | .sh (.int i) => .ok (some i) ρ
  | _ => .fail
@[simp] theorem asI_ok (i : Int) (ρ : Fr) : asI (.ok (.sh (.int i)) ρ) = .ok (some i) ρ := rfl
def partE (e : E) (r : Fr → R O) (ρ : Fr) : R (Option Int) := match e with
  | .nil => .ok none ρ
  | _ => asI (r ρ)
/-- an answer, or the error's name -/
def kindR (nm : List (Nat × Str)) : R O → R O
  | .ok o ρ => .ok o ρ
  | .exn x ρ => match x.arg, nm.lookup x.cls with
    | none, some s => .ok (.sh (.str s)) ρ
    | _, _ => .fail
  | .fail => .fail
def opqAt : Option O → Option Unit
  | some (.sh .opq) => some ()
  | _ => none
def lstOf : Option O → Option (List D)
  | some (.lst _ ds) => some ds
  | _ => none
def blsD : List D → Option (List Bool)
  | [] => some []
  | .bl b :: r => match blsD r with
    | some bs => some (b :: bs)
    | none => none
  | _ => none
/-- the first true one's place -/
def idxB : List Bool → Option Nat
  | [] => none
  | true :: _ => some 0
  | false :: r => match idxB r with
    | some j => some (j + 1)
    | none => none
mutual
def evO (cl : Cl) : E → Fr → R O
  | .cint i, ρ => .ok (.sh (.int i)) ρ
  | .cbl b, ρ => .ok (.sh (.bl b)) ρ
  | .cstr x, ρ => .ok (.sh (.str x)) ρ
  | .cnon, ρ => .ok (.sh .non) ρ
  | .gint _ i, ρ => .ok (.sh (.int i)) ρ
  | .var i, ρ => opt (frzAt ρ i) fun (d, ρ1) => .ok (.sh d) ρ1
  | .fld i f, ρ => match getS ρ i with
    | some (.sh (.obj _ ns ds)) => opt (lookN ns ds f) fun d => .ok (.sh d) ρ
    | some (.obj C ns os) => opt (lookN ns os f) fun o => opt (frz o) fun d => .ok (.sh d) (setS ρ i (some (.obj C ns (setN ns os f (.sh d)))))
    | _ => .fail
  | .bin op a b, ρ => bnd (opd a (evO cl a) ρ) fun x ρ => bnd (opd b (evO cl b) ρ) fun y ρ => opt (look ρ x) fun d => opt (look ρ y) fun e => opt (binD op d e) fun o => .ok o ρ
  | .neg a, ρ => bnd (evO cl a ρ) fun o ρ => match o with
    | .sh (.int i) => .ok (.sh (.int (-i))) ρ
    | _ => .fail
  | .cmp op a b, ρ => bnd (opd a (evO cl a) ρ) fun x ρ => bnd (opd b (evO cl b) ρ) fun y ρ => opt (look ρ x) fun d => opt (look ρ y) fun e => opt (cmpD op d e) fun k => .ok (.sh (.bl k)) ρ
  | .chn a ops es, ρ => bnd (opd a (evO cl a) ρ) fun x ρ => bnd (evC cl es ops x ρ) fun k ρ => .ok (.sh (.bl k)) ρ
  | .not a, ρ => asB (evO cl a ρ) fun b ρ => .ok (.sh (.bl (!b))) ρ
  | .bop k es, ρ => bnd (evB cl es k ρ) fun b ρ => .ok (.sh (.bl b)) ρ
  | .ite c a b, ρ => asB (evO cl c ρ) fun k ρ => match k with
    | true => evO cl a ρ
    | false => evO cl b ρ
  | .lst es, ρ => bnd (evPs cl es ρ) fun ps ρ => opt (gives ρ ps) fun (ds, ρ1) => if ds.length ≤ big then .ok (.lst true ds) ρ1 else .fail
  | .tup es, ρ => bnd (evPs cl es ρ) fun ps ρ => opt (gives ρ ps) fun (ds, ρ1) => if ds.length ≤ big then .ok (.sh (.tup ds)) ρ1 else .fail
  | .ix a i, ρ => bnd (opd a (evO cl a) ρ) fun x ρ => bnd (opd i (evO cl i) ρ) fun y ρ => opt (look ρ x) fun d => opt (look ρ y) fun e => opt (ixD d e) fun v => .ok (.sh v) ρ
  | .sl a lo hi, ρ => bnd (opd a (evO cl a) ρ) fun x ρ => bnd (partE lo (evO cl lo) ρ) fun l ρ => bnd (partE hi (evO cl hi) ρ) fun h ρ => opt (look ρ x) fun d => opt (slD l h d) fun o => .ok o ρ
  | .call f es, ρ => bnd (evPs cl es ρ) fun ps ρ => doCall cl f ps ρ
  | .mcall f i es, ρ => bnd (opd (.var i) (fun _ => .fail) ρ) fun p ρ => bnd (evPs cl es ρ) fun ps ρ => doCall cl f (p :: ps) ρ
  | .new C f es, ρ => bnd (evPs cl es ρ) fun ps ρ => doNew cl C f ps ρ
  | .bi b es, ρ => bnd (evPs cl es ρ) fun ps ρ => opt (looks ρ ps) fun ds => opt (biD b ds) fun o => .ok o ρ
  | .isi a _ ts, ρ => bnd (opd a (evO cl a) ρ) fun x ρ => opt (look ρ x) fun d => opt (isiD d ts) fun b => .ok (.sh (.bl b)) ρ
  | .kind e nm, ρ => kindR nm (evO cl e ρ)
  | .isx i _ b, ρ => opt (opqAt (getS ρ i)) fun _ => .ok (.sh (.bl b)) ρ
  | .cntT i, ρ => opt (lstOf (getS ρ i)) fun ds => opt (blsD ds) fun bs => .ok (.sh (.int ((bs.filter id).length : Nat))) ρ
  | .idxT i, ρ => opt (lstOf (getS ρ i)) fun ds => opt (blsD ds) fun bs => opt (idxB bs) fun j => .ok (.sh (.int (j : Nat))) ρ
  | .lc elt tg it ifs own, ρ => bnd (evI cl it ρ) fun items ρ1 => match own.all fun i => shOrNone (getS ρ1 i) with
    | true => bnd (lcL (fun d ρ => opt (asg tg d (wipeF ρ own)) fun ρ => bnd (evB cl ifs true ρ) fun k ρ => match k with
        | true => bnd (evO cl elt ρ) fun o ρ => opt (frz o) fun y => .ok (some y) ρ
        | false => .ok none ρ) items [] (wipeF ρ1 own)) fun ds ρ2 => .ok (.lst true ds) (backF ρ1 ρ2 own)
    | false => .fail
  | _, _ => .fail
/-- operands, from the left -/
def evPs (cl : Cl) : E → Fr → R (List Pd)
  | .nil, ρ => .ok [] ρ
  | .cons e es, ρ => bnd (opd e (evO cl e) ρ) fun p ρ => bnd (evPs cl es ρ) fun ps ρ => .ok (p :: ps) ρ
  | _, _ => .fail
/-- a chain of comparisons -/
def evC (cl : Cl) : E → List Cop → Pd → Fr → R Bool
  | .cons e es, op :: ops, x, ρ => bnd (opd e (evO cl e) ρ) fun y ρ => opt (look ρ x) fun d => opt (look ρ y) fun d' => opt (cmpD op d d') fun k => match ops with
    | [] => .ok k ρ
    | _ => match k with
      | true => evC cl es ops y ρ
      | false => .ok false ρ
  | _, _, _, _ => .fail
/-- and, or -/
def evB (cl : Cl) : E → Bool → Fr → R Bool
  | .nil, k, ρ => .ok k ρ
  | .cons e es, k, ρ => asB (evO cl e ρ) fun b ρ => if b = k then evB cl es k ρ else .ok b ρ
  | _, _, _ => .fail
/-- what is walked -/
def evI (cl : Cl) : E → Fr → R (List D)
  | .rng es, ρ => bnd (evPs cl es ρ) fun ps ρ => opt (looks ρ ps) fun ds => opt (ranges ds) fun (a, b, c) => opt (rngI a b c) fun items => .ok items ρ
  | .enu e, ρ => bnd (evO cl e ρ) fun o ρ => opt (frz o) fun d => opt (seqLD d) fun xs => .ok (enumD 0 xs) ρ
  | .zip a b, ρ => bnd (evO cl a ρ) fun o ρ => opt (frz o) fun d => bnd (evO cl b ρ) fun o' ρ => opt (frz o') fun d' => opt (seqD d) fun xs => opt (seqD d') fun ys => .ok (zipD xs ys) ρ
  | e, ρ => bnd (evO cl e ρ) fun o ρ => opt (frz o) fun d => opt (seqD d) fun xs => .ok xs ρ
end

inductive Fl where
  | nx
  | ret (o : O)
def forL (step : D → Fr → R Fl) : List D → Fr → R Fl
  | [], ρ => .ok .nx ρ
  | d :: r, ρ => bnd (step d ρ) fun f ρ1 => match f with
    | .nx => forL step r ρ1
    | .ret o => .ok (.ret o) ρ1
def whlL (c : Fr → R O) (b : Fr → R Fl) : Nat → Fr → R Fl
  | 0, _ => .fail
  | n + 1, ρ => asB (c ρ) fun k ρ => match k with
    | false => .ok .nx ρ
    | true => bnd (b ρ) fun f ρ1 => match f with
      | .nx => whlL c b n ρ1
      | .ret o => .ok (.ret o) ρ1
def getPl (ρ : Fr) : Pl → Option O
  | .s i => getS ρ i
  | .f i n => match getS ρ i with
    | some (.obj _ ns os) => lookN ns os n
    | _ => none
def setPl (ρ : Fr) (o : O) : Pl → Fr
  | .s i => setS ρ i (some o)
  | .f i n => match getS ρ i with
    | some (.obj C ns os) => setS ρ i (some (.obj C ns (setN ns os n o)))
    | _ => ρ
mutual
def old : D → D
  | .tup ds => .tup (olds ds)
  | .lst _ ds => .lst false (olds ds)
  | .obj C ns ds => .obj C ns (olds ds)
  | d => d
def olds : List D → List D
  | [] => []
  | d :: r => old d :: olds r
end
mutual
def oldO : O → O
  | .sh d => .sh (old d)
  | .lst _ ds => .lst false (olds ds)
  | .dic _ kvs => .dic false (kvs.map fun p => (old p.1, old p.2))
  | .obj C ns os => .obj C ns (oldOs os)
def oldOs : List O → List O
  | [] => []
  | o :: r => oldO o :: oldOs r
end
def oldF (ρ : Fr) : Fr := ρ.map fun o => o.map oldO
/-! what holds a list younger than the last mark -/
mutual
def yng : D → Bool
  | .tup ds => yngs ds
  | .lst t ds => t || yngs ds
  | .obj _ _ ds => yngs ds
  | _ => false
def yngs : List D → Bool
  | [] => false
  | d :: r => yng d || yngs r
end
mutual
def yngO : O → Bool
  | .sh d => yng d
  | .lst _ ds => yngs ds
  | .dic _ kvs => kvs.any fun p => yng p.1 || yng p.2
  | .obj _ _ os => yngOs os
def yngOs : List O → Bool
  | [] => false
  | o :: r => yngO o || yngOs r
end
def killO (o : O) : Option O := if yngO o then none else some o
def killF (ρ : Fr) : Fr := ρ.map fun o => o.bind killO
def yngL : D → Option (List D)
  | .lst true ds => some ds
  | _ => none
/-- a place's own list -/
def lstAt (ρ : Fr) (pl : Pl) : Option (Bool × List D) := match getPl ρ pl with
  | some (.lst t ds) => some (t, ds)
  | _ => none
def intO : O → Option Int
  | .sh (.int i) => some i
  | _ => none
def lstD : D → Option (List D)
  | .lst _ xs => some xs
  | _ => none
/-- a new attribute behind the others, or another value of one that is there -/
def putN (ns : List Str) (os : List O) (f : Str) (o : O) : List Str × List O := if f ∈ ns then (ns, setN ns os f o) else (ns ++ [f], os ++ [o])
def evS (cl : Cl) (N : Nat) : S → Fr → R Fl
  | .skip, ρ => .ok .nx ρ
  | .seq a b, ρ => bnd (evS cl N a ρ) fun f ρ1 => match f with
    | .nx => evS cl N b ρ1
    | .ret o => .ok (.ret o) ρ1
  | .set i e, ρ => bnd (evO cl e ρ) fun o ρ => .ok .nx (setS ρ i (some o))
  | .unp tg e, ρ => bnd (evO cl e ρ) fun o ρ => opt (frz o) fun d => opt (asg tg d ρ) fun ρ => .ok .nx ρ
  | .setix p i e, ρ => bnd (evO cl e ρ) fun o ρ => opt (frz o) fun d => opt (lstAt ρ (.s p)) fun _ => bnd (evO cl i ρ) fun oi ρ => opt (intO oi) fun k => opt (lstAt ρ (.s p)) fun (t, ds) => opt (ixN ds.length k) fun j => .ok .nx (setS ρ p (some (.lst t (ds.set j d))))
  | .setfld i f e, ρ => bnd (evO cl e ρ) fun o ρ => match getS ρ i with
    | some (.obj C ns os) => if ns.length < 100 then .ok .nx (setS ρ i (some (.obj C (putN ns os f o).1 (putN ns os f o).2))) else .fail
    | _ => .fail
  | .ex e, ρ => bnd (evO cl e ρ) fun _ ρ => .ok .nx ρ
  | .app pl e, ρ => opt (lstAt ρ pl) fun _ => bnd (evO cl e ρ) fun o ρ => opt (frz o) fun d => opt (lstAt ρ pl) fun (t, ds) => if ds.length < big then .ok .nx (setPl ρ (.lst t (ds ++ [d])) pl) else .fail
  | .ext pl e, ρ => opt (lstAt ρ pl) fun _ => bnd (evO cl e ρ) fun o ρ => opt (frz o) fun d => opt (lstD d) fun xs => opt (lstAt ρ pl) fun (t, ds) => if ds.length + xs.length ≤ big then .ok .nx (setPl ρ (.lst t (ds ++ xs)) pl) else .fail
  | .ret e, ρ => bnd (evO cl e ρ) fun o ρ => .ok (.ret o) ρ
  | .ite c a b, ρ => asB (evO cl c ρ) fun k ρ => match k with
    | true => evS cl N a ρ
    | false => evS cl N b ρ
  | .for_ mk tg it b, ρ => bnd (evI cl it ρ) fun items ρ => forL (fun d ρ => opt (asg tg (if mk then old d else d) (if mk then oldF ρ else ρ)) fun ρ => evS cl N b ρ) items ρ
  | .whl c b, ρ => whlL (evO cl c) (evS cl N b) N ρ
  | .rais C, ρ => .exn ⟨C, none⟩ ρ
  | .poke t e, ρ => bnd (evO cl t ρ) fun o ρ => opt (frz o) fun d => opt (yngL d) fun ds => bnd (evO cl e ρ) fun _ ρ => if ds.length < big then .ok .nx (killF ρ) else .fail
  | .never, _ => .fail
def outsOf (ρ : Fr) : Nat → List Bool → Option (List O)
  | _, [] => some []
  | j, true :: fs => match getS ρ j, outsOf ρ (j + 1) fs with
    | some o, some os => some (o :: os)
    | _, _ => none
  | j, false :: fs => outsOf ρ (j + 1) fs
def optC {α : Type} (o : Option α) (f : α → CR) : CR := match o with
  | some a => f a
  | none => .fail
def runF (cl : Cl) (N : Nat) (fn : Fn) (os : List O) : CR := if os.length = fn.np then
    match evS cl N fn.body (os.map some ++ List.replicate (fn.ns - fn.np) none) with
    | .ok .nx ρ => optC (outsOf ρ 0 fn.io) fun outs => .ok (.sh .non) outs
    | .ok (.ret o) ρ => optC (outsOf ρ 0 fn.io) fun outs => .ok o outs
    | .exn x ρ => optC (outsOf ρ 0 fn.io) fun outs => .exn x outs
    | .fail => .fail
  else .fail
def clOf (Γ : List Fn) (N : Nat) : Nat → Cl
  | 0 => ⟨fun f => match Γ[f]? with | some fn => fn.io | none => [], fun _ _ => .fail⟩
  | k + 1 => ⟨fun f => match Γ[f]? with | some fn => fn.io | none => [], fun f os => match Γ[f]? with
    | some fn => runF (clOf Γ N k) N fn os
    | none => .fail⟩
end
end WD

/-! WD, part 2: how the evaluator's things lie in the abstract heap. -/
namespace WD
open PySem PySem.Spec PyProof.Rows L2

/-- the program's side: the written part, the classes of instances, the classes of errors -/
structure Pm where
  K : PySem.W.Frag
  CA : Nat → Addr
  XA : Nat → Addr
  T : List (Addr × Str)
  OA : Addr
/-- no table of code objects -/
def NT (o : HO) : Prop := ∀ ps, o ≠ .tbl ps
theorem nt_tup (vs : List V) : NT (.tup vs) := fun ps z => by cases z
theorem nt_lst (vs : List V) : NT (.lst vs) := fun ps z => by cases z
theorem nt_ins (C d : Addr) (fs : List (Str × V)) : NT (.ins C d fs) := fun ps z => by cases z
/-- an object lies there, no table -/
def Lv (H : Hp) (a : Addr) : Prop := ∃ o, H a = some o ∧ NT o
theorem Lv.upd {H : Hp} {a b : Addr} {u : HO} (h : Lv H b) (n : NT u) : Lv (upd H a u) b := by
  obtain ⟨o, e, no⟩ := h
  by_cases z : b = a
  · subst z
    exact ⟨u, upd_same, n⟩
  · exact ⟨o, by rw [upd_ne z]; exact e, no⟩
theorem Lv.new {H : Hp} {a b : Addr} {u : HO} (h : Lv H b) (n : H a = none) : Lv (L2.upd H a u) b := by
  obtain ⟨o, e, no⟩ := h
  exact ⟨o, by rw [upd_ne (ne_of_none e n)]; exact e, no⟩
/-- what others own stays, but for the tables; these stand -/
structure Lg (p : Pm) (G H : Hp) : Prop where
  same : ∀ b o, G b = some o → (∀ q ∈ p.T, q.1 ≠ b) → H b = some o ∧ NT o
  tabs : LamX.Tabs p.T H
  there : ∀ q ∈ p.T, ∃ o, G q.1 = some o
theorem Lg.free {p : Pm} {G H : Hp} (l : Lg p G H) {a : Addr} (h : H a = none) : G a = none := by
  cases e : G a with
  | none => rfl
  | some o =>
    by_cases hq : ∀ q ∈ p.T, q.1 ≠ a
    · rw [(l.same a o e hq).1] at h
      cases h
    · simp only [Classical.not_forall, Classical.not_not] at hq
      obtain ⟨q, hq, rfl⟩ := hq
      obtain ⟨ps, h1, _⟩ := l.tabs q hq
      rw [h1] at h
      cases h
theorem Lg.off {p : Pm} {G H : Hp} (l : Lg p G H) {a : Addr} (h : G a = none) : ∀ q ∈ p.T, q.1 ≠ a := fun q hq z => by
  obtain ⟨o, e⟩ := l.there q hq
  rw [z, h] at e
  cases e
theorem Lg.new {p : Pm} {G H : Hp} (l : Lg p G H) {a : Addr} {u : HO} (h : H a = none) : Lg p G (upd H a u) :=
  ⟨fun b o e n => by
    obtain ⟨h1, h2⟩ := l.same b o e n
    exact ⟨by rw [upd_ne (ne_of_none h1 h)]; exact h1, h2⟩, l.tabs.ext fun b o e => by rw [upd_ne (ne_of_none e h)]; exact e, l.there⟩
/-- one more object of others -/
theorem Lg.plus {p : Pm} {G H : Hp} (l : Lg p G H) {a : Addr} {u : HO} (h : H a = some u) (n : NT u) (hG : G a = none) : Lg p (L2.upd G a u) H :=
  ⟨fun b o e z => by
    by_cases q : b = a
    · subst q
      rw [upd_same] at e
      cases e
      exact ⟨h, n⟩
    · rw [upd_ne q] at e
      exact l.same b o e z, l.tabs, fun q hq => by
    obtain ⟨o, e⟩ := l.there q hq
    exact ⟨o, by rw [upd_ne fun z => by rw [z, hG] at e; cases e]; exact e⟩⟩
/-- an owned object changes -/
theorem Lg.upd {p : Pm} {G H : Hp} (l : Lg p G H) {a : Addr} {u : HO} {vs : List V} (h : G a = none) (hx : H a = some (.lst vs)) : Lg p G (L2.upd H a u) := by
  have hne : ∀ q ∈ p.T, q.1 ≠ a := l.off h
  refine ⟨fun b o e n => ?_, fun q hq => ?_, l.there⟩
  · obtain ⟨h1, h2⟩ := l.same b o e n
    exact ⟨by rw [upd_ne (ne_of_none e h)]; exact h1, h2⟩
  · obtain ⟨ps, h1, h2, h3⟩ := l.tabs q hq
    refine ⟨ps, by rw [upd_ne (hne q hq)]; exact h1, h2, fun pos cv hc => ?_⟩
    obtain ⟨c, e1, e2⟩ := h3 pos cv hc
    refine ⟨c, e1, ?_⟩
    rw [upd_ne]
    · exact e2
    · intro z
      rw [z, hx] at e2
      unfold LamX.CodeO at e2
      cases e2
/-- the script's list: it stands since ahead of all marks, or is no list that can be changed -/
def SqB (K : PySem.W.Frag) (B : Addr → Prop) (F : Hp) (a : Addr) (xs : List V) : Prop := SqL K F a xs ∧ ((F a = some (.lst xs) ∧ B a) ∨ (∃ o, F a = some (.frz o (.lst xs))) ∨ ∀ F' : Hp, SqL K F' a xs)
mutual
inductive RD (p : Pm) (B : Addr → Prop) (F : Hp) : V → D → Prop
  | non : RD p B F .non .non
  | bl (b : Bool) : RD p B F (.bl b) (.bl b)
  | int (i : Int) : RD p B F (.int i) (.int i)
  | str (x : Str) : RD p B F (.str x) (.str x)
  | tup {a : Addr} {vs : List V} {ds : List D} : SqT p.K F a vs → RDs p B F vs ds → RD p B F (.ref a) (.tup ds)
  | lst {a : Addr} {vs : List V} {t : Bool} {ds : List D} : F a = some (.lst vs) → (B a ↔ t = false) → RDs p B F vs ds → RD p B F (.ref a) (.lst t ds)
  | scr {a : Addr} {ns : List Int} : SqB p.K B F a (ns.map V.int) → RD p B F (.ref a) (.scr ns)
  | obj {a dx : Addr} {fs : List (Str × V)} {C : Nat} {ns : List Str} {ds : List D} : F a = some (.ins (p.CA C) dx fs) → fs.map Prod.fst = ns → RDs p B F (fs.map Prod.snd) ds → RD p B F (.ref a) (.obj C ns ds)
  | opq : RD p B F (.ref p.OA) .opq
inductive RDs (p : Pm) (B : Addr → Prop) (F : Hp) : List V → List D → Prop
  | nil : RDs p B F [] []
  | cons {v : V} {vs : List V} {d : D} {ds : List D} : RD p B F v d → RDs p B F vs ds → RDs p B F (v :: vs) (d :: ds)
end
mutual
inductive RO (p : Pm) (B : Addr → Prop) (F H : Hp) : V → O → List Addr → Prop
  | sh {v : V} {d : D} : RD p B F v d → RO p B F H v (.sh d) []
  | lst {a : Addr} {vs : List V} {t : Bool} {ds : List D} : H a = some (.lst vs) → (B a ↔ t = false) → RDs p B F vs ds → RO p B F H (.ref a) (.lst t ds) [a]
  | obj {a dx : Addr} {fs : List (Str × V)} {C : Nat} {ns : List Str} {os : List O} {L : List Addr} : H a = some (.ins (p.CA C) dx fs) → fs.map Prod.fst = ns → ROs p B F H (fs.map Prod.snd) os L → RO p B F H (.ref a) (.obj C ns os) (a :: L)
inductive ROs (p : Pm) (B : Addr → Prop) (F H : Hp) : List V → List O → List Addr → Prop
  | nil : ROs p B F H [] [] []
  | cons {v : V} {vs : List V} {o : O} {os : List O} {L M : List Addr} : RO p B F H v o L → ROs p B F H vs os M → ROs p B F H (v :: vs) (o :: os) (L ++ M)
end
abbrev Fp := Nat → List Addr
/-- the frame's slots in the heap: F what is shared and stays, G what others own, A each slot's own objects -/
structure Rel (p : Pm) (B : Addr → Prop) (F G H : Hp) (σ : L2.St) (ρ : Fr) (A : Fp) : Prop where
  le : Same F H
  lg : Lg p G H
  fg : ∀ b o, F b = some o → G b = none ∧ NT o
  bd : ∀ b, B b → Lv H b
  len : σ.length = ρ.length
  sl : ∀ i o, getS ρ i = some o → ∃ v, σ[i]? = some (some v) ∧ RO p B F H v o (A i)
  nd : ∀ i, (A i).Nodup
  dj : ∀ i j a, a ∈ A i → a ∈ A j → i = j
  own : ∀ i a, a ∈ A i → F a = none ∧ G a = none ∧ Lv H a
/-- a thing that no slot holds yet -/
structure Own (F G H : Hp) (A : Fp) (L : List Addr) : Prop where
  nd : L.Nodup
  own : ∀ a ∈ L, F a = none ∧ G a = none ∧ Lv H a
  ap : ∀ a ∈ L, ∀ i, a ∉ A i

/-! ### slots -/
theorem getS_set_same : ∀ (ρ : Fr) (i : Nat) (o : Option O), i < ρ.length → getS (setS ρ i o) i = o
  | _ :: _, 0, _, _ => rfl
  | _ :: r, i + 1, o, h => getS_set_same r i o (Nat.lt_of_succ_lt_succ h)
theorem getS_set_ne : ∀ (ρ : Fr) (i j : Nat) (o : Option O), j ≠ i → getS (setS ρ i o) j = getS ρ j
  | [], _, _, _, _ => rfl
  | _ :: _, 0, 0, _, h => absurd rfl h
  | _ :: _, 0, j + 1, _, _ => rfl
  | _ :: _, i + 1, 0, _, _ => rfl
  | _ :: r, i + 1, j + 1, o, h => getS_set_ne r i j o fun e => h (congrArg Nat.succ e)
theorem getS_lt : ∀ {ρ : Fr} {i : Nat} {o : O}, getS ρ i = some o → i < ρ.length
  | [], _, _, h => by cases h
  | _ :: _, 0, _, _ => Nat.succ_pos _
  | _ :: _, _ + 1, _, h => Nat.succ_lt_succ (getS_lt h)
theorem setS_len : ∀ (ρ : Fr) (i : Nat) (o : Option O), (setS ρ i o).length = ρ.length
  | [], _, _ => rfl
  | _ :: _, 0, _ => rfl
  | _ :: r, i + 1, o => congrArg Nat.succ (setS_len r i o)
theorem getS_set_some {ρ : Fr} {i j : Nat} {o : Option O} {u : O} (h : getS (setS ρ i o) j = some u) : (j = i ∧ o = some u) ∨ (j ≠ i ∧ getS ρ j = some u) := by
  by_cases e : j = i
  · subst e
    have hl := getS_lt h
    rw [setS_len] at hl
    rw [getS_set_same _ _ _ hl] at h
    exact .inl ⟨rfl, h⟩
  · rw [getS_set_ne _ _ _ _ e] at h
    exact .inr ⟨e, h⟩
theorem getS_append : ∀ (ρ : Fr) (n i : Nat), getS (ρ ++ List.replicate n none) i = getS ρ i
  | [], 0, _ => rfl
  | [], n + 1, 0 => rfl
  | [], n + 1, i + 1 => by
    show getS ([] ++ List.replicate n none) i = none
    exact getS_append [] n i
  | _ :: _, _, 0 => rfl
  | _ :: r, n, i + 1 => getS_append r n i
theorem getS_map_some : ∀ (os : List O) (i : Nat), getS (os.map some) i = os[i]?
  | [], _ => by simp [getS]
  | _ :: _, 0 => rfl
  | _ :: r, i + 1 => by
    show getS (r.map some) i = _
    rw [getS_map_some r i]
    simp

/-! ### more of the heap -/
theorem same_seqT {K : PySem.W.Frag} {H H' : Hp} {a : Addr} {xs : List V} (e : Same H H') (h : SqT K H a xs) : SqT K H' a xs := by
  rcases h with (h | ⟨o, h⟩) | h
  · exact .inl (.inl (e _ _ h))
  · exact .inl (.inr ⟨o, e _ _ h⟩)
  · exact .inr h
theorem SqB.mono {K : PySem.W.Frag} {B : Addr → Prop} {F F' : Hp} {a : Addr} {xs : List V} (e : Same F F') (h : SqB K B F a xs) : SqB K B F' a xs := by
  refine ⟨e.seq h.1, ?_⟩
  rcases h.2 with ⟨h1, h2⟩ | ⟨o, h1⟩ | h1
  · exact .inl ⟨e _ _ h1, h2⟩
  · exact .inr (.inl ⟨o, e _ _ h1⟩)
  · exact .inr (.inr h1)
theorem SqB.old {K : PySem.W.Frag} {B Bn : Addr → Prop} {F : Hp} {a : Addr} {xs : List V} (hb : ∀ a x, F a = some (.lst x) → Bn a) (h : SqB K B F a xs) : SqB K Bn F a xs := by
  refine ⟨h.1, ?_⟩
  rcases h.2 with ⟨h1, h2⟩ | h1
  · exact .inl ⟨h1, hb _ _ h1⟩
  · exact .inr h1
/-- one list is taken out -/
def cutF (F : Hp) (a : Addr) : Hp := fun b => if b = a then none else F b
theorem cutF_ne {F : Hp} {a b : Addr} (h : b ≠ a) : cutF F a b = F b := by
  unfold cutF
  rw [if_neg h]
theorem cutF_some {F : Hp} {a b : Addr} {o : HO} (h : cutF F a b = some o) : b ≠ a ∧ F b = some o := by
  unfold cutF at h
  split at h
  · cases h
  · exact ⟨by assumption, h⟩
theorem SqB.cut {K : PySem.W.Frag} {B : Addr → Prop} {F : Hp} {a q : Addr} {xs us : List V} (hq : F q = some (.lst us)) (nb : ¬ B q) (h : SqB K B F a xs) : SqB K B (cutF F q) a xs := by
  rcases h.2 with ⟨h1, h2⟩ | ⟨o, h1⟩ | h1
  · have e : cutF F q a = F a := cutF_ne fun z => nb (by rw [← z]; exact h2)
    exact ⟨.inl (.inl (e.trans h1)), .inl ⟨e.trans h1, h2⟩⟩
  · have e : cutF F q a = F a := cutF_ne fun z => by
      rw [z, hq] at h1
      cases h1
    exact ⟨.inl (.inr ⟨o, e.trans h1⟩), .inr (.inl ⟨o, e.trans h1⟩)⟩
  · exact ⟨h1 _, .inr (.inr h1)⟩
theorem sqt_cut {K : PySem.W.Frag} {F : Hp} {a q : Addr} {xs us : List V} (hq : F q = some (.lst us)) (h : SqT K F a xs) : SqT K (cutF F q) a xs := by
  rcases h with (h | ⟨o, h⟩) | h
  · exact .inl (.inl ((cutF_ne fun z => by rw [z, hq] at h; cases h).trans h))
  · exact .inl (.inr ⟨o, (cutF_ne fun z => by rw [z, hq] at h; cases h).trans h⟩)
  · exact .inr h
mutual
theorem RD.mono {p : Pm} {B : Addr → Prop} {F F' : Hp} (e : Same F F') : ∀ {v : V} {d : D}, RD p B F v d → RD p B F' v d
  | _, _, .non => .non
  | _, _, .bl b => .bl b
  | _, _, .int i => .int i
  | _, _, .str x => .str x
  | _, _, .tup h r => .tup (same_seqT e h) (RDs.mono e r)
  | _, _, .lst h b r => .lst (e _ _ h) b (RDs.mono e r)
  | _, _, .scr h => .scr (h.mono e)
  | _, _, .obj h n r => .obj (e _ _ h) n (RDs.mono e r)
  | _, _, .opq => .opq
theorem RDs.mono {p : Pm} {B : Addr → Prop} {F F' : Hp} (e : Same F F') : ∀ {vs : List V} {ds : List D}, RDs p B F vs ds → RDs p B F' vs ds
  | _, _, .nil => .nil
  | _, _, .cons h r => .cons (RD.mono e h) (RDs.mono e r)
end
mutual
theorem RD.old {p : Pm} {B Bn : Addr → Prop} {F : Hp} (hb : ∀ a x, F a = some (.lst x) → Bn a) : ∀ {v : V} {d : D}, RD p B F v d → RD p Bn F v (old d)
  | _, _, .non => .non
  | _, _, .bl b => .bl b
  | _, _, .int i => .int i
  | _, _, .str x => .str x
  | _, _, .tup h r => by
    simp only [WD.old]
    exact .tup h (RDs.old hb r)
  | _, _, .lst h b r => by
    simp only [WD.old]
    exact .lst h ⟨fun _ => rfl, fun _ => hb _ _ h⟩ (RDs.old hb r)
  | _, _, .scr h => .scr (h.old hb)
  | _, _, .obj h n r => by
    simp only [WD.old]
    exact .obj h n (RDs.old hb r)
  | _, _, .opq => .opq
theorem RDs.old {p : Pm} {B Bn : Addr → Prop} {F : Hp} (hb : ∀ a x, F a = some (.lst x) → Bn a) : ∀ {vs : List V} {ds : List D}, RDs p B F vs ds → RDs p Bn F vs (olds ds)
  | _, _, .nil => .nil
  | _, _, .cons h r => .cons (RD.old hb h) (RDs.old hb r)
end
mutual
theorem RD.cut {p : Pm} {B : Addr → Prop} {F : Hp} {q : Addr} {us : List V} (hq : F q = some (.lst us)) (nb : ¬ B q) : ∀ {v : V} {d : D}, RD p B F v d → yng d = false → RD p B (cutF F q) v d
  | _, _, .non, _ => .non
  | _, _, .bl b, _ => .bl b
  | _, _, .int i, _ => .int i
  | _, _, .str x, _ => .str x
  | _, _, .tup h r, y => .tup (sqt_cut hq h) (RDs.cut hq nb r (by simpa [yng] using y))
  | _, _, .lst (t := t) h b r, y => by
    rw [yng, Bool.or_eq_false_iff] at y
    exact .lst ((cutF_ne fun z => nb (by rw [← z]; exact b.mpr y.1)).trans h) b (RDs.cut hq nb r y.2)
  | _, _, .scr h, _ => .scr (h.cut hq nb)
  | _, _, .obj h n r, y => .obj ((cutF_ne fun z => by rw [z, hq] at h; cases h).trans h) n (RDs.cut hq nb r (by simpa [yng] using y))
  | _, _, .opq, _ => .opq
theorem RDs.cut {p : Pm} {B : Addr → Prop} {F : Hp} {q : Addr} {us : List V} (hq : F q = some (.lst us)) (nb : ¬ B q) : ∀ {vs : List V} {ds : List D}, RDs p B F vs ds → yngs ds = false → RDs p B (cutF F q) vs ds
  | _, _, .nil, _ => .nil
  | _, _, .cons h r, y => by
    rw [yngs, Bool.or_eq_false_iff] at y
    exact .cons (RD.cut hq nb h y.1) (RDs.cut hq nb r y.2)
end
mutual
theorem RO.cut {p : Pm} {B : Addr → Prop} {F H H' : Hp} {q : Addr} {us : List V} (hq : F q = some (.lst us)) (nb : ¬ B q) : ∀ {v : V} {o : O} {L : List Addr}, RO p B F H v o L → yngO o = false → (∀ a ∈ L, H' a = H a) → RO p B (cutF F q) H' v o L
  | _, _, _, .sh h, y, _ => .sh (h.cut hq nb y)
  | _, _, _, .lst h b r, y, k => .lst ((k _ (List.mem_singleton_self _)).trans h) b (r.cut hq nb y)
  | _, _, _, .obj h n r, y, k => .obj ((k _ List.mem_cons_self).trans h) n (ROs.cut hq nb r y fun a ha => k a (List.mem_cons_of_mem _ ha))
theorem ROs.cut {p : Pm} {B : Addr → Prop} {F H H' : Hp} {q : Addr} {us : List V} (hq : F q = some (.lst us)) (nb : ¬ B q) : ∀ {vs : List V} {os : List O} {L : List Addr}, ROs p B F H vs os L → yngOs os = false → (∀ a ∈ L, H' a = H a) → ROs p B (cutF F q) H' vs os L
  | _, _, _, .nil, _, _ => .nil
  | _, _, _, .cons h r, y, k => by
    rw [yngOs, Bool.or_eq_false_iff] at y
    exact .cons (RO.cut hq nb h y.1 fun a ha => k a (List.mem_append_left _ ha)) (ROs.cut hq nb r y.2 fun a ha => k a (List.mem_append_right _ ha))
end
mutual
theorem RO.mono {p : Pm} {B : Addr → Prop} {F F' H H' : Hp} (e : Same F F') : ∀ {v : V} {o : O} {L : List Addr}, RO p B F H v o L → (∀ a ∈ L, H' a = H a) → RO p B F' H' v o L
  | _, _, _, .sh h, _ => .sh (h.mono e)
  | _, _, _, .lst h b r, k => .lst ((k _ (List.mem_singleton_self _)).trans h) b (r.mono e)
  | _, _, _, .obj h n r, k => .obj ((k _ List.mem_cons_self).trans h) n (ROs.mono e r fun a ha => k a (List.mem_cons_of_mem _ ha))
theorem ROs.mono {p : Pm} {B : Addr → Prop} {F F' H H' : Hp} (e : Same F F') : ∀ {vs : List V} {os : List O} {L : List Addr}, ROs p B F H vs os L → (∀ a ∈ L, H' a = H a) → ROs p B F' H' vs os L
  | _, _, _, .nil, _ => .nil
  | _, _, _, .cons h r, k => .cons (RO.mono e h fun a ha => k a (List.mem_append_left _ ha)) (ROs.mono e r fun a ha => k a (List.mem_append_right _ ha))
end
theorem RO.shI {p : Pm} {B : Addr → Prop} {F H : Hp} {v : V} {d : D} {L : List Addr} (r : RO p B F H v (.sh d) L) : RD p B F v d ∧ L = [] := by
  cases r with
  | sh h => exact ⟨h, rfl⟩
theorem RO.lstI {p : Pm} {B : Addr → Prop} {F H : Hp} {v : V} {t : Bool} {ds : List D} {L : List Addr} (r : RO p B F H v (.lst t ds) L) : ∃ a vs, v = .ref a ∧ L = [a] ∧ H a = some (.lst vs) ∧ (B a ↔ t = false) ∧ RDs p B F vs ds := by
  cases r with
  | lst h b rs => exact ⟨_, _, rfl, rfl, h, b, rs⟩
theorem RO.objI {p : Pm} {B : Addr → Prop} {F H : Hp} {v : V} {C : Nat} {ns : List Str} {os : List O} {L : List Addr} (r : RO p B F H v (.obj C ns os) L) : ∃ a dx fs M, v = .ref a ∧ L = a :: M ∧ H a = some (.ins (p.CA C) dx fs) ∧ fs.map Prod.fst = ns ∧ ROs p B F H (fs.map Prod.snd) os M := by
  cases r with
  | obj h n rs => exact ⟨_, _, _, _, rfl, rfl, h, n, rs⟩
theorem RDs.len {p : Pm} {B : Addr → Prop} {F : Hp} : ∀ {vs : List V} {ds : List D}, RDs p B F vs ds → vs.length = ds.length
  | _, _, .nil => rfl
  | _, _, .cons _ r => congrArg Nat.succ r.len
theorem RDs.app {p : Pm} {B : Addr → Prop} {F : Hp} : ∀ {vs ws : List V} {ds es : List D}, RDs p B F vs ds → RDs p B F ws es → RDs p B F (vs ++ ws) (ds ++ es)
  | _, _, _, _, .nil, s => s
  | _, _, _, _, .cons h r, s => .cons h (RDs.app r s)
theorem RDs.get {p : Pm} {B : Addr → Prop} {F : Hp} : ∀ {vs : List V} {ds : List D} {i : Nat} {d : D}, RDs p B F vs ds → ds[i]? = some d → ∃ v, vs[i]? = some v ∧ RD p B F v d
  | _, _, _, _, .nil, e => by simp at e
  | _, _, 0, _, .cons h _, e => by
    simp at e
    subst e
    exact ⟨_, rfl, h⟩
  | _, _, i + 1, _, .cons _ r, e => by
    obtain ⟨v, e1, h⟩ := RDs.get (i := i) r (by simpa using e)
    exact ⟨v, by simpa using e1, h⟩
theorem RDs.getV {p : Pm} {B : Addr → Prop} {F : Hp} : ∀ {vs : List V} {ds : List D} {i : Nat} {v : V}, RDs p B F vs ds → vs[i]? = some v → ∃ d, ds[i]? = some d ∧ RD p B F v d
  | _, _, _, _, .nil, e => by simp at e
  | _, _, 0, _, .cons h _, e => by
    simp at e
    subst e
    exact ⟨_, rfl, h⟩
  | _, _, i + 1, _, .cons _ r, e => by
    obtain ⟨d, e1, h⟩ := RDs.getV (i := i) r (by simpa using e)
    exact ⟨d, by simpa using e1, h⟩
theorem RDs.take {p : Pm} {B : Addr → Prop} {F : Hp} : ∀ {vs : List V} {ds : List D} (n : Nat), RDs p B F vs ds → RDs p B F (vs.take n) (ds.take n)
  | _, _, 0, _ => .nil
  | _, _, _ + 1, .nil => .nil
  | _, _, n + 1, .cons h r => .cons h (RDs.take n r)
theorem RDs.drop {p : Pm} {B : Addr → Prop} {F : Hp} : ∀ {vs : List V} {ds : List D} (n : Nat), RDs p B F vs ds → RDs p B F (vs.drop n) (ds.drop n)
  | _, _, 0, r => r
  | _, _, _ + 1, .nil => .nil
  | _, _, n + 1, .cons _ r => RDs.drop n r
theorem RDs.set {p : Pm} {B : Addr → Prop} {F : Hp} {v : V} {d : D} (h : RD p B F v d) : ∀ {vs : List V} {ds : List D} (i : Nat), RDs p B F vs ds → RDs p B F (vs.set i v) (ds.set i d)
  | _, _, _, .nil => .nil
  | _, _, 0, .cons _ r => .cons h r
  | _, _, i + 1, .cons q r => .cons q (RDs.set h i r)
theorem RDs.flat {p : Pm} {B : Addr → Prop} {F : Hp} {vs : List V} {ds : List D} (r : RDs p B F vs ds) : ∀ n : Nat, RDs p B F (List.replicate n vs).flatten (List.replicate n ds).flatten
  | 0 => .nil
  | n + 1 => by
    rw [List.replicate_succ, List.replicate_succ, List.flatten_cons, List.flatten_cons]
    exact r.app (RDs.flat r n)
theorem RDs.ints {p : Pm} {B : Addr → Prop} {F : Hp} : ∀ (ns : List Int), RDs p B F (ns.map V.int) (ns.map D.int)
  | [] => .nil
  | n :: r => .cons (.int n) (RDs.ints r)
theorem RDs.ints_of {p : Pm} {B : Addr → Prop} {F : Hp} : ∀ {vs : List V} {ds : List D} {ns : List Int}, RDs p B F vs ds → intsD ds = some ns → vs = ns.map V.int
  | _, _, ns, .nil, e => by
    simp [intsD] at e
    subst e
    rfl
  | _, _, ns, .cons (d := d) (ds := ds) h r, e => by
    cases h with
    | int i =>
      simp only [intsD] at e
      split at e
      · rename_i is e2
        cases e
        rw [RDs.ints_of r e2]
        rfl
      · cases e
    | _ => simp [intsD] at e

/-! ### looking -/
/-- v bears d, shared or a slot's own list -/
def LK (p : Pm) (B : Addr → Prop) (F H : Hp) (v : V) (d : D) : Prop := RD p B F v d ∨ ∃ a vs t ds, v = .ref a ∧ d = .lst t ds ∧ H a = some (.lst vs) ∧ RDs p B F vs ds
/-- an operand's value -/
def RP (p : Pm) (B : Addr → Prop) (F : Hp) (σ : L2.St) (v : V) : Pd → Prop
  | .val d => RD p B F v d
  | .at i => σ[i]? = some (some v)
theorem RP.mono {p : Pm} {B : Addr → Prop} {F F' : Hp} {σ : L2.St} {v : V} (e : Same F F') : ∀ {d : Pd}, RP p B F σ v d → RP p B F' σ v d
  | .val _, h => RD.mono e h
  | .at _, h => h
inductive RPs (p : Pm) (B : Addr → Prop) (F : Hp) (σ : L2.St) : List V → List Pd → Prop
  | nil : RPs p B F σ [] []
  | cons {v : V} {vs : List V} {d : Pd} {ds : List Pd} : RP p B F σ v d → RPs p B F σ vs ds → RPs p B F σ (v :: vs) (d :: ds)
theorem RPs.mono {p : Pm} {B : Addr → Prop} {F F' : Hp} {σ : L2.St} (e : Same F F') : ∀ {vs : List V} {ds : List Pd}, RPs p B F σ vs ds → RPs p B F' σ vs ds
  | _, _, .nil => .nil
  | _, _, .cons h r => .cons (h.mono e) (RPs.mono e r)
section
variable {p : Pm} {B : Addr → Prop} {F G H : Hp} {σ : L2.St} {ρ : Fr} {A : Fp}
theorem Rel.look (R : Rel p B F G H σ ρ A) {x : Pd} {v : V} {d : D} (r : RP p B F σ v x) (e : look ρ x = some d) : LK p B F H v d := by
  cases x with
  | val d' =>
    cases e
    exact .inl r
  | «at» i =>
    simp only [WD.look] at e
    split at e
    · rename_i t ds hg
      cases e
      obtain ⟨v', e1, ro⟩ := R.sl i _ hg
      rw [show σ[i]? = some (some v) from r] at e1
      cases e1
      obtain ⟨a, vs, rfl, _, h, _, rs⟩ := ro.lstI
      exact .inr ⟨_, _, _, _, rfl, rfl, h, rs⟩
    · rename_i d' hg
      cases e
      obtain ⟨v', e1, ro⟩ := R.sl i _ hg
      rw [show σ[i]? = some (some v) from r] at e1
      cases e1
      exact .inl ro.shI.1
    · cases e
theorem LK.lst {v : V} {t : Bool} {ds : List D} (le : Same F H) (h : LK p B F H v (.lst t ds)) : ∃ a vs, v = .ref a ∧ H a = some (.lst vs) ∧ RDs p B F vs ds := by
  rcases h with h | ⟨a, vs, t', ds', rfl, e, h, r⟩
  · cases h with
    | lst h _ r => exact ⟨_, _, rfl, le _ _ h, r⟩
  · cases e
    exact ⟨a, vs, rfl, h, r⟩
theorem LK.tup {v : V} {ds : List D} (le : Same F H) (h : LK p B F H v (.tup ds)) : ∃ a vs, v = .ref a ∧ SqT p.K H a vs ∧ RDs p B F vs ds ∧ RD p B F v (.tup ds) := by
  rcases h with h | ⟨a, vs, t', ds', rfl, e, h, r⟩
  · cases h with
    | tup h r => exact ⟨_, _, rfl, same_seqT le h, r, .tup h r⟩
  · cases e
theorem LK.scr {v : V} {ns : List Int} (le : Same F H) (h : LK p B F H v (.scr ns)) : ∃ a, v = .ref a ∧ SqL p.K H a (ns.map V.int) := by
  rcases h with h | ⟨a, vs, t', ds', rfl, e, h, r⟩
  · cases h with
    | scr h => exact ⟨_, rfl, le.seq h.1⟩
  · cases e
theorem LK.sh {v : V} {d : D} (h : LK p B F H v d) (n : ∀ t ds, d ≠ .lst t ds) : RD p B F v d := by
  rcases h with h | ⟨a, vs, t', ds', rfl, e, h, r⟩
  · exact h
  · exact absurd e (n _ _)

/-! ### new objects -/
theorem same_new {H : Hp} {q : Addr} {o : HO} (h : H q = none) : Same H (upd H q o) := fun b x e => by
  rw [upd_ne (ne_of_none e h)]
  exact e
theorem Rel.free (R : Rel p B F G H σ ρ A) {q : Addr} (h : H q = none) : F q = none ∧ G q = none ∧ ∀ i, q ∉ A i :=
  ⟨R.le.free h, R.lg.free h, fun i z => by
    obtain ⟨_, _, o, e, _⟩ := R.own i q z
    rw [h] at e
    cases e⟩
/-- the heap has grown by an object that is nobody's -/
theorem Rel.grow (R : Rel p B F G H σ ρ A) {q : Addr} {u : HO} (h : H q = none) : Rel p B F G (upd H q u) σ ρ A := by
  obtain ⟨hF, hG, hA⟩ := R.free h
  have k : ∀ b, b ≠ q → upd H q u b = H b := fun b e => upd_ne e
  refine ⟨R.le.trans (same_new h), R.lg.new h, R.fg, fun b hb => (R.bd b hb).new h, R.len, fun i o e => ?_, R.nd, R.dj, fun i a ha => ?_⟩
  · obtain ⟨v, e1, r⟩ := R.sl i o e
    exact ⟨v, e1, r.mono (Same.refl _) fun a ha => k a fun z => hA i (by rw [← z]; exact ha)⟩
  · obtain ⟨h1, h2, h3⟩ := R.own i a ha
    exact ⟨h1, h2, h3.new h⟩
/-- what is shared has grown: by objects that are no slot's and no other's -/
theorem Rel.more {F' : Hp} (R : Rel p B F G H σ ρ A) (e : Same F F') (le : Same F' H) (fg : ∀ b o, F' b = some o → G b = none ∧ NT o) (ow : ∀ i a, a ∈ A i → F' a = none) : Rel p B F' G H σ ρ A :=
  ⟨le, R.lg, fg, R.bd, R.len, fun i o q => let ⟨v, e1, r⟩ := R.sl i o q; ⟨v, e1, r.mono e fun _ _ => rfl⟩, R.nd, R.dj, fun i a ha => ⟨ow i a ha, (R.own i a ha).2⟩⟩
theorem Rel.newT (R : Rel p B F G H σ ρ A) {q : Addr} {vs : List V} {ds : List D} (h : H q = none) (r : RDs p B F vs ds) :
    Same F (upd F q (.tup vs)) ∧ Rel p B (upd F q (.tup vs)) G (upd H q (.tup vs)) σ ρ A ∧ RD p B (upd F q (.tup vs)) (.ref q) (.tup ds) := by
  obtain ⟨hF, hG, hA⟩ := R.free h
  have e : Same F (upd F q (.tup vs)) := same_new hF
  refine ⟨e, (R.grow h).more e (fun b x hb => ?_) (fun b x hb => ?_) (fun i a ha => ?_), .tup (.inl (.inl upd_same)) (r.mono e)⟩
  · by_cases z : b = q
    · subst z
      rw [upd_same] at hb
      rw [upd_same]
      exact hb
    · rw [upd_ne z] at hb
      rw [upd_ne z]
      exact R.le b x hb
  · by_cases z : b = q
    · subst z
      rw [upd_same] at hb
      cases hb
      exact ⟨hG, nt_tup _⟩
    · rw [upd_ne z] at hb
      exact R.fg b x hb
  · rw [upd_ne fun z => hA i (by rw [← z]; exact ha)]
    exact (R.own i a ha).1
theorem Rel.newL (R : Rel p B F G H σ ρ A) {q : Addr} {vs : List V} {ds : List D} (h : H q = none) (r : RDs p B F vs ds) :
    Rel p B F G (upd H q (.lst vs)) σ ρ A ∧ RO p B F (upd H q (.lst vs)) (.ref q) (.lst true ds) [q] ∧ Own F G (upd H q (.lst vs)) A [q] := by
  obtain ⟨hF, hG, hA⟩ := R.free h
  refine ⟨R.grow h, .lst upd_same ⟨fun hb => ?_, fun z => by cases z⟩ r, ⟨by simp, fun a ha => ?_, fun a ha i => ?_⟩⟩
  · obtain ⟨o, e, _⟩ := R.bd q hb
    rw [h] at e
    cases e
  · rw [List.mem_singleton.mp ha]
    exact ⟨hF, hG, _, upd_same, nt_lst _⟩
  · rw [List.mem_singleton.mp ha]
    exact hA i
/-- nobody's thing is shared -/
def joined (F H : Hp) (L : List Addr) : Hp := fun b => if b ∈ L then H b else F b
theorem joined_same {F H : Hp} {L : List Addr} (h : ∀ a ∈ L, F a = none) : Same F (joined F H L) := fun b x e => by
  have : b ∉ L := fun z => by
    rw [h b z] at e
    cases e
  unfold joined
  rw [if_neg this]
  exact e
theorem Rel.join (R : Rel p B F G H σ ρ A) {L : List Addr} (o : Own F G H A L) : Same F (joined F H L) ∧ Rel p B (joined F H L) G H σ ρ A := by
  have e : Same F (joined F H L) := joined_same fun a ha => (o.own a ha).1
  refine ⟨e, R.more e (fun b x hb => ?_) (fun b x hb => ?_) (fun i a ha => ?_)⟩
  · unfold joined at hb
    split at hb
    · exact hb
    · exact R.le b x hb
  · unfold joined at hb
    split at hb
    · rename_i hm
      obtain ⟨_, h2, y, h3, h4⟩ := o.own b hm
      rw [h3] at hb
      cases hb
      exact ⟨h2, h4⟩
    · exact R.fg b x hb
  · unfold joined
    rw [if_neg fun hm => o.ap a hm i ha]
    exact (R.own i a ha).1
theorem Lg.lend {p : Pm} {F G H : Hp} {A : Fp} {L : List Addr} (l : Lg p G H) (ow : Own F G H A L) : Lg p (joined G H L) H := by
  refine ⟨fun b x e n => ?_, l.tabs, fun q hq => ?_⟩
  · unfold joined at e
    split at e
    · rename_i hm
      obtain ⟨_, _, y, h3, h4⟩ := ow.own b hm
      rw [h3] at e
      cases e
      exact ⟨h3, h4⟩
    · exact l.same b x e n
  · obtain ⟨o, e⟩ := l.there q hq
    refine ⟨o, ?_⟩
    unfold joined
    rw [if_neg]
    · exact e
    · intro hm
      rw [(ow.own _ hm).2.1] at e
      cases e
theorem Lg.back {p : Pm} {F G H H' : Hp} {A : Fp} {L : List Addr} (l0 : Lg p G H) (l : Lg p (joined G H L) H') (ow : Own F G H A L) : Lg p G H' := by
  refine ⟨fun b x e n => ?_, l.tabs, l0.there⟩
  by_cases hm : b ∈ L
  · rw [(ow.own b hm).2.1] at e
    cases e
  · exact l.same b x (by unfold joined; rw [if_neg hm]; exact e) n
mutual
theorem RO.frz {p : Pm} {B : Addr → Prop} {F F' H : Hp} (e : Same F F') : ∀ {v : V} {o : O} {L : List Addr} {d : D}, RO p B F H v o L → (∀ a ∈ L, F' a = H a) → WD.frz o = some d → RD p B F' v d
  | _, _, _, _, .sh h, _, q => by
    cases q
    exact h.mono e
  | _, _, _, _, .lst h b r, k, q => by
    cases q
    exact .lst ((k _ (List.mem_singleton_self _)).trans h) b (r.mono e)
  | _, _, _, _, .obj (os := os) h n r, k, q => by
    simp only [WD.frz] at q
    split at q
    · rename_i ds e2
      cases q
      exact .obj ((k _ List.mem_cons_self).trans h) n (ROs.frz e r (fun a ha => k a (List.mem_cons_of_mem _ ha)) e2)
    · cases q
theorem ROs.frz {p : Pm} {B : Addr → Prop} {F F' H : Hp} (e : Same F F') : ∀ {vs : List V} {os : List O} {L : List Addr} {ds : List D}, ROs p B F H vs os L → (∀ a ∈ L, F' a = H a) → WD.frzs os = some ds → RDs p B F' vs ds
  | _, _, _, _, .nil, _, q => by
    cases q
    exact .nil
  | _, _, _, _, .cons h r, k, q => by
    simp only [WD.frzs] at q
    split at q
    · rename_i d ds e1 e2
      cases q
      exact .cons (RO.frz e h (fun a ha => k a (List.mem_append_left _ ha)) e1) (ROs.frz e r (fun a ha => k a (List.mem_append_right _ ha)) e2)
    · cases q
end
/-- a new thing is shared -/
theorem Rel.share (R : Rel p B F G H σ ρ A) {v : V} {o : O} {L : List Addr} {d : D} (r : RO p B F H v o L) (ow : Own F G H A L) (e : WD.frz o = some d) :
    ∃ F', Same F F' ∧ Rel p B F' G H σ ρ A ∧ RD p B F' v d :=
  let ⟨e1, R1⟩ := R.join ow
  ⟨_, e1, R1, r.frz e1 (fun a ha => by unfold joined; rw [if_pos ha]) e⟩
/-- a slot's thing is taken out -/
theorem Rel.take (R : Rel p B F G H σ ρ A) {i : Nat} {o : O} (e : getS ρ i = some o) : ∃ v, σ[i]? = some (some v) ∧ RO p B F H v o (A i) ∧
    Rel p B F G H σ (setS ρ i none) (fun j => if j = i then [] else A j) ∧ Own F G H (fun j => if j = i then [] else A j) (A i) := by
  obtain ⟨v, e1, r⟩ := R.sl i o e
  refine ⟨v, e1, r, ⟨R.le, R.lg, R.fg, R.bd, by rw [setS_len]; exact R.len, fun j u q => ?_, fun j => ?_, fun j k a h1 h2 => ?_, fun j a h1 => ?_⟩, ⟨R.nd i, fun a ha => R.own i a ha, fun a ha j hj => ?_⟩⟩
  · rcases getS_set_some q with ⟨_, z⟩ | ⟨ne, q⟩
    · cases z
    · obtain ⟨v', e2, r2⟩ := R.sl j u q
      refine ⟨v', e2, ?_⟩
      show RO p B F H v' u (if j = i then [] else A j)
      rw [if_neg ne]
      exact r2
  · show (if j = i then [] else A j : List Addr).Nodup
    split
    · exact List.nodup_nil
    · exact R.nd j
  · have h1' : a ∈ (if j = i then [] else A j : List Addr) := h1
    have h2' : a ∈ (if k = i then [] else A k : List Addr) := h2
    split at h1'
    · cases h1'
    · split at h2'
      · cases h2'
      · exact R.dj j k a h1' h2'
  · have h1' : a ∈ (if j = i then [] else A j : List Addr) := h1
    split at h1'
    · cases h1'
    · exact R.own j a h1'
  · have hj' : a ∈ (if j = i then [] else A j : List Addr) := hj
    split at hj'
    · cases hj'
    · rename_i ne
      exact ne (R.dj j i a hj' ha)
/-- a slot gets a thing -/
theorem Rel.put (R : Rel p B F G H σ ρ A) {i : Nat} {v : V} {o : O} {L : List Addr} (r : RO p B F H v o L) (ow : Own F G H (fun j => if j = i then [] else A j) L) (hi : i < ρ.length) :
    Rel p B F G H (σ.set i (some v)) (setS ρ i (some o)) (fun j => if j = i then L else A j) := by
  refine ⟨R.le, R.lg, R.fg, R.bd, by rw [setS_len, List.length_set]; exact R.len, fun j u q => ?_, fun j => ?_, fun j k a h1 h2 => ?_, fun j a h1 => ?_⟩
  · rcases getS_set_some q with ⟨rfl, z⟩ | ⟨ne, q⟩
    · cases z
      refine ⟨v, by rw [List.getElem?_set_self (by rw [R.len]; exact hi)], ?_⟩
      show RO p B F H v o (if j = j then L else A j)
      rw [if_pos rfl]
      exact r
    · obtain ⟨v', e2, r2⟩ := R.sl j u q
      refine ⟨v', by rw [List.getElem?_set_ne (Ne.symm ne)]; exact e2, ?_⟩
      show RO p B F H v' u (if j = i then L else A j)
      rw [if_neg ne]
      exact r2
  · show (if j = i then L else A j : List Addr).Nodup
    split
    · exact ow.nd
    · exact R.nd j
  · have h1' : a ∈ (if j = i then L else A j : List Addr) := h1
    have h2' : a ∈ (if k = i then L else A k : List Addr) := h2
    split at h1'
    · rename_i ej
      split at h2'
      · rename_i ek
        rw [ej, ek]
      · rename_i nk
        refine absurd ?_ (ow.ap a h1' k)
        show a ∈ (if k = i then [] else A k : List Addr)
        rw [if_neg nk]
        exact h2'
    · rename_i nj
      split at h2'
      · refine absurd ?_ (ow.ap a h2' j)
        show a ∈ (if j = i then [] else A j : List Addr)
        rw [if_neg nj]
        exact h1'
      · exact R.dj j k a h1' h2'
  · have h1' : a ∈ (if j = i then L else A j : List Addr) := h1
    split at h1'
    · exact ow.own a h1'
    · exact R.own j a h1'
/-- the same value again -/
theorem set_same {σ : L2.St} {i : Nat} {v : V} (e : σ[i]? = some (some v)) : σ.set i (some v) = σ := by
  obtain ⟨h, e⟩ := List.getElem?_eq_some_iff.mp e
  rw [← e, List.set_getElem_self]
theorem Own.nil {F G H : Hp} {A : Fp} : Own F G H A [] := ⟨List.nodup_nil, fun a h => absurd h List.not_mem_nil, fun a h => absurd h List.not_mem_nil⟩
/-- a slot's thing is shared from now on -/
theorem Rel.frzAt (R : Rel p B F G H σ ρ A) {i : Nat} {d : D} {ρ' : Fr} (e : WD.frzAt ρ i = some (d, ρ')) : ∃ v F' A', σ[i]? = some (some v) ∧ Same F F' ∧ Rel p B F' G H σ ρ' A' ∧ RD p B F' v d ∧ (∀ j a, a ∈ A' j → a ∈ A j) := by
  unfold WD.frzAt at e
  split at e
  · rename_i o hg
    split at e
    · rename_i d' hf
      cases e
      obtain ⟨v, e1, r, R1, ow⟩ := R.take hg
      obtain ⟨F', e2, R2, rd⟩ := R1.share r ow hf
      have R3 := R2.put (i := i) (v := v) (RO.sh rd) Own.nil (by rw [setS_len]; exact getS_lt hg)
      rw [set_same e1] at R3
      have e3 : setS (setS ρ i none) i (some (.sh d)) = setS ρ i (some (.sh d)) := by
        have : ∀ (ρ : Fr) (i : Nat) (x y : Option O), setS (setS ρ i x) i y = setS ρ i y := by
          intro ρ
          induction ρ with
          | nil => intros; rfl
          | cons a r ih =>
            intro i x y
            cases i with
            | zero => rfl
            | succ i => exact congrArg (a :: ·) (ih i x y)
        exact this _ _ _ _
      rw [e3] at R3
      refine ⟨v, F', _, e1, e2, R3, rd, fun j a ha => ?_⟩
      have ha' : a ∈ (if j = i then [] else if j = i then [] else A j : List Addr) := ha
      split at ha'
      · cases ha'
      · exact ha'
    · cases e
  · cases e
theorem setS_setS : ∀ (ρ : Fr) (i : Nat) (x y : Option O), setS (setS ρ i x) i y = setS ρ i y
  | [], _, _, _ => rfl
  | _ :: _, 0, _, _ => rfl
  | a :: r, i + 1, x, y => congrArg (a :: ·) (setS_setS r i x y)
end
end WD

/-! WD, part 3: the operators by values. -/
namespace WD
open PySem PySem.Spec PyProof.Rows L2

theorem big_le {n : Nat} (h : n ≤ big) : n ≤ sizeLine := by
  rw [sizeLine_eq]
  have : big = 10000000 := rfl
  omega
theorem big_lt {n : Nat} (h : n < big) : n < sizeLine := by
  rw [sizeLine_eq]
  have : big = 10000000 := rfl
  omega
section
variable {p : Pm} {B : Addr → Prop} {F G H : Hp} {σ : L2.St} {ρ : Fr} {A : Fp}
theorem LK.intI {v : V} {i : Int} (h : LK p B F H v (.int i)) : v = .int i := by
  have h := h.sh (by intros; simp)
  cases h
  rfl
theorem LK.blI {v : V} {i : Bool} (h : LK p B F H v (.bl i)) : v = .bl i := by
  have h := h.sh (by intros; simp)
  cases h
  rfl
/-- an answer is taken: data at once, a new tuple, a new list -/
def Acc (p : Pm) (B : Addr → Prop) (F H : Hp) (Q : VK) : O → Prop
  | .sh d => (∀ v, RD p B F v d → Q v H) ∧ ∀ ds, d = .tup ds → ∀ q vs, H q = none → RDs p B F vs ds → Q (.ref q) (upd H q (.tup vs))
  | .lst true ds => ∀ q vs, H q = none → RDs p B F vs ds → Q (.ref q) (upd H q (.lst vs))
  | _ => True
theorem Rel.acc (R : Rel p B F G H σ ρ A) {o : O} {Q : VK} (h : ∀ F' H' A', Same F F' → Rel p B F' G H' σ ρ A' → ∀ v L, RO p B F' H' v o L → Own F' G H' A' L → Q v H') : Acc p B F H Q o := by
  cases o with
  | sh d =>
    refine ⟨fun v r => h F H A (Same.refl _) R v [] (.sh r) Own.nil, ?_⟩
    rintro ds rfl q vs hq r
    obtain ⟨e, R1, rd⟩ := R.newT hq r
    exact h _ _ _ e R1 _ [] (.sh rd) Own.nil
  | lst t ds =>
    cases t with
    | false => trivial
    | true =>
      intro q vs hq r
      obtain ⟨R1, ro, ow⟩ := R.newL hq r
      exact h _ _ _ (Same.refl _) R1 _ _ ro ow
  | dic _ _ => trivial
  | obj _ _ _ => trivial

def opB : Bop → Operator
  | .add => .Add
  | .sub => .Sub
  | .mul => .Mult
  | .fdiv => .FloorDiv
  | .mod => .Mod
  | .pow => .Pow
def opC : Cop → CmpOp
  | .eq => .Eq
  | .ne => .NotEq
  | .lt => .Lt
  | .le => .LtE
  | .gt => .Gt
  | .ge => .GtE
  | .is => .Is
  | .isn => .IsNot
  | .in => .In
  | .nin => .NotIn
def rBin (p : Pm) (op : Bop) : R2 := fun x y H Q => ∃ B F d e o, Same F H ∧ LK p B F H x d ∧ LK p B F H y e ∧ binD op d e = some o ∧ Acc p B F H Q o
theorem bin_ok {X : Cx} (hK : X.K = p.K) (op : Bop) : OpR X (binaryOp (opB op)) (rBin p op) := by
  intro pins s σ H x y v u Q I rx ry h
  obtain ⟨B, F, d, e, o, le, l1, l2, eb, ac⟩ := h
  unfold binD at eb
  split at eb
  · cases eb
    rw [l1.intI] at rx
    rw [l2.intI] at ry
    exact op_add pins s σ H _ _ v u Q I rx ry ⟨_, _, rfl, rfl, ac.1 _ (.int _)⟩
  · rename_i xs t' ys
    split at eb
    · rename_i hz
      cases eb
      obtain ⟨a, vs, rfl, ha, r1⟩ := l1.lst le
      obtain ⟨b, ws, rfl, hb, r2⟩ := l2.lst le
      exact op_cat pins s σ H _ _ v u Q I rx ry ⟨a, b, vs, ws, rfl, rfl, ha, hb, by rw [r1.len, r2.len]; exact big_le hz, fun q hq => ac q _ hq (r1.app r2)⟩
    · cases eb
  · rename_i xs ys
    split at eb
    · rename_i hz
      cases eb
      obtain ⟨a, vs, rfl, ha, r1, d1⟩ := l1.tup le
      obtain ⟨b, ws, rfl, hb, r2, d2⟩ := l2.tup le
      rw [← hK] at ha hb
      refine op_catA pins s σ H _ _ v u Q I rx ry ⟨a, b, vs, ws, rfl, rfl, ha, hb, by rw [r1.len, r2.len]; exact big_le hz, fun e => ?_, fun _ e => ?_, fun _ _ q hq => ac.2 _ rfl q _ hq (r1.app r2)⟩
      · subst e
        cases r1
        exact ac.1 _ d2
      · subst e
        cases r2
        rw [List.append_nil] at ac
        exact ac.1 _ d1
    · cases eb
  · cases eb
    rw [l1.intI] at rx
    rw [l2.intI] at ry
    exact op_sub pins s σ H _ _ v u Q I rx ry ⟨_, _, rfl, rfl, ac.1 _ (.int _)⟩
  · rename_i i j
    split at eb
    · rename_i hz
      cases eb
      rw [l1.intI] at rx
      rw [l2.intI] at ry
      refine op_mul pins s σ H _ _ v u Q I rx ry ⟨i, j, rfl, rfl, ?_, ac.1 _ (.int _)⟩
      simp only [lt64, Bool.or_eq_true, Bool.and_eq_true, decide_eq_true_eq] at hz
      exact hz
    · cases eb
  · rename_i xs k
    split at eb
    · rename_i hz
      cases eb
      simp only [Bool.and_eq_true, decide_eq_true_eq] at hz
      obtain ⟨a, vs, rfl, ha, r1⟩ := l1.lst le
      rw [l2.intI] at ry
      refine op_rep pins s σ H _ _ v u Q I rx ry ⟨a, k, vs, rfl, rfl, ha, by omega, by omega, by rw [r1.len]; exact big_le hz.2, fun q hq => ac q _ hq (r1.flat _)⟩
    · cases eb
  · rename_i i j
    split at eb
    · rename_i hz
      cases eb
      rw [l1.intI] at rx
      rw [l2.intI] at ry
      refine op_fdivW pins s σ H _ _ v u Q I rx ry ⟨i, j, rfl, rfl, wide_div (b := 200) hz.1 ?_ (by decide) (by decide), ac.1 _ (.int _)⟩
      have := hz.2
      omega
    · cases eb
  · rename_i i j
    split at eb
    · rename_i hz
      cases eb
      rw [l1.intI] at rx
      rw [l2.intI] at ry
      exact op_mod pins s σ H _ _ v u Q I rx ry ⟨i, j, rfl, rfl, hz, ac.1 _ (.int _)⟩
    · cases eb
  · rename_i i j
    split at eb
    · rename_i hz
      cases eb
      rw [l1.intI] at rx
      rw [l2.intI] at ry
      exact op_pow pins s σ H _ _ v u Q I rx ry ⟨i, j, rfl, rfl, ⟨hz.1, by omega, by omega⟩, ac.1 _ (.int _)⟩
    · cases eb
  · cases eb

/-! ### == -/
mutual
theorem RD.dp : ∀ {v : V} {d : D}, RD p B H v d → (py d).plain = true → Dp p.K H v (py d)
  | _, _, .non, _ => .non
  | _, _, .bl b, _ => .bl b
  | _, _, .int i, _ => .int i
  | _, _, .str x, _ => .str x
  | _, _, .tup h r, q => .tup h (RDs.dp r (by simpa [py, PyData.plain] using q))
  | _, _, .lst h _ r, q => .lst (.inl (.inl h)) (RDs.dp r (by simpa [py, PyData.plain] using q))
  | _, _, .scr (ns := ns) h, _ => .lst h.1 (by
      have : ∀ ns : List Int, DpAll p.K H (ns.map V.int) (ns.map PyData.int) := by
        intro ns
        induction ns with
        | nil => exact .nil
        | cons n r ih => exact .cons (.int n) ih
      exact this ns)
  | _, _, .obj _ _ _, q => by simp [py, PyData.plain] at q
theorem RDs.dp : ∀ {vs : List V} {ds : List D}, RDs p B H vs ds → PyData.plainAll (pys ds) = true → DpAll p.K H vs (pys ds)
  | _, _, .nil, _ => .nil
  | _, _, .cons h r, q => by
    simp only [pys, PyData.plainAll, Bool.and_eq_true] at q
    exact .cons (RD.dp h q.1) (RDs.dp r q.2)
end
theorem LK.dp (le : Same F H) {v : V} {d : D} (h : LK p B F H v d) (q : (py d).plain = true) : Dp p.K H v (py d) := by
  rcases h with h | ⟨a, vs, t, ds, rfl, rfl, h, r⟩
  · exact (h.mono le).dp q
  · exact .lst (.inl (.inl h)) ((r.mono le).dp (by simpa [py, PyData.plain] using q))
theorem flat_V {v : V} {d : D} (h : RD p B F v d) (q : flatD d = true) : v = toV d ∧ flatV v = true := by
  cases h with
  | non => exact ⟨rfl, rfl⟩
  | bl b => exact ⟨rfl, rfl⟩
  | int b => exact ⟨rfl, rfl⟩
  | str b => exact ⟨rfl, rfl⟩
  | _ => cases q
theorem flat_Vs : ∀ {vs : List V} {ds : List D}, RDs p B F vs ds → ds.all flatD = true → vs = ds.map toV ∧ vs.all flatV = true
  | _, _, .nil, _ => ⟨rfl, rfl⟩
  | _, _, .cons h r, q => by
    rw [List.all_cons, Bool.and_eq_true] at q
    obtain ⟨e1, f1⟩ := flat_V h q.1
    obtain ⟨e2, f2⟩ := flat_Vs r q.2
    exact ⟨by rw [List.map_cons, ← e1, ← e2], by rw [List.all_cons, f1, f2]; rfl⟩
def rCmp (p : Pm) (op : Cop) : R2 := fun x y H Q => ∃ B F d e k, Same F H ∧ LK p B F H x d ∧ LK p B F H y e ∧ cmpD op d e = some k ∧ Q (.bl k) H
theorem eq_parts {a b : D} {k : Bool} (h : eqD a b = some k) : (py a).plain = true ∧ (py b).plain = true ∧ min (py a).depth (py b).depth ≤ 32 ∧ k = PyData.eqv (py a) (py b) := by
  unfold eqD at h
  split at h
  · rename_i q
    cases h
    simp only [Bool.and_eq_true, decide_eq_true_eq] at q
    exact ⟨q.1.1, q.1.2, q.2, rfl⟩
  · cases h
theorem in_parts {a : D} {xs : List D} {k : Bool} (h : inD a xs = some k) : flatD a = true ∧ xs.all flatD = true ∧ k = inV (toV a) (xs.map toV) := by
  unfold inD at h
  split at h
  · rename_i q
    cases h
    rw [Bool.and_eq_true] at q
    exact ⟨q.1, q.2, rfl⟩
  · cases h
theorem flat_not_lst {a : D} (h : flatD a = true) : ∀ t ds, a ≠ .lst t ds := by
  intro t ds e
  subst e
  cases h
theorem non_iff {v : V} {d : D} (h : LK p B F H v d) : decide (v = .non) = isNon d := by
  rcases h with h | ⟨a, vs, t, ds, rfl, rfl, h, r⟩
  · cases h <;> rfl
  · rfl
theorem cmp_ok {X : Cx} (hK : X.K = p.K) (hu : X.A.units + 64 < cLine) (op : Cop) : OpR X (compareOp (opC op)) (rCmp p op) := by
  intro pins s σ H x y v u Q I rx ry h
  obtain ⟨B, F, d, e, k, le, l1, l2, eb, q⟩ := h
  have feq : ∀ {k : Bool}, eqD d e = some k → ∃ as bs, Reads s.heap v (py d) as ∧ Reads s.heap u (py e) bs ∧ (py d).plain = true ∧ (py e).plain = true ∧ X.A.units + min (py d).depth (py e).depth < cLine ∧ k = PyData.eqv (py d) (py e) := fun h => by
    obtain ⟨p1, p2, p3, p4⟩ := eq_parts h
    obtain ⟨as, r1⟩ := Dp.reads I (py d) x v (by rw [hK]; exact l1.dp le p1) rx
    obtain ⟨bs, r2⟩ := Dp.reads I (py e) y u (by rw [hK]; exact l2.dp le p2) ry
    exact ⟨as, bs, r1, r2, p1, p2, by omega, p4⟩
  have fin : ∀ {xs : List D} {k : Bool} {a : Addr} {vs : List V}, inD d xs = some k → RDs p B F vs xs → x = toV d ∧ flatV x = true ∧ vs.all flatV = true ∧ k = inV x vs := fun h r => by
    obtain ⟨f1, f2, f3⟩ := in_parts h
    obtain ⟨e1, e2⟩ := flat_V (l1.sh (flat_not_lst f1)) f1
    obtain ⟨e3, e4⟩ := flat_Vs r f2
    exact ⟨e1, e2, e4, by rw [f3, e3, e1]⟩
  unfold cmpD at eb
  split at eb
  · obtain ⟨as, bs, r1, r2, p1, p2, p3, p4⟩ := feq eb
    exact PySem.SeqAt.eq_plain r1 r2 p1 p2 p3 ⟨.bl _, H, I, rfl, by rw [← p4]; exact q⟩
  · cases e1 : eqD d e with
    | none =>
      rw [e1] at eb
      cases eb
    | some k' =>
      rw [e1] at eb
      cases eb
      obtain ⟨as, bs, r1, r2, p1, p2, p3, p4⟩ := feq e1
      exact PySem.SeqAt.ne_plain r1 r2 p1 p2 p3 ⟨.bl _, H, I, rfl, by rw [← p4]; exact q⟩
  · cases eb
    rw [l1.intI] at rx
    rw [l2.intI] at ry
    exact op_lt pins s σ H _ _ v u Q I rx ry ⟨_, _, rfl, rfl, q⟩
  · cases eb
    rw [l1.intI] at rx
    rw [l2.intI] at ry
    exact op_le pins s σ H _ _ v u Q I rx ry ⟨_, _, rfl, rfl, q⟩
  · cases eb
    rw [l1.intI] at rx
    rw [l2.intI] at ry
    exact op_gt pins s σ H _ _ v u Q I rx ry ⟨_, _, rfl, rfl, q⟩
  · cases eb
    rw [l1.intI] at rx
    rw [l2.intI] at ry
    exact op_ge pins s σ H _ _ v u Q I rx ry ⟨_, _, rfl, rfl, q⟩
  · cases eb
    have hy : y = .non := by
      have h := l2.sh (by intros; simp)
      cases h
      rfl
    refine op_isN pins s σ H x y v u Q I rx ry ⟨hy, ?_⟩
    rw [non_iff l1]
    exact q
  · cases eb
    have hy : y = .non := by
      have h := l2.sh (by intros; simp)
      cases h
      rfl
    refine op_notN pins s σ H x y v u Q I rx ry ⟨hy, ?_⟩
    rw [non_iff l1]
    exact q
  · obtain ⟨a, vs, rfl, ha, r1⟩ := l2.lst le
    obtain ⟨_, f1, f2, f3⟩ := fin (a := a) eb r1
    exact op_in_seq pins s σ H _ _ v u Q I rx ry ⟨a, vs, rfl, .inl (.inl (.inl ha)), f1, f2, by rw [f3] at q; exact q⟩
  · obtain ⟨a, vs, rfl, ha, r1, _⟩ := l2.tup le
    obtain ⟨_, f1, f2, f3⟩ := fin (a := a) eb r1
    exact op_in_seq pins s σ H _ _ v u Q I rx ry ⟨a, vs, rfl, .inr (by rw [hK]; exact ha), f1, f2, by rw [f3] at q; exact q⟩
  · rename_i t xs
    cases e1 : inD d xs with
    | none =>
      rw [e1] at eb
      cases eb
    | some k' =>
      rw [e1] at eb
      cases eb
      obtain ⟨a, vs, rfl, ha, r1⟩ := l2.lst le
      obtain ⟨_, f1, f2, f3⟩ := fin (a := a) e1 r1
      exact op_notIn_seq pins s σ H _ _ v u Q I rx ry ⟨a, vs, rfl, .inl (.inl (.inl ha)), f1, f2, by rw [f3] at q; exact q⟩
  · rename_i xs
    cases e1 : inD d xs with
    | none =>
      rw [e1] at eb
      cases eb
    | some k' =>
      rw [e1] at eb
      cases eb
      obtain ⟨a, vs, rfl, ha, r1, _⟩ := l2.tup le
      obtain ⟨_, f1, f2, f3⟩ := fin (a := a) e1 r1
      exact op_notIn_seq pins s σ H _ _ v u Q I rx ry ⟨a, vs, rfl, .inr (by rw [hK]; exact ha), f1, f2, by rw [f3] at q; exact q⟩
  · cases eb

/-! ### xs[i], xs[a:b] -/
theorem atI_RD : ∀ {vs : List V} {ds : List D} {i : Int} {d : D}, RDs p B F vs ds → atI ds i = some d → ∃ v, atI vs i = some v ∧ RD p B F v d := by
  intro vs ds i d r e
  unfold atI at e ⊢
  rw [r.len]
  cases h : ixN ds.length i with
  | none =>
    rw [h] at e
    cases e
  | some j =>
    rw [h] at e
    exact r.get e
theorem atI_map {α β : Type} {f : α → β} {xs : List α} {i : Int} {x : α} (e : atI xs i = some x) : atI (xs.map f) i = some (f x) := by
  unfold atI at e ⊢
  rw [List.length_map]
  cases h : ixN xs.length i with
  | none =>
    rw [h] at e
    cases e
  | some j =>
    rw [h] at e
    have e' : xs[j]? = some x := e
    show (xs.map f)[j]? = some (f x)
    rw [List.getElem?_map, e']
    rfl
def rIxD (p : Pm) : R2 := fun x y H Q => ∃ B F d e z, Same F H ∧ LK p B F H x d ∧ LK p B F H y e ∧ ixD d e = some z ∧ ∀ v, RD p B F v z → Q v H
theorem ix_ok {X : Cx} (hK : X.K = p.K) : IxR X (rIxD p) := by
  intro value slice pins s σ H x y v u Q I rx ry h hs
  obtain ⟨B, F, d, e, z, le, l1, l2, eb, q⟩ := h
  unfold ixD at eb
  split at eb
  · obtain ⟨a, vs, rfl, ha, r1⟩ := l1.lst le
    rw [l2.intI] at ry
    obtain ⟨w, ew, rw'⟩ := atI_RD r1 eb
    exact ix_seq value slice pins s σ H _ _ v u Q I rx ry (.inl ⟨a, vs, _, w, rfl, rfl, .inl (.inl ha), ew, q w rw'⟩) hs
  · obtain ⟨a, vs, rfl, ha, r1, _⟩ := l1.tup le
    rw [l2.intI] at ry
    obtain ⟨w, ew, rw'⟩ := atI_RD r1 eb
    exact ix_seq value slice pins s σ H _ _ v u Q I rx ry (.inr (.inl ⟨a, vs, _, w, rfl, rfl, by rw [hK]; exact ha, ew, q w rw'⟩)) hs
  · rename_i ns i
    obtain ⟨a, rfl, ha⟩ := l1.scr le
    rw [l2.intI] at ry
    cases e1 : atI ns i with
    | none =>
      rw [e1] at eb
      cases eb
    | some n =>
      rw [e1] at eb
      cases eb
      exact ix_seq value slice pins s σ H _ _ v u Q I rx ry (.inl ⟨a, _, _, .int n, rfl, rfl, by rw [hK]; exact ha, atI_map e1, q _ (.int n)⟩) hs
  · cases eb
theorem cut_RD {vs : List V} {ds : List D} (r : RDs p B F vs ds) (lo hi : Option Int) : RDs p B F (cutV vs lo hi) (cutA ds lo hi) := by
  unfold cutV cutA
  rw [r.len]
  exact (r.drop _).take _
def rSlD (p : Pm) : V → Option Int → Option Int → Hp → VK → Prop := fun x lo hi H Q => ∃ B F d o, Same F H ∧ LK p B F H x d ∧ slD lo hi d = some o ∧ Acc p B F H Q o
theorem sl_ok {X : Cx} (hK : X.K = p.K) : SlR X (rSlD p) := by
  intro pins s σ H x v vl vu lo hi sl Q I rx hs pl pu h
  obtain ⟨B, F, d, o, le, l1, eb, ac⟩ := h
  unfold slD at eb
  split at eb
  · cases eb
    obtain ⟨a, vs, rfl, ha, r1⟩ := l1.lst le
    exact sl_list pins s σ H _ v vl vu lo hi sl Q I rx hs pl pu ⟨a, vs, rfl, .inl (.inl ha), fun q hq => ac q _ hq (cut_RD r1 lo hi)⟩
  · rename_i xs
    cases eb
    obtain ⟨a, vs, rfl, ha, r1, d1⟩ := l1.tup le
    refine sl_tupA pins s σ H _ v vl vu lo hi sl Q I rx hs pl pu ⟨a, vs, rfl, by rw [hK]; exact ha, fun ⟨h1, h2⟩ => ?_, fun _ q hq => ac.2 _ rfl q _ hq (cut_RD r1 lo hi)⟩
    have e : cutA xs lo hi = xs := by
      unfold cutA
      rw [← r1.len, h1, h2, List.drop_zero, Nat.sub_zero, r1.len, List.take_length]
    rw [e] at ac
    exact ac.1 _ d1
  · cases eb

/-! ### built-ins -/
theorem maxI_mem : ∀ (x : Int) (r : List Int), maxI (x :: r) ∈ x :: r ∧ ∀ y ∈ x :: r, y ≤ maxI (x :: r)
  | x, [] => ⟨by simp [maxI], by simp [maxI]⟩
  | x, z :: r => by
    obtain ⟨h1, h2⟩ := maxI_mem z r
    have e : maxI (x :: z :: r) = if x ≤ maxI (z :: r) then maxI (z :: r) else x := rfl
    rw [e]
    split
    · rename_i h
      refine ⟨List.mem_cons_of_mem _ h1, fun y hy => ?_⟩
      rcases List.mem_cons.mp hy with rfl | hy
      · exact h
      · exact h2 y hy
    · rename_i h
      refine ⟨List.mem_cons_self, fun y hy => ?_⟩
      rcases List.mem_cons.mp hy with rfl | hy
      · exact Int.le_refl _
      · have := h2 y hy
        omega
theorem minI_mem : ∀ (x : Int) (r : List Int), minI (x :: r) ∈ x :: r ∧ ∀ y ∈ x :: r, minI (x :: r) ≤ y
  | x, [] => ⟨by simp [minI], by simp [minI]⟩
  | x, z :: r => by
    obtain ⟨h1, h2⟩ := minI_mem z r
    have e : minI (x :: z :: r) = if minI (z :: r) ≤ x then minI (z :: r) else x := rfl
    rw [e]
    split
    · rename_i h
      refine ⟨List.mem_cons_of_mem _ h1, fun y hy => ?_⟩
      rcases List.mem_cons.mp hy with rfl | hy
      · exact h
      · exact h2 y hy
    · rename_i h
      refine ⟨List.mem_cons_self, fun y hy => ?_⟩
      rcases List.mem_cons.mp hy with rfl | hy
      · exact Int.le_refl _
      · have := h2 y hy
        omega
inductive LKs (p : Pm) (B : Addr → Prop) (F H : Hp) : List V → List D → Prop
  | nil : LKs p B F H [] []
  | cons {v : V} {vs : List V} {d : D} {ds : List D} : LK p B F H v d → LKs p B F H vs ds → LKs p B F H (v :: vs) (d :: ds)
theorem LKs.oneI {vs : List V} {d : D} (h : LKs p B F H vs [d]) : ∃ v, vs = [v] ∧ LK p B F H v d := by
  cases h with
  | cons h r =>
    cases r
    exact ⟨_, rfl, h⟩
theorem LKs.twoI {vs : List V} {d e : D} (h : LKs p B F H vs [d, e]) : ∃ v w, vs = [v, w] ∧ LK p B F H v d ∧ LK p B F H w e := by
  cases h with
  | cons h r =>
    cases r with
    | cons h2 r =>
      cases r
      exact ⟨_, _, rfl, h, h2⟩
theorem Rel.looks (R : Rel p B F G H σ ρ A) : ∀ {xs : List Pd} {vs : List V} {ds : List D}, RPs p B F σ vs xs → looks ρ xs = some ds → LKs p B F H vs ds
  | _, _, _, .nil, e => by
    cases e
    exact .nil
  | _, _, _, .cons h r, e => by
    simp only [WD.looks] at e
    split at e
    · rename_i d ds e1 e2
      cases e
      exact .cons (R.look h e1) (Rel.looks R r e2)
    · cases e
def nameB : Bi → Str
  | .len => "len"
  | .list => "list"
  | .tuple => "tuple"
  | .int => "int"
  | .max => "max"
  | .min => "min"
  | .sum => "sum"
def valB : Bi → Value
  | .len => .builtin "len"
  | .list => .type "list"
  | .tuple => .type "tuple"
  | .int => .type "int"
  | .max => .builtin "max"
  | .min => .builtin "min"
  | .sum => .builtin "sum"
def rBi (p : Pm) (b : Bi) : List V → Hp → VK → Prop := fun vs H Q => ∃ B F ds o, Same F H ∧ LKs p B F H vs ds ∧ biD b ds = some o ∧ Acc p B F H Q o
theorem bi_ok {X : Cx} (hK : X.K = p.K) (hc : X.calm = true) (b : Bi) : CallR X (valB b) (rBi p b) := by
  intro pins s σ H vs us Q I r h
  obtain ⟨B, F, ds, o, le, l, eb, ac⟩ := h
  unfold biD at eb
  split at eb
  · cases eb
    obtain ⟨v, rfl, k⟩ := l.oneI
    obtain ⟨a, vs, rfl, ha, r1⟩ := k.lst le
    refine call_len_seq pins s σ H _ us Q I r ⟨a, vs, rfl, .inl (.inl (.inl ha)), ?_⟩
    rw [r1.len]
    exact ac.1 _ (.int _)
  · cases eb
    obtain ⟨v, rfl, k⟩ := l.oneI
    obtain ⟨a, vs, rfl, ha, r1, _⟩ := k.tup le
    refine call_len_seq pins s σ H _ us Q I r ⟨a, vs, rfl, .inr (by rw [hK]; exact ha), ?_⟩
    rw [r1.len]
    exact ac.1 _ (.int _)
  · cases eb
    obtain ⟨v, rfl, k⟩ := l.oneI
    obtain ⟨a, rfl, ha⟩ := k.scr le
    refine call_len_seq pins s σ H _ us Q I r ⟨a, _, rfl, .inl (by rw [hK]; exact ha), ?_⟩
    rw [List.length_map]
    exact ac.1 _ (.int _)
  · cases eb
    obtain ⟨v, rfl, k⟩ := l.oneI
    obtain ⟨a, vs, rfl, ha, r1⟩ := k.lst le
    exact call_list_of pins s σ H _ us Q I r ⟨a, vs, rfl, .inl (.inl (.inl ha)), fun q hq => ac q _ hq r1⟩
  · cases eb
    obtain ⟨v, rfl, k⟩ := l.oneI
    obtain ⟨a, vs, rfl, ha, r1, _⟩ := k.tup le
    exact call_list_of pins s σ H _ us Q I r ⟨a, vs, rfl, .inr (by rw [hK]; exact ha), fun q hq => ac q _ hq r1⟩
  · cases eb
    obtain ⟨v, rfl, k⟩ := l.oneI
    obtain ⟨a, vs, rfl, ha, r1⟩ := k.lst le
    exact call_tuple_of pins s σ H _ us Q I r ⟨a, vs, rfl, .inl ⟨.inl (.inl ha), fun q hq => ac.2 _ rfl q _ hq r1⟩⟩
  · cases eb
    obtain ⟨v, rfl, k⟩ := l.oneI
    obtain ⟨a, vs, rfl, ha, r1, d1⟩ := k.tup le
    exact call_tuple_of pins s σ H _ us Q I r ⟨a, vs, rfl, .inr ⟨by rw [hK]; exact ha, ac.1 _ d1⟩⟩
  · cases eb
    obtain ⟨v, rfl, k⟩ := l.oneI
    rw [k.intI] at r
    exact call_int1 pins s σ H _ us Q I r (.inl ⟨_, rfl, ac.1 _ (.int _)⟩)
  · cases eb
    obtain ⟨v, rfl, k⟩ := l.oneI
    rw [k.blI] at r
    exact call_int1 pins s σ H _ us Q I r (.inr ⟨_, rfl, ac.1 _ (.int _)⟩)
  · cases eb
    obtain ⟨v, w, rfl, l1, l2⟩ := l.twoI
    rw [l1.intI, l2.intI] at r
    exact call_max2 hc pins s σ H _ us Q I r ⟨_, _, rfl, ac.1 _ (.int _)⟩
  · cases eb
    obtain ⟨v, w, rfl, l1, l2⟩ := l.twoI
    rw [l1.intI, l2.intI] at r
    exact call_min2 hc pins s σ H _ us Q I r ⟨_, _, rfl, ac.1 _ (.int _)⟩
  · split at eb
    · rename_i x rr e1
      cases eb
      obtain ⟨v, rfl, k⟩ := l.oneI
      obtain ⟨a, vs, rfl, ha, r1⟩ := k.lst le
      have ev := r1.ints_of e1
      subst ev
      refine cr_max hc pins s σ H _ us Q I r ⟨a, _, rfl, .inl (.inl ha), by simp, fun m h1 h2 => ?_⟩
      obtain ⟨q1, q2⟩ := maxI_mem x rr
      have em : m = maxI (x :: rr) := by
        have := h2 _ q1
        have := q2 _ h1
        omega
      rw [em]
      exact ac.1 _ (.int _)
    · cases eb
  · split at eb
    · rename_i x rr e1
      cases eb
      obtain ⟨v, rfl, k⟩ := l.oneI
      obtain ⟨a, vs, rfl, ha, r1⟩ := k.lst le
      have ev := r1.ints_of e1
      subst ev
      refine cr_min hc pins s σ H _ us Q I r ⟨a, _, rfl, .inl (.inl ha), by simp, fun m h1 h2 => ?_⟩
      obtain ⟨q1, q2⟩ := minI_mem x rr
      have em : m = minI (x :: rr) := by
        have := h2 _ q1
        have := q2 _ h1
        omega
      rw [em]
      exact ac.1 _ (.int _)
    · cases eb
  · split at eb
    · rename_i is e1
      cases eb
      obtain ⟨v, rfl, k⟩ := l.oneI
      obtain ⟨a, vs, rfl, ha, r1⟩ := k.lst le
      have ev := r1.ints_of e1
      subst ev
      exact cr_sum hc pins s σ H _ us Q I r ⟨a, _, rfl, .inl (.inl ha), ac.1 _ (.int _)⟩
    · cases eb
  · cases eb
end
end WD

/-! WD, part 4: readings by the evaluator; the defs' promise; calls. -/
namespace WD
open PySem PySem.Spec PyProof.Rows L2

/-- how an error lies -/
def XR (p : Pm) (B : Addr → Prop) (F H : Hp) (x : Xn) (c : Value) (d : Option Addr) : Prop := c = .ref (p.XA x.cls) ∧ match x.arg with
  | none => d = none
  | some a => ∃ dx v, d = some dx ∧ H dx = some (.xd [("at", v)]) ∧ RD p B F v a
/-- what is wanted behind the evaluator's answer -/
def Post {α : Type} (p : Pm) (E : XK) (B : Addr → Prop) (F G : Hp) (σ : L2.St) (r : R α) (k : α → Fr → Hp → Hp → Fp → Prop) : Prop := match r with
  | .ok a ρ => ∀ F' H' A', Same F F' → Rel p B F' G H' σ ρ A' → k a ρ F' H' A'
  | .exn x ρ => ∀ c d F' H' A', Same F F' → Rel p B F' G H' σ ρ A' → XR p B F' H' x c d → E c d H'
  | .fail => False
section
variable {p : Pm} {E : XK} {B : Addr → Prop} {F F' G H : Hp} {σ : L2.St} {ρ : Fr} {A : Fp}
theorem Post.later {α : Type} {r : R α} {k : α → Fr → Hp → Hp → Fp → Prop} (h : Post p E B F G σ r k) (e : Same F F') : Post p E B F' G σ r k := by
  cases r with
  | ok a ρ => exact fun F2 H2 A2 e2 R => h F2 H2 A2 (e.trans e2) R
  | exn x ρ => exact fun c d F2 H2 A2 e2 R => h c d F2 H2 A2 (e.trans e2) R
  | fail => exact h
theorem Post.imp {α : Type} {r : R α} {k k' : α → Fr → Hp → Hp → Fp → Prop} (h : Post p E B F G σ r k) (i : ∀ a ρ F' H' A', Same F F' → Rel p B F' G H' σ ρ A' → k a ρ F' H' A' → k' a ρ F' H' A') : Post p E B F G σ r k' := by
  cases r with
  | ok a ρ => exact fun F2 H2 A2 e2 R => i a ρ F2 H2 A2 e2 R (h F2 H2 A2 e2 R)
  | exn x ρ => exact h
  | fail => exact h
theorem Post.bnd {α β : Type} {m : R α} {f : α → Fr → R β} {k : β → Fr → Hp → Hp → Fp → Prop} (h : Post p E B F G σ (bnd m f) k) : Post p E B F G σ m (fun a ρ F' _ _ => Post p E B F' G σ (f a ρ) k) := by
  cases m with
  | ok a ρ => exact fun F2 H2 A2 e2 R => Post.later h e2
  | exn x ρ => exact h
  | fail => exact h
theorem Post.opt {α β : Type} {o : Option α} {f : α → R β} {k : β → Fr → Hp → Hp → Fp → Prop} (h : Post p E B F G σ (opt o f) k) : ∃ a, o = some a ∧ Post p E B F G σ (f a) k := by
  cases o with
  | some a => exact ⟨a, rfl, h⟩
  | none => exact h.elim
theorem Post.here {α : Type} {a : α} {k : α → Fr → Hp → Hp → Fp → Prop} (h : Post p E B F G σ (.ok a ρ) k) (e : Same F F') {H' : Hp} {A' : Fp} (R : Rel p B F' G H' σ ρ A') : k a ρ F' H' A' := h _ _ _ e R
end

/-! ### readings -/
section
variable (p : Pm) (W : XK)
def tO (m : Fr → R O) : TE := fun σ H Q => ∃ B F G ρ A, Rel p B F G H σ ρ A ∧ Post p W B F G σ (m ρ) fun o _ F' H' A' => ∀ v L, RO p B F' H' v o L → Own F' G H' A' L → Q v H'
def tP (m : Fr → R Pd) : TE := fun σ H Q => ∃ B F G ρ A, Rel p B F G H σ ρ A ∧ Post p W B F G σ (m ρ) fun x _ F' H' _ => ∀ v, RP p B F' σ v x → Q v H'
def tPs (m : Fr → R (List Pd)) : TA := fun σ H Q => ∃ B F G ρ A, Rel p B F G H σ ρ A ∧ Post p W B F G σ (m ρ) fun xs _ F' H' _ => ∀ vs, RPs p B F' σ vs xs → Q vs H'
def tT (m : Fr → R O) : TT := fun σ H Q => ∃ B F G ρ A, Rel p B F G H σ ρ A ∧ Post p W B F G σ (m ρ) fun o _ _ H' _ => ∃ b, o = .sh (.bl b) ∧ Q b H'
def tBo (m : Fr → R Bool) : TT := fun σ H Q => ∃ B F G ρ A, Rel p B F G H σ ρ A ∧ Post p W B F G σ (m ρ) fun b _ _ H' _ => Q b H'
def tPart (m : Fr → R (Option Int)) : TO := fun σ H Q => ∃ B F G ρ A, Rel p B F G H σ ρ A ∧ Post p W B F G σ (m ρ) fun i _ _ H' _ => Q i H'
end
theorem peI {X : Cx} {e : Expr} {t t' : TE} (h : PE X e t) (i : ∀ σ H Q, t' σ H Q → t σ H Q) : PE X e t' := ⟨fun pins s σ H Q I q => h.run pins s σ H Q I (i σ H Q q)⟩
theorem ptI {X : Cx} {e : Expr} {t t' : TT} (h : PT X e t) (i : ∀ σ H Q, t' σ H Q → t σ H Q) : PT X e t' := ⟨fun pins s σ H Q I q => h.run pins s σ H Q I (i σ H Q q)⟩
theorem pwI {X : Cx} {e : Expr} {t t' : TT} (h : PW X e t) (i : ∀ σ H Q, t' σ H Q → t σ H Q) : PW X e t' := ⟨fun w pins s σ H Q I q => h.run w pins s σ H Q I (i σ H Q q)⟩
theorem paI {X : Cx} {es : List Expr} {t t' : TA} (h : PA X es t) (i : ∀ σ H Q, t' σ H Q → t σ H Q) : PA X es t' := ⟨fun pos pins s σ H Q I q => h.run pos pins s σ H Q I (i σ H Q q)⟩
theorem psI {X : Cx} {st : Stmt} {t t' : TS} (h : PS X st t) (i : ∀ D σ H, t' D σ H → t D σ H) : PS X st t' := ⟨fun pins s σ H D I q => h.run pins s σ H D I (i D σ H q)⟩
theorem pssI {X : Cx} {st : List Stmt} {t t' : TS} (h : PSs X st t) (i : ∀ D σ H, t' D σ H → t D σ H) : PSs X st t' := ⟨fun pins s σ H D I q => h.run pins s σ H D I (i D σ H q)⟩

/-! ### simple expressions -/
section
variable {p : Pm} {W : XK} {X : Cx}
/-- an expression that gives data at once -/
theorem peConst {e : Expr} {v : V} {d : D} (h : PE X e (tC v)) (r : ∀ B F, RD p B F v d) : PE X e (tO p W fun ρ => .ok (.sh d) ρ) := peI h fun σ H Q ⟨B, F, G, ρ, A, R, q⟩ => q.here (Same.refl F) R v [] (.sh (r B F)) Own.nil
theorem peName {e : Expr} {i : Nat} (h : PE X e (tVar i)) : PE X e (tO p W fun ρ => opt (frzAt ρ i) fun (d, ρ1) => .ok (.sh d) ρ1) := peI h fun σ H Q ⟨B, F, G, ρ, A, R, q⟩ => by
  obtain ⟨⟨d, ρ1⟩, e1, q⟩ := q.opt
  obtain ⟨v, F', A', e2, e3, R1, rd, _⟩ := R.frzAt e1
  exact ⟨v, e2, q.here e3 R1 v [] (.sh rd) Own.nil⟩
/-- as an operand -/
theorem peOpd {e : Expr} {m : E} {r : Fr → R O} (h : PE X e (tO p W r)) (hv : ∀ i, m = .var i → PE X e (tVar i)) : PE X e (tP p W (opd m r)) := by
  by_cases hm : ∃ i, m = .var i
  · obtain ⟨i, rfl⟩ := hm
    refine peI (hv i rfl) fun σ H Q ⟨B, F, G, ρ, A, R, q⟩ => ?_
    unfold WD.opd at q
    dsimp only at q
    split at q
    · rename_i d hg
      obtain ⟨v, e1, ro⟩ := R.sl i _ hg
      exact ⟨v, e1, q.here (Same.refl F) R v ro.shI.1⟩
    · rename_i o _ hg
      obtain ⟨v, e1, ro⟩ := R.sl i _ hg
      exact ⟨v, e1, q.here (Same.refl F) R v e1⟩
    · exact q.elim
  · have e1 : ∀ ρ, WD.opd m r ρ = bnd (r ρ) fun o ρ => opt (frz o) fun d => .ok (.val d) ρ := fun ρ => by
      cases m <;> first
        | rfl
        | exact absurd ⟨_, rfl⟩ hm
    refine peI h fun σ H Q ⟨B, F, G, ρ, A, R, q⟩ => ⟨B, F, G, ρ, A, R, ?_⟩
    rw [e1] at q
    refine q.bnd.imp fun o ρ1 F1 H1 A1 f1 R1 q v L ro ow => ?_
    obtain ⟨d, e2, q⟩ := q.opt
    obtain ⟨F2, e3, R2, rd⟩ := R1.share ro ow e2
    exact q.here e3 R2 v rd
theorem peBin {a b : Expr} {pos : Pos} {f g : Fr → R Pd} {op : Bop} (hK : X.K = p.K) (ha : PE X a (tP p W f)) (hb : PE X b (tP p W g)) :
    PE X (.BinOp a (opB op) b pos) (tO p W fun ρ => bnd (f ρ) fun x ρ => bnd (g ρ) fun y ρ => opt (look ρ x) fun d => opt (look ρ y) fun e => opt (binD op d e) fun o => .ok o ρ) := by
  refine peI (pe_op (bin_ok hK op) ha hb) fun σ H Q ⟨B, F, G, ρ, A, R, q⟩ => ⟨B, F, G, ρ, A, R, ?_⟩
  refine q.bnd.imp fun x ρ1 F1 H1 A1 f1 R1 q v rv => ⟨B, F1, G, ρ1, A1, R1, ?_⟩
  refine q.bnd.imp fun y ρ2 F2 H2 A2 f2 R2 q w rw' => ?_
  obtain ⟨d, e1, q⟩ := q.opt
  obtain ⟨e, e2, q⟩ := q.opt
  obtain ⟨o, e3, q⟩ := q.opt
  exact ⟨B, F2, d, e, o, R2.le, R2.look (rv.mono f2) e1, R2.look rw' e2, e3, R2.acc fun F' H' A' e R => q.here e R⟩
theorem cmp_core {op : Cop} {f g : Fr → R Pd} {σ : L2.St} {H : Hp} {Q : VK} (h : tO p W (fun ρ => bnd (f ρ) fun x ρ => bnd (g ρ) fun y ρ => opt (look ρ x) fun d => opt (look ρ y) fun e => opt (cmpD op d e) fun k => .ok (.sh (.bl k)) ρ) σ H Q) :
    tOp (rCmp p op) (tP p W f) (tP p W g) σ H Q := by
  obtain ⟨B, F, G, ρ, A, R, q⟩ := h
  refine ⟨B, F, G, ρ, A, R, ?_⟩
  refine q.bnd.imp fun x ρ1 F1 H1 A1 f1 R1 q v rv => ⟨B, F1, G, ρ1, A1, R1, ?_⟩
  refine q.bnd.imp fun y ρ2 F2 H2 A2 f2 R2 q w rw' => ?_
  obtain ⟨d, e1, q⟩ := q.opt
  obtain ⟨e, e2, q⟩ := q.opt
  obtain ⟨k, e3, q⟩ := q.opt
  exact ⟨B, F2, d, e, k, R2.le, R2.look (rv.mono f2) e1, R2.look rw' e2, e3, q.here (Same.refl _) R2 (.bl k) [] (.sh (.bl k)) Own.nil⟩
/-- a test's reading from a value's -/
theorem tT_tO {m : Fr → R O} {σ : L2.St} {H : Hp} {Q : Bool → Hp → Prop} (h : tT p W m σ H Q) : tO p W m σ H fun x H1 => ∃ c, x = .bl c ∧ Q c H1 := by
  obtain ⟨B, F, G, ρ, A, R, q⟩ := h
  refine ⟨B, F, G, ρ, A, R, q.imp fun o ρ1 F1 H1 A1 f1 R1 q v L ro ow => ?_⟩
  obtain ⟨b, rfl, q⟩ := q
  cases ro.shI.1
  exact ⟨b, rfl, q⟩
theorem peCmp {a b : Expr} {pos : Pos} {f g : Fr → R Pd} {op : Cop} (hK : X.K = p.K) (hu : X.A.units + 64 < cLine) (ha : PE X a (tP p W f)) (hb : PE X b (tP p W g)) (hm : behindInMarks (opC op) b = false) :
    PE X (.Compare a [opC op] [b] pos) (tO p W fun ρ => bnd (f ρ) fun x ρ => bnd (g ρ) fun y ρ => opt (look ρ x) fun d => opt (look ρ y) fun e => opt (cmpD op d e) fun k => .ok (.sh (.bl k)) ρ) :=
  peI (pe_cmpR (cmp_ok hK hu op) ha hb hm) fun _ _ _ h => cmp_core h
theorem ptCmp {a b : Expr} {pos : Pos} {f g : Fr → R Pd} {op : Cop} (hK : X.K = p.K) (hu : X.A.units + 64 < cLine) (ha : PE X a (tP p W f)) (hb : PE X b (tP p W g)) (hm : behindInMarks (opC op) b = false) :
    PT X (.Compare a [opC op] [b] pos) (tT p W fun ρ => bnd (f ρ) fun x ρ => bnd (g ρ) fun y ρ => opt (look ρ x) fun d => opt (look ρ y) fun e => opt (cmpD op d e) fun k => .ok (.sh (.bl k)) ρ) :=
  ptI (pt_cmpR (cmp_ok hK hu op) ha hb hm) fun σ H Q h => cmp_core (tT_tO h)
theorem peIx {a b : Expr} {pos : Pos} {f g : Fr → R Pd} (hK : X.K = p.K) (ha : PE X a (tP p W f)) (hb : PE X b (tP p W g)) (hs : PlainIx b) :
    PE X (.Subscript a b pos) (tO p W fun ρ => bnd (f ρ) fun x ρ => bnd (g ρ) fun y ρ => opt (look ρ x) fun d => opt (look ρ y) fun e => opt (ixD d e) fun v => .ok (.sh v) ρ) := by
  refine peI (pe_ix (ix_ok hK) ha hb hs) fun σ H Q ⟨B, F, G, ρ, A, R, q⟩ => ⟨B, F, G, ρ, A, R, ?_⟩
  refine q.bnd.imp fun x ρ1 F1 H1 A1 f1 R1 q v rv => ⟨B, F1, G, ρ1, A1, R1, ?_⟩
  refine q.bnd.imp fun y ρ2 F2 H2 A2 f2 R2 q w rw' => ?_
  obtain ⟨d, e1, q⟩ := q.opt
  obtain ⟨e, e2, q⟩ := q.opt
  obtain ⟨z, e3, q⟩ := q.opt
  exact ⟨B, F2, d, e, z, R2.le, R2.look (rv.mono f2) e1, R2.look rw' e2, e3, fun v r => q.here (Same.refl _) R2 v [] (.sh r) Own.nil⟩
/-- a part of a slice -/
theorem poNone {r : Fr → R O} : PO X none (tPart p W (partE .nil r)) := by
  refine ⟨fun pins s σ H Q I h => (po_none (X := X)).run pins s σ H Q I ?_⟩
  obtain ⟨B, F, G, ρ, A, R, q⟩ := h
  exact q.here (Same.refl F) R
theorem poSome {e : Expr} {m : E} {r : Fr → R O} (h : PE X e (tO p W r)) (hm : m ≠ .nil) : PO X (some e) (tPart p W (partE m r)) := by
  have e1 : ∀ ρ, partE m r ρ = asI (r ρ) := fun ρ => by
    cases m <;> first
      | rfl
      | exact absurd rfl hm
  refine ⟨fun pins s σ H Q I h' => (po_some h).run pins s σ H Q I ?_⟩
  obtain ⟨B, F, G, ρ, A, R, q⟩ := h'
  rw [e1] at q
  refine ⟨B, F, G, ρ, A, R, q.bnd.imp fun o ρ1 F1 H1 A1 f1 R1 q v L ro ow => ?_⟩
  split at q
  · rename_i i
    cases ro.shI.1
    exact ⟨i, rfl, q.here (Same.refl _) R1⟩
  · exact q.elim
theorem peSl {a : Expr} {lo hi : Option Expr} {p2 pos : Pos} {f : Fr → R Pd} {l h : Fr → R (Option Int)} (hK : X.K = p.K) (ha : PE X a (tP p W f)) (hl : PO X lo (tPart p W l)) (hh : PO X hi (tPart p W h)) :
    PE X (.Subscript a (.Slice lo hi none p2) pos) (tO p W fun ρ => bnd (f ρ) fun x ρ => bnd (l ρ) fun l ρ => bnd (h ρ) fun h ρ => opt (look ρ x) fun d => opt (slD l h d) fun o => .ok o ρ) := by
  refine peI (pe_slice (sl_ok hK) ha hl hh) fun σ H Q ⟨B, F, G, ρ, A, R, q⟩ => ⟨B, F, G, ρ, A, R, ?_⟩
  refine q.bnd.imp fun x ρ1 F1 H1 A1 f1 R1 q v rv => ⟨B, F1, G, ρ1, A1, R1, ?_⟩
  refine q.bnd.imp fun l ρ2 F2 H2 A2 f2 R2 q => ⟨B, F2, G, ρ2, A2, R2, ?_⟩
  refine q.bnd.imp fun h ρ3 F3 H3 A3 f3 R3 q => ?_
  obtain ⟨d, e1, q⟩ := q.opt
  obtain ⟨o, e3, q⟩ := q.opt
  exact ⟨B, F3, d, o, R3.le, R3.look (rv.mono (f2.trans f3)) e1, e3, R3.acc fun F' H' A' e R => q.here e R⟩
theorem peNeg {a : Expr} {pos : Pos} {f : Fr → R O} (ha : PE X a (tO p W f)) : PE X (.UnaryOp .USub a pos) (tO p W fun ρ => bnd (f ρ) fun o ρ => match o with
    | .sh (.int i) => .ok (.sh (.int (-i))) ρ
    | _ => .fail) := by
  refine peI (pe_un un_neg ha) fun σ H Q ⟨B, F, G, ρ, A, R, q⟩ => ⟨B, F, G, ρ, A, R, ?_⟩
  refine q.bnd.imp fun o ρ1 F1 H1 A1 f1 R1 q v L ro ow => ?_
  split at q
  · rename_i i
    cases ro.shI.1
    exact ⟨i, rfl, q.here (Same.refl _) R1 _ [] (.sh (.int _)) Own.nil⟩
  · exact q.elim
/-- asB's two ways -/
theorem Post.asB {β : Type} {B : Addr → Prop} {F G : Hp} {σ : L2.St} {m : R O} {f : Bool → Fr → R β} {k : β → Fr → Hp → Hp → Fp → Prop} (h : Post p W B F G σ (asB m f) k) :
    Post p W B F G σ m fun o ρ F' _ _ => ∃ b, o = .sh (.bl b) ∧ Post p W B F' G σ (f b ρ) k := by
  refine (Post.bnd h).imp fun o ρ F' H' A' e R q => ?_
  split at q
  · rename_i b
    exact ⟨b, rfl, q⟩
  · exact q.elim
theorem ptNot {a : Expr} {pos : Pos} {f : Fr → R O} (ha : PT X a (tT p W f)) : PT X (.UnaryOp .Not a pos) (tT p W fun ρ => asB (f ρ) fun b ρ => .ok (.sh (.bl (!b))) ρ) := by
  refine ptI (pt_not ha) fun σ H Q ⟨B, F, G, ρ, A, R, q⟩ => ⟨B, F, G, ρ, A, R, ?_⟩
  refine q.asB.imp fun o ρ1 F1 H1 A1 f1 R1 ⟨b, e, q⟩ => ⟨b, e, ?_⟩
  obtain ⟨b', e', q⟩ := q.here (Same.refl _) R1
  cases e'
  exact q
theorem peNot {a : Expr} {pos : Pos} {f : Fr → R O} (ha : PE X a (tO p W f)) : PE X (.UnaryOp .Not a pos) (tO p W fun ρ => asB (f ρ) fun b ρ => .ok (.sh (.bl (!b))) ρ) := by
  refine peI (pe_not ha) fun σ H Q ⟨B, F, G, ρ, A, R, q⟩ => ⟨B, F, G, ρ, A, R, ?_⟩
  refine q.asB.imp fun o ρ1 F1 H1 A1 f1 R1 ⟨b, e, q⟩ v L ro ow => ?_
  subst e
  cases ro.shI.1
  exact ⟨b, rfl, q.here (Same.refl _) R1 _ [] (.sh (.bl _)) Own.nil⟩
/-- a value's test -/
theorem ptVal {e : Expr} {f : Fr → R O} (h : PE X e (tO p W f)) (he : ∀ whole, isTrue e X.env whole = (do let v ← whole; standAt e.pos; holding [v] (truthy v))) : PT X e (tT p W f) :=
  ptI (pt_val h he) fun _ _ _ h => tT_tO h
def iteM (c a b : Fr → R O) : Fr → R O := fun ρ => asB (c ρ) fun k ρ => match k with
    | true => a ρ
    | false => b ρ
theorem peIte {c a b : Expr} {pos : Pos} {fc fa fb : Fr → R O} (hc : PT X c (tT p W fc)) (ha : PE X a (tO p W fa)) (hb : PE X b (tO p W fb)) : PE X (.IfExp c a b pos) (tO p W (iteM fc fa fb)) := by
  refine peI (pe_ifExp hc ha hb) fun σ H Q ⟨B, F, G, ρ, A, R, q⟩ => ⟨B, F, G, ρ, A, R, ?_⟩
  refine (Post.asB q).imp fun o ρ1 F1 H1 A1 f1 R1 ⟨b, e, q⟩ => ⟨b, e, ?_⟩
  cases b with
  | true => exact iteT ⟨B, F1, G, ρ1, A1, R1, q⟩
  | false => exact iteF ⟨B, F1, G, ρ1, A1, R1, q⟩
theorem pt_ifExp {c a b : Expr} {pos : Pos} {tc ta tb : TT} (hc : PT X c tc) (ha : PT X a ta) (hb : PT X b tb) : PT X (.IfExp c a b pos) (fun σ H Q => tc σ H fun k H1 => if k = true then ta σ H1 Q else tb σ H1 Q) := by
  refine ⟨fun pins s σ H Q I h => ?_⟩
  show wpAny _ _ (do if ← isTrue c X.env (eval c X.env) then isTrue a X.env (eval a X.env) else isTrue b X.env (eval b X.env)) _ _ _
  refine wpAny_bind (thn (hc.run pins s σ H _ I h) fun d s1 ⟨H1, I1, q1⟩ => ?_)
  cases d with
  | true => exact ha.run pins s1 σ H1 Q I1 q1
  | false => exact hb.run pins s1 σ H1 Q I1 q1
theorem ptIte {c a b : Expr} {pos : Pos} {fc fa fb : Fr → R O} (hc : PT X c (tT p W fc)) (ha : PT X a (tT p W fa)) (hb : PT X b (tT p W fb)) : PT X (.IfExp c a b pos) (tT p W (iteM fc fa fb)) := by
  refine ptI (pt_ifExp hc ha hb) fun σ H Q ⟨B, F, G, ρ, A, R, q⟩ => ⟨B, F, G, ρ, A, R, ?_⟩
  refine (Post.asB q).imp fun o ρ1 F1 H1 A1 f1 R1 ⟨b, e, q⟩ => ⟨b, e, ?_⟩
  cases b with
  | true => exact iteT ⟨B, F1, G, ρ1, A1, R1, q⟩
  | false => exact iteF ⟨B, F1, G, ρ1, A1, R1, q⟩

/-! ### rows of operands -/
theorem paNil : PA X [] (tPs p W fun ρ => .ok [] ρ) := paI pa_nil fun σ H Q ⟨B, F, G, ρ, A, R, q⟩ => q.here (Same.refl _) R [] .nil
theorem paCons {e : Expr} {es : List Expr} {f : Fr → R Pd} {g : Fr → R (List Pd)} (h : PE X e (tP p W f)) (hr : PA X es (tPs p W g)) (hs : starEach (e :: es) X.env = (false, eval e X.env) :: starEach es X.env) :
    PA X (e :: es) (tPs p W fun ρ => bnd (f ρ) fun x ρ => bnd (g ρ) fun xs ρ => .ok (x :: xs) ρ) := by
  refine paI (pa_cons h hr hs) fun σ H Q ⟨B, F, G, ρ, A, R, q⟩ => ⟨B, F, G, ρ, A, R, ?_⟩
  refine q.bnd.imp fun x ρ1 F1 H1 A1 f1 R1 q v rv => ⟨B, F1, G, ρ1, A1, R1, ?_⟩
  refine q.bnd.imp fun xs ρ2 F2 H2 A2 f2 R2 q vs rvs => ?_
  exact q.here (Same.refl _) R2 (v :: vs) (.cons (rv.mono f2) rvs)
theorem Rel.gives {B : Addr → Prop} {G H : Hp} {σ : L2.St} : ∀ {xs : List Pd} {vs : List V} {ds : List D} {F : Hp} {ρ ρ' : Fr} {A : Fp}, Rel p B F G H σ ρ A → RPs p B F σ vs xs → gives ρ xs = some (ds, ρ') →
    ∃ F' A', Same F F' ∧ Rel p B F' G H σ ρ' A' ∧ RDs p B F' vs ds
  | [], _, _, F, ρ, _, A, R, .nil, e => by
    cases e
    exact ⟨F, A, Same.refl _, R, .nil⟩
  | x :: xs, _, _, F, ρ, _, A, R, .cons h r, e => by
    simp only [WD.gives] at e
    split at e
    · rename_i d ρ1 e1
      split at e
      · rename_i ds ρ2 e2
        cases e
        cases x with
        | val d' =>
          cases e1
          obtain ⟨F', A', f1, R1, rs⟩ := Rel.gives R r e2
          exact ⟨F', A', f1, R1, .cons (RD.mono f1 h) rs⟩
        | «at» i =>
          obtain ⟨v, F1, A1, e3, f1, R1, rd, _⟩ := R.frzAt (i := i) e1
          rw [show σ[i]? = some (some _) from h] at e3
          cases e3
          obtain ⟨F', A', f2, R2, rs⟩ := Rel.gives R1 (r.mono f1) e2
          exact ⟨F', A', f1.trans f2, R2, .cons (rd.mono f2) rs⟩
      · cases e
    · cases e
theorem peLst {es : List Expr} {pos : Pos} {g : Fr → R (List Pd)} (h : PA X es (tPs p W g)) : PE X (.List es pos) (tO p W fun ρ => bnd (g ρ) fun ps ρ => opt (gives ρ ps) fun (ds, ρ1) => if ds.length ≤ big then .ok (.lst true ds) ρ1 else .fail) := by
  refine peI (pe_lst h) fun σ H Q ⟨B, F, G, ρ, A, R, q⟩ => ⟨B, F, G, ρ, A, R, ?_⟩
  refine q.bnd.imp fun xs ρ1 F1 H1 A1 f1 R1 q vs rvs => ?_
  obtain ⟨⟨ds, ρ2⟩, e1, q⟩ := q.opt
  obtain ⟨F2, A2, f2, R2, rs⟩ := R1.gives rvs e1
  dsimp only at q
  split at q
  · rename_i hz
    refine ⟨by rw [rs.len]; exact big_le hz, fun a ha => ?_⟩
    obtain ⟨R3, ro, ow⟩ := R2.newL ha rs
    exact q.here f2 R3 _ _ ro ow
  · exact q.elim
theorem peTup {es : List Expr} {k : Nat} {pos : Pos} {g : Fr → R (List Pd)} (h : PA X es (tPs p W g)) : PE X (.Tuple es k pos) (tO p W fun ρ => bnd (g ρ) fun ps ρ => opt (gives ρ ps) fun (ds, ρ1) => if ds.length ≤ big then .ok (.sh (.tup ds)) ρ1 else .fail) := by
  refine peI (pe_tup h) fun σ H Q ⟨B, F, G, ρ, A, R, q⟩ => ⟨B, F, G, ρ, A, R, ?_⟩
  refine q.bnd.imp fun xs ρ1 F1 H1 A1 f1 R1 q vs rvs => ?_
  obtain ⟨⟨ds, ρ2⟩, e1, q⟩ := q.opt
  obtain ⟨F2, A2, f2, R2, rs⟩ := R1.gives rvs e1
  dsimp only at q
  split at q
  · rename_i hz
    refine ⟨by rw [rs.len]; exact big_le hz, fun a ha => ?_⟩
    obtain ⟨e3, R3, rd⟩ := R2.newT ha rs
    exact q.here (f2.trans e3) R3 _ [] (.sh rd) Own.nil
  · exact q.elim
theorem peBi {x : Str} {b : Bi} {e : Expr} {es : List Expr} {pos pos' : Pos} {g : Fr → R (List Pd)} (hK : X.K = p.K) (hc : X.calm = true) (hx : x = nameB b) (hg : Gl X x) (hm : X.mg x = none) (h : PA X (e :: es) (tPs p W g)) (hst : starEach (e :: es) X.env = (false, eval e X.env) :: starEach es X.env)
    (hpl : ∀ pos, (backTo pos (starEach es X.env)).any (·.1) = false) :
    PE X (.Call (.Name x pos') (e :: es) [] pos) (tO p W fun ρ => bnd (g ρ) fun ps ρ => opt (looks ρ ps) fun ds => opt (biD b ds) fun o => .ok o ρ) := by
  have hb := bi_ok (p := p) hK hc b
  have go : PE X (.Call (.Name x pos') (e :: es) [] pos) (tCB (rBi p b) (tPs p W g)) := by
    subst hx
    cases b with
    | len => exact pe_callB hb hg hm (by decide +kernel) h (by decide) (by decide) hst (hpl _)
    | list => exact pe_callTy hb hg hm (by decide +kernel) h (by decide) (by decide) hst (hpl _)
    | tuple => exact pe_callTy hb hg hm (by decide +kernel) h (by decide) (by decide) hst (hpl _)
    | int => exact pe_callTy hb hg hm (by decide +kernel) h (by decide) (by decide) hst (hpl _)
    | max => exact pe_callB hb hg hm (by decide +kernel) h (by decide) (by decide) hst (hpl _)
    | min => exact pe_callB hb hg hm (by decide +kernel) h (by decide) (by decide) hst (hpl _)
    | sum => exact pe_callB hb hg hm (by decide +kernel) h (by decide) (by decide) hst (hpl _)
  refine peI go fun σ H Q ⟨B, F, G, ρ, A, R, q⟩ => ⟨B, F, G, ρ, A, R, ?_⟩
  refine q.bnd.imp fun xs ρ1 F1 H1 A1 f1 R1 q vs rvs => ?_
  obtain ⟨ds, e1, q⟩ := q.opt
  obtain ⟨o, e2, q⟩ := q.opt
  exact ⟨B, F1, ds, o, R1.le, R1.looks rvs e1, e2, R1.acc fun F' H' A' e R => q.here e R⟩
end
end WD

/-! WD, part 5: and, or; chains. -/
namespace WD
open PySem PySem.Spec PyProof.Rows L2
section
variable {p : Pm} {W : XK} {X : Cx}

theorem tO_tT {m : Fr → R O} {σ : L2.St} {H : Hp} {Q : VK} (h : tO p W m σ H Q) (hb : ∀ ρ a ρ', m ρ = .ok a ρ' → ∃ b, a = .sh (.bl b)) : tT p W m σ H fun b H1 => Q (.bl b) H1 := by
  obtain ⟨B, F, G, ρ, A, R, q⟩ := h
  refine ⟨B, F, G, ρ, A, R, ?_⟩
  cases e : m ρ with
  | ok a ρ' =>
    rw [e] at q
    obtain ⟨b, rfl⟩ := hb ρ a ρ' e
    exact fun F' H' A' e2 R' => ⟨b, rfl, q F' H' A' e2 R' (.bl b) [] (.sh (.bl b)) Own.nil⟩
  | exn x ρ' =>
    rw [e] at q
    exact q
  | fail =>
    rw [e] at q
    exact q
theorem bnd_inv {α β : Type} {m : R α} {f : α → Fr → R β} {b : β} {ρ : Fr} (h : bnd m f = .ok b ρ) : ∃ a ρ1, m = .ok a ρ1 ∧ f a ρ1 = .ok b ρ := by
  cases m with
  | ok a ρ1 => exact ⟨a, ρ1, rfl, h⟩
  | exn x ρ1 => cases h
  | fail => cases h
/-! ### and, or -/
def bopM (k : Bool) (f : Fr → R O) (g : Fr → R Bool) : Fr → R Bool := fun ρ => asB (f ρ) fun b ρ => if b = k then g ρ else .ok b ρ
def opL (k : Bool) : BoolOp := match k with
  | true => .And
  | false => .Or
/-- the last one -/
theorem pwOne {k : Bool} {a : Expr} {pos : Pos} {f : Fr → R O} (ha : PT X a (tT p W f)) : PW X (.BoolOp (opL k) [a] pos) (tBo p W (bopM k f fun ρ => .ok k ρ)) := by
  have fin : ∀ {σ : L2.St} {H : Hp} {Q : Bool → Hp → Prop}, tBo p W (bopM k f fun ρ => .ok k ρ) σ H Q → tT p W f σ H Q := fun ⟨B, F, G, ρ, A, R, q⟩ => by
    refine ⟨B, F, G, ρ, A, R, ?_⟩
    refine (Post.asB q).imp fun o ρ1 F1 H1 A1 f1 R1 ⟨b, e, q⟩ => ⟨b, e, ?_⟩
    by_cases hb : b = k
    · rw [if_pos hb] at q
      rw [hb]
      exact q.here (Same.refl _) R1
    · rw [if_neg hb] at q
      exact q.here (Same.refl _) R1
  cases k with
  | true => exact pwI (pw_and1 ha) fun σ H Q h => fin h
  | false => exact pwI (pw_or1 ha) fun σ H Q h => fin h
theorem pwMore {k : Bool} {a b : Expr} {rest : List Expr} {pos : Pos} {f : Fr → R O} {g : Fr → R Bool} (ha : PT X a (tT p W f)) (hb : PW X (.BoolOp (opL k) (b :: rest) pos) (tBo p W g)) :
    PW X (.BoolOp (opL k) (a :: b :: rest) pos) (tBo p W (bopM k f g)) := by
  cases k with
  | true =>
    refine pwI (pw_and ha hb) fun σ H Q ⟨B, F, G, ρ, A, R, q⟩ => ⟨B, F, G, ρ, A, R, ?_⟩
    refine (Post.asB q).imp fun o ρ1 F1 H1 A1 f1 R1 ⟨b, e, q⟩ => ⟨b, e, ?_⟩
    cases b with
    | true => exact iteT ⟨B, F1, G, ρ1, A1, R1, q⟩
    | false => exact iteF (q.here (Same.refl _) R1)
  | false =>
    refine pwI (pw_or ha hb) fun σ H Q ⟨B, F, G, ρ, A, R, q⟩ => ⟨B, F, G, ρ, A, R, ?_⟩
    refine (Post.asB q).imp fun o ρ1 F1 H1 A1 f1 R1 ⟨b, e, q⟩ => ⟨b, e, ?_⟩
    cases b with
    | true => exact iteT (q.here (Same.refl _) R1)
    | false => exact iteF ⟨B, F1, G, ρ1, A1, R1, q⟩
def boV (g : Fr → R Bool) : Fr → R O := fun ρ => bnd (g ρ) fun b ρ => .ok (.sh (.bl b)) ρ
theorem ptBop {e : Expr} {g : Fr → R Bool} (h : PW X e (tBo p W g)) : PT X e (tT p W (boV g)) := by
  refine ptI h.pt fun σ H Q ⟨B, F, G, ρ, A, R, q⟩ => ⟨B, F, G, ρ, A, R, ?_⟩
  refine (Post.bnd q).imp fun b ρ1 F1 H1 A1 f1 R1 q => ?_
  obtain ⟨b', e, q⟩ := q.here (Same.refl _) R1
  cases e
  exact q
/-- as a value, of truths -/
theorem peOne {k : Bool} {a : Expr} {pos : Pos} {f : Fr → R O} (ha : PE X a (tO p W f)) : PE X (.BoolOp (opL k) [a] pos) (tO p W (boV (bopM k f fun ρ => .ok k ρ))) := by
  refine peI (pe_one ha) fun σ H Q ⟨B, F, G, ρ, A, R, q⟩ => ⟨B, F, G, ρ, A, R, ?_⟩
  refine (Post.asB (Post.bnd q)).imp fun o ρ1 F1 H1 A1 f1 R1 ⟨b, e, q⟩ v L ro ow => ?_
  subst e
  cases ro.shI.1
  by_cases hb : b = k
  · rw [if_pos hb] at q
    rw [hb]
    exact (q.here (Same.refl _) R1).here (Same.refl _) R1 _ [] (.sh (.bl _)) Own.nil
  · rw [if_neg hb] at q
    exact (q.here (Same.refl _) R1).here (Same.refl _) R1 _ [] (.sh (.bl _)) Own.nil
theorem bo_eq (k : Bool) (f : Fr → R O) (g : Fr → R Bool) (ρ : Fr) : boV (bopM k f g) ρ = asB (f ρ) fun b ρ => if b = k then boV g ρ else .ok (.sh (.bl b)) ρ := by
  unfold boV bopM WD.asB
  cases f ρ with
  | ok o ρ' => cases o with
    | sh d => cases d with
      | bl b =>
        show bnd (if b = k then g ρ' else .ok b ρ') _ = if b = k then bnd (g ρ') _ else (.ok (.sh (.bl b)) ρ' : WD.R O)
        split <;> rfl
      | _ => rfl
    | _ => rfl
  | exn x ρ' => rfl
  | fail => rfl
theorem peMore {k : Bool} {a b : Expr} {rest : List Expr} {pos : Pos} {f : Fr → R O} {g : Fr → R Bool} (ha : PE X a (tO p W f)) (hb : PE X (.BoolOp (opL k) (b :: rest) pos) (tO p W (boV g))) :
    PE X (.BoolOp (opL k) (a :: b :: rest) pos) (tO p W (boV (bopM k f g))) := by
  cases k with
  | true =>
    refine peI (pe_and ha hb) fun σ H Q ⟨B, F, G, ρ, A, R, q⟩ => ⟨B, F, G, ρ, A, R, ?_⟩
    rw [bo_eq] at q
    refine (Post.asB q).imp fun o ρ1 F1 H1 A1 f1 R1 ⟨b, e, q⟩ v L ro ow => ?_
    subst e
    cases ro.shI.1
    refine ⟨b, rfl, ?_⟩
    cases b with
    | true => exact iteT ⟨B, F1, G, ρ1, A1, R1, q⟩
    | false => exact iteF (q.here (Same.refl _) R1 _ [] (.sh (.bl _)) Own.nil)
  | false =>
    refine peI (pe_or ha hb) fun σ H Q ⟨B, F, G, ρ, A, R, q⟩ => ⟨B, F, G, ρ, A, R, ?_⟩
    rw [bo_eq] at q
    refine (Post.asB q).imp fun o ρ1 F1 H1 A1 f1 R1 ⟨b, e, q⟩ v L ro ow => ?_
    subst e
    cases ro.shI.1
    refine ⟨b, rfl, ?_⟩
    cases b with
    | true => exact iteT (q.here (Same.refl _) R1 _ [] (.sh (.bl _)) Own.nil)
    | false => exact iteF ⟨B, F1, G, ρ1, A1, R1, q⟩

/-! ### chains of comparisons -/
/-- the rest of a chain: from the left value v -/
structure PCh (X : Cx) (ops : List CmpOp) (es : List Expr) (t : V → TT) : Prop where
  val : ∀ (pos : Pos) (pins : List (Addr × Obj)) (s : Shared) (σ : L2.St) (H : Hp) (x : V) (v : Value) (Q : VK), Inv X pins σ H s → RelV x v → t x σ H (fun b H1 => Q (.bl b) H1) →
    wpAny (model X.prog X.w) X.A (compareChain pos v ops (evalEach es X.env)) (EP X pins σ Q) X.xe s
  test : ∀ (pos : Pos) (pins : List (Addr × Obj)) (s : Shared) (σ : L2.St) (H : Hp) (x : V) (v : Value) (Q : Bool → Hp → Prop), Inv X pins σ H s → RelV x v → t x σ H Q →
    wpAny (model X.prog X.w) X.A (testChain pos v ops (evalEach es X.env)) (TP X pins σ Q) X.xe s
/-- the reading: the left operand is x0 -/
def tCh (p : Pm) (W : XK) (m : Pd → Fr → R Bool) : V → TT := fun v σ H Q => ∃ B F G ρ A x, RP p B F σ v x ∧ Rel p B F G H σ ρ A ∧ Post p W B F G σ (m x ρ) fun b _ _ H' _ => Q b H'
def chM (op : Cop) (f : Fr → R Pd) (g : Option (Pd → Fr → R Bool)) : Pd → Fr → R Bool := fun x ρ => bnd (f ρ) fun y ρ => opt (look ρ x) fun d => opt (look ρ y) fun d' => opt (cmpD op d d') fun k => match g with
  | none => .ok k ρ
  | some g => match k with
    | true => g y ρ
    | false => .ok false ρ
theorem chLast {op : Cop} {a : Expr} {f : Fr → R Pd} (hK : X.K = p.K) (hu : X.A.units + 64 < cLine) (ha : PE X a (tP p W f)) : PCh X [opC op] [a] (tCh p W (chM op f none)) := by
  have core : ∀ {σ : L2.St} {H : Hp} {x : V} {Q : Bool → Hp → Prop}, tCh p W (chM op f none) x σ H Q → tP p W f σ H fun y H1 => rCmp p op x y H1 fun z H2 => ∃ b, z = .bl b ∧ Q b H2 := fun ⟨B, F, G, ρ, A, x, rx, R, q⟩ => by
    refine ⟨B, F, G, ρ, A, R, ?_⟩
    refine (Post.bnd q).imp fun y ρ1 F1 H1 A1 f1 R1 q w rw' => ?_
    obtain ⟨d, e1, q⟩ := q.opt
    obtain ⟨e, e2, q⟩ := q.opt
    obtain ⟨k, e3, q⟩ := q.opt
    exact ⟨B, F1, d, e, k, R1.le, R1.look (rx.mono f1) e1, R1.look rw' e2, e3, k, rfl, q.here (Same.refl _) R1⟩
  refine ⟨fun pos pins s σ H x v Q I rx h => ?_, fun pos pins s σ H x v Q I rx h => ?_⟩
  · refine chain_last (thn (ha.run pins s σ H _ I (core h)) fun u s1 ⟨y, H1, I1, ry, q⟩ => thn (cmp_ok hK hu op pins s1 σ H1 x y v u _ I1 rx ry q) fun c s2 ⟨z, H2, I2, rz, b, e, q⟩ => ?_)
    subst e
    exact ⟨.bl b, H2, I2, rz, q⟩
  · refine test_last (thn (ha.run pins s σ H _ I (core h)) fun u s1 ⟨y, H1, I1, ry, q⟩ => thn (cmp_ok hK hu op pins s1 σ H1 x y v u _ I1 rx ry q) fun c s2 ⟨z, H2, I2, rz, b, e, q⟩ => ?_)
    subst e
    cases rz
    exact wpAny_truthy_bool ⟨H2, I2, q⟩
theorem chMore {op : Cop} {op' : CmpOp} {ops : List CmpOp} {a a' : Expr} {es : List Expr} {f : Fr → R Pd} {g : Pd → Fr → R Bool} (hK : X.K = p.K) (hu : X.A.units + 64 < cLine) (ha : PE X a (tP p W f)) (hr : PCh X (op' :: ops) (a' :: es) (tCh p W g)) :
    PCh X (opC op :: op' :: ops) (a :: a' :: es) (tCh p W (chM op f (some g))) := by
  have core : ∀ {σ : L2.St} {H : Hp} {x : V} {Q : Bool → Hp → Prop}, tCh p W (chM op f (some g)) x σ H Q → tP p W f σ H fun y H1 => rCmp p op x y H1 fun z H2 => ∃ b, z = .bl b ∧ if b = true then tCh p W g y σ H2 Q else Q false H2 := fun ⟨B, F, G, ρ, A, x, rx, R, q⟩ => by
    refine ⟨B, F, G, ρ, A, R, ?_⟩
    refine (Post.bnd q).imp fun y ρ1 F1 H1 A1 f1 R1 q w rw' => ?_
    obtain ⟨d, e1, q⟩ := q.opt
    obtain ⟨e, e2, q⟩ := q.opt
    obtain ⟨k, e3, q⟩ := q.opt
    refine ⟨B, F1, d, e, k, R1.le, R1.look (rx.mono f1) e1, R1.look rw' e2, e3, k, rfl, ?_⟩
    cases k with
    | true => exact iteT ⟨B, F1, G, ρ1, A1, y, rw', R1, q⟩
    | false => exact iteF (q.here (Same.refl _) R1)
  refine ⟨fun pos pins s σ H x v Q I rx h => ?_, fun pos pins s σ H x v Q I rx h => ?_⟩
  · refine chain_link (thn (ha.run pins s σ H _ I (core h)) fun u s1 ⟨y, H1, I1, ry, q⟩ => thn (cmp_ok hK hu op pins s1 σ H1 x y v u _ I1 rx ry q) fun c s2 ⟨z, H2, I2, rz, b, e, q⟩ => ?_)
    subst e
    cases rz
    refine wpAny_truthy_bool ?_
    cases b with
    | true => exact hr.val pos pins s2 σ H2 y u _ I2 ry q
    | false => exact ⟨.bl false, H2, I2, rfl, q⟩
  · refine test_link (thn (ha.run pins s σ H _ I (core h)) fun u s1 ⟨y, H1, I1, ry, q⟩ => thn (cmp_ok hK hu op pins s1 σ H1 x y v u _ I1 rx ry q) fun c s2 ⟨z, H2, I2, rz, b, e, q⟩ => ?_)
    subst e
    cases rz
    refine wpAny_truthy_bool ?_
    cases b with
    | true => exact hr.test pos pins s2 σ H2 y u _ I2 ry q
    | false => exact ⟨H2, I2, q⟩
def chnM (f : Fr → R Pd) (g : Pd → Fr → R Bool) : Fr → R O := fun ρ => bnd (f ρ) fun x ρ => bnd (g x ρ) fun k ρ => .ok (.sh (.bl k)) ρ
theorem chn_core {f : Fr → R Pd} {g : Pd → Fr → R Bool} {σ : L2.St} {H : Hp} {Q : Bool → Hp → Prop} (h : tT p W (chnM f g) σ H Q) : tP p W f σ H fun x H1 => tCh p W g x σ H1 Q := by
  obtain ⟨B, F, G, ρ, A, R, q⟩ := h
  refine ⟨B, F, G, ρ, A, R, ?_⟩
  refine (Post.bnd q).imp fun y ρ1 F1 H1 A1 f1 R1 q w rw' => ⟨B, F1, G, ρ1, A1, y, rw', R1, ?_⟩
  refine (Post.bnd q).imp fun b ρ2 F2 H2 A2 f2 R2 q => ?_
  obtain ⟨b', e, q⟩ := q.here (Same.refl _) R2
  cases e
  exact q
theorem ptChn {a b c : Expr} {op1 op2 : CmpOp} {ops : List CmpOp} {es : List Expr} {pos : Pos} {f : Fr → R Pd} {g : Pd → Fr → R Bool} (ha : PE X a (tP p W f)) (hr : PCh X (op1 :: op2 :: ops) (b :: c :: es) (tCh p W g)) (hm : lastMarks (op1 :: op2 :: ops) (b :: c :: es) = false) :
    PT X (.Compare a (op1 :: op2 :: ops) (b :: c :: es) pos) (tT p W (chnM f g)) := by
  refine ⟨fun pins s σ H Q I h => ?_⟩
  exact isTrue_chain (thn (ha.run pins s σ H _ I (chn_core h)) fun v s1 ⟨x, H1, I1, r1, q1⟩ => hr.test pos pins s1 σ H1 x v Q I1 r1 q1) hm
theorem peChn {a b c : Expr} {op1 op2 : CmpOp} {ops : List CmpOp} {es : List Expr} {pos : Pos} {f : Fr → R Pd} {g : Pd → Fr → R Bool} (ha : PE X a (tP p W f)) (hr : PCh X (op1 :: op2 :: ops) (b :: c :: es) (tCh p W g)) (hm : lastMarks (op1 :: op2 :: ops) (b :: c :: es) = false) :
    PE X (.Compare a (op1 :: op2 :: ops) (b :: c :: es) pos) (tO p W (chnM f g)) := by
  refine ⟨fun pins s σ H Q I h => ?_⟩
  have h2 : tT p W (chnM f g) σ H fun b H1 => Q (.bl b) H1 := tO_tT h fun ρ o ρ' e => by
    obtain ⟨x, ρ1, _, e⟩ := bnd_inv e
    obtain ⟨k, ρ2, _, e⟩ := bnd_inv e
    cases e
    exact ⟨k, rfl⟩
  exact Compare_chain (thn (ha.run pins s σ H _ I (chn_core h2)) fun v s1 ⟨x, H1, I1, r1, q1⟩ => hr.val pos pins s1 σ H1 x v _ I1 r1 q1) hm
end
end WD

/-! WD, part 6: the defs' promise; calls. -/
namespace WD
open PySem PySem.Spec PyProof.Rows L2
open Classical in
/-- all that the slots own is lent -/
noncomputable def lentAll (G H : Hp) (A : Fp) : Hp := fun b => if ∃ i, b ∈ A i then H b else G b
theorem Lg.all {p : Pm} {B : Addr → Prop} {F G H : Hp} {σ : L2.St} {ρ : Fr} {A : Fp} (R : Rel p B F G H σ ρ A) : Lg p (lentAll G H A) H := by
  refine ⟨fun b x e n => ?_, R.lg.tabs, fun q hq => ?_⟩
  · unfold lentAll at e
    split at e
    · rename_i hm
      obtain ⟨i, hm⟩ := hm
      obtain ⟨_, _, y, h3, h4⟩ := R.own i b hm
      rw [h3] at e
      cases e
      exact ⟨h3, h4⟩
    · exact R.lg.same b x e n
  · obtain ⟨o, e⟩ := R.lg.there q hq
    refine ⟨o, ?_⟩
    unfold lentAll
    rw [if_neg]
    · exact e
    · rintro ⟨i, hm⟩
      rw [(R.own i _ hm).2.1] at e
      cases e
section
variable {p : Pm} {B : Addr → Prop} {F F' G H H' : Hp} {σ σ' : L2.St} {ρ ρ' : Fr} {A A' : Fp} {L : List Addr}
/-- what no slot holds is lent to the others' side -/
theorem Rel.lend (R : Rel p B F G H σ ρ A) (ow : Own F G H A L) : Rel p B F (joined G H L) H σ ρ A := by
  refine ⟨R.le, R.lg.lend ow, fun b x e => ?_, R.bd, R.len, R.sl, R.nd, R.dj, fun i a ha => ?_⟩
  · refine ⟨?_, (R.fg b x e).2⟩
    unfold joined
    split
    · rename_i hm
      rw [(ow.own b hm).1] at e
      cases e
    · exact (R.fg b x e).1
  · obtain ⟨h1, h2, h3⟩ := R.own i a ha
    refine ⟨h1, ?_, h3⟩
    unfold joined
    rw [if_neg fun hm => ow.ap a hm i ha]
    exact h2
/-- .. and given back -/
theorem Rel.back (l0 : Lg p G H) (ow : Own F G H A L) (R : Rel p B F' (joined G H L) H' σ' ρ' A') : Rel p B F' G H' σ' ρ' A' ∧ Own F' G H' A' L ∧ ∀ a ∈ L, H' a = H a := by
  have hj : ∀ a ∈ L, ∃ o, H a = some o ∧ joined G H L a = some o ∧ NT o := fun a ha => by
    obtain ⟨_, _, o, e, n⟩ := ow.own a ha
    exact ⟨o, e, by unfold joined; rw [if_pos ha]; exact e, n⟩
  have hk : ∀ a ∈ L, H' a = H a := fun a ha => by
    obtain ⟨o, e1, e2, _⟩ := hj a ha
    rw [(R.lg.same a o e2 (l0.off (ow.own a ha).2.1)).1, e1]
  have hn : ∀ b, joined G H L b = none → G b = none := fun b e => by
    unfold joined at e
    split at e
    · rename_i hm
      obtain ⟨_, _, o, e', _⟩ := ow.own b hm
      rw [e'] at e
      cases e
    · exact e
  refine ⟨⟨R.le, l0.back R.lg ow, fun b x e => ⟨hn b (R.fg b x e).1, (R.fg b x e).2⟩, R.bd, R.len, R.sl, R.nd, R.dj, fun i a ha => ?_⟩, ⟨ow.nd, fun a ha => ?_, fun a ha i hi => ?_⟩, hk⟩
  · obtain ⟨h1, h2, h3⟩ := R.own i a ha
    exact ⟨h1, hn a h2, h3⟩
  · obtain ⟨o, e1, e2, n⟩ := hj a ha
    refine ⟨?_, (ow.own a ha).2.1, o, by rw [hk a ha]; exact e1, n⟩
    cases q : F' a with
    | none => rfl
    | some x =>
      rw [(R.fg a x q).1] at e2
      cases e2
  · obtain ⟨o, e1, e2, _⟩ := hj a ha
    rw [(R.own i a hi).2.1] at e2
    cases e2
inductive ArgR (p : Pm) (B : Addr → Prop) (F H : Hp) : List V → List O → List (List Addr) → Prop
  | nil : ArgR p B F H [] [] []
  | cons {v : V} {vs : List V} {o : O} {os : List O} {L : List Addr} {Ls : List (List Addr)} : RO p B F H v o L → ArgR p B F H vs os Ls → ArgR p B F H (v :: vs) (o :: os) (L :: Ls)
theorem ArgR.mono (e : Same F F') : ∀ {vs : List V} {os : List O} {Ls : List (List Addr)}, ArgR p B F H vs os Ls → (∀ a ∈ Ls.flatten, H' a = H a) → ArgR p B F' H' vs os Ls
  | _, _, _, .nil, _ => .nil
  | _, _, _, .cons h r, k => .cons (h.mono e fun a ha => k a (by rw [List.flatten_cons]; exact List.mem_append_left _ ha)) (ArgR.mono e r fun a ha => k a (by rw [List.flatten_cons]; exact List.mem_append_right _ ha))
theorem ArgR.len : ∀ {vs : List V} {os : List O} {Ls : List (List Addr)}, ArgR p B F H vs os Ls → vs.length = os.length ∧ Ls.length = os.length
  | _, _, _, .nil => ⟨rfl, rfl⟩
  | _, _, _, .cons _ r => ⟨congrArg Nat.succ r.len.1, congrArg Nat.succ r.len.2⟩
theorem ArgR.get : ∀ {vs : List V} {os : List O} {Ls : List (List Addr)} {i : Nat} {o : O}, ArgR p B F H vs os Ls → os[i]? = some o → ∃ v L, vs[i]? = some v ∧ Ls[i]? = some L ∧ RO p B F H v o L
  | _, _, _, _, _, .nil, e => by simp at e
  | _, _, _, 0, _, .cons h _, e => by
    simp at e
    subst e
    exact ⟨_, _, rfl, rfl, h⟩
  | _, _, _, i + 1, _, .cons _ r, e => by
    obtain ⟨v, L, e1, e2, h⟩ := ArgR.get (i := i) r (by simpa using e)
    exact ⟨v, L, by simpa using e1, by simpa using e2, h⟩
def pick {α : Type} : List Bool → List α → List α
  | true :: fs, x :: xs => x :: pick fs xs
  | false :: fs, _ :: xs => pick fs xs
  | _, _ => []
/-- the slots that lent, by the values -/
inductive IsR (σ : L2.St) (n : Nat) : List Nat → List V → Prop
  | nil : IsR σ n [] []
  | cons {i : Nat} {is : List Nat} {v : V} {vs : List V} : σ[i]? = some (some v) → i < n → IsR σ n is vs → IsR σ n (i :: is) (v :: vs)
theorem takeA_len : ∀ {fs : List Bool} {ps : List Pd} {ρ ρ1 : Fr} {os : List O} {is : List Nat}, takeA ρ fs ps = some (os, is, ρ1) → ρ1.length = ρ.length
  | [], [], _, _, _, _, e => by
    cases e
    rfl
  | true :: fs, .at i :: ps, ρ, _, _, _, e => by
    simp only [takeA] at e
    split at e
    · split at e
      · rename_i e2
        cases e
        rw [takeA_len e2, setS_len]
      · cases e
    · cases e
  | false :: fs, q :: ps, ρ, _, _, _, e => by
    simp only [takeA] at e
    split at e
    · rename_i d ρ2 e1
      split at e
      · rename_i e2
        cases e
        rw [takeA_len e2]
        cases q with
        | val d' =>
          cases e1
          rfl
        | «at» i =>
          simp only [give, WD.frzAt] at e1
          split at e1
          · split at e1
            · cases e1
              exact setS_len _ _ _
            · cases e1
          · cases e1
      · cases e
    · cases e
  | [], _ :: _, _, _, _, _, e => by simp [takeA] at e
  | true :: _, .val _ :: _, _, _, _, _, e => by simp [takeA] at e
  | true :: _, [], _, _, _, _, e => by simp [takeA] at e
  | false :: _, [], _, _, _, _, e => by simp [takeA] at e
theorem takeA_ok : ∀ {fs : List Bool} {ps : List Pd} {vs : List V} {F G : Hp} {ρ ρ1 : Fr} {A : Fp} {os : List O} {is : List Nat}, Rel p B F G H σ ρ A → RPs p B F σ vs ps → takeA ρ fs ps = some (os, is, ρ1) →
    ∃ F1 A1 Ls, Same F F1 ∧ Rel p B F1 G H σ ρ1 A1 ∧ ArgR p B F1 H vs os Ls ∧ Own F1 G H A1 Ls.flatten ∧ IsR σ ρ1.length is (pick fs vs)
  | [], _, _, F, G, ρ, _, A, _, _, R, .nil, e => by
    cases e
    exact ⟨F, A, [], Same.refl _, R, .nil, Own.nil, .nil⟩
  | true :: fs, _, _, F, G, ρ, ρ1, A, _, _, R, .cons (d := x) h r, e => by
    cases x with
    | val d => simp [takeA] at e
    | «at» i =>
      have hlen := takeA_len e
      simp only [takeA] at e
      split at e
      · rename_i o hg
        split at e
        · rename_i os is ρ2 e2
          cases e
          obtain ⟨v, e3, ro, R1, ow⟩ := R.take hg
          rw [show σ[i]? = some (some _) from h] at e3
          cases e3
          obtain ⟨F1, A1, Ls, f1, R2, ar, ow2, isr⟩ := takeA_ok (R1.lend ow) r e2
          obtain ⟨R3, ow3, _⟩ := Rel.back R1.lg ow R2
          refine ⟨F1, A1, A i :: Ls, f1, R3, .cons (ro.mono f1 fun _ _ => rfl) ar, ⟨?_, fun a ha => ?_, fun a ha j => ?_⟩, .cons h (by rw [hlen]; exact getS_lt hg) isr⟩
          · rw [List.flatten_cons, List.nodup_append]
            refine ⟨ow3.nd, ow2.nd, fun a ha b hb z => ?_⟩
            subst z
            have q := (ow2.own a hb).2.1
            obtain ⟨_, _, o', e4, _⟩ := ow.own a ha
            unfold joined at q
            rw [if_pos ha, e4] at q
            cases q
          · rw [List.flatten_cons] at ha
            rcases List.mem_append.mp ha with ha | ha
            · exact ow3.own a ha
            · obtain ⟨h1, h2, h3⟩ := ow2.own a ha
              refine ⟨h1, ?_, h3⟩
              unfold joined at h2
              split at h2
              · rename_i hm
                obtain ⟨_, _, o', e4, _⟩ := ow.own a hm
                rw [e4] at h2
                cases h2
              · exact h2
          · rw [List.flatten_cons] at ha
            rcases List.mem_append.mp ha with ha | ha
            · exact ow3.ap a ha j
            · exact ow2.ap a ha j
        · cases e
      · cases e
  | false :: fs, _, _, F, G, ρ, ρ1, A, _, _, R, .cons (d := x) h r, e => by
    simp only [takeA] at e
    split at e
    · rename_i d ρ2 e1
      split at e
      · rename_i os is ρ3 e2
        cases e
        cases x with
        | val d' =>
          cases e1
          obtain ⟨F1, A1, Ls, f1, R2, ar, ow2, isr⟩ := takeA_ok R r e2
          exact ⟨F1, A1, [] :: Ls, f1, R2, .cons (.sh (RD.mono f1 h)) ar, ow2, isr⟩
        | «at» i =>
          obtain ⟨v, F0, A0, e3, f0, R1, rd, _⟩ := R.frzAt (i := i) e1
          rw [show σ[i]? = some (some _) from h] at e3
          cases e3
          obtain ⟨F1, A1, Ls, f1, R2, ar, ow2, isr⟩ := takeA_ok R1 (r.mono f0) e2
          exact ⟨F1, A1, [] :: Ls, f0.trans f1, R2, .cons (.sh (rd.mono f1)) ar, ow2, isr⟩
      · cases e
    · cases e
theorem flat_apart : ∀ {Ls : List (List Addr)} {i j : Nat} {L M : List Addr} {a : Addr}, Ls.flatten.Nodup → Ls[i]? = some L → Ls[j]? = some M → a ∈ L → a ∈ M → i = j
  | [], _, _, _, _, _, _, e, _, _, _ => by simp at e
  | K :: Ls, 0, 0, _, _, _, _, _, _, _, _ => rfl
  | K :: Ls, 0, j + 1, L, M, a, n, e1, e2, h1, h2 => by
    rw [List.flatten_cons, List.nodup_append] at n
    simp at e1 e2
    subst e1
    exact absurd rfl (n.2.2 a h1 a (List.mem_flatten.mpr ⟨M, List.mem_of_getElem? e2, h2⟩))
  | K :: Ls, i + 1, 0, L, M, a, n, e1, e2, h1, h2 => by
    rw [List.flatten_cons, List.nodup_append] at n
    simp at e1 e2
    subst e2
    exact absurd rfl (n.2.2 a h2 a (List.mem_flatten.mpr ⟨L, List.mem_of_getElem? e1, h1⟩))
  | K :: Ls, i + 1, j + 1, L, M, a, n, e1, e2, h1, h2 => by
    rw [List.flatten_cons, List.nodup_append] at n
    exact congrArg Nat.succ (flat_apart n.2.1 (by simpa using e1) (by simpa using e2) h1 h2)
theorem flat_nodup {Ls : List (List Addr)} {L : List Addr} (n : Ls.flatten.Nodup) (h : L ∈ Ls) : L.Nodup := by
  induction Ls with
  | nil => cases h
  | cons K Ls ih =>
    rw [List.flatten_cons, List.nodup_append] at n
    rcases List.mem_cons.mp h with rfl | h
    · exact n.1
    · exact ih n.2.1 h
/-- the callee's side -/
theorem Rel.args (R : Rel p B F G H σ ρ A) {vs : List V} {os : List O} {Ls : List (List Addr)} (ar : ArgR p B F H vs os Ls) (ow : Own F G H A Ls.flatten) :
    Rel p B F (lentAll G H A) H (vs.map some) (os.map some) (fun k => (Ls[k]?).getD []) := by
  have hm : ∀ (k : Nat) (a : Addr), a ∈ (Ls[k]?).getD [] → ∃ L, Ls[k]? = some L ∧ a ∈ L ∧ a ∈ Ls.flatten := fun k a ha => by
    cases e : Ls[k]? with
    | none =>
      rw [e] at ha
      cases ha
    | some L =>
      rw [e] at ha
      exact ⟨L, rfl, ha, List.mem_flatten.mpr ⟨L, List.mem_of_getElem? e, ha⟩⟩
  refine ⟨R.le, Lg.all R, fun b x e => ?_, R.bd, by rw [List.length_map, List.length_map]; exact ar.len.1, fun i o e => ?_, fun i => ?_, fun i j a h1 h2 => ?_, fun i a ha => ?_⟩
  · refine ⟨?_, (R.fg b x e).2⟩
    unfold lentAll
    split
    · rename_i hi
      obtain ⟨i, hi⟩ := hi
      rw [(R.own i b hi).1] at e
      cases e
    · exact (R.fg b x e).1
  · rw [getS_map_some] at e
    obtain ⟨v, L, e1, e2, ro⟩ := ar.get e
    refine ⟨v, by rw [List.getElem?_map, e1]; rfl, ?_⟩
    show RO p B F H v o ((Ls[i]?).getD [])
    rw [e2]
    exact ro
  · show ((Ls[i]?).getD []).Nodup
    cases e : Ls[i]? with
    | none => exact List.nodup_nil
    | some L => exact flat_nodup ow.nd (List.mem_of_getElem? e)
  · obtain ⟨L, e1, m1, _⟩ := hm i a h1
    obtain ⟨M, e2, m2, _⟩ := hm j a h2
    exact flat_apart ow.nd e1 e2 m1 m2
  · obtain ⟨L, e1, m1, m⟩ := hm i a ha
    obtain ⟨h1, h2, h3⟩ := ow.own a m
    refine ⟨h1, ?_, h3⟩
    unfold lentAll
    rw [if_neg]
    · exact h2
    · rintro ⟨j, hj⟩
      exact ow.ap a m j hj
/-- behind the callee: the caller's slots as they were -/
theorem Rel.behind (R : Rel p B F G H σ ρ A) (f : Same F F') {σ' : L2.St} {ρ' : Fr} {A' : Fp} (R' : Rel p B F' (lentAll G H A) H' σ' ρ' A') : Rel p B F' G H' σ ρ A := by
  have hj : ∀ i a, a ∈ A i → ∃ o, H a = some o ∧ lentAll G H A a = some o ∧ NT o := fun i a ha => by
    obtain ⟨_, _, o, e, n⟩ := R.own i a ha
    refine ⟨o, e, ?_, n⟩
    unfold lentAll
    rw [if_pos ⟨i, ha⟩]
    exact e
  have hk : ∀ i a, a ∈ A i → H' a = H a := fun i a ha => by
    obtain ⟨o, e1, e2, _⟩ := hj i a ha
    rw [(R'.lg.same a o e2 (R.lg.off (R.own i a ha).2.1)).1, e1]
  have hn : ∀ b, lentAll G H A b = none → G b = none := fun b e => by
    unfold lentAll at e
    split at e
    · rename_i hi
      obtain ⟨i, hi⟩ := hi
      obtain ⟨_, _, o, e', _⟩ := R.own i b hi
      rw [e'] at e
      cases e
    · exact e
  refine ⟨R'.le, ⟨fun b x e n => ?_, R'.lg.tabs, R.lg.there⟩, fun b x e => ⟨hn b (R'.fg b x e).1, (R'.fg b x e).2⟩, R'.bd, R.len, fun i o e => ?_, R.nd, R.dj, fun i a ha => ?_⟩
  · by_cases hi : ∃ i, b ∈ A i
    · obtain ⟨i, hi⟩ := hi
      rw [(R.own i b hi).2.1] at e
      cases e
    · exact R'.lg.same b x (by unfold lentAll; rw [if_neg hi]; exact e) n
  · obtain ⟨v, e1, ro⟩ := R.sl i o e
    exact ⟨v, e1, ro.mono f fun a ha => hk i a ha⟩
  · obtain ⟨o, e1, e2, n⟩ := hj i a ha
    refine ⟨?_, (R.own i a ha).2.1, o, by rw [hk i a ha]; exact e1, n⟩
    cases q : F' a with
    | none => rfl
    | some x =>
      rw [(R'.fg a x q).1] at e2
      cases e2
theorem lent_none (R : Rel p B F G H σ ρ A) {a : Addr} (h : lentAll G H A a = none) : G a = none ∧ ∀ i, a ∉ A i := by
  have hi : ¬ ∃ i, a ∈ A i := by
    rintro ⟨i, hi⟩
    obtain ⟨_, _, o, e, _⟩ := R.own i a hi
    unfold lentAll at h
    rw [if_pos ⟨i, hi⟩, e] at h
    cases h
  refine ⟨?_, fun i z => hi ⟨i, z⟩⟩
  unfold lentAll at h
  rw [if_neg hi] at h
  exact h
/-- the slots get back what they lent -/
theorem Rel.puts : ∀ {is : List Nat} {vs : List V} {os : List O} {Ls : List (List Addr)} {ρ ρ' : Fr} {A : Fp} {L : List Addr}, Rel p B F G H σ ρ A → ArgR p B F H vs os Ls → Own F G H A (L ++ Ls.flatten) → IsR σ ρ.length is vs → backA ρ is os = some ρ' →
    ∃ A', Rel p B F G H σ ρ' A' ∧ Own F G H A' L
  | [], _, _, _, ρ, _, A, L, R, .nil, ow, .nil, e => by
    cases e
    simp only [List.flatten_nil, List.append_nil] at ow
    exact ⟨A, R, ow⟩
  | i :: is, _, _, _, ρ, ρ', A, L, R, .cons (L := M) (Ls := Ls) ro ar, ow, .cons h hi isr, e => by
    simp only [backA] at e
    have n := ow.nd
    rw [List.flatten_cons, List.nodup_append, List.nodup_append] at n
    have mM : ∀ a ∈ M, a ∈ L ++ (M :: Ls).flatten := fun a ha => List.mem_append_right _ (by rw [List.flatten_cons]; exact List.mem_append_left _ ha)
    have mL : ∀ a ∈ L ++ Ls.flatten, a ∈ L ++ (M :: Ls).flatten := fun a ha => by
      rcases List.mem_append.mp ha with ha | ha
      · exact List.mem_append_left _ ha
      · exact List.mem_append_right _ (by rw [List.flatten_cons]; exact List.mem_append_right _ ha)
    have R1 := R.put (i := i) ro ⟨n.2.1.1, fun a ha => ow.own a (mM a ha), fun a ha j hj => by
      have hj' : a ∈ (if j = i then [] else A j : List Addr) := hj
      split at hj'
      · cases hj'
      · exact ow.ap a (mM a ha) j hj'⟩ hi
    rw [set_same h] at R1
    refine Rel.puts R1 ar ⟨?_, fun a ha => ow.own a (mL a ha), fun a ha j hj => ?_⟩ (by rw [setS_len]; exact isr) e
    · rw [List.nodup_append]
      exact ⟨n.1, n.2.1.2.1, fun a ha b hb z => n.2.2 a ha b (List.mem_append_right _ hb) z⟩
    · have hj' : a ∈ (if j = i then M else A j : List Addr) := hj
      split at hj'
      · rcases List.mem_append.mp ha with ha | ha
        · exact n.2.2 a ha a (List.mem_append_left _ hj') rfl
        · exact n.2.1.2.2 a hj' a ha rfl
      · exact ow.ap a (mL a ha) j hj'
/-- a frame of things as arguments -/
theorem Rel.toArgs : ∀ {vs : List V} {os : List O} {A : Fp}, Rel p B F G H (vs.map some) (os.map some) A → ∃ Ls, ArgR p B F H vs os Ls ∧ Own F G H (fun _ => []) Ls.flatten ∧ ∀ a ∈ Ls.flatten, ∃ i, a ∈ A i := by
  intro vs os A R
  have hl : vs.length = os.length := by
    have := R.len
    rw [List.length_map, List.length_map] at this
    exact this
  have go : ∀ (n : Nat) (vs : List V) (os : List O), vs.length = os.length → (∀ i o, os[i]? = some o → ∃ v, vs[i]? = some v ∧ RO p B F H v o (A (n + i))) →
      ∃ Ls, ArgR p B F H vs os Ls ∧ Ls = (List.range' n os.length).map A := by
    intro n vs os
    induction os generalizing n vs with
    | nil =>
      intro h _
      cases vs with
      | nil => exact ⟨[], .nil, rfl⟩
      | cons v vs => cases h
    | cons o os ih =>
      intro h k
      cases vs with
      | nil => cases h
      | cons v vs =>
        obtain ⟨v', e1, ro⟩ := k 0 o rfl
        simp at e1
        subst e1
        obtain ⟨Ls, ar, eL⟩ := ih (n + 1) vs (Nat.succ.inj h) fun i o' e => by
          obtain ⟨v2, e2, r2⟩ := k (i + 1) o' (by simpa using e)
          exact ⟨v2, by simpa using e2, by rw [show n + 1 + i = n + (i + 1) by omega]; exact r2⟩
        exact ⟨A n :: Ls, .cons ro ar, by rw [eL]; rfl⟩
  obtain ⟨Ls, ar, eL⟩ := go 0 vs os hl fun i o e => by
    obtain ⟨v, e1, ro⟩ := R.sl i o (by rw [getS_map_some]; exact e)
    rw [List.getElem?_map] at e1
    cases q : vs[i]? with
    | none =>
      rw [q] at e1
      cases e1
    | some v' =>
      rw [q] at e1
      have e2 : v' = v := by simpa using e1
      exact ⟨v', rfl, by rw [Nat.zero_add, e2]; exact ro⟩
  have mem : ∀ a ∈ Ls.flatten, ∃ i, a ∈ A i := fun a ha => by
    obtain ⟨L, h1, h2⟩ := List.mem_flatten.mp ha
    rw [eL] at h1
    obtain ⟨i, _, e⟩ := List.mem_map.mp h1
    exact ⟨i, by rw [e]; exact h2⟩
  have nd : ∀ (n m : Nat), (((List.range' n m).map A).flatten).Nodup ∧ ∀ a ∈ ((List.range' n m).map A).flatten, ∃ i, n ≤ i ∧ a ∈ A i := by
    intro n m
    induction m generalizing n with
    | zero => exact ⟨List.nodup_nil, fun a h => by simp at h⟩
    | succ m ih =>
      obtain ⟨h1, h2⟩ := ih (n + 1)
      rw [List.range'_succ, List.map_cons, List.flatten_cons]
      refine ⟨List.nodup_append.mpr ⟨R.nd n, h1, fun a ha b hb z => ?_⟩, fun a ha => ?_⟩
      · subst z
        obtain ⟨i, h3, h4⟩ := h2 a hb
        have := R.dj n i a ha h4
        omega
      · rcases List.mem_append.mp ha with ha | ha
        · exact ⟨n, Nat.le_refl _, ha⟩
        · obtain ⟨i, h3, h4⟩ := h2 a ha
          exact ⟨i, by omega, h4⟩
  refine ⟨Ls, ar, ⟨by rw [eL]; exact (nd 0 _).1, fun a ha => ?_, fun a _ i h => by cases h⟩, mem⟩
  obtain ⟨i, hi⟩ := mem a ha
  exact R.own i a hi
end

/-- a def's promise: the evaluator's answer -/
def spF (p : Pm) (np : Nat) (io : List Bool) (run : List O → CR) : Sp := fun vs H Q W => vs.length = np ∧ ∃ B F G os A, Rel p B F G H (vs.map some) (os.map some) A ∧ match run os with
  | .ok o outs => ∀ v H' F' A' L, Same F F' → Rel p B F' G H' ((pick io vs).map some) (outs.map some) A' → RO p B F' H' v o L → Own F' G H' A' L → Q v H'
  | .exn x outs => ∀ c d H' F' A', Same F F' → Rel p B F' G H' ((pick io vs).map some) (outs.map some) A' → XR p B F' H' x c d → W c d H'
  | .fail => False
section
variable {p : Pm} {W : XK} {B : Addr → Prop} {F G H : Hp} {σ : L2.St} {ρ : Fr} {A : Fp}
theorem lent_own {F' H' : Hp} {A2 : Fp} {L : List Addr} {Ls : List (List Addr)} (R : Rel p B F G H σ ρ A) (ow : Own F' (lentAll G H A) H' A2 L) (ow2 : Own F' (lentAll G H A) H' (fun _ => []) Ls.flatten) (m : ∀ a ∈ Ls.flatten, ∃ i, a ∈ A2 i) :
    Own F' G H' A (L ++ Ls.flatten) := by
  refine ⟨List.nodup_append.mpr ⟨ow.nd, ow2.nd, fun a ha b hb z => ?_⟩, fun a ha => ?_, fun a ha i => ?_⟩
  · subst z
    obtain ⟨i, hi⟩ := m a hb
    exact ow.ap a ha i hi
  · rcases List.mem_append.mp ha with ha | ha
    · obtain ⟨h1, h2, h3⟩ := ow.own a ha
      exact ⟨h1, (lent_none R h2).1, h3⟩
    · obtain ⟨h1, h2, h3⟩ := ow2.own a ha
      exact ⟨h1, (lent_none R h2).1, h3⟩
  · rcases List.mem_append.mp ha with ha | ha
    · exact (lent_none R (ow.own a ha).2.1).2 i
    · exact (lent_none R (ow2.own a ha).2.1).2 i
/-- a call's promise from the caller's reading -/
theorem call_core {cl : Cl} {f np : Nat} {ps : List Pd} {vs : List V} {Q : VK} (R : Rel p B F G H σ ρ A) (rp : RPs p B F σ vs ps) (hn : vs.length = np)
    (h : Post p W B F G σ (doCall cl f ps ρ) fun o _ F' H' A' => ∀ v L, RO p B F' H' v o L → Own F' G H' A' L → Q v H') : spF p np (cl.io f) (cl.run f) vs H Q W := by
  unfold doCall at h
  split at h
  · exact h.elim
  · rename_i os is ρ1 e1
    obtain ⟨F1, A1, Ls, f1, R1, ar, ow, isr⟩ := takeA_ok R rp e1
    refine ⟨hn, B, F1, lentAll G H A1, os, _, R1.args ar ow, ?_⟩
    split at h
    · rename_i o outs e2
      try rw [e2]
      obtain ⟨ρ2, e3, h⟩ := h.opt
      intro v H' F' A' L f2 R2 ro ow2
      obtain ⟨Ls', ar', ow3, m⟩ := R2.toArgs
      obtain ⟨A2, R3, ow4⟩ := (R1.behind f2 R2).puts ar' (lent_own R1 ow2 ow3 m) isr e3
      exact h _ _ _ (f1.trans f2) R3 v L ro ow4
    · rename_i x outs e2
      try rw [e2]
      obtain ⟨ρ2, e3, h⟩ := h.opt
      intro c d H' F' A' f2 R2 xr
      obtain ⟨Ls', ar', ow3, m⟩ := R2.toArgs
      obtain ⟨A2, R3, _⟩ := (R1.behind f2 R2).puts (L := []) ar' (lent_own R1 Own.nil ow3 m) isr e3
      exact h c d _ _ _ (f1.trans f2) R3 xr
    · exact h.elim
end
end WD

/-! WD, part 7: targets, what is walked, comprehensions. -/
namespace WD
open PySem PySem.Spec PyProof.Rows L2

/-! ### targets -/
def slotsT : T → List Nat
  | .name i => [i]
  | .tup ts => slotsT ts
  | .nil => []
  | .cons t ts => slotsT t ++ slotsT ts
/-- outside some slots as it was -/
def Off (is : List Nat) (σ σ' : L2.St) : Prop := ∀ j, j ∉ is → σ'[j]? = σ[j]?
theorem Off.refl (is : List Nat) (σ : L2.St) : Off is σ σ := fun _ _ => rfl
theorem Off.trans {is js : List Nat} {σ σ' σ'' : L2.St} (a : Off is σ σ') (b : Off js σ' σ'') : Off (is ++ js) σ σ'' := fun j h => by
  rw [List.mem_append, not_or] at h
  rw [b j h.2, a j h.1]
def tTg (p : Pm) (tg : T) : TG := fun v σ H Q => ∃ B F G ρ A d ρ', Rel p B F G H σ ρ A ∧ RD p B F v d ∧ asg tg d ρ = some ρ' ∧ ∀ σ' A', Rel p B F G H σ' ρ' A' → Off (slotsT tg) σ σ' → Q σ' H
def tTgs (p : Pm) (ts : T) : TGs := fun vs σ H Q => ∃ B F G ρ A ds ρ', Rel p B F G H σ ρ A ∧ RDs p B F vs ds ∧ asgs ts ds ρ = some ρ' ∧ ∀ σ' A', Rel p B F G H σ' ρ' A' → Off (slotsT ts) σ σ' → Q σ' H
theorem pgI {X : Cx} {e : Expr} {t t' : TG} (h : PG X e t) (i : ∀ v σ H Q, t' v σ H Q → t v σ H Q) : PG X e t' := ⟨fun pins s σ H v u Q I r q => h.run pins s σ H v u Q I r (i v σ H Q q)⟩
theorem pgsI {X : Cx} {es : List Expr} {t t' : TGs} (h : PGs X es t) (i : ∀ v σ H Q, t' v σ H Q → t v σ H Q) : PGs X es t' := ⟨fun pins s σ H v u Q I r q => h.run pins s σ H v u Q I r (i v σ H Q q)⟩
section
variable {p : Pm} {B : Addr → Prop} {F G H : Hp} {σ : L2.St} {ρ : Fr} {A : Fp} {X : Cx}
/-- data into a slot -/
theorem Rel.putD (R : Rel p B F G H σ ρ A) {i : Nat} {v : V} {d : D} (r : RD p B F v d) (hi : i < ρ.length) : Rel p B F G H (σ.set i (some v)) (setS ρ i (some (.sh d))) (fun j => if j = i then [] else A j) :=
  R.put (.sh r) Own.nil hi
theorem set_none {α : Type} : ∀ (xs : List α) (i : Nat) (x : α), xs.length ≤ i → xs.set i x = xs
  | [], _, _, _ => rfl
  | a :: r, 0, _, h => by simp at h
  | a :: r, i + 1, x, h => congrArg (a :: ·) (set_none r i x (by simpa using h))
theorem setS_none : ∀ (ρ : Fr) (i : Nat) (x : Option O), ρ.length ≤ i → setS ρ i x = ρ
  | [], _, _, _ => rfl
  | a :: r, 0, _, h => by simp at h
  | a :: r, i + 1, x, h => congrArg (a :: ·) (setS_none r i x (by simpa using h))
theorem Rel.putD' (R : Rel p B F G H σ ρ A) (i : Nat) {v : V} {d : D} (r : RD p B F v d) : ∃ A', Rel p B F G H (σ.set i (some v)) (setS ρ i (some (.sh d))) A' := by
  by_cases hi : i < ρ.length
  · exact ⟨_, R.putD r hi⟩
  · rw [set_none σ i _ (by rw [R.len]; omega), setS_none ρ i _ (by omega)]
    exact ⟨A, R⟩
theorem off_set (σ : L2.St) (i : Nat) (v : V) : Off [i] σ (σ.set i (some v)) := fun j h => List.getElem?_set_ne fun e => h (by rw [e]; exact List.mem_singleton_self _)
theorem pgName {i : Nat} {x : Str} {pos : Pos} (hN : X.N.Nodup) (hi : X.N[i]? = some x) (hx : Loc X.env.scope x) (hf : X.fn x = true ∨ X.env.scope.names.lookup x = some .local) : PG X (.Name x pos) (tTg p (.name i)) :=
  pgI (pg_name hN hi hx hf) fun v σ H Q ⟨B, F, G, ρ, A, d, ρ', R, r, e, q⟩ => by
    cases e
    obtain ⟨A', R'⟩ := R.putD' i r
    exact q _ A' R' (off_set σ i v)
theorem pgsNil : PGs X [] (tTgs p .nil) := pgsI pgs_nil fun vs σ H Q ⟨B, F, G, ρ, A, ds, ρ', R, r, e, q⟩ => by
  cases ds with
  | cons d ds => simp [asgs] at e
  | nil =>
    cases e
    cases r
    exact ⟨rfl, q σ A R (Off.refl _ _)⟩
theorem pgsCons {e : Expr} {es : List Expr} {t ts : T} (h1 : PG X e (tTg p t)) (h2 : PGs X es (tTgs p ts)) (hs : (assignEach (e :: es) X.env).map (·.2) = assign e X.env :: (assignEach es X.env).map (·.2)) : PGs X (e :: es) (tTgs p (.cons t ts)) :=
  pgsI (pgs_cons h1 h2 hs) fun vs σ H Q ⟨B, F, G, ρ, A, ds, ρ', R, r, e, q⟩ => by
    cases ds with
    | nil => simp [asgs] at e
    | cons d ds =>
      simp only [asgs] at e
      split at e
      · rename_i ρ1 e1
        cases r with
        | cons r rs =>
          exact ⟨_, _, rfl, B, F, G, ρ, A, d, ρ1, R, r, e1, fun σ1 A1 R1 o1 => ⟨B, F, G, ρ1, A1, ds, ρ', R1, rs, e, fun σ2 A2 R2 o2 => q σ2 A2 R2 (o1.trans o2)⟩⟩
      · cases e
def lenT : T → Nat
  | .cons _ ts => lenT ts + 1
  | _ => 0
theorem asgs_len : ∀ {ts : T} {ds : List D} {ρ ρ' : Fr}, asgs ts ds ρ = some ρ' → ds.length = lenT ts
  | .nil, [], _, _, _ => rfl
  | .cons t ts, d :: ds, _, _, e => by
    simp only [asgs] at e
    split at e
    · exact congrArg Nat.succ (asgs_len e)
    · cases e
  | .nil, _ :: _, _, _, e => by simp [asgs] at e
  | .cons _ _, [], _, _, e => by simp [asgs] at e
  | .name _, _, _, _, e => by simp [asgs] at e
  | .tup _, _, _, _, e => by simp [asgs] at e
theorem pgTup {es : List Expr} {k n : Nat} {pos : Pos} {ts : T} (hK : X.K = p.K) (hc : X.calm = true) (h : PGs X es (tTgs p ts)) (hn : (assignEach es X.env).length = n) (hl : lenT ts = n) (hst : (assignEach es X.env).findIdx? (·.1) = none) : PG X (.Tuple es k pos) (tTg p (.tup ts)) :=
  pgI (pg_tup (n := n) hc h hn hst) fun v σ H Q ⟨B, F, G, ρ, A, d, ρ', R, r, e, q⟩ => by
    cases d with
    | tup ds =>
      simp only [asg] at e
      cases r with
      | tup hs rs => exact ⟨_, _, rfl, by rw [hK]; exact same_seqT R.le hs, by rw [rs.len, asgs_len e, hl], B, F, G, ρ, A, ds, ρ', R, rs, e, q⟩
    | _ => simp [asg] at e

theorem frz_tup {o : O} {ds : List D} (h : WD.frz o = some (.tup ds)) : o = .sh (.tup ds) := by
  cases o with
  | sh d =>
    cases h
    rfl
  | lst t xs => cases h
  | dic t k => cases h
  | obj C ns os =>
    simp only [WD.frz] at h
    split at h <;> cases h
def nStar : Expr → Bool
  | .Starred _ _ => false
  | _ => true
theorem star_cons {e : Expr} {es : List Expr} {env : Env} (h : nStar e = true) : starEach (e :: es) env = (false, eval e env) :: starEach es env := by
  cases e <;> first
    | rfl
    | cases h
theorem RPs.len {p : Pm} {B : Addr → Prop} {F : Hp} {σ : L2.St} : ∀ {vs : List V} {ds : List Pd}, RPs p B F σ vs ds → vs.length = ds.length
  | _, _, .nil => rfl
  | _, _, .cons _ r => congrArg Nat.succ r.len
/-! ### what is walked -/
structure ItOk (p : Pm) (B : Addr → Prop) (F : Hp) (J : It) (items : List D) : Prop where
  go : ∀ i H, i < items.length → Same F H → J.go i H
  yld : ∀ i d F2 G H σ ρ A x H', items[i]? = some d → Same F F2 → Rel p B F2 G H σ ρ A → J.yld i H x H' → ∃ F3, Same F2 F3 ∧ Rel p B F3 G H' σ ρ A ∧ RD p B F3 x d
  stop : ∀ H, Same F H → J.stop items.length H
/-- the walk goes on wherever what stands stays, with all items old -/
def ItX (p : Pm) (F : Hp) (J : It) (items : List D) : Prop := ∀ (Bn : Addr → Prop) (F2 : Hp), (∀ b o, F b = some o → Bn b ∧ F2 b = some o) → ItOk p Bn F2 J (olds items)
/-- the walk's reading; rg: it leans on nothing -/
def tI (p : Pm) (W : XK) (rg : Bool) (m : Fr → R (List D)) : TI := fun σ H T => ∃ B F G ρ A, Rel p B F G H σ ρ A ∧ Post p W B F G σ (m ρ) fun items _ F' H' _ => ∀ J, (if rg = true then ∀ B F, ItOk p B F J items else ItOk p B F' J items ∧ ItX p F' J items) → T J H'
theorem piI {tg e : Expr} {t t' : TI} (h : PI X tg e t) (i : ∀ σ H Q, t' σ H Q → t σ H Q) : PI X tg e t' := ⟨fun pins s σ H T I q => h.run pins s σ H T I (i σ H T q)⟩
theorem piOr {tg e : Expr} {t t' : TI} (h : PI X tg e t) (h' : PI X tg e t') : PI X tg e (fun σ H Q => t σ H Q ∨ t' σ H Q) := ⟨fun pins s σ H T I q => by
  rcases q with q | q
  · exact h.run pins s σ H T I q
  · exact h'.run pins s σ H T I q⟩
theorem itl_ok {a : Addr} {vs : List V} {ds : List D} (h : SqL p.K F a vs) (r : RDs p B F vs ds) : ItOk p B F (Itl p.K a) ds := by
  refine ⟨fun i H hi e => ⟨vs, vs[i]'(by rw [r.len]; exact hi), e.seq h, by simp⟩, fun i d F2 G H σ ρ A x H' e1 e2 R y => ?_, fun H e => ⟨vs, e.seq h, by rw [r.len]; exact Nat.le_refl _⟩⟩
  obtain ⟨rfl, y⟩ := y
  obtain ⟨v, e3, rd⟩ := r.get e1
  have := y vs ((e2.trans R.le).seq h)
  rw [e3] at this
  cases this
  exact ⟨F2, Same.refl _, R, rd.mono e2⟩
theorem itt_ok {a : Addr} {vs : List V} {ds : List D} (h : SqT p.K F a vs) (r : RDs p B F vs ds) : ItOk p B F (Itt p.K a) ds := by
  refine ⟨fun i H hi e => ⟨vs, vs[i]'(by rw [r.len]; exact hi), same_seqT e h, by simp⟩, fun i d F2 G H σ ρ A x H' e1 e2 R y => ?_, fun H e => ⟨vs, same_seqT e h, by rw [r.len]; exact Nat.le_refl _⟩⟩
  obtain ⟨rfl, y⟩ := y
  obtain ⟨v, e3, rd⟩ := r.get e1
  have := y vs (same_seqT (e2.trans R.le) h)
  rw [e3] at this
  cases this
  exact ⟨F2, Same.refl _, R, rd.mono e2⟩
theorem ite_ok {a : Addr} {vs : List V} {ds : List D} (h : SqL p.K F a vs) (r : RDs p B F vs ds) : ItOk p B F (Ite p.K a) (enumD 0 ds) := by
  have hl : ∀ (k : Nat) (ds : List D), (enumD k ds).length = ds.length := by
    intro k ds
    induction ds generalizing k with
    | nil => rfl
    | cons d ds ih => exact congrArg Nat.succ (ih (k + 1))
  have hg : ∀ (k : Nat) (ds : List D) (i : Nat) (d : D), (enumD k ds)[i]? = some d → ∃ d', ds[i]? = some d' ∧ d = .tup [.int ((k + i : Nat) : Int), d'] := by
    intro k ds
    induction ds generalizing k with
    | nil =>
      intro i d e
      simp [enumD] at e
    | cons d0 ds ih =>
      intro i d e
      cases i with
      | zero =>
        simp [enumD] at e
        exact ⟨d0, rfl, by rw [← e]; rfl⟩
      | succ i =>
        obtain ⟨d', e1, e2⟩ := ih (k + 1) i d (by simpa [enumD] using e)
        exact ⟨d', by simpa using e1, by rw [e2, show k + 1 + i = k + (i + 1) by omega]⟩
  refine ⟨fun i H hi e => ⟨vs, vs[i]'(by rw [r.len, ← hl 0]; exact hi), e.seq h, by simp⟩, fun i d F2 G H σ ρ A x H' e1 e2 R y => ?_, fun H e => ⟨vs, e.seq h, by rw [r.len, hl]; exact Nat.le_refl _⟩⟩
  obtain ⟨T, x', rfl, hT, rfl, y⟩ := y
  obtain ⟨d', e3, rfl⟩ := hg 0 ds i d e1
  obtain ⟨v, e4, rd⟩ := r.get e3
  have := y vs ((e2.trans R.le).seq h)
  rw [e4] at this
  cases this
  obtain ⟨f, R', rd'⟩ := R.newT hT (ds := [.int (i : Nat), d']) (.cons (.int _) (.cons (rd.mono e2) .nil))
  exact ⟨_, f, R', by rw [Nat.zero_add]; exact rd'⟩
theorem itl_x {a : Addr} {vs : List V} {ds : List D} (h : SqL p.K F a vs) (r : RDs p B F vs ds) : ItX p F (Itl p.K a) ds := fun Bn F2 k =>
  itl_ok (Same.seq (fun b o e => (k b o e).2) h) ((r.old fun a x e => (k a _ e).1).mono fun b o e => (k b o e).2)
theorem itt_x {a : Addr} {vs : List V} {ds : List D} (h : SqT p.K F a vs) (r : RDs p B F vs ds) : ItX p F (Itt p.K a) ds := fun Bn F2 k =>
  itt_ok (same_seqT (fun b o e => (k b o e).2) h) ((r.old fun a x e => (k a _ e).1).mono fun b o e => (k b o e).2)
theorem olds_enumD : ∀ (k : Nat) (ds : List D), olds (enumD k ds) = enumD k (olds ds)
  | _, [] => rfl
  | k, d :: ds => by
    simp only [enumD, olds, old]
    rw [olds_enumD (k + 1) ds]
theorem ite_x {a : Addr} {vs : List V} {ds : List D} (h : SqL p.K F a vs) (r : RDs p B F vs ds) : ItX p F (Ite p.K a) (enumD 0 ds) := fun Bn F2 k => by
  rw [olds_enumD]
  exact ite_ok (Same.seq (fun b o e => (k b o e).2) h) ((r.old fun a x e => (k a _ e).1).mono fun b o e => (k b o e).2)
theorem itr_ok {lo : Int} {n : Nat} {items : List D} (hn : items.length = n) (hi : ∀ (i : Nat) d, items[i]? = some d → d = .int (lo + i)) : ItOk p B F (Itr lo n) items := by
  refine ⟨fun i H h _ => by rw [← hn]; exact h, fun i d F2 G H σ ρ A x H' e1 e2 R y => ?_, fun H _ => by rw [hn]; exact Nat.le_refl _⟩
  obtain ⟨rfl, rfl⟩ := y
  rw [hi i d e1]
  exact ⟨F2, Same.refl _, R, .int _⟩
theorem itc_ok {lo c : Int} {n : Nat} {items : List D} (hn : items.length = n) (hi : ∀ (i : Nat) d, items[i]? = some d → d = .int (lo + (i : Int) * c)) : ItOk p B F (Itc lo c n) items := by
  refine ⟨fun i H h _ => by rw [← hn]; exact h, fun i d F2 G H σ ρ A x H' e1 e2 R y => ?_, fun H _ => by rw [hn]; exact Nat.le_refl _⟩
  obtain ⟨rfl, rfl⟩ := y
  rw [hi i d e1]
  exact ⟨F2, Same.refl _, R, .int _⟩
theorem rng_parts {a b c : Int} {items : List D} (h : rngI a b c = some items) : -(2 ^ 40) < a ∧ a < 2 ^ 40 ∧ -(2 ^ 40) < b ∧ b < 2 ^ 40 ∧ 0 < c ∧ c < 1000000 ∧ items.length = ((b - a + c - 1) / c).toNat ∧ ∀ (i : Nat) d, items[i]? = some d → d = .int (a + (i : Int) * c) := by
  unfold rngI at h
  split at h
  · rename_i q
    simp only [Bool.and_eq_true, decide_eq_true_eq] at q
    rw [lim40_eq] at q
    obtain ⟨⟨⟨⟨⟨q1, q2⟩, q3⟩, q4⟩, q5⟩, q6⟩ := q
    cases h
    refine ⟨q1, q2, q3, q4, q5, q6, by rw [List.length_map, List.length_range], fun i d e => ?_⟩
    rw [List.getElem?_map] at e
    cases e2 : (List.range ((b - a + c - 1) / c).toNat)[i]? with
    | none =>
      rw [e2] at e
      cases e
    | some k =>
      rw [e2] at e
      cases e
      obtain ⟨h1, h2⟩ := List.getElem?_eq_some_iff.mp e2
      rw [List.getElem_range] at h2
      rw [h2]
  · cases h
theorem size_up {a b c : Int} (hc : 0 < c) : Builtin.Range.rangeSize a b c = (((b - a + c - 1) / c).toNat : Int) := by
  unfold Builtin.Range.rangeSize
  rw [if_pos (show c > 0 from hc)]
  split
  · have e : b - a + c - 1 = (b - a - 1) + 1 * c := by omega
    rw [e, Int.add_mul_ediv_right _ _ (by omega)]
    have : 0 ≤ (b - a - 1) / c := Int.ediv_nonneg (by omega) (by omega)
    omega
  · have : (b - a + c - 1) / c < 1 := Int.ediv_lt_of_lt_mul hc (by omega)
    omega
theorem rgc_up {a b c : Int} (q1 : -(2 ^ 40) < a) (q2 : a < 2 ^ 40) (q3 : -(2 ^ 40) < b) (q4 : b < 2 ^ 40) (q5 : 0 < c) (q6 : c < 1000000) : RgC a b c ((b - a + c - 1) / c).toNat := by
  refine ⟨by omega, by omega, ?_, size_up q5⟩
  have hs : Builtin.Range.rangeSize a b c ≤ 2 ^ 42 := by
    unfold Builtin.Range.rangeSize
    rw [if_pos (show c > 0 from q5)]
    split
    · have : (b - a - 1) / c ≤ b - a - 1 := Int.ediv_le_self _ (by omega)
      omega
    · omega
  have hs0 : 0 ≤ Builtin.Range.rangeSize a b c := by
    rw [size_up q5]
    omega
  unfold Builtin.Range.small
  simp only [Builtin.Range.rangeFitsLong, Bool.and_eq_true, Bool.or_eq_true, decide_eq_true_eq, beq_iff_eq, show c > 0 from q5, if_true]
  omega
/-- a list or a tuple -/
theorem piSeq {tg e : Expr} {W : XK} {r : Fr → R O} (hK : X.K = p.K) (h : PE X e (tO p W r)) : PI X tg e (tI p W false fun ρ => bnd (r ρ) fun o ρ => opt (frz o) fun d => opt (seqD d) fun xs => .ok xs ρ) := by
  refine piI (piOr (pi_list h) (pi_tup h)) fun σ H Q ⟨B, F, G, ρ, A, R, q⟩ => ?_
  have q := Post.bnd q
  by_cases ht : ∃ ds ρ', r ρ = .ok (.sh (.tup ds)) ρ'
  · obtain ⟨ds, ρ', e⟩ := ht
    refine .inr ⟨B, F, G, ρ, A, R, ?_⟩
    rw [e] at q ⊢
    intro F1 H1 A1 f1 R1 v L ro ow
    have q := q F1 H1 A1 f1 R1
    cases ro.shI.1 with
    | tup hs rs =>
      refine ⟨_, rfl, ⟨_, by rw [hK]; exact same_seqT R1.le hs⟩, q.here (Same.refl _) R1 _ (by
        rw [if_neg (by decide), hK]
        exact ⟨itt_ok hs rs, itt_x hs rs⟩)⟩
  · refine .inl ⟨B, F, G, ρ, A, R, ?_⟩
    cases e : r ρ with
    | exn x ρ' =>
      rw [e] at q
      exact q
    | fail =>
      rw [e] at q
      exact q
    | ok o ρ' =>
      rw [e] at q
      intro F1 H1 A1 f1 R1 v L ro ow
      have q := q F1 H1 A1 f1 R1
      obtain ⟨d, e2, q⟩ := q.opt
      obtain ⟨xs, e3, q⟩ := q.opt
      obtain ⟨F2, f2, R2, rd⟩ := R1.share ro ow e2
      cases d with
      | lst t ds =>
        cases e3
        cases rd with
        | lst hs _ rs =>
          have hq : SqL p.K F2 _ _ := .inl (.inl hs)
          refine ⟨_, rfl, ⟨_, by rw [hK]; exact R2.le.seq hq⟩, q.here f2 R2 _ (by
            rw [if_neg (by decide), hK]
            exact ⟨itl_ok hq rs, itl_x hq rs⟩)⟩
      | scr ns =>
        cases e3
        cases rd with
        | scr hs =>
          have hq : SqL p.K F2 _ _ := hs.1
          refine ⟨_, rfl, ⟨_, by rw [hK]; exact R2.le.seq hq⟩, q.here f2 R2 _ (by
            rw [if_neg (by decide), hK]
            exact ⟨itl_ok hq (RDs.ints ns), itl_x (B := B) hq (RDs.ints ns)⟩)⟩
      | tup ds =>
        exact absurd ⟨ds, ρ', by rw [e, frz_tup e2]⟩ ht
      | _ => cases e3
theorem ranges1 {d : D} {a b c : Int} (h : ranges [d] = some (a, b, c)) : d = .int b ∧ a = 0 ∧ c = 1 := by
  cases d <;> simp [ranges] at h
  obtain ⟨rfl, rfl, rfl⟩ := h
  exact ⟨rfl, rfl, rfl⟩
theorem ranges2 {d e : D} {a b c : Int} (h : ranges [d, e] = some (a, b, c)) : d = .int a ∧ e = .int b ∧ c = 1 := by
  cases d <;> cases e <;> simp [ranges] at h
  obtain ⟨rfl, rfl, rfl⟩ := h
  exact ⟨rfl, rfl, rfl⟩
theorem ranges3 {d e f : D} {a b c : Int} (h : ranges [d, e, f] = some (a, b, c)) : d = .int a ∧ e = .int b ∧ f = .int c := by
  cases d <;> cases e <;> cases f <;> simp [ranges] at h
  obtain ⟨rfl, rfl, rfl⟩ := h
  exact ⟨rfl, rfl, rfl⟩
/-- a range -/
theorem piRng {tg : Expr} {pos pos' : Pos} {es : List Expr} {W : XK} {r : Fr → R (List Pd)} (hg : Gl X "range") (hm : X.mg "range" = none) (h : PA X es (tPs p W r)) (hl : es.length = 1 ∨ es.length = 2 ∨ es.length = 3) (hs : ∀ e ∈ es, nStar e = true) (hr : ∀ ρ ps ρ', r ρ = .ok ps ρ' → ps.length = es.length) :
    PI X tg (.Call (.Name "range" pos') es [] pos) (tI p W true fun ρ => bnd (r ρ) fun ps ρ => opt (looks ρ ps) fun ds => opt (ranges ds) fun (a, b, c) => opt (rngI a b c) fun items => .ok items ρ) := by
  have st : ∀ es : List Expr, (∀ e ∈ es, nStar e = true) → starEach es X.env = es.map fun e => (false, eval e X.env) := fun es => by
    induction es with
    | nil => intro _; rfl
    | cons e es ih =>
      intro h
      rw [star_cons (h e List.mem_cons_self), ih fun e he => h e (List.mem_cons_of_mem _ he)]
      rfl
  have core : ∀ {σ : L2.St} {H : Hp} {Q : It → Hp → Prop}, tI p W true (fun ρ => bnd (r ρ) fun ps ρ => opt (looks ρ ps) fun ds => opt (ranges ds) fun (a, b, c) => opt (rngI a b c) fun items => .ok items ρ) σ H Q →
      tPs p W r σ H fun vs H1 => ∃ ds a b c items, vs.length = es.length ∧ (∃ B F, LKs p B F H1 vs ds) ∧ ranges ds = some (a, b, c) ∧ rngI a b c = some items ∧ ∀ J, (∀ B F, ItOk p B F J items) → Q J H1 := fun ⟨B, F, G, ρ, A, R, q⟩ => by
    refine ⟨B, F, G, ρ, A, R, ?_⟩
    have q := Post.bnd q
    cases e : r ρ with
    | exn x ρ' =>
      rw [e] at q
      exact q
    | fail =>
      rw [e] at q
      exact q
    | ok ps ρ' =>
      rw [e] at q
      intro F1 H1 A1 f1 R1 vs rp
      have q := q F1 H1 A1 f1 R1
      obtain ⟨ds, e1, q⟩ := q.opt
      obtain ⟨⟨a, b, c⟩, e2, q⟩ := q.opt
      obtain ⟨items, e3, q⟩ := q.opt
      refine ⟨ds, a, b, c, items, by rw [rp.len, hr ρ ps ρ' e], ⟨B, F1, R1.looks rp e1⟩, e2, e3, fun J hJ => q.here (Same.refl _) R1 J (by rw [if_pos rfl]; exact hJ)⟩
  rcases es with _ | ⟨a, _ | ⟨b, _ | ⟨c, _ | ⟨d, es⟩⟩⟩⟩
  · simp at hl
  ·
    refine piI (pi_range1 hg hm h (st _ hs)) fun σ H Q hq => ?_
    obtain ⟨B, F, G, ρ, A, R, q⟩ := core hq
    refine ⟨B, F, G, ρ, A, R, q.imp fun ps ρ1 F1 H1 A1 f1 R1 q vs rp => ?_⟩
    obtain ⟨ds, a', b, c, items, hv, ⟨B', F', lk⟩, e2, e3, q⟩ := q vs rp
    cases lk with
    | nil => cases hv
    | cons l1 lk =>
      cases lk with
      | cons _ _ => cases hv
      | nil =>
        obtain ⟨rfl, rfl, rfl⟩ := ranges1 e2
        obtain ⟨q1, q2, q3, q4, q5, q6, q7, q8⟩ := rng_parts e3
        refine ⟨_, by rw [l1.intI], by omega, by omega, q _ fun B F => itr_ok ?_ fun i d e => ?_⟩
        · rw [q7]
          omega
        · rw [q8 i d e, Int.mul_one]
  ·
    refine piI (pi_range2 hg hm h (st _ hs) (st _ fun e he => hs e (List.mem_cons_of_mem _ he))) fun σ H Q hq => ?_
    obtain ⟨B, F, G, ρ, A, R, q⟩ := core hq
    refine ⟨B, F, G, ρ, A, R, q.imp fun ps ρ1 F1 H1 A1 f1 R1 q vs rp => ?_⟩
    obtain ⟨ds, a', b', c, items, hv, ⟨B', F', lk⟩, e2, e3, q⟩ := q vs rp
    cases lk with
    | nil => cases hv
    | cons l1 lk =>
      cases lk with
      | nil => cases hv
      | cons l2 lk =>
        cases lk with
        | cons _ _ => cases hv
        | nil =>
          obtain ⟨rfl, rfl, rfl⟩ := ranges2 e2
          obtain ⟨q1, q2, q3, q4, q5, q6, q7, q8⟩ := rng_parts e3
          refine ⟨_, _, by rw [l1.intI, l2.intI], ⟨by omega, by omega, by omega, by omega⟩, q _ fun B F => itr_ok ?_ fun i d e => ?_⟩
          · rw [q7]
            omega
          · rw [q8 i d e, Int.mul_one]
  ·
    refine piI (pi_range3 hg hm h (star_cons (hs a List.mem_cons_self)) (by rw [st _ fun e he => hs e (List.mem_cons_of_mem _ he)]; rfl)) fun σ H Q hq => ?_
    obtain ⟨B, F, G, ρ, A, R, q⟩ := core hq
    refine ⟨B, F, G, ρ, A, R, q.imp fun ps ρ1 F1 H1 A1 f1 R1 q vs rp => ?_⟩
    obtain ⟨ds, a', b', c', items, hv, ⟨B', F', lk⟩, e2, e3, q⟩ := q vs rp
    cases lk with
    | nil => cases hv
    | cons l1 lk =>
      cases lk with
      | nil => cases hv
      | cons l2 lk =>
        cases lk with
        | nil => cases hv
        | cons l3 lk =>
          cases lk with
          | cons _ _ => cases hv
          | nil =>
            obtain ⟨rfl, rfl, rfl⟩ := ranges3 e2
            obtain ⟨q1, q2, q3, q4, q5, q6, q7, q8⟩ := rng_parts e3
            exact ⟨_, _, _, _, by rw [l1.intI, l2.intI, l3.intI], rgc_up q1 q2 q3 q4 q5 q6, q _ fun B F => itc_ok q7 q8⟩
  · simp at hl
/-- enumerate of a list -/
theorem piEnu {e : Expr} {pos pos' tpos : Pos} {elts : List Expr} {kk : Nat} {W : XK} {r : Fr → R O} (hK : X.K = p.K) (hg : Gl X "enumerate") (hm : X.mg "enumerate" = none) (h : PE X e (tO p W r)) (hs : nStar e = true) :
    PI X (.Tuple elts kk tpos) (.Call (.Name "enumerate" pos') [e] [] pos) (tI p W false fun ρ => bnd (r ρ) fun o ρ => opt (frz o) fun d => opt (seqLD d) fun xs => .ok (enumD 0 xs) ρ) := by
  have hst : starEach [e] X.env = [(false, eval e X.env)] := by
    rw [star_cons hs]
    rfl
  refine piI (pi_enum hg hm (pa_cons h pa_nil hst) hst) fun σ H Q ⟨B, F, G, ρ, A, R, q⟩ => ⟨B, F, G, ρ, A, R, ?_⟩
  have q := Post.bnd q
  cases e : r ρ with
  | exn x ρ' =>
    rw [e] at q
    exact q
  | fail =>
    rw [e] at q
    exact q
  | ok o ρ' =>
    rw [e] at q
    intro F1 H1 A1 f1 R1 v L ro ow
    have q := q F1 H1 A1 f1 R1
    obtain ⟨d, e2, q⟩ := q.opt
    obtain ⟨xs, e3, q⟩ := q.opt
    obtain ⟨F2, f2, R2, rd⟩ := R1.share ro ow e2
    cases d with
    | lst t ds =>
      cases e3
      cases rd with
      | lst hs _ rs =>
        have hq : SqL p.K F2 _ _ := .inl (.inl hs)
        refine ⟨_, _, rfl, by rw [hK]; exact R2.le.seq hq, q.here f2 R2 _ (by
          rw [if_neg (by decide), hK]
          exact ⟨ite_ok hq rs, ite_x hq rs⟩)⟩
    | scr ns =>
      cases e3
      cases rd with
      | scr hs =>
        have hq : SqL p.K F2 _ _ := hs.1
        refine ⟨_, _, rfl, by rw [hK]; exact R2.le.seq hq, q.here f2 R2 _ (by
          rw [if_neg (by decide), hK]
          exact ⟨ite_ok hq (RDs.ints ns), ite_x (B := B) hq (RDs.ints ns)⟩)⟩
    | _ => cases e3
end
end WD

/-! WD, part 8: comprehensions. -/
namespace WD
open PySem PySem.Spec PyProof.Rows L2
section
variable {p : Pm} {B : Addr → Prop} {F F' G H : Hp} {σ : L2.St} {ρ : Fr} {A : Fp} {X : Cx}
theorem wipeF_len : ∀ (ρ : Fr) (is : List Nat), (wipeF ρ is).length = ρ.length
  | _, [] => rfl
  | ρ, i :: is => by
    show (setS (wipeF ρ is) i none).length = _
    rw [setS_len, wipeF_len ρ is]
theorem backF_len : ∀ (ρ0 ρ : Fr) (is : List Nat), (backF ρ0 ρ is).length = ρ.length
  | _, _, [] => rfl
  | ρ0, ρ, i :: is => by
    show (setS (backF ρ0 ρ is) i _).length = _
    rw [setS_len, backF_len ρ0 ρ is]
theorem wipeF_get : ∀ {ρ : Fr} {is : List Nat} {j : Nat} {o : O}, getS (wipeF ρ is) j = some o → getS ρ j = some o ∧ j ∉ is
  | _, [], _, _, h => ⟨h, List.not_mem_nil⟩
  | ρ, i :: is, j, o, h => by
    rcases getS_set_some (show getS (setS (wipeF ρ is) i none) j = some o from h) with ⟨_, z⟩ | ⟨ne, h⟩
    · cases z
    · obtain ⟨h1, h2⟩ := wipeF_get h
      exact ⟨h1, by simp [ne, h2]⟩
theorem wipe_ne : ∀ {σ : L2.St} {is : List Nat} {j : Nat}, j ∉ is → (wipe σ is)[j]? = σ[j]?
  | _, [], _, _ => rfl
  | σ, i :: is, j, h => by
    show ((wipe σ is).set i none)[j]? = _
    have h1 : i ≠ j := fun e => h (by rw [e]; exact List.mem_cons_self)
    rw [List.getElem?_set_ne h1, wipe_ne fun z => h (List.mem_cons_of_mem _ z)]
theorem Rel.wipe (R : Rel p B F G H σ ρ A) (is : List Nat) : Rel p B F G H (L2.wipe σ is) (wipeF ρ is) A := by
  refine ⟨R.le, R.lg, R.fg, R.bd, by rw [wipe_length, wipeF_len]; exact R.len, fun j o e => ?_, R.nd, R.dj, R.own⟩
  obtain ⟨e1, e2⟩ := wipeF_get e
  obtain ⟨v, e3, r⟩ := R.sl j o e1
  exact ⟨v, by rw [wipe_ne e2]; exact e3, r⟩
theorem backF_get : ∀ {ρ0 ρ : Fr} {is : List Nat} {j : Nat} {o : O}, getS (backF ρ0 ρ is) j = some o → (j ∈ is ∧ getS ρ0 j = some o) ∨ (j ∉ is ∧ getS ρ j = some o)
  | _, _, [], _, _, h => .inr ⟨List.not_mem_nil, h⟩
  | ρ0, ρ, i :: is, j, o, h => by
    rcases getS_set_some (show getS (setS (backF ρ0 ρ is) i (getS ρ0 i)) j = some o from h) with ⟨e, z⟩ | ⟨ne, h⟩
    · exact .inl ⟨by rw [e]; exact List.mem_cons_self, by rw [e]; exact z⟩
    · rcases backF_get h with ⟨h1, h2⟩ | ⟨h1, h2⟩
      · exact .inl ⟨List.mem_cons_of_mem _ h1, h2⟩
      · exact .inr ⟨by simp [ne, h1], h2⟩
theorem wipeF_ne : ∀ {ρ : Fr} {is : List Nat} {j : Nat}, j ∉ is → getS (wipeF ρ is) j = getS ρ j
  | _, [], _, _ => rfl
  | ρ, i :: is, j, h => by
    show getS (setS (wipeF ρ is) i none) j = _
    rw [getS_set_ne _ _ _ _ fun e => h (by rw [e]; exact List.mem_cons_self), wipeF_ne fun z => h (List.mem_cons_of_mem _ z)]
mutual
theorem asg_len : ∀ (tg : T) (d : D) {ρ ρ' : Fr}, asg tg d ρ = some ρ' → ρ'.length = ρ.length
  | .name i, d, _, _, e => by
    cases e
    exact setS_len _ _ _
  | .tup ts, d, _, _, e => by
    cases d with
    | tup ds => exact asgs_length ts ds (by simpa [asg] using e)
    | _ => simp [asg] at e
  | .nil, d, _, _, e => by cases d <;> simp [asg] at e
  | .cons _ _, d, _, _, e => by cases d <;> simp [asg] at e
theorem asgs_length : ∀ (ts : T) (ds : List D) {ρ ρ' : Fr}, asgs ts ds ρ = some ρ' → ρ'.length = ρ.length
  | .nil, ds, _, _, e => by
    cases ds with
    | nil =>
      cases e
      rfl
    | cons d ds => simp [asgs] at e
  | .cons t ts, ds, _, _, e => by
    cases ds with
    | nil => simp [asgs] at e
    | cons d ds =>
      simp only [asgs] at e
      split at e
      · rename_i e1
        rw [asgs_length ts ds e, asg_len t d e1]
      · cases e
  | .name _, ds, _, _, e => by cases ds <;> simp [asgs] at e
  | .tup _, ds, _, _, e => by cases ds <;> simp [asgs] at e
end
/-- behind a comprehension the own names are as they were ahead of it -/
theorem Rel.unwipe {ρ0 : Fr} {is : List Nat} {A0 : Fp} {F0 H0 : Hp} (R : Rel p B F G H (L2.wipe σ is) (wipeF ρ is) A) (R0 : Rel p B F0 G H0 σ ρ0 A0) (f : Same F0 F) (hs : is.all (fun i => shOrNone (getS ρ0 i)) = true) :
    ∃ A', Rel p B F G H σ (backF ρ0 ρ is) A' ∧ ∀ j a, a ∈ A' j → a ∈ A j := by
  have hsh : ∀ i ∈ is, ∀ o, getS ρ0 i = some o → ∃ d, o = .sh d := fun i hi o e => by
    have q := List.all_eq_true.mp hs i hi
    rw [e] at q
    cases o with
    | sh d => exact ⟨d, rfl⟩
    | _ => cases q
  refine ⟨fun j => if j ∈ is then [] else A j, ⟨R.le, R.lg, R.fg, R.bd, ?_, fun j o e => ?_, fun j => ?_, fun i j a h1 h2 => ?_, fun j a h1 => ?_⟩, fun j a h1 => ?_⟩
  · rw [backF_len, ← wipeF_len ρ is, ← R.len, wipe_length]
  · rcases backF_get e with ⟨h1, e⟩ | ⟨h1, e⟩
    · obtain ⟨d, rfl⟩ := hsh j h1 o e
      obtain ⟨v, e1, r⟩ := R0.sl j _ e
      refine ⟨v, e1, ?_⟩
      show RO p B F H v (.sh d) (if j ∈ is then [] else A j)
      rw [if_pos h1]
      exact .sh (r.shI.1.mono f)
    · obtain ⟨v, e1, r⟩ := R.sl j o (by rw [wipeF_ne h1]; exact e)
      refine ⟨v, by rw [wipe_ne h1] at e1; exact e1, ?_⟩
      show RO p B F H v o (if j ∈ is then [] else A j)
      rw [if_neg h1]
      exact r
  · show (if j ∈ is then [] else A j : List Addr).Nodup
    split
    · exact List.nodup_nil
    · exact R.nd j
  · have h1' : a ∈ (if i ∈ is then [] else A i : List Addr) := h1
    have h2' : a ∈ (if j ∈ is then [] else A j : List Addr) := h2
    split at h1'
    · cases h1'
    · split at h2'
      · cases h2'
      · exact R.dj i j a h1' h2'
  · have h1' : a ∈ (if j ∈ is then [] else A j : List Addr) := h1
    split at h1'
    · cases h1'
    · exact R.own j a h1'
  · have h1' : a ∈ (if j ∈ is then [] else A j : List Addr) := h1
    split at h1'
    · cases h1'
    · exact h1'
def E0 : XK := fun _ _ _ => False
/-- one turn of a comprehension -/
def lcStep (tg : T) (own : List Nat) (mt : Fr → R Bool) (me : Fr → R O) (d : D) (ρ : Fr) : R (Option D) := opt (asg tg d (wipeF ρ own)) fun ρ => bnd (mt ρ) fun k ρ => match k with
        | true => bnd (me ρ) fun o ρ => opt (frz o) fun y => .ok (some y) ρ
        | false => .ok none ρ
def lcM (tg : T) (own : List Nat) (mi : Fr → R (List D)) (mt : Fr → R Bool) (me : Fr → R O) : Fr → R O := fun ρ => bnd (mi ρ) fun items ρ1 => match own.all fun i => shOrNone (getS ρ1 i) with
    | true => bnd (lcL (lcStep tg own mt me) items [] (wipeF ρ1 own)) fun ds ρ2 => .ok (.lst true ds) (backF ρ1 ρ2 own)
    | false => .fail
theorem wipe_off : ∀ {is : List Nat} {σ σ' : L2.St}, σ'.length = σ.length → Off is σ σ' → L2.wipe σ' is = L2.wipe σ is := by
  intro is σ σ' hl h
  have go : ∀ (js : List Nat) (σ : L2.St) (j : Nat), j ∈ js → j < σ.length → (L2.wipe σ js)[j]? = some none := by
    intro js
    induction js with
    | nil => intro σ j h; cases h
    | cons i js ih =>
      intro σ j h hj
      show ((L2.wipe σ js).set i none)[j]? = _
      by_cases e : i = j
      · subst e
        rw [List.getElem?_set_self (by rw [wipe_length]; exact hj)]
      · rw [List.getElem?_set_ne e]
        exact ih σ j (by rcases List.mem_cons.mp h with z | z; exact absurd z.symm e; exact z) hj
  refine List.ext_getElem? fun j => ?_
  by_cases hm : j ∈ is
  · by_cases hj : j < σ.length
    · rw [go is σ j hm hj, go is σ' j hm (by rw [hl]; exact hj)]
    · rw [List.getElem?_eq_none (by rw [wipe_length, hl]; omega), List.getElem?_eq_none (by rw [wipe_length]; omega)]
  · rw [wipe_ne hm, wipe_ne hm, h j hm]
theorem wipe_wipe : ∀ (σ : L2.St) (is : List Nat), L2.wipe (L2.wipe σ is) is = L2.wipe σ is := fun σ is => wipe_off (wipe_length _ _) fun j h => wipe_ne h
/-- the reading of a comprehension -/
theorem lc_core {W : XK} {rg : Bool} {tg : T} {own : List Nat} {mi : Fr → R (List D)} {mt : Fr → R Bool} {me : Fr → R O} {σ : L2.St} {H : Hp} {Q : VK} (hown : ∀ i ∈ slotsT tg, i ∈ own)
    (h : tO p W (lcM tg own mi mt me) σ H Q) : tLc (tI p W rg mi) (tTg p tg) (tBo p E0 mt) (tO p E0 me) own σ H Q := by
  obtain ⟨B, F, G, ρ, A, R, q⟩ := h
  refine ⟨B, F, G, ρ, A, R, ?_⟩
  refine (Post.bnd q).imp fun items ρ1 F1 H1 A1 f1 R1 q J hJ D hD => ?_
  have hJ : ItOk p B F1 J items := by
    by_cases e : rg = true
    · rw [if_pos e] at hJ
      exact hJ B F1
    · rw [if_neg e] at hJ
      exact hJ.1
  split at q
  case h_2 => exact q.elim
  rename_i hs
  obtain ⟨hFD, hGD, hAD⟩ := R1.free hD
  -- the invariant
  refine ⟨fun i m H => m = items.length - i ∧ i ≤ items.length ∧ ∃ F2 ρ2 A2 acc vs, Same F1 F2 ∧ Rel p B F2 (upd G D (.lst vs)) H (L2.wipe σ own) (wipeF ρ2 own) A2 ∧ RDs p B F2 vs acc ∧ acc.length ≤ big ∧
      Post p W B F1 G σ (bnd (lcL (lcStep tg own mt me) (items.drop i) acc ρ2) fun ds ρ2 => WD.R.ok (O.lst true ds) (backF ρ1 ρ2 own)) (fun o _ F' H' A' => ∀ v L, RO p B F' H' v o L → Own F' G H' A' L → Q v H'),
    ⟨items.length, by omega, Nat.zero_le _, F1, wipeF ρ1 own, A1, [], [], Same.refl _, ?_, .nil, Nat.zero_le _, q⟩, ?_⟩
  · have R2 := ((R1.grow (u := .lst []) hD).wipe own).wipe own
    rw [wipe_wipe] at R2
    refine ⟨R2.le, R2.lg.plus upd_same (nt_lst _) hGD, fun b x e => ?_, R2.bd, R2.len, R2.sl, R2.nd, R2.dj, fun i a ha => ?_⟩
    · rw [upd_ne (ne_of_none e hFD)]
      exact R2.fg b x e
    · obtain ⟨h1, h2, h3⟩ := R2.own i a ha
      exact ⟨h1, by rw [upd_ne fun z => hAD i (by rw [← z]; exact ha)]; exact h2, h3⟩
  · rintro i m H2 ⟨hm, hi, F2, ρ2, A2, acc, vs, f2, R2, rs, hacc, q2⟩
    have hqD : ∀ q ∈ p.T, q.1 ≠ D := R1.lg.off hGD
    have toG : ∀ {F3 H3 : Hp} {σ3 : L2.St} {ρ3 : Fr} {A3 : Fp} {vs : List V}, Rel p B F3 (upd G D (.lst vs)) H3 σ3 ρ3 A3 → H3 D = some (.lst vs) ∧ F3 D = none ∧ (∀ i, D ∉ A3 i) ∧ Rel p B F3 G H3 σ3 ρ3 A3 := fun {F3 H3 σ3 ρ3 A3 vs} R3 => by
      have hD3 : H3 D = some (.lst vs) := (R3.lg.same D _ upd_same hqD).1
      have hF3 : F3 D = none := by
        cases e : F3 D with
        | none => rfl
        | some x =>
          have := (R3.fg D x e).1
          rw [upd_same] at this
          cases this
      have hA3 : ∀ i, D ∉ A3 i := fun i z => by
        have := (R3.own i D z).2.1
        rw [upd_same] at this
        cases this
      have hne : ∀ b x, G b = some x → b ≠ D := fun b x e => ne_of_none e hGD
      exact ⟨hD3, hF3, hA3, R3.le, ⟨fun b x e n => R3.lg.same b x (by rw [upd_ne (hne b x e)]; exact e) n, R3.lg.tabs, R1.lg.there⟩, fun b x e => by
        have := R3.fg b x e
        rwa [upd_ne (ne_of_none e hF3)] at this, R3.bd, R3.len, R3.sl, R3.nd, R3.dj, fun i a ha => by
        obtain ⟨h1, h2, h3⟩ := R3.own i a ha
        rw [upd_ne fun z => hA3 i (by rw [← z]; exact ha)] at h2
        exact ⟨h1, h2, h3⟩⟩
    by_cases hlt : i < items.length
    · -- a turn
      have hd : items[i]? = some items[i] := List.getElem?_eq_getElem hlt
      have ed : items.drop i = items[i] :: items.drop (i + 1) := List.drop_eq_getElem_cons hlt
      rw [ed] at q2
      refine .inr ⟨hJ.go i H2 hlt (f2.trans R2.le), fun H' => ∃ F3 ρ3 A3 acc' vs', Same F1 F3 ∧ Rel p B F3 (upd G D (.lst vs')) H' (L2.wipe σ own) (wipeF ρ3 own) A3 ∧ RDs p B F3 vs' acc' ∧ acc'.length ≤ big ∧
          Post p W B F1 G σ (bnd (lcL (lcStep tg own mt me) (items.drop (i + 1)) acc' ρ3) fun ds ρ2 => WD.R.ok (O.lst true ds) (backF ρ1 ρ2 own)) (fun o _ F' H' A' => ∀ v L, RO p B F' H' v o L → Own F' G H' A' L → Q v H'),
        fun H' hN => ⟨items.length - (i + 1), by omega, rfl, hlt, hN⟩, fun x H' hy => ?_⟩
      obtain ⟨F3, f3, R3, rd⟩ := hJ.yld i _ F2 _ H2 _ _ _ x H' hd f2 R2 hy
      have estep : lcL (lcStep tg own mt me) (items[i] :: items.drop (i + 1)) acc ρ2 = match lcStep tg own mt me items[i] ρ2 with
        | .ok (some y) ρ1 => if acc.length < big then lcL (lcStep tg own mt me) (items.drop (i + 1)) (acc ++ [y]) ρ1 else .fail
        | .ok none ρ1 => lcL (lcStep tg own mt me) (items.drop (i + 1)) acc ρ1
        | _ => .fail := rfl
      rw [estep] at q2
      cases e0 : lcStep tg own mt me items[i] ρ2 with
      | exn y ρ' =>
        rw [e0] at q2
        exact q2.elim
      | fail =>
        rw [e0] at q2
        exact q2.elim
      | ok oy ρ5 =>
        rw [e0] at q2
        unfold lcStep at e0
        cases e1 : asg tg items[i] (wipeF ρ2 own) with
        | none =>
          rw [e1] at e0
          cases e0
        | some ρ3 =>
          rw [e1, opt_some] at e0
          obtain ⟨k, ρ4, e2, e0⟩ := bnd_inv e0
          refine ⟨B, F3, _, _, A2, items[i], ρ3, R3, rd, e1, fun σ3 A3 R4 o3 => ?_⟩
          have hw : L2.wipe σ3 own = L2.wipe σ own := by
            have hl : σ3.length = (L2.wipe σ own).length := by
              rw [R4.len, R3.len, asg_len tg _ e1]
            rw [wipe_off hl fun j hj => o3 j fun z => hj (hown j z), wipe_wipe]
          refine ⟨hw, B, F3, _, ρ3, A3, R4, ?_⟩
          rw [e2]
          intro F5 H5 A5 f5 R5
          cases k with
          | false =>
            cases e0
            refine iteF ?_
            have R6 := R5.wipe own
            rw [hw] at R6
            exact ⟨F5, ρ5, A5, acc, vs, f2.trans (f3.trans f5), R6, rs.mono (f3.trans f5), hacc, q2⟩
          | true =>
            refine iteT ?_
            obtain ⟨o, ρ6, e3, e0⟩ := bnd_inv e0
            cases e4 : WD.frz o with
            | none =>
              rw [e4] at e0
              cases e0
            | some y =>
              rw [e4] at e0
              cases e0
              refine ⟨B, F5, _, ρ4, A5, R5, ?_⟩
              rw [e3]
              intro F6 H6 A6 f6 R6 v L ro ow
              obtain ⟨F7, f7, R7, rd7⟩ := R6.share ro ow e4
              obtain ⟨h7, hF7, hA7, R8⟩ := toG R7
              dsimp only at q2
              split at q2
              case isFalse => exact q2.elim
              rename_i hz
              have fs : Same F2 F7 := f3.trans (f5.trans (f6.trans f7))
              refine ⟨vs, h7, by rw [rs.len]; exact big_lt hz, F7, ρ5, A6, acc ++ [y], vs ++ [v], f2.trans fs, ?_, (rs.mono fs).app (.cons rd7 .nil), by rw [List.length_append]; exact hz, q2⟩
              have R9 := R8.wipe own
              rw [hw] at R9
              have hne : ∀ b, b ≠ D → upd H6 D (.lst (vs ++ [v])) b = H6 b := fun b e => upd_ne e
              refine ⟨fun b x e => ?_, (R9.lg.upd hGD h7).plus upd_same (nt_lst _) hGD, fun b x e => ?_, fun b hb => (R9.bd b hb).upd (nt_lst _), R9.len, fun j o e => ?_, R9.nd, R9.dj, fun j a ha => ?_⟩
              · rw [hne b (ne_of_none e hF7)]
                exact R9.le b x e
              · rw [upd_ne (ne_of_none e hF7)]
                exact R9.fg b x e
              · obtain ⟨v', e1, r⟩ := R9.sl j o e
                exact ⟨v', e1, r.mono (Same.refl _) fun a ha => hne a fun z => hA7 j (by rw [← z]; exact ha)⟩
              · obtain ⟨h1, h2, h3⟩ := R9.own j a ha
                have z : a ≠ D := fun z => hA7 j (by rw [← z]; exact ha)
                exact ⟨h1, by rw [upd_ne z]; exact h2, h3.upd (nt_lst _)⟩
    · -- the end
      have ei : i = items.length := by omega
      subst ei
      rw [List.drop_length] at q2
      refine .inl ⟨hJ.stop H2 (f2.trans R2.le), ?_⟩
      obtain ⟨h2, hF, hA, R3⟩ := toG R2
      obtain ⟨A4, R4, hA4⟩ := R3.unwipe R1 f2 hs
      simp only [lcL, bnd_ok] at q2
      refine q2.here f2 R4 _ [D] (.lst h2 ⟨fun hb => ?_, fun z => by cases z⟩ rs) ⟨by simp, fun a ha => ?_, fun a ha j hj => ?_⟩
      · obtain ⟨o, e, _⟩ := R1.bd D hb
        rw [hD] at e
        cases e
      · rw [List.mem_singleton.mp ha]
        exact ⟨hF, hGD, _, h2, nt_lst _⟩
      · rw [List.mem_singleton.mp ha] at hj
        exact hA j (hA4 j D hj)
end
end WD

/-! WD, part 9: the check of expressions, and that what it lets through is as the evaluator says. -/
namespace WD
open PySem PySem.Spec PyProof.Rows L2

/-- what the module's names stand for -/
structure GT where
  fns : List (Str × Nat)
  cns : List (Str × Int)
  bis : List Str
  excs : List (Str × Nat)
  kinds : List (Nat × Str) := []
  isx : List (Nat × Str × Bool) := []
  calm : Bool := true
def GT.noK (g : GT) : GT := { g with kinds := [], isx := [] }
/-! ### views -/
/-- x.m(e): the name, the method, the argument, its lines are one -/
def vMet : Expr → Option (Str × Str × Expr × Bool)
  | .Call (.Attribute (.Name x _) m p2) [v] [] p3 => some (x, m, v, p2.endLine == p3.line)
  | _ => none
/-- e.m(v): the receiver, the method, the argument, its lines are one -/
def vMetE : Expr → Option (Expr × Str × Expr × Bool)
  | .Call (.Attribute t m p2) [v] [] p3 => some (t, m, v, p2.endLine == p3.line)
  | _ => none
theorem vMetE_eq {e t v : Expr} {m : Str} {b : Bool} (h : vMetE e = some (t, m, v, b)) : ∃ p2 p3, e = .Call (.Attribute t m p2) [v] [] p3 ∧ (p2.endLine == p3.line) = b := by
  unfold vMetE at h
  split at h
  · cases h
    exact ⟨_, _, rfl, rfl⟩
  · cases h
/-- a name or a subscript -/
def nBase : Expr → Bool
  | .Name _ _ => true
  | .Subscript _ _ _ => true
  | _ => false
/-- x(lambda: body), no parameters -/
def vLam : Expr → Option (Str × Arguments × Expr × Scope)
  | .Call (.Name x _) [.Lambda ps body scope _] [] _ => some (x, ps, body, scope)
  | _ => none
def noPs : Arguments → Bool
  | ⟨[], [], none, [], [], none, []⟩ => true
  | _ => false
theorem vLam_eq {e b : Expr} {x : Str} {ps : Arguments} {sc : Scope} (h : vLam e = some (x, ps, b, sc)) : ∃ p1 p2 p3, e = .Call (.Name x p1) [.Lambda ps b sc p2] [] p3 := by
  unfold vLam at h
  split at h
  · cases h
    exact ⟨_, _, _, rfl⟩
  · cases h
theorem noPs_eq {a : Arguments} (h : noPs a = true) : a = ⟨[], [], none, [], [], none, []⟩ := by
  unfold noPs at h
  split at h
  · rfl
  · cases h
theorem vMet_eq {e v : Expr} {x m : Str} {b : Bool} (h : vMet e = some (x, m, v, b)) : ∃ p1 p2 p3, e = .Call (.Attribute (.Name x p1) m p2) [v] [] p3 ∧ (p2.endLine == p3.line) = b := by
  unfold vMet at h
  split at h
  · cases h
    exact ⟨_, _, _, rfl, rfl⟩
  · cases h
def vBin : Expr → Option (Expr × Operator × Expr)
  | .BinOp l o r _ => some (l, o, r)
  | _ => none
def vNeg : Expr → Option Expr
  | .UnaryOp .USub a _ => some a
  | _ => none
def vNot : Expr → Option Expr
  | .UnaryOp .Not a _ => some a
  | _ => none
def vName : Expr → Option Str
  | .Name x _ => some x
  | _ => none
def vInt : Expr → Option Int
  | .Constant (.int i) _ _ => some i
  | _ => none
def vBl : Expr → Option Bool
  | .Constant (.bool i) _ _ => some i
  | _ => none
def vStr : Expr → Option Str
  | .Constant (.str i) _ _ => some i
  | _ => none
def vNon : Expr → Bool
  | .Constant .none _ _ => true
  | _ => false
def vCmp : Expr → Option (Expr × List CmpOp × List Expr)
  | .Compare l os rs _ => some (l, os, rs)
  | _ => none
def vBop : Expr → Option (BoolOp × List Expr)
  | .BoolOp o vs _ => some (o, vs)
  | _ => none
def vIte : Expr → Option (Expr × Expr × Expr)
  | .IfExp c a b _ => some (c, a, b)
  | _ => none
def vLst : Expr → Option (List Expr)
  | .List vs _ => some vs
  | _ => none
def vTup : Expr → Option (List Expr)
  | .Tuple vs _ _ => some vs
  | _ => none
def vSub : Expr → Option (Expr × Expr)
  | .Subscript a i _ => some (a, i)
  | _ => none
def vSl : Expr → Option (Option Expr × Option Expr)
  | .Slice lo hi none _ => some (lo, hi)
  | _ => none
def vCall : Expr → Option (Str × List Expr)
  | .Call (.Name x _) vs [] _ => some (x, vs)
  | _ => none
def vLc : Expr → Option (Expr × Expr × Expr × List Expr × Scope)
  | .ListComp el [⟨t, it, ifs, 0⟩] sc _ => some (el, t, it, ifs, sc)
  | _ => none
theorem vBin_eq {e l r : Expr} {o : Operator} (h : vBin e = some (l, o, r)) : ∃ pos, e = .BinOp l o r pos := by
  unfold vBin at h
  split at h
  · cases h
    exact ⟨_, rfl⟩
  · cases h
theorem vNeg_eq {e a : Expr} (h : vNeg e = some a) : ∃ pos, e = .UnaryOp .USub a pos := by
  unfold vNeg at h
  split at h
  · cases h
    exact ⟨_, rfl⟩
  · cases h
theorem vNot_eq {e a : Expr} (h : vNot e = some a) : ∃ pos, e = .UnaryOp .Not a pos := by
  unfold vNot at h
  split at h
  · cases h
    exact ⟨_, rfl⟩
  · cases h
theorem vName_eq {e : Expr} {x : Str} (h : vName e = some x) : ∃ pos, e = .Name x pos := by
  unfold vName at h
  split at h
  · cases h
    exact ⟨_, rfl⟩
  · cases h
theorem vInt_eq {e : Expr} {x : Int} (h : vInt e = some x) : ∃ k pos, e = .Constant (.int x) k pos := by
  unfold vInt at h
  split at h
  · cases h
    exact ⟨_, _, rfl⟩
  · cases h
theorem vBl_eq {e : Expr} {x : Bool} (h : vBl e = some x) : ∃ k pos, e = .Constant (.bool x) k pos := by
  unfold vBl at h
  split at h
  · cases h
    exact ⟨_, _, rfl⟩
  · cases h
theorem vStr_eq {e : Expr} {x : Str} (h : vStr e = some x) : ∃ k pos, e = .Constant (.str x) k pos := by
  unfold vStr at h
  split at h
  · cases h
    exact ⟨_, _, rfl⟩
  · cases h
theorem vNon_eq {e : Expr} (h : vNon e = true) : ∃ k pos, e = .Constant .none k pos := by
  unfold vNon at h
  split at h
  · exact ⟨_, _, rfl⟩
  · cases h
theorem vCmp_eq {e l : Expr} {os : List CmpOp} {rs : List Expr} (h : vCmp e = some (l, os, rs)) : ∃ pos, e = .Compare l os rs pos := by
  unfold vCmp at h
  split at h
  · cases h
    exact ⟨_, rfl⟩
  · cases h
theorem vBop_eq {e : Expr} {o : BoolOp} {vs : List Expr} (h : vBop e = some (o, vs)) : ∃ pos, e = .BoolOp o vs pos := by
  unfold vBop at h
  split at h
  · cases h
    exact ⟨_, rfl⟩
  · cases h
theorem vIte_eq {e c a b : Expr} (h : vIte e = some (c, a, b)) : ∃ pos, e = .IfExp c a b pos := by
  unfold vIte at h
  split at h
  · cases h
    exact ⟨_, rfl⟩
  · cases h
theorem vLst_eq {e : Expr} {vs : List Expr} (h : vLst e = some vs) : ∃ pos, e = .List vs pos := by
  unfold vLst at h
  split at h
  · cases h
    exact ⟨_, rfl⟩
  · cases h
theorem vTup_eq {e : Expr} {vs : List Expr} (h : vTup e = some vs) : ∃ k pos, e = .Tuple vs k pos := by
  unfold vTup at h
  split at h
  · cases h
    exact ⟨_, _, rfl⟩
  · cases h
theorem vSub_eq {e a i : Expr} (h : vSub e = some (a, i)) : ∃ pos, e = .Subscript a i pos := by
  unfold vSub at h
  split at h
  · cases h
    exact ⟨_, rfl⟩
  · cases h
theorem vSl_eq {e : Expr} {lo hi : Option Expr} (h : vSl e = some (lo, hi)) : ∃ pos, e = .Slice lo hi none pos := by
  unfold vSl at h
  split at h
  · cases h
    exact ⟨_, rfl⟩
  · cases h
theorem vCall_eq {e : Expr} {x : Str} {vs : List Expr} (h : vCall e = some (x, vs)) : ∃ p2 pos, e = .Call (.Name x p2) vs [] pos := by
  unfold vCall at h
  split at h
  · cases h
    exact ⟨_, _, rfl⟩
  · cases h
theorem vLc_eq {e el t it : Expr} {ifs : List Expr} {sc : Scope} (h : vLc e = some (el, t, it, ifs, sc)) : ∃ pos, e = .ListComp el [⟨t, it, ifs, 0⟩] sc pos := by
  unfold vLc at h
  split at h
  · cases h
    exact ⟨_, rfl⟩
  · cases h
/-! ### side conditions by form -/
def nSet : Expr → Bool
  | .Set _ _ _ => false
  | _ => true
def nSlice : Expr → Bool
  | .Slice _ _ _ _ => false
  | _ => true
def nTest : Expr → Bool
  | .UnaryOp .Not _ _ => false
  | .BoolOp _ _ _ => false
  | .IfExp _ _ _ _ => false
  | .Compare _ _ _ _ => false
  | _ => true
theorem isTrue_val {e : Expr} {env : Env} (h : nTest e = true) (whole : Sem Value) : isTrue e env whole = (do let v ← whole; standAt e.pos; holding [v] (truthy v)) := by
  cases e with
  | UnaryOp op a pos => cases op <;> first | rfl | cases h
  | BoolOp _ _ _ => cases h
  | IfExp _ _ _ _ => cases h
  | Compare _ _ _ _ => cases h
  | _ => rfl
theorem plain_ix {e : Expr} (h : nSlice e = true) : PlainIx e := fun o i => by
  cases e <;> first
    | rfl
    | cases h
theorem marks_no {op : CmpOp} {e : Expr} (h : nSet e = true) : behindInMarks op e = false := by
  cases e <;> first
    | rfl
    | cases h
theorem last_no : ∀ {ops : List CmpOp} {es : List Expr}, es.all nSet = true → lastMarks ops es = false
  | [], [], _ => rfl
  | [], _ :: _, _ => rfl
  | [op], [e], h => by
    rw [List.all_cons, Bool.and_eq_true] at h
    exact marks_no h.1
  | op :: op' :: ops, e :: es, h => by
    rw [List.all_cons, Bool.and_eq_true] at h
    show lastMarks (op' :: ops) es = false
    exact last_no h.2
  | [op], [], _ => rfl
  | op :: op' :: ops, [], _ => rfl
  | [op], e :: e' :: es, h => by
    show lastMarks [] (e' :: es) = false
    rfl
theorem fold_no {e : Expr} {env : Env} (h : nSet e = true) (x : Value) : foldedSetIterable e env x = pure x := by
  cases e <;> first
    | rfl
    | cases h
theorem back_no {es : List Expr} {env : Env} (h : es.all nStar = true) (pos : Pos) : (backTo pos (starEach es env)).any (·.1) = false := by
  induction es with
  | nil => rfl
  | cons e es ih =>
    rw [List.all_cons, Bool.and_eq_true] at h
    rw [star_cons h.1]
    show (false || (backTo pos (starEach es env)).any (·.1)) = false
    rw [ih h.2]
    rfl
def dund (x : Str) : Bool := (x == ("__debug__" : Str)) || (x == ("__classdict__" : Str)) || (x == ("__name__" : Str))
def visB (sc : Scope) (x : Str) : Bool := (match sc.names.lookup x with
  | some .local => true
  | some .cell => true
  | some .free => true
  | _ => false) && !dund x
def locB (sc : Scope) (x : Str) : Bool := match sc.names.lookup x with
  | some .local => true
  | some .cell => true
  | _ => false
def glB (sc : Scope) (x : Str) : Bool := (match sc.names.lookup x with
  | some .globalImplicit => true
  | _ => false) && !dund x
theorem visB_ok {sc : Scope} {x : Str} (h : visB sc x = true) : Vis sc x ∧ (x == ("__debug__" : Str)) = false ∧ (x == ("__classdict__" : Str)) = false := by
  unfold visB dund at h
  rw [Bool.and_eq_true] at h
  simp only [Bool.not_eq_true', Bool.or_eq_false_iff] at h
  refine ⟨?_, h.2.1.1, h.2.1.2⟩
  have h1 := h.1
  split at h1
  · exact .inl (by assumption)
  · exact .inr (.inl (by assumption))
  · exact .inr (.inr (by assumption))
  · cases h1
theorem locB_ok {sc : Scope} {x : Str} (h : locB sc x = true) : Loc sc x := by
  unfold locB at h
  split at h
  · exact .inl (by assumption)
  · exact .inr (by assumption)
  · cases h
theorem glB_ok {sc : Scope} {x : Str} (h : glB sc x = true) : sc.names.lookup x = some .globalImplicit ∧ (x == ("__debug__" : Str)) = false ∧ x ≠ "__name__" := by
  unfold glB dund at h
  rw [Bool.and_eq_true] at h
  simp only [Bool.not_eq_true', Bool.or_eq_false_iff] at h
  refine ⟨?_, h.2.1.1, fun e => ?_⟩
  · have h1 := h.1
    split at h1
    · assumption
    · cases h1
  · have := h.2.2
    rw [e] at this
    simp at this
/-! ### the check -/
def rawB (sc : Scope) (x : Str) : Option Scope → Bool
  | none => true
  | some s => decide (s.names.lookup x = some .cell) || decide (sc.names.lookup x = some .local)
mutual
/-- a target; raw: the block's own scope -/
def chkT (N : List Str) (sc : Scope) (raw : Option Scope) : T → Expr → Bool
  | .name i, e => match vName e with
    | some x => decide (N[i]? = some x) && locB sc x && rawB sc x raw
    | none => false
  | .tup ts, e => match vTup e with
    | some es => chkTs N sc raw ts es
    | none => false
  | _, _ => false
def chkTs (N : List Str) (sc : Scope) (raw : Option Scope) : T → List Expr → Bool
  | .nil, es => es.isEmpty
  | .cons t ts, es => match es with
    | e :: es => chkT N sc raw t e && nStar e && chkTs N sc raw ts es
    | [] => false
  | _, _ => false
end
def ownP (N : List Str) (own : List Nat) : List (Str × Nat) := own.map fun i => ((N[i]?).getD Str.empty, i)
def nNil : E → Bool
  | .nil => false
  | _ => true
def nTupE : E → Bool
  | .var _ => true
  | .lst _ => true
  | .lc _ _ _ _ _ => true
  | _ => false
/-- an enumerate's items go to a tuple -/
def enuOk : E → T → Bool
  | .enu _, .tup _ => true
  | .enu _, _ => false
  | .zip _ _, .tup _ => true
  | .zip _ _, _ => false
  | _, _ => true
def tyNm : Ty → Str
  | .int => "int"
  | .bool => "bool"
  | .str => "str"
  | .list => "list"
  | .tuple => "tuple"
  | .none => "NoneType"
def tyOk : Ty → Bool
  | .none => false
  | _ => true
def chkTys (bis : List Str) (sc : Scope) : List Ty → List Expr → Bool
  | [], es => es.isEmpty
  | t :: ts, es => match es with
    | e :: es => decide (vName e = some (tyNm t)) && tyOk t && glB sc (tyNm t) && decide (tyNm t ∈ bis) && nStar e && chkTys bis sc ts es
    | [] => false
/-- no lambda, no error is looked at -/
def nk : E → Bool
  | .cons e es => nk e && nk es
  | .bin _ a b => nk a && nk b
  | .neg a => nk a
  | .cmp _ a b => nk a && nk b
  | .chn a _ es => nk a && nk es
  | .not a => nk a
  | .bop _ es => nk es
  | .ite c a b => nk c && nk a && nk b
  | .lst es => nk es
  | .tup es => nk es
  | .ix a i => nk a && nk i
  | .sl a b c => nk a && nk b && nk c
  | .call _ es => nk es
  | .mcall _ _ es => nk es
  | .new _ _ es => nk es
  | .bi _ es => nk es
  | .isi a _ _ => nk a
  | .kind _ _ => false
  | .isx _ _ _ => false
  | .rng es => nk es
  | .enu e => nk e
  | .zip a b => nk a && nk b
  | .lc e _ i f _ => nk e && nk i && nk f
  | _ => true
mutual
def chkE (g : GT) (N : List Str) : E → Scope → Expr → Bool
  | .cint i, _, e => decide (vInt e = some i)
  | .cbl b, _, e => decide (vBl e = some b)
  | .cstr x, _, e => decide (vStr e = some x)
  | .cnon, _, e => vNon e
  | .gint x i, sc, e => decide (vName e = some x) && glB sc x && decide (g.cns.lookup x = some i)
  | .var i, sc, e => match vName e with
    | some x => decide (N[i]? = some x) && visB sc x
    | none => false
  | .bin op a b, sc, e => match vBin e with
    | some (l, o, r) => decide (o = opB op) && chkE g N a sc l && chkE g N b sc r
    | none => false
  | .neg a, sc, e => match vNeg e with
    | some x => chkE g N a sc x
    | none => false
  | .cmp op a b, sc, e => match vCmp e with
    | some (l, os, rs) => match rs with
      | [r] => decide (os = [opC op]) && chkE g N a sc l && chkE g N b sc r && nSet r
      | _ => false
    | none => false
  | .chn a ops es, sc, e => match vCmp e with
    | some (l, os, rs) => decide (os = ops.map opC) && decide (2 ≤ os.length) && decide (os.length = rs.length) && chkE g N a sc l && chkL g N es sc rs && rs.all nSet
    | none => false
  | .not a, sc, e => match vNot e with
    | some x => chkE g N a sc x
    | none => false
  | .bop k es, sc, e => match vBop e with
    | some (o, vs) => decide (o = opL k) && !vs.isEmpty && chkL g N es sc vs
    | none => false
  | .ite c a b, sc, e => match vIte e with
    | some (x, y, z) => chkE g N c sc x && chkE g N a sc y && chkE g N b sc z
    | none => false
  | .lst es, sc, e => match vLst e with
    | some vs => chkL g N es sc vs
    | none => false
  | .tup es, sc, e => match vTup e with
    | some vs => chkL g N es sc vs
    | none => false
  | .ix a i, sc, e => match vSub e with
    | some (x, y) => chkE g N a sc x && chkE g N i sc y && nSlice y
    | none => false
  | .sl a lo hi, sc, e => match vSub e with
    | some (x, y) => match vSl y with
      | some (l, h) => chkE g N a sc x && (match l with
          | none => !nNil lo
          | some l => nNil lo && chkE g N lo sc l) && (match h with
          | none => !nNil hi
          | some h => nNil hi && chkE g N hi sc h)
      | none => false
    | none => false
  | .call f es, sc, e => match vCall e with
    | some (x, vs) => glB sc x && decide (g.fns.lookup x = some f) && !vs.isEmpty && chkL g N es sc vs
    | none => false
  | .bi b es, sc, e => match vCall e with
    | some (x, vs) => (decide (x = nameB b) && g.calm) && glB sc x && decide (x ∈ g.bis) && !vs.isEmpty && chkL g N es sc vs
    | none => false
  | .isi a many ts, sc, e => match vCall e with
    | some (x, vs) => match vs with
      | [v, t] => decide (x = "isinstance") && glB sc x && decide (x ∈ g.bis) && chkE g N a sc v && nStar v && nStar t && (match many with
        | false => chkTys g.bis sc ts [t] && decide (ts.length = 1)
        | true => match vTup t with
          | some es => chkTys g.bis sc ts es && decide (ts.length ≤ 100)
          | none => false)
      | _ => false
    | none => false
  | .kind m nm, sc, e => match vLam e with
    | some (x, ps, b, scope) => decide (x = "_law_kind") && glB sc x && decide (nm = g.kinds) && !nm.isEmpty && noPs ps && LamX.lamSB sc scope && chkE g N m scope b && nk m
    | none => false
  | .isx i x b, sc, e => match vCall e with
    | some (f, vs) => match vs with
      | [v, t] => decide (f = "isinstance") && (match vName v with
        | some y => decide (N[i]? = some y) && visB sc y
        | none => false) && decide (vName t = some x) && decide ((i, x, b) ∈ g.isx)
      | _ => false
    | none => false
  | .cntT i, sc, e => match vMet e with
    | some (x, m, v, b) => decide (N[i]? = some x) && visB sc x && decide (m = "count") && b && decide (vBl v = some true)
    | none => false
  | .idxT i, sc, e => match vMet e with
    | some (x, m, v, b) => decide (N[i]? = some x) && visB sc x && decide (m = "index") && b && decide (vBl v = some true)
    | none => false
  | .lc elt tg it ifs own, sc, e => match vLc e with
    | some (el, t, i, fs, scope) => (match it with
        | .rng es => match vCall i with
          | some (x, vs) => decide (x = "range") && glB sc x && decide (x ∈ g.bis) && decide (vs.length = 1 ∨ vs.length = 2 ∨ vs.length = 3) && chkL g N es sc vs
          | none => false
        | .enu m => match vCall i with
          | some (x, vs) => match vs with
            | [v] => decide (x = "enumerate") && glB sc x && decide (x ∈ g.bis) && chkE g N m sc v && nStar v
            | _ => false
          | none => false
        | .zip _ _ => false
        | m => chkE g N m sc i) && blkC N sc scope (ownP N own) && chkT N (relS scope sc) (some scope) tg t && (chkL g N ifs (relS scope sc) fs && nk ifs) && decide (fs.length ≤ 1) &&
        (chkE g N elt (relS scope sc) el && nk elt) && (nSet i && g.calm) && (slotsT tg).all (fun i => decide (i ∈ own)) && enuOk it tg
    | none => false
  | _, _, _ => false
def chkL (g : GT) (N : List Str) : E → Scope → List Expr → Bool
  | .nil, _, es => es.isEmpty
  | .cons m ms, sc, es => match es with
    | e :: es => chkE g N m sc e && nStar e && chkL g N ms sc es
    | [] => false
  | _, _, _ => false
end
def chkI (g : GT) (N : List Str) : E → Scope → Expr → Bool
  | .rng es, sc, e => match vCall e with
    | some (x, vs) => decide (x = "range") && glB sc x && decide (x ∈ g.bis) && decide (vs.length = 1 ∨ vs.length = 2 ∨ vs.length = 3) && chkL g N es sc vs
    | none => false
  | .enu m, sc, e => match vCall e with
    | some (x, vs) => match vs with
      | [v] => decide (x = "enumerate") && glB sc x && decide (x ∈ g.bis) && chkE g N m sc v && nStar v
      | _ => false
    | none => false
  | .zip _ _, _, _ => false
  | m, sc, e => chkE g N m sc e
theorem chkE_lc (g : GT) (N : List Str) (elt : E) (tg : T) (it ifs : E) (own : List Nat) (sc : Scope) (e : Expr) : chkE g N (.lc elt tg it ifs own) sc e = match vLc e with
    | some (el, t, i, fs, scope) => chkI g N it sc i && blkC N sc scope (ownP N own) && chkT N (relS scope sc) (some scope) tg t && (chkL g N ifs (relS scope sc) fs && nk ifs) && decide (fs.length ≤ 1) &&
        (chkE g N elt (relS scope sc) el && nk elt) && (nSet i && g.calm) && (slotsT tg).all (fun i => decide (i ∈ own)) && enuOk it tg
    | none => false := by
  rw [chkE]
  cases it <;> rfl
def isRng : E → Bool
  | .rng _ => true
  | _ => false
/-! ### what a body stands in -/
structure FnF (p : Pm) (cl : Cl) (X : Cx) (f : Nat) (x : Str) : Prop where
  ex : ∃ a fd ps k, X.mg x = some (.ref a) ∧ PySem.W.keepIn X.K (.ref a) = true ∧ FnOk X.prog X.w X.K X.mg X.base (L2.CX X.prog X.w) k a fd ps (spF p (cl.io f).length (cl.io f) (cl.run f)) ∧ Binds X.K fd ps [] ∧ Room k X.A
/-- what the call of a def with a lambda makes of the lambda's answer -/
def TTkind (p : Pm) (nm : List (Nat × Str)) : (XK → Hp → VK → Prop) → Hp → VK → Prop := fun tl H Q =>
  tl (fun cls d H' => ∃ C s, nm.lookup C = some s ∧ cls = .ref (p.XA C) ∧ d = none ∧ LamX.Tabs p.T H' ∧ ∀ H2, LamX.ExtN H' H2 → LamX.Tabs p.T H2 → Q (.str s) H2) H Q
structure KindF (p : Pm) (g : GT) (cl : Cl) (X : Cx) : Prop where
  ex : ∃ k, (∀ x f, g.fns.lookup x = some f → ∃ a fd ps, X.mg x = some (.ref a) ∧ PySem.W.keepIn X.K (.ref a) = true ∧ FnOk X.prog X.w X.K X.mg X.base (L2.CX X.prog X.w) k a fd ps (spF p (cl.io f).length (cl.io f) (cl.run f)) ∧ Binds X.K fd ps []) ∧ k + 64 < cLine ∧
    ∀ {ps : Arguments} {body : Expr} {scope : Scope} {t : XK → TE} {p1 p2 p3 : Pos}, Gl X "_law_kind" → LamX.LamS X.env.scope scope → defaultsOf ps X.env = ([], []) → (∀ (q : Str) (cl : List (Str × Addr)) (pm cv ctv : Value), bindArgs (PySem.W.kla_fn "<lambda>" q ps body scope cl pm cv ctv) ⟨[], []⟩ = pure []) →
      (∀ (A : Around) (outer : List Env) (s : Shared) (H : Hp) (E : XK) (f c' : Addr), Room k (A.deeper (LamX.lamEnv X scope s.heap.objs.size f c')) → PE (LamX.lamCx X A outer s H E scope f c') body (t E)) →
      PE X (.Call (.Name "_law_kind" p1) [.Lambda ps body scope p2] [] p3) (LamX.tLam p.T (TTkind p g.kinds) t)
structure Ctx (p : Pm) (g : GT) (cl : Cl) (N : List Str) (X : Cx) (sc : Scope) (W : XK) : Prop where
  K : X.K = p.K
  nN : X.N = N
  nd : N.Nodup
  sc : X.env.scope = sc
  calm : g.calm = true → X.calm = true
  pas : Passes (L2.CX X.prog X.w) X W
  fns : ∀ x f, g.fns.lookup x = some f → FnF p cl X f x
  cns : ∀ x i, g.cns.lookup x = some i → ∃ t, X.mg x = some (.int i t)
  bis : ∀ x, x ∈ g.bis → X.mg x = none
  hu : X.A.units + 64 < cLine
  kd : g.kinds ≠ [] → KindF p g cl X
  ix : ∀ i x b, (i, x, b) ∈ g.isx → ∃ y, N[i]? = some y ∧ ∀ p1 p2 p3 p4, PE X (.Call (.Name "isinstance" p1) [.Name y p2, .Name x p3] [] p4) (fun σ H Q => σ[i]? = some (some (.ref p.OA)) ∧ Q (.bl b) H)
theorem Ctx.noK {p : Pm} {g : GT} {cl : Cl} {N : List Str} {X : Cx} {sc : Scope} {W : XK} (c : Ctx p g cl N X sc W) : Ctx p g.noK cl N X sc W :=
  ⟨c.K, c.nN, c.nd, c.sc, c.calm, c.pas, c.fns, c.cns, c.bis, c.hu, fun h => absurd rfl h, fun i x b h => absurd h List.not_mem_nil⟩
theorem Ctx.blk {p : Pm} {g : GT} {cl : Cl} {N : List Str} {X : Cx} {sc scope : Scope} {W : XK} (c : Ctx p g cl N X sc W) (s : Shared) (H : Hp) (C : Addr) (cls : List (Str × Addr)) (fp : List Addr) :
    Ctx p g.noK cl N (X.blk s H scope (compEnvC scope cls C X.env) fp) (relS scope sc) E0 :=
  ⟨c.K, c.nN, c.nd, by rw [← c.sc]; rfl, c.calm, passL, fun x f h => ⟨(c.fns x f h).ex⟩, c.cns, c.bis, c.hu, fun h => absurd rfl h, fun i x b h => absurd h List.not_mem_nil⟩
theorem takeA_fl : ∀ {fs : List Bool} {ps : List Pd} {ρ ρ1 : Fr} {os : List O} {is : List Nat}, takeA ρ fs ps = some (os, is, ρ1) → ps.length = fs.length
  | [], [], _, _, _, _, e => rfl
  | true :: fs, .at i :: ps, ρ, _, _, _, e => by
    simp only [takeA] at e
    split at e
    · split at e
      · rename_i e2
        exact congrArg Nat.succ (takeA_fl e2)
      · cases e
    · cases e
  | false :: fs, q :: ps, ρ, _, _, _, e => by
    simp only [takeA] at e
    split at e
    · split at e
      · rename_i e2
        exact congrArg Nat.succ (takeA_fl e2)
      · cases e
    · cases e
  | [], _ :: _, _, _, _, _, e => by simp [takeA] at e
  | true :: _, .val _ :: _, _, _, _, _, e => by simp [takeA] at e
  | true :: _, [], _, _, _, _, e => by simp [takeA] at e
  | false :: _, [], _, _, _, _, e => by simp [takeA] at e
section
variable {p : Pm} {W : XK} {X : Cx} {cl : Cl}
theorem peCall {x : Str} {f : Nat} {v : Expr} {vs : List Expr} {pos pos' : Pos} {r : Fr → R (List Pd)} (hx : Passes (L2.CX X.prog X.w) X W) (F : FnF p cl X f x) (hg : Gl X x) (hd : (x == ("__debug__" : Str)) = false) (h : PA X (v :: vs) (tPs p W r)) (hs : (v :: vs).all nStar = true) :
    PE X (.Call (.Name x pos') (v :: vs) [] pos) (tO p W fun ρ => bnd (r ρ) fun ps ρ => doCall cl f ps ρ) := by
  obtain ⟨a, fd, ps, k, hm, hk, Fn, hb, hr⟩ := F.ex
  rw [List.all_cons, Bool.and_eq_true] at hs
  refine peI (pe_call Fn hr hg hm hk hb .nil hx h hd (star_cons hs.1) (back_no hs.2 pos)) fun σ H Q ⟨B, F, G, ρ, A, R, q⟩ => ⟨B, F, G, ρ, A, R, ?_⟩
  refine q.bnd.imp fun xs ρ1 F1 H1 A1 f1 R1 q vs rp => ?_
  show spF p (cl.io f).length (cl.io f) (cl.run f) (vs ++ []) H1 Q W
  rw [List.append_nil]
  refine call_core R1 rp ?_ q
  unfold doCall at q
  split at q
  · exact q.elim
  · rename_i e1
    rw [rp.len, takeA_fl e1]
/-! ### and, or of rows -/
theorem evB_cons (m ms : E) (k : Bool) : (fun ρ => evB cl (.cons m ms) k ρ) = bopM k (evO cl m) (fun ρ => evB cl ms k ρ) := by
  funext ρ
  simp only [evB]
  rfl
theorem evC_last (m : E) (op : Cop) : evC cl (.cons m .nil) [op] = chM op (opd m (evO cl m)) none := by
  funext x ρ
  simp only [evC]
  rfl
theorem evC_more (m ms : E) (op op' : Cop) (ops : List Cop) : evC cl (.cons m ms) (op :: op' :: ops) = chM op (opd m (evO cl m)) (some (evC cl ms (op' :: ops))) := by
  funext x ρ
  simp only [evC]
  rfl
end
end WD

/-! WD, part 9a: isinstance. -/
namespace WD
open PySem PySem.Spec PyProof.Rows L2
def tyS : Ty → String
  | .int => "int"
  | .bool => "bool"
  | .str => "str"
  | .list => "list"
  | .tuple => "tuple"
  | .none => "NoneType"
theorem ty_boot {t : Ty} (h : tyOk t = true) : bootBuiltins (tyNm t) = some (.type (tyS t)) := by
  cases t with
  | none => cases h
  | _ => decide +kernel
theorem ty_kit (a : Ty) {b : Ty} (h : tyOk b = true) : kitB (tyS a) (tyS b) = some (isT a b) := by
  cases b with
  | none => cases h
  | _ => cases a <;> decide +kernel
theorem ty_any {K : PySem.W.Frag} (a : Ty) : ∀ (ts : List Ty), ts.all tyOk = true → PySem.W.kitAny K (.type (tyS a)) (ts.map fun t => .type (tyS t)) = some (ts.any (isT a))
  | [], _ => kitAny_nil
  | t :: ts, h => by
    rw [List.all_cons, Bool.and_eq_true] at h
    rw [List.map_cons, List.any_cons]
    exact kitAny_cons (kit_ty (ty_kit a h.1)) (fun e => by rw [e, Bool.false_or]; exact ty_any a ts h.2) fun e => by rw [e, Bool.true_or]
theorem tyX_of {p : Pm} {B : Addr → Prop} {F H : Hp} {v : V} {d : D} {t : Ty} (le : Same F H) (h : LK p B F H v d) (e : tyD d = some t) : TyX p.K H v (.type (tyS t)) := by
  cases d with
  | non =>
    cases e
    cases h.sh (by intros; simp)
    exact .base .non
  | bl b =>
    cases e
    cases h.sh (by intros; simp)
    exact .base (.bl b)
  | int b =>
    cases e
    cases h.sh (by intros; simp)
    exact .base (.int b)
  | str b =>
    cases e
    cases h.sh (by intros; simp)
    exact .base (.str b)
  | tup ds =>
    cases e
    obtain ⟨a, vs, rfl, hs, _, _⟩ := h.tup le
    rcases hs with (hs | ⟨o, hs⟩) | ⟨o, its, n, h1, h2, _⟩
    · exact .base (.tup hs)
    · exact .fTuple hs
    · exact .kTuple h1 h2
  | lst t' ds =>
    cases e
    obtain ⟨a, vs, rfl, hs, _⟩ := h.lst le
    exact .base (.lst hs)
  | scr _ => cases e
  | obj _ _ _ => cases e
  | opq => cases e
section
variable {p : Pm} {W : XK} {X : Cx}
theorem peTy {t : Ty} {pos : Pos} (h : tyOk t = true) (hg : Gl X (tyNm t)) (hm : X.mg (tyNm t) = none) : PE X (.Name (tyNm t) pos) (tC (.ty (tyS t))) :=
  ⟨fun pins s σ H Q I q => ld_blt I hg hm (ty_boot h) ⟨.ty (tyS t), H, I, rfl, q⟩ (by cases t <;> decide) (by cases t <;> decide)⟩
def tTys : List Ty → TA
  | [] => tNil
  | t :: ts => tCons (tC (.ty (tyS t))) (tTys ts)
theorem tTys_run : ∀ {ts : List Ty} {σ : L2.St} {H : Hp} {Q : List V → Hp → Prop}, Q (ts.map fun t => V.ty (tyS t)) H → tTys ts σ H Q
  | [], _, _, _, q => q
  | _ :: ts, _, _, _, q => tTys_run (ts := ts) q
theorem paTys {bis : List Str} {sc : Scope} (hs : X.env.scope = sc) (hb : ∀ x, x ∈ bis → X.mg x = none) : ∀ {ts : List Ty} {es : List Expr}, chkTys bis sc ts es = true → PA X es (tTys ts) ∧ es.all nStar = true ∧ ts.all tyOk = true
  | [], es, h => by
    unfold chkTys at h
    rw [List.isEmpty_iff] at h
    subst h
    exact ⟨pa_nil, rfl, rfl⟩
  | t :: ts, es, h => by
    unfold chkTys at h
    split at h
    · rename_i e es
      simp only [Bool.and_eq_true, decide_eq_true_eq] at h
      obtain ⟨⟨⟨⟨⟨h1, h2⟩, h3⟩, h4⟩, h5⟩, h6⟩ := h
      obtain ⟨pos, rfl⟩ := vName_eq h1
      obtain ⟨r1, r2, r3⟩ := paTys hs hb h6
      obtain ⟨g1, _, _⟩ := glB_ok h3
      refine ⟨pa_cons (peTy h2 (by show X.env.scope.names.lookup _ = _; rw [hs]; exact g1) (hb _ h4)) r1 (star_cons h5), ?_, ?_⟩
      · rw [List.all_cons, h5, r2]; rfl
      · rw [List.all_cons, h2, r3]; rfl
    · cases h
theorem cls_tys : ∀ ts : List Ty, Paired ClsV (ts.map fun t => V.ty (tyS t)) (ts.map fun t => Value.type (tyS t))
  | [] => .nil
  | t :: ts => .cons (.ty _) (cls_tys ts)
theorem peIsi {bis : List Str} {sc : Scope} {many : Bool} {ts : List Ty} {v t : Expr} {pos pos' : Pos} {f : Fr → R Pd} (hK : X.K = p.K) (hs : X.env.scope = sc) (hb : ∀ x, x ∈ bis → X.mg x = none) (hg : Gl X "isinstance") (hm : X.mg "isinstance" = none) (h : PE X v (tP p W f)) (n1 : nStar v = true) (n2 : nStar t = true)
    (hc : (match many with
        | false => chkTys bis sc ts [t] && decide (ts.length = 1)
        | true => match vTup t with
          | some es => chkTys bis sc ts es && decide (ts.length ≤ 100)
          | none => false) = true) :
    PE X (.Call (.Name "isinstance" pos') [v, t] [] pos) (tO p W fun ρ => bnd (f ρ) fun x ρ => opt (look ρ x) fun d => opt (isiD d ts) fun b => .ok (.sh (.bl b)) ρ) := by
  cases many with
  | false =>
    dsimp only at hc
    rw [Bool.and_eq_true, decide_eq_true_eq] at hc
    obtain ⟨r1, r2, r3⟩ := paTys hs hb hc.1
    obtain ⟨ty, rfl⟩ : ∃ ty, ts = [ty] := by
      cases ts with
      | nil => exact absurd hc.2 (by simp)
      | cons a r => cases r with
        | nil => exact ⟨a, rfl⟩
        | cons _ _ => exact absurd hc.2 (by simp)
    refine peI (pe_callB call_isi hg hm (by decide +kernel) (pa_cons h r1 (star_cons n1)) (by decide) (by decide) (star_cons n1) (back_no (by rw [List.all_cons, n2]; rfl) _)) fun σ H Q ⟨B, F, G, ρ, A, R, q⟩ => ?_
    refine ⟨B, F, G, ρ, A, R, q.bnd.imp fun x ρ1 F1 H1 A1 f1 R1 q u rv => ?_⟩
    obtain ⟨d, e1, q⟩ := q.opt
    obtain ⟨b, e2, q⟩ := q.opt
    refine tTys_run ?_
    unfold isiD at e2
    split at e2
    · rename_i t' e3
      cases e2
      refine ⟨u, .ty (tyS ty), _, _, _, rfl, .ty _, ?_, kit_ty (ty_kit t' (by simpa using r3)), ?_⟩
      · rw [hK]
        exact tyX_of R1.le (R1.look rv e1) e3
      · have := q.here (Same.refl F1) R1 (.bl _) [] (.sh (.bl _)) Own.nil
        simpa using this
    · cases e2
  | true =>
    dsimp only at hc
    split at hc
    · rename_i es e1
      obtain ⟨k, tp, rfl⟩ := vTup_eq e1
      rw [Bool.and_eq_true, decide_eq_true_eq] at hc
      obtain ⟨r1, r2, r3⟩ := paTys hs hb hc.1
      refine peI (pe_callB call_isiT hg hm (by decide +kernel) (pa_cons h (pa_cons (pe_tup r1) pa_nil (star_cons n2)) (star_cons n1)) (by decide) (by decide) (star_cons n1) (back_no (by rw [List.all_cons, n2]; rfl) _)) fun σ H Q ⟨B, F, G, ρ, A, R, q⟩ => ?_
      refine ⟨B, F, G, ρ, A, R, q.bnd.imp fun x ρ1 F1 H1 A1 f1 R1 q u rv => ?_⟩
      obtain ⟨d, e2, q⟩ := q.opt
      obtain ⟨b, e3, q⟩ := q.opt
      refine tTys_run ⟨?_, fun a ha => ?_⟩
      · rw [List.length_map, sizeLine_eq]
        omega
      · unfold isiD at e3
        split at e3
        · rename_i t' e4
          cases e3
          have R2 := R1.grow (u := .tup (ts.map fun t => V.ty (tyS t))) ha
          refine ⟨u, a, _, _, _, _, rfl, upd_same, cls_tys ts, ?_, ty_any t' ts r3, ?_⟩
          · rw [hK]
            exact tyX_of R2.le (R2.look rv e2) e4
          · exact q.here (Same.refl F1) R2 (.bl _) [] (.sh (.bl _)) Own.nil
        · cases e3
    · cases hc
end
end WD

/-! WD, part 9b: with no lambda within, the check asks nothing of lambdas. -/
namespace WD
open PySem PySem.Spec PyProof.Rows L2
def SameC (g : GT) (N : List Str) (m : E) : Prop := (∀ sc e, chkE g.noK N m sc e = chkE g N m sc e) ∧ (∀ sc es, chkL g.noK N m sc es = chkL g N m sc es) ∧ (∀ sc e, chkI g.noK N m sc e = chkI g N m sc e)
theorem chk_noK {g : GT} {N : List Str} : ∀ m : E, nk m = true → SameC g N m := by
  have mk : ∀ m : E, (∀ sc e, chkE g.noK N m sc e = chkE g N m sc e) → (∀ sc es, chkL g.noK N m sc es = chkL g N m sc es) → (∀ sc e, chkI g N m sc e = chkE g N m sc e) → (∀ sc e, chkI g.noK N m sc e = chkE g.noK N m sc e) → SameC g N m :=
    fun m h1 h2 h3 h4 => ⟨h1, h2, fun sc e => by rw [h3, h4, h1]⟩
  intro m
  induction m with
  | nil => exact fun _ => mk _ (fun _ _ => by simp only [chkE]) (fun _ _ => by simp only [chkL]) (fun _ _ => by simp only [chkI]) fun _ _ => by simp only [chkI]
  | cons e es ih1 ih2 =>
    intro h
    simp only [nk, Bool.and_eq_true] at h
    exact mk _ (fun _ _ => by simp only [chkE]) (fun _ _ => by simp only [chkL, (ih1 h.1).1, (ih2 h.2).2.1]) (fun _ _ => by simp only [chkI]) fun _ _ => by simp only [chkI]
  | cint _ => exact fun _ => mk _ (fun _ _ => by simp only [chkE]) (fun _ _ => by simp only [chkL]) (fun _ _ => by simp only [chkI]) fun _ _ => by simp only [chkI]
  | cbl _ => exact fun _ => mk _ (fun _ _ => by simp only [chkE]) (fun _ _ => by simp only [chkL]) (fun _ _ => by simp only [chkI]) fun _ _ => by simp only [chkI]
  | cstr _ => exact fun _ => mk _ (fun _ _ => by simp only [chkE]) (fun _ _ => by simp only [chkL]) (fun _ _ => by simp only [chkI]) fun _ _ => by simp only [chkI]
  | cnon => exact fun _ => mk _ (fun _ _ => by simp only [chkE]) (fun _ _ => by simp only [chkL]) (fun _ _ => by simp only [chkI]) fun _ _ => by simp only [chkI]
  | gint _ _ => exact fun _ => mk _ (fun _ _ => by simp only [chkE]; rfl) (fun _ _ => by simp only [chkL]) (fun _ _ => by simp only [chkI]) fun _ _ => by simp only [chkI]
  | var _ => exact fun _ => mk _ (fun _ _ => by simp only [chkE]) (fun _ _ => by simp only [chkL]) (fun _ _ => by simp only [chkI]) fun _ _ => by simp only [chkI]
  | fld _ _ => exact fun _ => mk _ (fun _ _ => by simp only [chkE]) (fun _ _ => by simp only [chkL]) (fun _ _ => by simp only [chkI]) fun _ _ => by simp only [chkI]
  | cntT _ => exact fun _ => mk _ (fun _ _ => by simp only [chkE]) (fun _ _ => by simp only [chkL]) (fun _ _ => by simp only [chkI]) fun _ _ => by simp only [chkI]
  | idxT _ => exact fun _ => mk _ (fun _ _ => by simp only [chkE]) (fun _ _ => by simp only [chkL]) (fun _ _ => by simp only [chkI]) fun _ _ => by simp only [chkI]
  | bin _ a b ih1 ih2 =>
    intro h
    simp only [nk, Bool.and_eq_true] at h
    exact mk _ (fun _ _ => by simp only [chkE, (ih1 h.1).1, (ih2 h.2).1]) (fun _ _ => by simp only [chkL]) (fun _ _ => by simp only [chkI]) fun _ _ => by simp only [chkI]
  | neg a ih1 => exact fun h => mk _ (fun _ _ => by simp only [chkE, (ih1 h).1]) (fun _ _ => by simp only [chkL]) (fun _ _ => by simp only [chkI]) fun _ _ => by simp only [chkI]
  | cmp _ a b ih1 ih2 =>
    intro h
    simp only [nk, Bool.and_eq_true] at h
    exact mk _ (fun _ _ => by simp only [chkE, (ih1 h.1).1, (ih2 h.2).1]) (fun _ _ => by simp only [chkL]) (fun _ _ => by simp only [chkI]) fun _ _ => by simp only [chkI]
  | chn a _ es ih1 ih2 =>
    intro h
    simp only [nk, Bool.and_eq_true] at h
    exact mk _ (fun _ _ => by simp only [chkE, (ih1 h.1).1, (ih2 h.2).2.1]) (fun _ _ => by simp only [chkL]) (fun _ _ => by simp only [chkI]) fun _ _ => by simp only [chkI]
  | not a ih1 => exact fun h => mk _ (fun _ _ => by simp only [chkE, (ih1 h).1]) (fun _ _ => by simp only [chkL]) (fun _ _ => by simp only [chkI]) fun _ _ => by simp only [chkI]
  | bop _ es ih1 => exact fun h => mk _ (fun _ _ => by simp only [chkE, (ih1 h).2.1]) (fun _ _ => by simp only [chkL]) (fun _ _ => by simp only [chkI]) fun _ _ => by simp only [chkI]
  | ite c a b ih1 ih2 ih3 =>
    intro h
    simp only [nk, Bool.and_eq_true] at h
    exact mk _ (fun _ _ => by simp only [chkE, (ih1 h.1.1).1, (ih2 h.1.2).1, (ih3 h.2).1]) (fun _ _ => by simp only [chkL]) (fun _ _ => by simp only [chkI]) fun _ _ => by simp only [chkI]
  | lst es ih1 => exact fun h => mk _ (fun _ _ => by simp only [chkE, (ih1 h).2.1]) (fun _ _ => by simp only [chkL]) (fun _ _ => by simp only [chkI]) fun _ _ => by simp only [chkI]
  | tup es ih1 => exact fun h => mk _ (fun _ _ => by simp only [chkE, (ih1 h).2.1]) (fun _ _ => by simp only [chkL]) (fun _ _ => by simp only [chkI]) fun _ _ => by simp only [chkI]
  | ix a i ih1 ih2 =>
    intro h
    simp only [nk, Bool.and_eq_true] at h
    exact mk _ (fun _ _ => by simp only [chkE, (ih1 h.1).1, (ih2 h.2).1]) (fun _ _ => by simp only [chkL]) (fun _ _ => by simp only [chkI]) fun _ _ => by simp only [chkI]
  | sl a b c ih1 ih2 ih3 =>
    intro h
    simp only [nk, Bool.and_eq_true] at h
    exact mk _ (fun _ _ => by simp only [chkE, (ih1 h.1.1).1, (ih2 h.1.2).1, (ih3 h.2).1]) (fun _ _ => by simp only [chkL]) (fun _ _ => by simp only [chkI]) fun _ _ => by simp only [chkI]
  | call _ es ih1 => exact fun h => mk _ (fun _ _ => by simp only [chkE, (ih1 h).2.1]; rfl) (fun _ _ => by simp only [chkL]) (fun _ _ => by simp only [chkI]) fun _ _ => by simp only [chkI]
  | mcall _ _ es ih1 => exact fun h => mk _ (fun _ _ => by simp only [chkE]) (fun _ _ => by simp only [chkL]) (fun _ _ => by simp only [chkI]) fun _ _ => by simp only [chkI]
  | new _ _ es ih1 => exact fun h => mk _ (fun _ _ => by simp only [chkE]) (fun _ _ => by simp only [chkL]) (fun _ _ => by simp only [chkI]) fun _ _ => by simp only [chkI]
  | bi _ es ih1 => exact fun h => mk _ (fun _ _ => by simp only [chkE, (ih1 h).2.1]; rfl) (fun _ _ => by simp only [chkL]) (fun _ _ => by simp only [chkI]) fun _ _ => by simp only [chkI]
  | isi a _ _ ih1 => exact fun h => mk _ (fun _ _ => by simp only [chkE, (ih1 h).1]; rfl) (fun _ _ => by simp only [chkL]) (fun _ _ => by simp only [chkI]) fun _ _ => by simp only [chkI]
  | rng es ih1 => exact fun h => ⟨fun _ _ => by simp only [chkE], fun _ _ => by simp only [chkL], fun _ _ => by simp only [chkI, (ih1 h).2.1]; rfl⟩
  | enu e ih1 => exact fun h => ⟨fun _ _ => by simp only [chkE], fun _ _ => by simp only [chkL], fun _ _ => by simp only [chkI, (ih1 h).1]; rfl⟩
  | zip a b ih1 ih2 => exact fun h => ⟨fun _ _ => by simp only [chkE], fun _ _ => by simp only [chkL], fun _ _ => by simp only [chkI]⟩
  | kind _ _ _ => exact fun h => by simp [nk] at h
  | isx _ _ _ => exact fun h => by simp [nk] at h
  | lc elt tg it ifs own ih1 ih2 ih3 =>
    intro h
    simp only [nk, Bool.and_eq_true] at h
    obtain ⟨⟨h1, h2⟩, h3⟩ := h
    have ok : ∀ sc e, chkE g.noK N (.lc elt tg it ifs own) sc e = chkE g N (.lc elt tg it ifs own) sc e := fun sc e => by
      rw [chkE_lc, chkE_lc]
      simp only [(ih1 h1).1, (ih2 h2).2.2, (ih3 h3).2.1]
      rfl
    exact mk _ ok (fun sc es => by simp only [chkL]) (fun sc e => by simp only [chkI]) fun sc e => by simp only [chkI]
end WD

/-! WD, part 9c: the def that tells an error's kind; what its suite needs. -/
namespace WD
open PySem PySem.Spec PyProof.Rows L2
theorem Lv.ext {H H1 : Hp} {a : Addr} (h : Lv H a) (e : LamX.ExtN H H1) : Lv H1 a := by
  obtain ⟨o, h1, h2⟩ := h
  exact ⟨o, e a o h1 h2, h2⟩
theorem Rel.ext {p : Pm} {B : Addr → Prop} {F G H H1 : Hp} {σ : L2.St} {ρ : Fr} {A : Fp} (R : Rel p B F G H σ ρ A) (e : LamX.ExtN H H1) (t : LamX.Tabs p.T H1) : Rel p B F G H1 σ ρ A :=
  ⟨fun b o q => e b o (R.le b o q) (R.fg b o q).2, ⟨fun b o q n => ⟨e b o (R.lg.same b o q n).1 (R.lg.same b o q n).2, (R.lg.same b o q n).2⟩, t, R.lg.there⟩, R.fg, fun b hb => (R.bd b hb).ext e, R.len,
    fun i o q => by
      obtain ⟨v, e1, r⟩ := R.sl i o q
      refine ⟨v, e1, r.mono (Same.refl _) fun a ha => ?_⟩
      obtain ⟨_, _, u, h1, h2⟩ := R.own i a ha
      rw [h1, e a u h1 h2], R.nd, R.dj, fun i a ha => ⟨(R.own i a ha).1, (R.own i a ha).2.1, (R.own i a ha).2.2.ext e⟩⟩
section
variable {p : Pm} {W : XK} {X : Cx} {cl : Cl}
theorem kind_core {nm : List (Nat × Str)} {r : Fr → R O} {σ : L2.St} {H : Hp} {Q : VK} (h : tO p W (fun ρ => kindR nm (r ρ)) σ H Q) : LamX.tLam p.T (TTkind p nm) (fun E => tO p E r) σ H Q := by
  obtain ⟨B, F, G, ρ, A, R, q⟩ := h
  refine ⟨R.lg.tabs, fun H1 e t => ⟨B, F, G, ρ, A, R.ext e t, ?_⟩⟩
  cases e1 : r ρ with
  | ok o ρ1 =>
    simp only [e1, kindR] at q
    exact q
  | fail =>
    simp only [e1, kindR] at q
    exact q.elim
  | exn x ρ1 =>
    simp only [e1, kindR] at q
    split at q
    · rename_i s h1 h2
      intro c d F' H' A' f1 R1 xr
      unfold XR at xr
      rw [h1] at xr
      refine ⟨x.cls, s, h2, xr.1, xr.2, R1.lg.tabs, fun H2 e2 t2 => ?_⟩
      exact q F' H2 A' f1 (R1.ext e2 t2) (.str s) [] (.sh (.str s)) Own.nil
    · exact q.elim
theorem rB_of {p : Pm} {B : Addr → Prop} {F : Hp} : ∀ {vs : List V} {ds : List D} {bs : List Bool}, RDs p B F vs ds → blsD ds = some bs → vs = bs.map V.bl
  | _, _, _, .nil, e => by
    simp [blsD] at e
    subst e
    rfl
  | _, _, _, .cons h r, e => by
    cases h with
    | bl b =>
      simp only [blsD] at e
      split at e
      · rename_i bs e2
        cases e
        rw [rB_of r e2]
        rfl
      · cases e
    | _ => simp [blsD] at e
theorem lstOf_eq {o : Option O} {ds : List D} (h : lstOf o = some ds) : ∃ t, o = some (.lst t ds) := by
  unfold lstOf at h
  split at h
  · cases h
    exact ⟨_, rfl⟩
  · cases h
theorem flat_bls : ∀ bs : List Bool, (bs.map V.bl).all flatV = true
  | [] => rfl
  | b :: bs => by
    rw [List.map_cons, List.all_cons, flat_bls bs]
    rfl
def rCntB (K : PySem.W.Frag) : V → List V → Hp → VK → Prop := fun x xs H Q => ∃ (a : Addr) (bs : List Bool), x = .ref a ∧ xs = [.bl true] ∧ SqL K H a (bs.map V.bl) ∧ Q (.int ((bs.filter id).length : Nat)) H
theorem cntP : ∀ {bs : List Bool} {its : List Value}, Vals (bs.map V.bl) its → its.countP (eqU (.bl true)) = (bs.filter id).length
  | [], _, .nil => rfl
  | b :: bs, _, .cons r t => by
    cases (show _ = Value.bool b from r)
    rw [List.countP_cons, cntP t]
    cases b <;> simp [eqU, eqV]
theorem mt_bcount : MtR X "list.count" (rCntB X.K) := by
  intro pins s σ H x xs v us Q I rx rxs h
  obtain ⟨a, bs, rfl, rfl, hs, q⟩ := h
  cases rx
  obtain ⟨u, rfl, ru⟩ := rxs.one
  obtain ⟨its, rv, ⟨⟨cls, dd, data, sl⟩, n, ho, hc, hdn, hd⟩, hlen⟩ := I.list hs
  simp only at hc hd
  subst hc hd
  refine call_meets PySem.F.slot_list_count ⟨_, ho, rfl⟩ PySem.F.entry_list_count (PySem.F.args_list_count_2 _ _) (SeqAt.list_countAt a its.toArray n dd sl u (eqU (.bl true)))
    ⟨ho, fun y hy => mem_eqAt ru rfl rv (flat_bls bs) y (by simpa using hy), ?_⟩
  refine ⟨.int ((bs.filter id).length : Nat), H, I.tok _, ⟨s.toks, ?_⟩, q⟩
  have := cntP rv
  simp only [List.toList_toArray] at *
  rw [this]
theorem idxB_eq : ∀ {bs : List Bool} {j : Nat}, idxB bs = some j → (bs.map V.bl)[j]? = some (.bl true) ∧ ∀ (m : Nat) (z : V), m < j → (bs.map V.bl)[m]? = some z → z = .bl false
  | true :: _, _, h => by
    cases h
    exact ⟨rfl, fun m z h => absurd h (Nat.not_lt_zero _)⟩
  | false :: r, j, h => by
    simp only [idxB] at h
    split at h
    · rename_i k e
      cases h
      obtain ⟨h1, h2⟩ := idxB_eq e
      refine ⟨h1, fun m z hm hz => ?_⟩
      cases m with
      | zero => exact (Option.some.inj hz).symm
      | succ m => exact h2 m z (Nat.lt_of_succ_lt_succ hm) hz
    · cases h
theorem peCntT {x : Str} {i : Nat} {k : Nat} {p1 p2 p3 p4 : Pos} (hx : X.N[i]? = some x) (hv : Vis X.env.scope x) (hd : (x == ("__debug__" : Str)) = false) (hcd : (x == ("__classdict__" : Str)) = false) (hl : (p2.endLine == p3.line) = true) :
    PE X (.Call (.Attribute (.Name x p1) "count" p2) [.Constant (.bool true) k p4] [] p3) (tO p W fun ρ => opt (lstOf (getS ρ i)) fun ds => opt (blsD ds) fun bs => .ok (.sh (.int ((bs.filter id).length : Nat))) ρ) := by
  refine peI (pe_bm PySem.F.plainAttrs_list PySem.F.slot_list_count PySem.F.type_list_count mt_bcount (pe_var hx hv hd hcd) (pa_cons pe_bl pa_nil) rfl (by rfl) hl (by rfl) (by rfl)) fun σ H Q ⟨B, F, G, ρ, A, R, q⟩ => ?_
  obtain ⟨ds, e1, q⟩ := q.opt
  obtain ⟨bs, e2, q⟩ := q.opt
  obtain ⟨t, e1⟩ := lstOf_eq e1
  obtain ⟨v, e3, ro⟩ := R.sl i _ e1
  obtain ⟨a, vs, rfl, _, h, _, rs⟩ := ro.lstI
  have := rB_of rs e2
  subst this
  exact ⟨.ref a, e3, .inl ⟨rfl, _, .inl (.inl h)⟩, a, bs, rfl, rfl, .inl (.inl h), q.here (Same.refl F) R (.int _) [] (.sh (.int _)) Own.nil⟩
theorem peIdxT {x : Str} {i : Nat} {k : Nat} {p1 p2 p3 p4 : Pos} (hx : X.N[i]? = some x) (hv : Vis X.env.scope x) (hd : (x == ("__debug__" : Str)) = false) (hcd : (x == ("__classdict__" : Str)) = false) (hl : (p2.endLine == p3.line) = true) :
    PE X (.Call (.Attribute (.Name x p1) "index" p2) [.Constant (.bool true) k p4] [] p3) (tO p W fun ρ => opt (lstOf (getS ρ i)) fun ds => opt (blsD ds) fun bs => opt (idxB bs) fun j => .ok (.sh (.int (j : Nat))) ρ) := by
  refine peI (pe_bm PySem.F.plainAttrs_list PySem.F.slot_list_index PySem.F.type_list_index mt_index (pe_var hx hv hd hcd) (pa_cons pe_bl pa_nil) rfl (by rfl) hl (by rfl) (by rfl)) fun σ H Q ⟨B, F, G, ρ, A, R, q⟩ => ?_
  obtain ⟨ds, e1, q⟩ := q.opt
  obtain ⟨bs, e2, q⟩ := q.opt
  obtain ⟨j, e4, q⟩ := q.opt
  obtain ⟨t, e1⟩ := lstOf_eq e1
  obtain ⟨v, e3, ro⟩ := R.sl i _ e1
  obtain ⟨a, vs, rfl, _, h, _, rs⟩ := ro.lstI
  have := rB_of rs e2
  subst this
  obtain ⟨h1, h2⟩ := idxB_eq e4
  exact ⟨.ref a, e3, .inl ⟨rfl, _, .inl (.inl h)⟩, a, _, .bl true, j, .bl true, rfl, rfl, .inl (.inl h), rfl, flat_bls bs, h1, rfl, fun m z hm hz => by rw [h2 m z hm hz]; rfl, q.here (Same.refl F) R (.int _) [] (.sh (.int _)) Own.nil⟩
end
end WD

/-! WD, part 10: expressions are as the evaluator says. -/
namespace WD
open PySem PySem.Spec PyProof.Rows L2
section
variable {p : Pm} {g : GT} {cl : Cl} {N : List Str}
structure GoodE (p : Pm) (W : XK) (X : Cx) (cl : Cl) (m : E) (e : Expr) : Prop where
  pe : PE X e (tO p W (evO cl m))
  pt : PT X e (tT p W (evO cl m))
theorem GoodE.val {W : XK} {X : Cx} {m : E} {e : Expr} (h : PE X e (tO p W (evO cl m))) (t : nTest e = true) : GoodE p W X cl m e := ⟨h, ptVal h (isTrue_val t)⟩
def OkE (p : Pm) (g : GT) (cl : Cl) (N : List Str) (m : E) : Prop := ∀ (X : Cx) (sc : Scope) (W : XK) (e : Expr), Ctx p g cl N X sc W → chkE g N m sc e = true → GoodE p W X cl m e
structure GoodL (p : Pm) (W : XK) (X : Cx) (cl : Cl) (m : E) (es : List Expr) : Prop where
  pa : PA X es (tPs p W (evPs cl m))
  len : ∀ ρ ps ρ', evPs cl m ρ = .ok ps ρ' → ps.length = es.length
  st : es.all nStar = true
  bop : ∀ (k : Bool) (pos : Pos), es ≠ [] → PW X (.BoolOp (opL k) es pos) (tBo p W (evB cl m k)) ∧ PE X (.BoolOp (opL k) es pos) (tO p W (boV (evB cl m k)))
  ch : ∀ ops : List Cop, ops ≠ [] → ops.length = es.length → es.all nSet = true → PCh X (ops.map opC) es (tCh p W (evC cl m ops))
  ts : es.length ≤ 1 → PTs X es (tBo p W (evB cl m true))
def OkL (p : Pm) (g : GT) (cl : Cl) (N : List Str) (m : E) : Prop := ∀ (X : Cx) (sc : Scope) (W : XK) (es : List Expr), Ctx p g cl N X sc W → chkL g N m sc es = true → GoodL p W X cl m es
def OkI (p : Pm) (g : GT) (cl : Cl) (N : List Str) (m : E) : Prop := ∀ (X : Cx) (sc : Scope) (W : XK) (tg e : Expr), Ctx p g cl N X sc W → (∃ es k pos, tg = .Tuple es k pos) ∨ (∀ x, m ≠ .enu x) → chkI g N m sc e = true → PI X tg e (tI p W (isRng m) (evI cl m))
theorem isTup_of {N : List Str} {sc : Scope} {raw : Option Scope} {ts : T} {e : Expr} (h : chkT N sc raw (.tup ts) e = true) : ∃ es k pos, e = .Tuple es k pos := by
  simp only [chkT] at h
  split at h
  · rename_i es e1
    obtain ⟨k, pos, rfl⟩ := vTup_eq e1
    exact ⟨es, k, pos, rfl⟩
  · cases h
theorem nodup_own {own : List Nat} : (ownP N own).map (·.2) = own := by
  unfold ownP
  rw [List.map_map]
  exact List.map_id _
mutual
theorem okT {X : Cx} {sc : Scope} {W : XK} {raw : Option Scope} (c : Ctx p g cl N X sc W) (hcm : g.calm = true) (hf : ∀ x, rawB sc x raw = true → X.fn x = true ∨ X.env.scope.names.lookup x = some .local) :
    ∀ (t : T) (e : Expr), chkT N sc raw t e = true → PG X e (tTg p t)
  | .name i, e, h => by
    simp only [chkT] at h
    split at h
    · rename_i x e1
      obtain ⟨pos, rfl⟩ := vName_eq e1
      simp only [Bool.and_eq_true, decide_eq_true_eq] at h
      exact pgName (by rw [c.nN]; exact c.nd) (by rw [c.nN]; exact h.1.1) (by rw [c.sc]; exact locB_ok h.1.2) (hf x h.2)
    · cases h
  | .tup ts, e, h => by
    simp only [chkT] at h
    split at h
    · rename_i es e1
      obtain ⟨k, pos, rfl⟩ := vTup_eq e1
      obtain ⟨h1, h2, h3, h4⟩ := okTs c hcm hf ts es h
      exact pgTup c.K (c.calm hcm) h1 h2 h3 h4
    · cases h
  | .nil, e, h => by simp [chkT] at h
  | .cons _ _, e, h => by simp [chkT] at h
theorem okTs {X : Cx} {sc : Scope} {W : XK} {raw : Option Scope} (c : Ctx p g cl N X sc W) (hcm : g.calm = true) (hf : ∀ x, rawB sc x raw = true → X.fn x = true ∨ X.env.scope.names.lookup x = some .local) :
    ∀ (ts : T) (es : List Expr), chkTs N sc raw ts es = true → PGs X es (tTgs p ts) ∧ (assignEach es X.env).length = lenT ts ∧ lenT ts = lenT ts ∧ (assignEach es X.env).findIdx? (·.1) = none
  | .nil, es, h => by
    cases es with
    | nil => exact ⟨pgsNil, rfl, rfl, rfl⟩
    | cons e es => simp [chkTs] at h
  | .cons t ts, es, h => by
    cases es with
    | nil => simp [chkTs] at h
    | cons e es =>
      simp only [chkTs, Bool.and_eq_true] at h
      obtain ⟨⟨h1, h2⟩, h3⟩ := h
      obtain ⟨g1, g2, _, g4⟩ := okTs c hcm hf ts es h3
      have ea : assignEach (e :: es) X.env = (false, assign e X.env) :: assignEach es X.env := by
        cases e <;> first
          | rfl
          | cases h2
      refine ⟨pgsCons (okT c hcm hf t e h1) g1 (by rw [ea]; rfl), by rw [ea]; exact congrArg Nat.succ g2, rfl, ?_⟩
      rw [ea, List.findIdx?_cons]
      simp [g4]
  | .name _, es, h => by cases es <;> simp [chkTs] at h
  | .tup _, es, h => by cases es <;> simp [chkTs] at h
end
theorem okE_all' : ∀ (m : E) (g : GT), OkE p g cl N m ∧ OkL p g cl N m ∧ OkI p g cl N m := by
  -- what is walked, for all forms that are no range, enumerate or zip
  have dflt : ∀ {g : GT} (m : E), OkE p g cl N m → (∀ (sc : Scope) (e : Expr), chkI g N m sc e = chkE g N m sc e) → isRng m = false → (evI cl m = fun ρ => bnd (evO cl m ρ) fun o ρ => opt (frz o) fun d => opt (seqD d) fun xs => .ok xs ρ) → OkI p g cl N m := fun {g} m h e1 e2 e3 X sc W tg e c _ hc => by
    rw [e1] at hc
    rw [e2, e3]
    exact piSeq c.K (h X sc W e c hc).pe
  have noL : ∀ {g : GT} (m : E), (∀ (sc : Scope) (es : List Expr), chkL g N m sc es = false) → OkL p g cl N m := fun {g} m h X sc W es c hc => by
    rw [h] at hc
    cases hc
  have noE : ∀ {g : GT} (m : E), (∀ (sc : Scope) (e : Expr), chkE g N m sc e = false) → OkE p g cl N m := fun {g} m h X sc W e c hc => by
    rw [h] at hc
    cases hc
  have opdOk : ∀ {g : GT} {m : E} {X : Cx} {sc : Scope} {W : XK} {e : Expr}, OkE p g cl N m → Ctx p g cl N X sc W → chkE g N m sc e = true → PE X e (tP p W (opd m (evO cl m))) := fun {g m X sc W e} h c hc => by
    refine peOpd (h X sc W e c hc).pe fun i hm => ?_
    subst hm
    simp only [chkE] at hc
    split at hc
    · rename_i x e1
      obtain ⟨pos, rfl⟩ := vName_eq e1
      simp only [Bool.and_eq_true, decide_eq_true_eq] at hc
      obtain ⟨hv, hd1, hd2⟩ := visB_ok hc.2
      exact pe_var (by rw [c.nN]; exact hc.1) (by rw [c.sc]; exact hv) hd1 hd2
    · cases hc
  intro m
  induction m with
  | nil =>
    intro g
    refine ⟨noE _ fun _ _ => by simp [chkE], fun X sc W es c hc => ?_, dflt _ (noE _ fun _ _ => by simp [chkE]) (fun _ _ => by simp [chkI]) rfl (by funext ρ; simp only [evI])⟩
    have : es = [] := by simpa [chkL] using hc
    subst this
    refine ⟨by rw [show evPs cl .nil = fun ρ => .ok [] ρ from by funext ρ; simp only [evPs]]; exact paNil, fun ρ ps ρ' e => by simp only [evPs] at e; cases e; rfl, rfl, fun _ _ h => absurd rfl h, fun ops h1 h2 _ => absurd (List.length_eq_zero_iff.mp h2) h1, fun _ => ⟨fun pins s σ H Q I h => (pts_nil (X := X)).run pins s σ H Q I ?_⟩⟩
    obtain ⟨B, F, G, ρ, A, R, q⟩ := h
    simp only [evB] at q
    exact q.here (Same.refl _) R
  | cons m ms ih1 ih2 =>
    intro g
    refine ⟨noE _ fun _ _ => by simp [chkE], fun X sc W es c hc => ?_, dflt _ (noE _ fun _ _ => by simp [chkE]) (fun _ _ => by simp [chkI]) rfl (by funext ρ; simp only [evI])⟩
    cases es with
    | nil => simp [chkL] at hc
    | cons e es =>
      simp only [chkL, Bool.and_eq_true] at hc
      obtain ⟨⟨h1, h2⟩, h3⟩ := hc
      have g1 := (ih1 g).1 X sc W e c h1
      have g2 := (ih2 g).2.1 X sc W es c h3
      have go := opdOk (ih1 g).1 c h1
      refine ⟨?_, fun ρ ps ρ' q => ?_, by rw [List.all_cons, h2, g2.st]; rfl, fun k pos _ => ?_, fun ops n1 n2 n3 => ?_, fun hl => ?_⟩
      · have := paCons go g2.pa (star_cons h2)
        refine paI this fun σ H Q h => ?_
        obtain ⟨B, F, G, ρ, A, R, q⟩ := h
        simp only [evPs] at q
        exact ⟨B, F, G, ρ, A, R, q⟩
      · simp only [evPs] at q
        obtain ⟨x, ρ1, _, q⟩ := bnd_inv q
        obtain ⟨xs, ρ2, q1, q⟩ := bnd_inv q
        cases q
        exact congrArg Nat.succ (g2.len _ _ _ q1)
      · rw [show evB cl (.cons m ms) k = bopM k (evO cl m) (fun ρ => evB cl ms k ρ) from evB_cons m ms k]
        cases es with
        | nil =>
          have hms : (fun ρ => evB cl ms k ρ) = fun ρ => .ok k ρ := by
            cases ms <;> simp [chkL] at h3
            funext ρ
            simp only [evB]
          rw [hms]
          exact ⟨pwOne g1.pt, peOne g1.pe⟩
        | cons e' es =>
          obtain ⟨b1, b2⟩ := g2.bop k pos (by simp)
          exact ⟨pwMore g1.pt b1, peMore g1.pe b2⟩
      · rw [List.all_cons, Bool.and_eq_true] at n3
        cases ops with
        | nil => exact absurd rfl n1
        | cons op ops =>
          cases ops with
          | nil =>
            have he : es = [] := by
              rw [List.length_cons, List.length_cons] at n2
              exact List.length_eq_zero_iff.mp (by simpa using n2.symm)
            subst he
            have hms : ms = .nil := by cases ms <;> simp [chkL] at h3; rfl
            subst hms
            rw [evC_last]
            exact chLast c.K c.hu go
          | cons op' ops =>
            cases es with
            | nil => simp at n2
            | cons e' es =>
              rw [evC_more]
              exact chMore c.K c.hu go (g2.ch (op' :: ops) (by simp) (by simpa using n2) n3.2)
      · have he : es = [] := List.length_eq_zero_iff.mp (by simpa using hl)
        subst he
        have hms : ms = .nil := by cases ms <;> simp [chkL] at h3; rfl
        subst hms
        refine ⟨fun pins s σ H Q I h => (pts_one g1.pt).run pins s σ H Q I ?_⟩
        obtain ⟨B, F, G, ρ, A, R, q⟩ := h
        have e1 : evB cl (.cons m .nil) true ρ = asB (evO cl m ρ) fun b ρ => if b = true then .ok true ρ else .ok b ρ := by
          simp only [evB]
        rw [e1] at q
        refine ⟨B, F, G, ρ, A, R, q.asB.imp fun o ρ1 F1 H1 A1 f1 R1 ⟨b, eo, q⟩ => ⟨b, eo, ?_⟩⟩
        cases b with
        | true => exact q.here (Same.refl _) R1
        | false => exact q.here (Same.refl _) R1
  | cint i =>
    intro g
    have ok : OkE p g cl N (.cint i) := fun X sc W e c hc => by
      simp only [chkE, decide_eq_true_eq] at hc
      obtain ⟨k, pos, rfl⟩ := vInt_eq hc
      exact .val (by rw [show evO cl (.cint i) = fun ρ => .ok (.sh (.int i)) ρ from by funext ρ; simp only [evO]]; exact peConst pe_int fun B F => .int i) rfl
    exact ⟨ok, noL _ fun _ _ => by simp [chkL], dflt _ ok (fun _ _ => by simp only [chkI]) rfl (by funext ρ; simp only [evI])⟩
  | cbl b =>
    intro g
    have ok : OkE p g cl N (.cbl b) := fun X sc W e c hc => by
      simp only [chkE, decide_eq_true_eq] at hc
      obtain ⟨k, pos, rfl⟩ := vBl_eq hc
      exact .val (by rw [show evO cl (.cbl b) = fun ρ => .ok (.sh (.bl b)) ρ from by funext ρ; simp only [evO]]; exact peConst pe_bl fun B F => .bl b) rfl
    exact ⟨ok, noL _ fun _ _ => by simp [chkL], dflt _ ok (fun _ _ => by simp only [chkI]) rfl (by funext ρ; simp only [evI])⟩
  | cstr x =>
    intro g
    have ok : OkE p g cl N (.cstr x) := fun X sc W e c hc => by
      simp only [chkE, decide_eq_true_eq] at hc
      obtain ⟨k, pos, rfl⟩ := vStr_eq hc
      exact .val (by rw [show evO cl (.cstr x) = fun ρ => .ok (.sh (.str x)) ρ from by funext ρ; simp only [evO]]; exact peConst pe_str fun B F => .str x) rfl
    exact ⟨ok, noL _ fun _ _ => by simp [chkL], dflt _ ok (fun _ _ => by simp only [chkI]) rfl (by funext ρ; simp only [evI])⟩
  | cnon =>
    intro g
    have ok : OkE p g cl N .cnon := fun X sc W e c hc => by
      simp only [chkE] at hc
      obtain ⟨k, pos, rfl⟩ := vNon_eq hc
      exact .val (by rw [show evO cl .cnon = fun ρ => .ok (.sh .non) ρ from by funext ρ; simp only [evO]]; exact peConst pe_non fun B F => .non) rfl
    exact ⟨ok, noL _ fun _ _ => by simp [chkL], dflt _ ok (fun _ _ => by simp only [chkI]) rfl (by funext ρ; simp only [evI])⟩
  | gint x i =>
    intro g
    have ok : OkE p g cl N (.gint x i) := fun X sc W e c hc => by
      simp only [chkE, Bool.and_eq_true, decide_eq_true_eq] at hc
      obtain ⟨pos, rfl⟩ := vName_eq hc.1.1
      obtain ⟨h1, h2, h3⟩ := glB_ok hc.1.2
      obtain ⟨t, hm⟩ := c.cns x i hc.2
      exact .val (by rw [show evO cl (.gint x i) = fun ρ => .ok (.sh (.int i)) ρ from by funext ρ; simp only [evO]]; exact peConst (pe_glob (v := .int i) (by show X.env.scope.names.lookup x = _; rw [c.sc]; exact h1) hm ⟨t, rfl⟩ h2) fun B F => .int i) rfl
    exact ⟨ok, noL _ fun _ _ => by simp [chkL], dflt _ ok (fun _ _ => by simp only [chkI]) rfl (by funext ρ; simp only [evI])⟩
  | var i =>
    intro g
    have ok : OkE p g cl N (.var i) := fun X sc W e c hc => by
      simp only [chkE] at hc
      split at hc
      · rename_i x e1
        obtain ⟨pos, rfl⟩ := vName_eq e1
        simp only [Bool.and_eq_true, decide_eq_true_eq] at hc
        obtain ⟨hv, hd1, hd2⟩ := visB_ok hc.2
        refine .val ?_ rfl
        have := peName (p := p) (W := W) (pe_var (X := X) (i := i) (x := x) (pos := pos) (by rw [c.nN]; exact hc.1) (by rw [c.sc]; exact hv) hd1 hd2)
        refine peI this fun σ H Q ⟨B, F, G, ρ, A, R, q⟩ => ⟨B, F, G, ρ, A, R, ?_⟩
        simp only [evO] at q
        exact q
      · cases hc
    exact ⟨ok, noL _ fun _ _ => by simp [chkL], dflt _ ok (fun _ _ => by simp only [chkI]) rfl (by funext ρ; simp only [evI])⟩
  | fld i f => intro g; exact ⟨noE _ fun _ _ => by simp [chkE], noL _ fun _ _ => by simp [chkL], dflt _ (noE _ fun _ _ => by simp [chkE]) (fun _ _ => by simp only [chkI]) rfl (by funext ρ; simp only [evI])⟩
  | bin op a b iha ihb =>
    intro g
    have ok : OkE p g cl N (.bin op a b) := fun X sc W e c hc => by
      simp only [chkE] at hc
      split at hc
      · rename_i l o r e1
        obtain ⟨pos, rfl⟩ := vBin_eq e1
        simp only [Bool.and_eq_true, decide_eq_true_eq] at hc
        obtain ⟨⟨rfl, h1⟩, h2⟩ := hc
        refine .val (peI (peBin c.K (opdOk (iha g).1 c h1) (opdOk (ihb g).1 c h2)) fun σ H Q ⟨B, F, G, ρ, A, R, q⟩ => ⟨B, F, G, ρ, A, R, ?_⟩) rfl
        simp only [evO] at q
        exact q
      · cases hc
    exact ⟨ok, noL _ fun _ _ => by simp [chkL], dflt _ ok (fun _ _ => by simp only [chkI]) rfl (by funext ρ; simp only [evI])⟩
  | neg a iha =>
    intro g
    have ok : OkE p g cl N (.neg a) := fun X sc W e c hc => by
      simp only [chkE] at hc
      split at hc
      · rename_i x e1
        obtain ⟨pos, rfl⟩ := vNeg_eq e1
        refine .val (peI (peNeg ((iha g).1 X sc W x c hc).pe) fun σ H Q ⟨B, F, G, ρ, A, R, q⟩ => ⟨B, F, G, ρ, A, R, ?_⟩) rfl
        simp only [evO] at q
        exact q
      · cases hc
    exact ⟨ok, noL _ fun _ _ => by simp [chkL], dflt _ ok (fun _ _ => by simp only [chkI]) rfl (by funext ρ; simp only [evI])⟩
  | cmp op a b iha ihb =>
    intro g
    have ok : OkE p g cl N (.cmp op a b) := fun X sc W e c hc => by
      simp only [chkE] at hc
      split at hc
      · rename_i l os rs e1
        obtain ⟨pos, rfl⟩ := vCmp_eq e1
        split at hc
        · rename_i r
          simp only [Bool.and_eq_true, decide_eq_true_eq] at hc
          obtain ⟨⟨⟨rfl, h1⟩, h2⟩, h3⟩ := hc
          have e2 : evO cl (.cmp op a b) = fun ρ => bnd (opd a (evO cl a) ρ) fun x ρ => bnd (opd b (evO cl b) ρ) fun y ρ => opt (look ρ x) fun d => opt (look ρ y) fun e => opt (cmpD op d e) fun k => .ok (.sh (.bl k)) ρ := by
            funext ρ
            simp only [evO]
          refine ⟨?_, ?_⟩
          · rw [e2]
            exact peCmp c.K c.hu (opdOk (iha g).1 c h1) (opdOk (ihb g).1 c h2) (marks_no h3)
          · rw [e2]
            exact ptCmp c.K c.hu (opdOk (iha g).1 c h1) (opdOk (ihb g).1 c h2) (marks_no h3)
        · cases hc
      · cases hc
    exact ⟨ok, noL _ fun _ _ => by simp [chkL], dflt _ ok (fun _ _ => by simp only [chkI]) rfl (by funext ρ; simp only [evI])⟩
  | chn a ops es iha ihs =>
    intro g
    have ok : OkE p g cl N (.chn a ops es) := fun X sc W e c hc => by
      simp only [chkE] at hc
      split at hc
      · rename_i l os rs e1
        obtain ⟨pos, rfl⟩ := vCmp_eq e1
        simp only [Bool.and_eq_true, decide_eq_true_eq] at hc
        obtain ⟨⟨⟨⟨⟨rfl, h0⟩, h1⟩, h2⟩, h3⟩, h4⟩ := hc
        rw [List.length_map] at h0 h1
        have gl := (ihs g).2.1 X sc W rs c h3
        have hch := gl.ch ops (by intro z; subst z; simp at h0) h1 h4
        have hgo := opdOk (iha g).1 c h2
        have e2 : evO cl (.chn a ops es) = chnM (opd a (evO cl a)) (evC cl es ops) := by
          funext ρ
          simp only [evO]
          rfl
        match ops, rs, h0, h1, hch, h4 with
        | op1 :: op2 :: ops, b :: c' :: rs, _, _, hch, h4 =>
          refine ⟨?_, ?_⟩
          · rw [e2]
            exact peChn hgo hch (last_no h4)
          · rw [e2]
            exact ptChn hgo hch (last_no h4)
        | [], _, h0, _, _, _ => simp at h0
        | [_], _, h0, _, _, _ => simp at h0
        | _ :: _ :: _, [], _, h1, _, _ => simp at h1
        | _ :: _ :: _, [_], _, h1, _, _ => simp at h1
      · cases hc
    exact ⟨ok, noL _ fun _ _ => by simp [chkL], dflt _ ok (fun _ _ => by simp only [chkI]) rfl (by funext ρ; simp only [evI])⟩
  | not a iha =>
    intro g
    have ok : OkE p g cl N (.not a) := fun X sc W e c hc => by
      simp only [chkE] at hc
      split at hc
      · rename_i x e1
        obtain ⟨pos, rfl⟩ := vNot_eq e1
        have g1 := (iha g).1 X sc W x c hc
        have e2 : evO cl (.not a) = fun ρ => asB (evO cl a ρ) fun b ρ => .ok (.sh (.bl (!b))) ρ := by
          funext ρ
          simp only [evO]
        refine ⟨?_, ?_⟩
        · rw [e2]
          exact peNot g1.pe
        · rw [e2]
          exact ptNot g1.pt
      · cases hc
    exact ⟨ok, noL _ fun _ _ => by simp [chkL], dflt _ ok (fun _ _ => by simp only [chkI]) rfl (by funext ρ; simp only [evI])⟩
  | bop k es ihs =>
    intro g
    have ok : OkE p g cl N (.bop k es) := fun X sc W e c hc => by
      simp only [chkE] at hc
      split at hc
      · rename_i o vs e1
        obtain ⟨pos, rfl⟩ := vBop_eq e1
        simp only [Bool.and_eq_true, decide_eq_true_eq, Bool.not_eq_true', List.isEmpty_eq_false_iff] at hc
        obtain ⟨⟨rfl, h1⟩, h2⟩ := hc
        obtain ⟨b1, b2⟩ := ((ihs g).2.1 X sc W vs c h2).bop k pos h1
        have e2 : evO cl (.bop k es) = boV (evB cl es k) := by
          funext ρ
          simp only [evO]
          rfl
        exact ⟨by rw [e2]; exact b2, by rw [e2]; exact ptBop b1⟩
      · cases hc
    exact ⟨ok, noL _ fun _ _ => by simp [chkL], dflt _ ok (fun _ _ => by simp only [chkI]) rfl (by funext ρ; simp only [evI])⟩
  | ite c' a b ihc iha ihb =>
    intro g
    have ok : OkE p g cl N (.ite c' a b) := fun X sc W e c hc => by
      simp only [chkE] at hc
      split at hc
      · rename_i x y z e1
        obtain ⟨pos, rfl⟩ := vIte_eq e1
        simp only [Bool.and_eq_true] at hc
        have g1 := (ihc g).1 X sc W x c hc.1.1
        have g2 := (iha g).1 X sc W y c hc.1.2
        have g3 := (ihb g).1 X sc W z c hc.2
        have e2 : evO cl (.ite c' a b) = iteM (evO cl c') (evO cl a) (evO cl b) := by
          funext ρ
          simp only [evO]
          rfl
        exact ⟨by rw [e2]; exact peIte g1.pt g2.pe g3.pe, by rw [e2]; exact ptIte g1.pt g2.pt g3.pt⟩
      · cases hc
    exact ⟨ok, noL _ fun _ _ => by simp [chkL], dflt _ ok (fun _ _ => by simp only [chkI]) rfl (by funext ρ; simp only [evI])⟩
  | lst es ihs =>
    intro g
    have ok : OkE p g cl N (.lst es) := fun X sc W e c hc => by
      simp only [chkE] at hc
      split at hc
      · rename_i vs e1
        obtain ⟨pos, rfl⟩ := vLst_eq e1
        refine .val (peI (peLst ((ihs g).2.1 X sc W vs c hc).pa) fun σ H Q ⟨B, F, G, ρ, A, R, q⟩ => ⟨B, F, G, ρ, A, R, ?_⟩) rfl
        simp only [evO] at q
        exact q
      · cases hc
    exact ⟨ok, noL _ fun _ _ => by simp [chkL], dflt _ ok (fun _ _ => by simp only [chkI]) rfl (by funext ρ; simp only [evI])⟩
  | tup es ihs =>
    intro g
    have ok : OkE p g cl N (.tup es) := fun X sc W e c hc => by
      simp only [chkE] at hc
      split at hc
      · rename_i vs e1
        obtain ⟨k, pos, rfl⟩ := vTup_eq e1
        refine .val (peI (peTup ((ihs g).2.1 X sc W vs c hc).pa) fun σ H Q ⟨B, F, G, ρ, A, R, q⟩ => ⟨B, F, G, ρ, A, R, ?_⟩) rfl
        simp only [evO] at q
        exact q
      · cases hc
    exact ⟨ok, noL _ fun _ _ => by simp [chkL], dflt _ ok (fun _ _ => by simp only [chkI]) rfl (by funext ρ; simp only [evI])⟩
  | ix a i iha ihi =>
    intro g
    have ok : OkE p g cl N (.ix a i) := fun X sc W e c hc => by
      simp only [chkE] at hc
      split at hc
      · rename_i x y e1
        obtain ⟨pos, rfl⟩ := vSub_eq e1
        simp only [Bool.and_eq_true] at hc
        refine .val (peI (peIx c.K (opdOk (iha g).1 c hc.1.1) (opdOk (ihi g).1 c hc.1.2) (plain_ix hc.2)) fun σ H Q ⟨B, F, G, ρ, A, R, q⟩ => ⟨B, F, G, ρ, A, R, ?_⟩) rfl
        simp only [evO] at q
        exact q
      · cases hc
    exact ⟨ok, noL _ fun _ _ => by simp [chkL], dflt _ ok (fun _ _ => by simp only [chkI]) rfl (by funext ρ; simp only [evI])⟩
  | sl a lo hi iha ihl ihh =>
    intro g
    have ok : OkE p g cl N (.sl a lo hi) := fun X sc W e c hc => by
      simp only [chkE] at hc
      split at hc
      · rename_i x y e1
        obtain ⟨pos, rfl⟩ := vSub_eq e1
        split at hc
        · rename_i l h e2
          obtain ⟨pos2, rfl⟩ := vSl_eq e2
          simp only [Bool.and_eq_true] at hc
          obtain ⟨⟨h1, h2⟩, h3⟩ := hc
          have part : ∀ {m : E} {o : Option Expr}, OkE p g cl N m → (match o with
              | none => !nNil m
              | some l => nNil m && chkE g N m sc l) = true → PO X o (tPart p W (partE m (evO cl m))) := fun {m o} ih h => by
            cases o with
            | none =>
              have : m = .nil := by cases m <;> simp [nNil] at h; rfl
              subst this
              exact poNone
            | some l =>
              simp only [Bool.and_eq_true] at h
              exact poSome (ih X sc W l c h.2).pe fun z => by
                subst z
                cases h.1
          refine .val (peI (peSl c.K (opdOk (iha g).1 c h1) (part (ihl g).1 h2) (part (ihh g).1 h3)) fun σ H Q ⟨B, F, G, ρ, A, R, q⟩ => ⟨B, F, G, ρ, A, R, ?_⟩) rfl
          simp only [evO] at q
          exact q
        · cases hc
      · cases hc
    exact ⟨ok, noL _ fun _ _ => by simp [chkL], dflt _ ok (fun _ _ => by simp only [chkI]) rfl (by funext ρ; simp only [evI])⟩
  | call f es ihs =>
    intro g
    have ok : OkE p g cl N (.call f es) := fun X sc W e c hc => by
      simp only [chkE] at hc
      split at hc
      · rename_i x vs e1
        obtain ⟨p2, pos, rfl⟩ := vCall_eq e1
        simp only [Bool.and_eq_true, decide_eq_true_eq, Bool.not_eq_true', List.isEmpty_eq_false_iff] at hc
        obtain ⟨⟨⟨h1, h2⟩, h3⟩, h4⟩ := hc
        obtain ⟨g1, g2, _⟩ := glB_ok h1
        have gl := (ihs g).2.1 X sc W vs c h4
        cases vs with
        | nil => exact absurd rfl h3
        | cons v vs =>
          refine .val (peI (peCall c.pas (c.fns x f h2) (by show X.env.scope.names.lookup x = _; rw [c.sc]; exact g1) g2 gl.pa gl.st) fun σ H Q ⟨B, F, G, ρ, A, R, q⟩ => ⟨B, F, G, ρ, A, R, ?_⟩) rfl
          simp only [evO] at q
          exact q
      · cases hc
    exact ⟨ok, noL _ fun _ _ => by simp [chkL], dflt _ ok (fun _ _ => by simp only [chkI]) rfl (by funext ρ; simp only [evI])⟩
  | mcall f i es ihs => intro g; exact ⟨noE _ fun _ _ => by simp [chkE], noL _ fun _ _ => by simp [chkL], dflt _ (noE _ fun _ _ => by simp [chkE]) (fun _ _ => by simp only [chkI]) rfl (by funext ρ; simp only [evI])⟩
  | new C f es ihs => intro g; exact ⟨noE _ fun _ _ => by simp [chkE], noL _ fun _ _ => by simp [chkL], dflt _ (noE _ fun _ _ => by simp [chkE]) (fun _ _ => by simp only [chkI]) rfl (by funext ρ; simp only [evI])⟩
  | bi b es ihs =>
    intro g
    have ok : OkE p g cl N (.bi b es) := fun X sc W e c hc => by
      simp only [chkE] at hc
      split at hc
      · rename_i x vs e1
        obtain ⟨p2, pos, rfl⟩ := vCall_eq e1
        simp only [Bool.and_eq_true, decide_eq_true_eq, Bool.not_eq_true', List.isEmpty_eq_false_iff] at hc
        obtain ⟨⟨⟨⟨h0, h1⟩, h2⟩, h3⟩, h4⟩ := hc
        obtain ⟨g1, g2, _⟩ := glB_ok h1
        have gl := (ihs g).2.1 X sc W vs c h4
        cases vs with
        | nil => exact absurd rfl h3
        | cons v vs =>
          have gs := gl.st
          rw [List.all_cons, Bool.and_eq_true] at gs
          refine .val (peI (peBi c.K (c.calm h0.2) h0.1 (by show X.env.scope.names.lookup x = _; rw [c.sc]; exact g1) (c.bis x h2) gl.pa (star_cons gs.1) (back_no gs.2)) fun σ H Q ⟨B, F, G, ρ, A, R, q⟩ => ⟨B, F, G, ρ, A, R, ?_⟩) rfl
          simp only [evO] at q
          exact q
      · cases hc
    exact ⟨ok, noL _ fun _ _ => by simp [chkL], dflt _ ok (fun _ _ => by simp only [chkI]) rfl (by funext ρ; simp only [evI])⟩
  | isi a many ts iha =>
    intro g
    have ok : OkE p g cl N (.isi a many ts) := fun X sc W e c hc => by
      simp only [chkE] at hc
      split at hc
      · rename_i x vs e1
        obtain ⟨p2, pos, rfl⟩ := vCall_eq e1
        split at hc
        · rename_i v t
          rw [Bool.and_eq_true] at hc
          obtain ⟨hc, h7⟩ := hc
          simp only [Bool.and_eq_true, decide_eq_true_eq] at hc
          obtain ⟨⟨⟨⟨⟨rfl, h1⟩, h2⟩, h3⟩, h4⟩, h5⟩ := hc
          obtain ⟨g1, g2, _⟩ := glB_ok h1
          refine .val (peI (peIsi c.K c.sc c.bis (by show X.env.scope.names.lookup _ = _; rw [c.sc]; exact g1) (c.bis _ h2) (opdOk (iha g).1 c h3) h4 h5 h7) fun σ H Q ⟨B, F, G, ρ, A, R, q⟩ => ⟨B, F, G, ρ, A, R, ?_⟩) rfl
          simp only [evO] at q
          exact q
        · cases hc
      · cases hc
    exact ⟨ok, noL _ fun _ _ => by simp [chkL], dflt _ ok (fun _ _ => by simp only [chkI]) rfl (by funext ρ; simp only [evI])⟩
  | kind m nm ih =>
    intro g
    have ok : OkE p g cl N (.kind m nm) := fun X sc W e c hc => by
      simp only [chkE] at hc
      split at hc
      · rename_i x ps b scope e1
        obtain ⟨p1, p2, p3, rfl⟩ := vLam_eq e1
        simp only [Bool.and_eq_true, decide_eq_true_eq, Bool.not_eq_true', List.isEmpty_eq_false_iff] at hc
        obtain ⟨⟨⟨⟨⟨⟨⟨rfl, h1⟩, h2⟩, h3⟩, h4⟩, h5⟩, h6⟩, h7⟩ := hc
        obtain ⟨k, hk, hl, hp⟩ := (c.kd (by rw [← h2]; exact h3)).ex
        have := noPs_eq h4
        subst this
        refine .val (peI (hp (t := fun E => tO p E (evO cl m)) (by show X.env.scope.names.lookup _ = _; rw [c.sc]; exact (glB_ok h1).1) (by rw [c.sc]; exact LamX.lamS_by h5) rfl (fun _ _ _ _ _ => rfl) fun A outer s H E f c' hr => ?_) fun σ H Q h => ?_) rfl
        · refine ((ih g.noK).1 _ _ _ b ?_ (((chk_noK m h7).1 _ _).trans h6)).pe
          exact ⟨c.K, c.nN, c.nd, rfl, fun _ => rfl, passes_call (takes_of rfl rfl rfl rfl) fun _ _ _ _ h => h, fun x f e => by
            obtain ⟨a, fd, ps, e1, e2, e3, e4⟩ := hk x f e
            exact ⟨a, fd, ps, k, e1, e2, e3, e4, hr⟩, c.cns, c.bis, (by have := hr.un; show (A.deeper _).units + 64 < cLine; omega), fun h => absurd rfl h, fun i x b h => absurd h List.not_mem_nil⟩
        · rw [← h2]
          refine kind_core (W := W) ?_
          obtain ⟨B, F, G, ρ, A, R, q⟩ := h
          refine ⟨B, F, G, ρ, A, R, ?_⟩
          simp only [evO] at q
          exact q
      · cases hc
    exact ⟨ok, noL _ fun _ _ => by simp [chkL], dflt _ ok (fun _ _ => by simp only [chkI]) rfl (by funext ρ; simp only [evI])⟩
  | isx i x b =>
    intro g
    have ok : OkE p g cl N (.isx i x b) := fun X sc W e c hc => by
      simp only [chkE] at hc
      split at hc
      · rename_i f vs e1
        obtain ⟨p2, pos, rfl⟩ := vCall_eq e1
        split at hc
        · rename_i v t
          simp only [Bool.and_eq_true, decide_eq_true_eq] at hc
          obtain ⟨⟨⟨rfl, h1⟩, h2⟩, h3⟩ := hc
          split at h1
          · rename_i y e2
            obtain ⟨p3, rfl⟩ := vName_eq e2
            obtain ⟨p4, rfl⟩ := vName_eq h2
            obtain ⟨y', e3, hp⟩ := c.ix i x b h3
            rw [Bool.and_eq_true, decide_eq_true_eq] at h1
            rw [h1.1] at e3
            cases e3
            refine .val (peI (hp _ _ _ _) fun σ H Q ⟨B, F, G, ρ, A, R, q⟩ => ?_) rfl
            simp only [evO] at q
            obtain ⟨u, e4, q⟩ := q.opt
            unfold opqAt at e4
            split at e4
            · rename_i e5
              obtain ⟨v, e6, ro⟩ := R.sl i _ e5
              have hr := ro.shI.1
              cases hr
              exact ⟨e6, q.here (Same.refl F) R (.bl b) [] (.sh (.bl b)) Own.nil⟩
            · cases e4
          · cases h1
        · cases hc
      · cases hc
    exact ⟨ok, noL _ fun _ _ => by simp [chkL], dflt _ ok (fun _ _ => by simp only [chkI]) rfl (by funext ρ; simp only [evI])⟩
  | cntT i =>
    intro g
    have ok : OkE p g cl N (.cntT i) := fun X sc W e c hc => by
      simp only [chkE] at hc
      split at hc
      · rename_i x m v b e1
        obtain ⟨p1, p2, p3, rfl, hb⟩ := vMet_eq e1
        simp only [Bool.and_eq_true, decide_eq_true_eq] at hc
        obtain ⟨⟨⟨⟨h1, h2⟩, rfl⟩, rfl⟩, h5⟩ := hc
        obtain ⟨k, p4, rfl⟩ := vBl_eq h5
        obtain ⟨hv, hd1, hd2⟩ := visB_ok h2
        refine .val (peI (peCntT (W := W) (by rw [c.nN]; exact h1) (by rw [c.sc]; exact hv) hd1 hd2 hb) fun σ H Q ⟨B, F, G, ρ, A, R, q⟩ => ⟨B, F, G, ρ, A, R, ?_⟩) rfl
        simp only [evO] at q
        exact q
      · cases hc
    exact ⟨ok, noL _ fun _ _ => by simp [chkL], dflt _ ok (fun _ _ => by simp only [chkI]) rfl (by funext ρ; simp only [evI])⟩
  | idxT i =>
    intro g
    have ok : OkE p g cl N (.idxT i) := fun X sc W e c hc => by
      simp only [chkE] at hc
      split at hc
      · rename_i x m v b e1
        obtain ⟨p1, p2, p3, rfl, hb⟩ := vMet_eq e1
        simp only [Bool.and_eq_true, decide_eq_true_eq] at hc
        obtain ⟨⟨⟨⟨h1, h2⟩, rfl⟩, rfl⟩, h5⟩ := hc
        obtain ⟨k, p4, rfl⟩ := vBl_eq h5
        obtain ⟨hv, hd1, hd2⟩ := visB_ok h2
        refine .val (peI (peIdxT (W := W) (by rw [c.nN]; exact h1) (by rw [c.sc]; exact hv) hd1 hd2 hb) fun σ H Q ⟨B, F, G, ρ, A, R, q⟩ => ⟨B, F, G, ρ, A, R, ?_⟩) rfl
        simp only [evO] at q
        exact q
      · cases hc
    exact ⟨ok, noL _ fun _ _ => by simp [chkL], dflt _ ok (fun _ _ => by simp only [chkI]) rfl (by funext ρ; simp only [evI])⟩
  | rng es ihs =>
    intro g
    refine ⟨noE _ fun _ _ => by simp [chkE], noL _ fun _ _ => by simp [chkL], fun X sc W tg e c _ hc => ?_⟩
    simp only [chkI] at hc
    split at hc
    · rename_i x vs e1
      obtain ⟨p2, pos, rfl⟩ := vCall_eq e1
      simp only [Bool.and_eq_true, decide_eq_true_eq] at hc
      obtain ⟨⟨⟨⟨rfl, h1⟩, h2⟩, h3⟩, h4⟩ := hc
      obtain ⟨g1, g2, _⟩ := glB_ok h1
      have gl := (ihs g).2.1 X sc W vs c h4
      refine piI (piRng (W := W) (by show X.env.scope.names.lookup _ = _; rw [c.sc]; exact g1) (c.bis _ h2) gl.pa h3 (fun e he => List.all_eq_true.mp gl.st e he) gl.len) fun σ H Q ⟨B, F, G, ρ, A, R, q⟩ => ⟨B, F, G, ρ, A, R, ?_⟩
      simp only [evI] at q
      exact q
    · cases hc
  | enu m ihm =>
    intro g
    refine ⟨noE _ fun _ _ => by simp [chkE], noL _ fun _ _ => by simp [chkL], fun X sc W tg e c ht hc => ?_⟩
    rcases ht with ⟨es, k, tpos, rfl⟩ | ht
    · simp only [chkI] at hc
      split at hc
      · rename_i x vs e1
        obtain ⟨p2, pos, rfl⟩ := vCall_eq e1
        split at hc
        · rename_i v
          simp only [Bool.and_eq_true, decide_eq_true_eq] at hc
          obtain ⟨⟨⟨⟨rfl, h1⟩, h2⟩, h3⟩, h4⟩ := hc
          obtain ⟨g1, g2, _⟩ := glB_ok h1
          refine piI (piEnu (W := W) c.K (by show X.env.scope.names.lookup _ = _; rw [c.sc]; exact g1) (c.bis _ h2) ((ihm g).1 X sc W v c h3).pe h4) fun σ H Q ⟨B, F, G, ρ, A, R, q⟩ => ⟨B, F, G, ρ, A, R, ?_⟩
          simp only [evI] at q
          exact q
        · cases hc
      · cases hc
    · exact absurd rfl (ht m)
  | zip a b iha ihb => intro g; exact ⟨noE _ fun _ _ => by simp [chkE], noL _ fun _ _ => by simp [chkL], fun X sc W tg e c _ hc => by simp [chkI] at hc⟩
  | lc elt tg it ifs own ihe ihi ihf =>
    intro g
    have ok : OkE p g cl N (.lc elt tg it ifs own) := fun X sc W e c hc => by
      rw [chkE_lc] at hc
      split at hc
      · rename_i el t i fs scope e1
        obtain ⟨pos, rfl⟩ := vLc_eq e1
        simp only [Bool.and_eq_true, decide_eq_true_eq] at hc
        obtain ⟨⟨⟨⟨⟨⟨⟨⟨h1, h2⟩, h3⟩, h4⟩, h5⟩, h6⟩, h7⟩, h8⟩, h9⟩ := hc
        have ht : (∃ es k pos, t = .Tuple es k pos) ∨ ∀ x, it ≠ .enu x := by
          cases it with
          | enu x =>
            cases tg with
            | tup ts => exact .inl (isTup_of h3)
            | _ => cases h9
          | _ => exact .inr fun x z => by cases z
        have e2 : evO cl (.lc elt tg it ifs own) = lcM tg own (evI cl it) (evB cl ifs true) (evO cl elt) := by
          funext ρ
          simp only [evO]
          rfl
        refine .val ?_ rfl
        rw [e2]
        have hx : ∀ (s : Shared) (H : Hp) (C : Addr) (cls : List (Str × Addr)) (fp : List Addr), Ctx p g.noK cl N (X.blk s H scope (compEnvC scope cls C X.env) fp) (relS scope sc) E0 := fun s H C cls fp => c.blk s H C cls fp
        refine peI (pe_lc (own := ownP N own) (g := tTg p tg) (tt := tBo p E0 (evB cl ifs true)) (te := tO p E0 (evO cl elt)) (c.calm h7.2) (by rw [c.nN]; exact c.nd) ((ihi g).2.2 X sc W t i c ht h1) (by rw [c.nN, c.sc]; exact blkOk_by h2)
          (fun s H C cls fp => okT (hx s H C cls fp) h7.2 (fun x hr => ?_) tg t h3) (fun s H C cls fp => ((ihf g.noK).2.1 _ _ _ fs (hx s H C cls fp) (((chk_noK ifs h4.2).2.1 _ _).trans h4.1)).ts h5) (fun s H C cls fp => ((ihe g.noK).1 _ _ _ el (hx s H C cls fp) (((chk_noK elt h6.2).1 _ _).trans h6.1)).pe) (fun x => fold_no h7.1 x)) fun σ H Q h => ?_
        · unfold rawB at hr
          rw [Bool.or_eq_true, decide_eq_true_eq, decide_eq_true_eq] at hr
          rcases hr with hr | hr
          · exact .inl (by show (scope.names.lookup x == some .cell) = true; rw [hr]; rfl)
          · exact .inr (by rw [(hx s H C cls fp).sc]; exact hr)
        · rw [nodup_own]
          exact lc_core (fun i hi => of_decide_eq_true (List.all_eq_true.mp h8 i hi)) h
      · cases hc
    exact ⟨ok, noL _ fun _ _ => by simp [chkL], dflt _ ok (fun _ _ => by simp only [chkI]) rfl (by funext ρ; simp only [evI])⟩
theorem okE_all (m : E) : OkE p g cl N m ∧ OkL p g cl N m ∧ OkI p g cl N m := okE_all' m g
end
end WD

/-! WD, part 11: statements, their readings. -/
namespace WD
open PySem PySem.Spec PyProof.Rows L2

/-- what a statement may do to the marks and to what is shared -/
def Cn (top : Bool) (B : Addr → Prop) (F : Hp) (B' : Addr → Prop) (F' : Hp) : Prop := (top = false → B' = B ∧ Same F F') ∧ ∀ b o, B b → F b = some o → B' b ∧ F' b = some o
theorem Cn.refl (top : Bool) (B : Addr → Prop) (F : Hp) : Cn top B F B F := ⟨fun _ => ⟨rfl, Same.refl _⟩, fun _ _ h e => ⟨h, e⟩⟩
theorem Cn.of {top : Bool} {B : Addr → Prop} {F F' : Hp} (h : Same F F') : Cn top B F B F' := ⟨fun _ => ⟨rfl, h⟩, fun b o hb e => ⟨hb, h b o e⟩⟩
theorem Cn.trans {top : Bool} {B B' B'' : Addr → Prop} {F F' F'' : Hp} (a : Cn top B F B' F') (b : Cn top B' F' B'' F'') : Cn top B F B'' F'' := ⟨fun h => ⟨(b.1 h).1.trans (a.1 h).1, (a.1 h).2.trans (b.1 h).2⟩, fun x o hx e => let ⟨h1, e1⟩ := a.2 x o hx e; b.2 x o h1 e1⟩
/-- the slots that keep their values -/
def Kp (prot : List Nat) (σ σ' : L2.St) : Prop := ∀ j ∈ prot, σ'[j]? = σ[j]?
theorem Kp.refl (prot : List Nat) (σ : L2.St) : Kp prot σ σ := fun _ _ => rfl
theorem Kp.trans {prot : List Nat} {σ σ' σ'' : L2.St} (a : Kp prot σ σ') (b : Kp prot σ' σ'') : Kp prot σ σ'' := fun j h => (b j h).trans (a j h)
theorem Kp.off {prot is : List Nat} {σ σ' : L2.St} (h : Off is σ σ') (d : ∀ i ∈ is, i ∉ prot) : Kp prot σ σ' := fun j hj => h j fun z => d j z hj
def PostS (p : Pm) (W : XK) (top : Bool) (prot : List Nat) (B : Addr → Prop) (F G : Hp) (σ : L2.St) (r : R Fl) (D : Ends) : Prop := match r with
  | .ok .nx ρ => ∀ B' F' H' A' σ', Cn top B F B' F' → Rel p B' F' G H' σ' ρ A' → Kp prot σ σ' → D.nx σ' H'
  | .ok (.ret o) ρ => ∀ B' F' H' A' σ' v L, Cn top B F B' F' → Rel p B' F' G H' σ' ρ A' → Kp prot σ σ' → RO p B' F' H' v o L → Own F' G H' A' L → D.rt v H'
  | .exn x ρ => ∀ c d B' F' H' A' σ', Cn top B F B' F' → Rel p B' F' G H' σ' ρ A' → Kp prot σ σ' → XR p B' F' H' x c d → W c d H'
  | .fail => False
def tS (p : Pm) (W : XK) (top : Bool) (prot : List Nat) (m : Fr → R Fl) : TS := fun D σ H => ∃ B F G ρ A, Rel p B F G H σ ρ A ∧ PostS p W top prot B F G σ (m ρ) D
section
variable {p : Pm} {W : XK} {top : Bool} {prot : List Nat} {B B' : Addr → Prop} {F F' G H : Hp} {σ σ' : L2.St} {ρ : Fr} {A : Fp} {Dn : Ends} {X : Cx}
theorem PostS.later {r : R Fl} (h : PostS p W top prot B F G σ r Dn) (c : Cn top B F B' F') (k : Kp prot σ σ') : PostS p W top prot B' F' G σ' r Dn := by
  cases r with
  | ok f ρ =>
    cases f with
    | nx => exact fun B2 F2 H2 A2 σ2 c2 R k2 => h B2 F2 H2 A2 σ2 (c.trans c2) R (k.trans k2)
    | ret o => exact fun B2 F2 H2 A2 σ2 v L c2 R k2 => h B2 F2 H2 A2 σ2 v L (c.trans c2) R (k.trans k2)
  | exn x ρ => exact fun c' d B2 F2 H2 A2 σ2 c2 R k2 => h c' d B2 F2 H2 A2 σ2 (c.trans c2) R (k.trans k2)
  | fail => exact h
/-- behind an expression -/
theorem PostS.bnd {α : Type} {m : R α} {f : α → Fr → R Fl} (h : PostS p W top prot B F G σ (bnd m f) Dn) : Post p W B F G σ m fun a ρ F' _ _ => PostS p W top prot B F' G σ (f a ρ) Dn := by
  cases m with
  | ok a ρ => exact fun F' H' A' f' R => PostS.later h (.of f') (Kp.refl _ _)
  | exn x ρ => exact fun c d F' H' A' f' R xr => h c d B F' H' A' σ (.of f') R (Kp.refl _ _) xr
  | fail => exact h
theorem PostS.asB {m : R O} {f : Bool → Fr → R Fl} (h : PostS p W top prot B F G σ (asB m f) Dn) : Post p W B F G σ m fun o ρ F' _ _ => ∃ b, o = .sh (.bl b) ∧ PostS p W top prot B F' G σ (f b ρ) Dn := by
  refine (PostS.bnd h).imp fun o ρ F' H' A' e R q => ?_
  split at q
  · rename_i b
    exact ⟨b, rfl, q⟩
  · exact q.elim
theorem PostS.opt {α : Type} {o : Option α} {f : α → R Fl} (h : PostS p W top prot B F G σ (opt o f) Dn) : ∃ a, o = some a ∧ PostS p W top prot B F G σ (f a) Dn := by
  cases o with
  | some a => exact ⟨a, rfl, h⟩
  | none => exact h.elim
theorem PostS.next (h : PostS p W top prot B F G σ (.ok .nx ρ) Dn) (c : Cn top B F B' F') {H' : Hp} {A' : Fp} (R : Rel p B' F' G H' σ' ρ A') (k : Kp prot σ σ') : Dn.nx σ' H' := h _ _ _ _ _ c R k
def seqM (a b : Fr → R Fl) : Fr → R Fl := fun ρ => bnd (a ρ) fun f ρ1 => match f with
    | .nx => b ρ1
    | .ret o => .ok (.ret o) ρ1
theorem seq_core {a b : Fr → R Fl} (h : PostS p W top prot B F G σ (seqM a b ρ) Dn) : PostS p W top prot B F G σ (a ρ) { Dn with nx := tS p W top prot b Dn } := by
  unfold seqM at h
  cases e : a ρ with
  | ok f ρ1 =>
    rw [e] at h
    cases f with
    | nx => exact fun B2 F2 H2 A2 σ2 c2 R k2 => ⟨B2, F2, G, ρ1, A2, R, PostS.later h c2 k2⟩
    | ret o => exact h
  | exn x ρ1 =>
    rw [e] at h
    exact h
  | fail =>
    rw [e] at h
    exact h
theorem pssSkip : PSs X [] (tS p W top prot fun ρ => .ok .nx ρ) := pssI pss_nil fun D σ H ⟨B, F, G, ρ, A, R, q⟩ => q.next (Cn.refl _ _ _) R (Kp.refl _ _)
theorem pssSeq {st : Stmt} {rest : List Stmt} {a b : Fr → R Fl} (ha : PS X st (tS p W top prot a)) (hb : PSs X rest (tS p W top prot b)) : PSs X (st :: rest) (tS p W top prot (seqM a b)) :=
  pssI (pss_cons ha hb) fun D σ H ⟨B, F, G, ρ, A, R, q⟩ => ⟨B, F, G, ρ, A, R, seq_core q⟩
theorem psNever {st : Stmt} : PS X st (tS p W top prot fun _ => .fail) := psI ps_never fun D σ H ⟨B, F, G, ρ, A, R, q⟩ => q.elim
theorem psEx {e : Expr} {pos : Pos} {m : Fr → R O} (h : PE X e (tO p W m)) (hs : swapsWith e none pos.line X.env = pure false) : PS X (.Expr e pos) (tS p W top prot fun ρ => bnd (m ρ) fun _ ρ => .ok .nx ρ) :=
  psI (ps_expr h hs) fun D σ H ⟨B, F, G, ρ, A, R, q⟩ => ⟨B, F, G, ρ, A, R, (PostS.bnd q).imp fun o ρ1 F1 H1 A1 f1 R1 q v L ro ow => q.next (Cn.refl _ _ _) R1 (Kp.refl _ _)⟩
theorem psRet {e : Expr} {pos : Pos} {m : Fr → R O} (h : PE X e (tO p W m)) : PS X (.Return (some e) pos) (tS p W top prot fun ρ => bnd (m ρ) fun o ρ => .ok (.ret o) ρ) :=
  psI (ps_ret h) fun D σ H ⟨B, F, G, ρ, A, R, q⟩ => ⟨B, F, G, ρ, A, R, (PostS.bnd q).imp fun o ρ1 F1 H1 A1 f1 R1 q v L ro ow => q _ _ _ _ _ v L (Cn.refl _ _ _) R1 (Kp.refl _ _) ro ow⟩
/-- a value into a name -/
theorem asg_core {i : Nat} {m : Fr → R O} {D : Ends} {σ : L2.St} {H : Hp} (hi : i ∉ prot) (h : tS p W top prot (fun ρ => bnd (m ρ) fun o ρ => .ok .nx (setS ρ i (some o))) D σ H) : tO p W m σ H fun x H1 => gName i x σ H1 D.nx := by
  obtain ⟨B, F, G, ρ, A, R, q⟩ := h
  refine ⟨B, F, G, ρ, A, R, (PostS.bnd q).imp fun o ρ1 F1 H1 A1 f1 R1 q v L ro ow => ?_⟩
  have hk : Kp prot σ (σ.set i (some v)) := Kp.off (off_set σ i v) fun j hj => by
    rw [List.mem_singleton.mp hj]
    exact hi
  by_cases hl : i < ρ1.length
  · refine q.next (Cn.refl _ _ _) (R1.put ro ⟨ow.nd, ow.own, fun a ha j hj => ?_⟩ hl) hk
    have hj' : a ∈ (if j = i then [] else A1 j : List Addr) := hj
    split at hj'
    · cases hj'
    · exact ow.ap a ha j hj'
  · rw [setS_none ρ1 i _ (by omega)] at q
    refine q.next (Cn.refl _ _ _) (A' := A1) ?_ hk
    rw [set_none σ i _ (by rw [R1.len]; omega)]
    exact R1
theorem psAsg {i : Nat} {st : Stmt} {m : Fr → R O} (hi : i ∉ prot) (h : PS X st (tAsg (tO p W m) (gName i))) : PS X st (tS p W top prot fun ρ => bnd (m ρ) fun o ρ => .ok .nx (setS ρ i (some o))) :=
  psI h fun D σ H h => asg_core hi h
theorem psUnp {tg : T} {t e : Expr} {pos : Pos} {m : Fr → R O} (he : PE X e (tO p W m)) (hg : PG X t (tTg p tg)) (hp : ∀ i ∈ slotsT tg, i ∉ prot) (hs : swapsWithSole [t] e pos.line X.env = pure false) (hw : swappedStores [t] e X.env = pure none) (h1 : (assignEach [t] X.env).map (·.2) = [assign t X.env]) :
    PS X (.Assign [t] e pos) (tS p W top prot fun ρ => bnd (m ρ) fun o ρ => opt (frz o) fun d => opt (asg tg d ρ) fun ρ => .ok .nx ρ) :=
  psI (ps_asg he hg hs hw h1) fun D σ H ⟨B, F, G, ρ, A, R, q⟩ => by
    refine ⟨B, F, G, ρ, A, R, (PostS.bnd q).imp fun o ρ1 F1 H1 A1 f1 R1 q v L ro ow => ?_⟩
    obtain ⟨d, e1, q⟩ := q.opt
    obtain ⟨ρ2, e2, q⟩ := q.opt
    obtain ⟨F2, f2, R2, rd⟩ := R1.share ro ow e1
    exact ⟨B, F2, G, ρ1, A1, d, ρ2, R2, rd, e2, fun σ' A' R3 o3 => q.next (.of f2) R3 (Kp.off o3 hp)⟩
def iteS (c : Fr → R O) (a b : Fr → R Fl) : Fr → R Fl := fun ρ => asB (c ρ) fun k ρ => match k with
    | true => a ρ
    | false => b ρ
theorem psIf {c : Expr} {a b : List Stmt} {pos : Pos} {mc : Fr → R O} {ma mb : Fr → R Fl} (hc : PT X c (tT p W mc)) (ha : PSs X a (tS p W top prot ma)) (hb : PSs X b (tS p W top prot mb)) : PS X (.If c a b pos) (tS p W top prot (iteS mc ma mb)) :=
  psI (ps_if hc ha hb) fun D σ H ⟨B, F, G, ρ, A, R, q⟩ => by
    refine ⟨B, F, G, ρ, A, R, (PostS.asB q).imp fun o ρ1 F1 H1 A1 f1 R1 ⟨b, e, q⟩ => ⟨b, e, ?_⟩⟩
    cases b with
    | true => exact iteT ⟨B, F1, G, ρ1, A1, R1, q⟩
    | false => exact iteF ⟨B, F1, G, ρ1, A1, R1, q⟩
theorem psWhl {c : Expr} {body : List Stmt} {pos : Pos} {mc : Fr → R O} {mb : Fr → R Fl} {n : Nat} (hp : PassesOwn (model X.prog X.w) X.A X.env X.xe) (hc : PT X c (tT p W mc)) (hb : PSs X body (tS p W top prot mb)) :
    PS X (.While c body [] pos) (tS p W top prot (whlL mc mb n)) :=
  psI (ps_while hp hc hb) fun D σ H ⟨B, F, G, ρ, A, R, q⟩ => by
    refine ⟨fun m σ2 H2 => ∃ B2 F2 ρ2 A2, Rel p B2 F2 G H2 σ2 ρ2 A2 ∧ PostS p W top prot B2 F2 G σ2 (whlL mc mb m ρ2) D, ⟨n, B, F, ρ, A, R, q⟩, ?_⟩
    rintro m σ2 H2 ⟨B2, F2, ρ2, A2, R2, q2⟩
    cases m with
    | zero => exact q2.elim
    | succ m =>
      simp only [whlL] at q2
      refine ⟨B2, F2, G, ρ2, A2, R2, (PostS.asB q2).imp fun o ρ3 F3 H3 A3 f3 R3 ⟨b, e, q3⟩ => ⟨b, e, ?_⟩⟩
      cases b with
      | false => exact iteF (q3.next (Cn.refl _ _ _) R3 (Kp.refl _ _))
      | true =>
        refine iteT ⟨fun σ' H' => ∃ B2 F2 ρ2 A2, Rel p B2 F2 G H' σ' ρ2 A2 ∧ PostS p W top prot B2 F2 G σ' (whlL mc mb m ρ2) D, fun σ' H' h => ⟨m, Nat.lt_succ_self _, h⟩, ?_⟩
        refine ⟨B2, F3, G, ρ3, A3, R3, ?_⟩
        dsimp only at q3
        cases e4 : mb ρ3 with
        | exn x ρ4 =>
          rw [e4] at q3
          exact q3
        | fail =>
          rw [e4] at q3
          exact q3
        | ok f ρ4 =>
          rw [e4] at q3
          cases f with
          | nx => exact fun B5 F5 H5 A5 σ5 c5 R5 k5 => ⟨B5, F5, ρ4, A5, R5, PostS.later q3 c5 k5⟩
          | ret o' => exact q3
mutual
theorem RO.old {Bn : Addr → Prop} (hb : ∀ a x, F a = some (.lst x) → Bn a) (hh : ∀ a x, H a = some (.lst x) → Bn a) : ∀ {v : V} {o : O} {L : List Addr}, RO p B F H v o L → RO p Bn F H v (oldO o) L
  | _, _, _, .sh h => .sh (h.old hb)
  | _, _, _, .lst h b r => .lst h ⟨fun _ => rfl, fun _ => hh _ _ h⟩ (r.old hb)
  | _, _, _, .obj h n r => by
    simp only [oldO]
    exact .obj h n (ROs.old hb hh r)
theorem ROs.old {Bn : Addr → Prop} (hb : ∀ a x, F a = some (.lst x) → Bn a) (hh : ∀ a x, H a = some (.lst x) → Bn a) : ∀ {vs : List V} {os : List O} {L : List Addr}, ROs p B F H vs os L → ROs p Bn F H vs (oldOs os) L
  | _, _, _, .nil => .nil
  | _, _, _, .cons h r => .cons (RO.old hb hh h) (ROs.old hb hh r)
end
theorem getS_old : ∀ {ρ : Fr} {i : Nat} {o : O}, getS (oldF ρ) i = some o → ∃ o', getS ρ i = some o' ∧ o = oldO o'
  | [], _, _, h => by cases h
  | x :: _, 0, o, h => by
    cases x with
    | none => cases h
    | some o' =>
      cases h
      exact ⟨o', rfl, rfl⟩
  | _ :: r, i + 1, o, h => getS_old (ρ := r) (i := i) h
/-- a mark: all that stands is old -/
theorem Rel.mark (R : Rel p B F G H σ ρ A) : Rel p (Lv H) F G H σ (oldF ρ) A := by
  refine ⟨R.le, R.lg, R.fg, fun b h => h, by rw [show (oldF ρ).length = ρ.length from List.length_map ..]; exact R.len, fun i o e => ?_, R.nd, R.dj, R.own⟩
  obtain ⟨o', e1, rfl⟩ := getS_old e
  obtain ⟨v, e2, ro⟩ := R.sl i o' e1
  exact ⟨v, e2, ro.old (fun a x h => ⟨_, R.le a _ h, nt_lst _⟩) fun a x h => ⟨_, h, nt_lst _⟩⟩
def forStep (mk : Bool) (tg : T) (mb : Fr → R Fl) (d : WD.D) (ρ : Fr) : R Fl := opt (asg tg (if mk then old d else d) (if mk then oldF ρ else ρ)) fun ρ => mb ρ
mutual
theorem old_old : ∀ d : WD.D, old (old d) = old d
  | .non => rfl
  | .bl _ => rfl
  | .int _ => rfl
  | .str _ => rfl
  | .tup ds => by simp only [old]; rw [olds_olds ds]
  | .lst _ ds => by simp only [old]; rw [olds_olds ds]
  | .scr _ => rfl
  | .obj _ _ ds => by simp only [old]; rw [olds_olds ds]
  | .opq => rfl
theorem olds_olds : ∀ ds : List WD.D, olds (olds ds) = olds ds
  | [] => rfl
  | d :: ds => by simp only [olds]; rw [old_old d, olds_olds ds]
end
theorem olds_get : ∀ (ds : List WD.D) (i : Nat), (olds ds)[i]? = (ds[i]?).map old
  | [], _ => by simp [olds]
  | _ :: _, 0 => by simp [olds]
  | _ :: ds, i + 1 => by simp [olds, olds_get ds i]
theorem olds_len : ∀ ds : List WD.D, (olds ds).length = ds.length
  | [] => rfl
  | _ :: ds => congrArg Nat.succ (olds_len ds)
theorem psFor {t it : Expr} {body : List Stmt} {pos : Pos} {mk rg : Bool} {tg : T} {mi : Fr → R (List WD.D)} {mb : Fr → R Fl} (hp : PassesOwn (model X.prog X.w) X.A X.env X.xe) (hcalm : X.calm = true) (hi : PI X t it (tI p W rg mi)) (hg : PG X t (tTg p tg)) (hb : PSs X body (tS p W top prot mb))
    (hpr : ∀ i ∈ slotsT tg, i ∉ prot) (hset : nSet it = true) (htop : top = true → rg = true ∨ mk = true) (hmk : mk = true → top = true) : PS X (.For t it body [] pos) (tS p W top prot fun ρ => bnd (mi ρ) fun items ρ => forL (forStep mk tg mb) items ρ) :=
  psI (ps_for hp hcalm hi hg hb (fun x => fold_no hset x)) fun D σ H ⟨B, F, G, ρ, A, R, q⟩ => by
    refine ⟨B, F, G, ρ, A, R, (PostS.bnd q).imp fun items ρ1 F1 H1 A1 f1 R1 q J hJ => ?_⟩
    have hJ0 : ItOk p B F1 J items := by
      by_cases e : rg = true
      · rw [if_pos e] at hJ
        exact hJ B F1
      · rw [if_neg e] at hJ
        exact hJ.1
    refine ⟨fun i m σ2 H2 => m = items.length - i ∧ i ≤ items.length ∧ ∃ B2 F2 ρ2 A2 its, Cn top B F1 B2 F2 ∧ Rel p B2 F2 G H2 σ2 ρ2 A2 ∧ PostS p W top prot B2 F2 G σ2 (forL (forStep mk tg mb) (items.drop i) ρ2) D ∧
        ItOk p B2 F2 J its ∧ (mk = false → its = items) ∧ olds its = olds items ∧ (mk = true → Same F1 F2),
      ⟨items.length, by omega, Nat.zero_le _, B, F1, ρ1, A1, items, Cn.refl _ _ _, R1, q, hJ0, fun _ => rfl, rfl, fun _ => Same.refl _⟩, ?_⟩
    rintro i m σ2 H2 ⟨hm, hi, B2, F2, ρ2, A2, its, c2, R2, q2, hJ2, hits, holds, hsame⟩
    have hlen : its.length = items.length := by
      rw [← olds_len its, holds, olds_len]
    by_cases hlt : i < items.length
    · have hd : items[i]? = some items[i] := List.getElem?_eq_getElem hlt
      have hlt' : i < its.length := by omega
      have hd' : its[i]? = some its[i] := List.getElem?_eq_getElem hlt'
      have hod : old its[i] = old items[i] := by
        have := congrArg (fun l => l[i]?) holds
        simp only [olds_get, hd, hd', Option.map_some, Option.some.injEq] at this
        exact this
      rw [List.drop_eq_getElem_cons hlt] at q2
      simp only [forL] at q2
      refine .inr ⟨hJ2.go i H2 hlt' R2.le, fun σ' H' => ∃ B3 F3 ρ3 A3 its, Cn top B F1 B3 F3 ∧ Rel p B3 F3 G H' σ' ρ3 A3 ∧ PostS p W top prot B3 F3 G σ' (forL (forStep mk tg mb) (items.drop (i + 1)) ρ3) D ∧
          ItOk p B3 F3 J its ∧ (mk = false → its = items) ∧ olds its = olds items ∧ (mk = true → Same F1 F3),
        fun σ' H' hN => ⟨items.length - (i + 1), by omega, rfl, hlt, hN⟩, fun x H' hy => ?_⟩
      -- a mark, where there is one
      obtain ⟨B4, F3, R4, rd4, c4, hN⟩ : ∃ B4 F3, Rel p B4 F3 G H' σ2 (if mk then oldF ρ2 else ρ2) A2 ∧ RD p B4 F3 x (if mk then old items[i] else items[i]) ∧ Cn top B2 F2 B4 F3 ∧
          ∀ B5 F5, Cn top B4 F3 B5 F5 → ∃ its, ItOk p B5 F5 J its ∧ (mk = false → its = items) ∧ olds its = olds items ∧ (mk = true → Same F1 F5) := by
        obtain ⟨F3, f3, R3, rd⟩ := hJ2.yld i _ F2 G H2 σ2 ρ2 A2 x H' hd' (Same.refl _) R2 hy
        cases mk with
        | false =>
          have := hits rfl
          subst this
          refine ⟨B2, F3, R3, rd, .of f3, fun B5 F5 c5 => ⟨its, ?_, fun _ => rfl, rfl, fun z => by cases z⟩⟩
          by_cases ht : top = true
          · rcases htop ht with h | h
            · rw [if_pos h] at hJ
              exact hJ B5 F5
            · cases h
          · obtain ⟨e1, e2⟩ := c5.1 (by simpa using ht)
            subst e1
            have e2 := f3.trans e2
            exact ⟨fun i H hi e => hJ2.go i H hi (e2.trans e), fun i d F3 G H σ ρ A x H' h1 h2 h3 h4 => hJ2.yld i d F3 G H σ ρ A x H' h1 (e2.trans h2) h3 h4, fun H e => hJ2.stop H (e2.trans e)⟩
        | true =>
          have ht := hmk rfl
          subst ht
          have hF : ∀ b o, F1 b = some o → Lv H' b ∧ F3 b = some o := fun b o e => by
            have e3 := f3 b o (hsame rfl b o e)
            exact ⟨⟨o, R3.le b o e3, (R3.fg b o e3).2⟩, e3⟩
          refine ⟨_, F3, R3.mark, ?_, ⟨fun z => (by cases z), fun b o hb e => ⟨R3.bd b hb, f3 b o e⟩⟩, fun B5 F5 c5 => ?_⟩
          · show RD p (Lv H') F3 x (old items[i])
            rw [← hod]
            exact rd.old fun a y h => ⟨_, R3.le a _ h, nt_lst _⟩
          · have hF5 : ∀ b o, F1 b = some o → B5 b ∧ F5 b = some o := fun b o e => by
              obtain ⟨h1, h2⟩ := hF b o e
              exact c5.2 b o h1 h2
            by_cases e : rg = true
            · rw [if_pos e] at hJ
              exact ⟨items, hJ B5 F5, fun _ => rfl, rfl, fun _ b o e => (hF5 b o e).2⟩
            · rw [if_neg e] at hJ
              exact ⟨olds items, hJ.2 B5 F5 hF5, fun z => (by cases z), olds_olds _, fun _ b o e => (hF5 b o e).2⟩
      have ef : forStep mk tg mb items[i] ρ2 = opt (asg tg (if mk then old items[i] else items[i]) (if mk then oldF ρ2 else ρ2)) fun ρ => mb ρ := rfl
      rw [ef] at q2
      cases e1 : asg tg (if mk then old items[i] else items[i]) (if mk then oldF ρ2 else ρ2) with
      | none =>
        rw [e1] at q2
        exact q2.elim
      | some ρ3 =>
        rw [e1, opt_some] at q2
        refine ⟨B4, F3, G, _, A2, _, ρ3, R4, rd4, e1, fun σ3 A3 R5 o5 => ⟨B4, F3, G, ρ3, A3, R5, ?_⟩⟩
        have q3 := PostS.later q2 c4 (Kp.off o5 hpr)
        cases e4 : mb ρ3 with
        | exn x ρ4 =>
          rw [e4] at q3
          exact q3
        | fail =>
          rw [e4] at q3
          exact q3
        | ok f ρ4 =>
          rw [e4] at q3
          cases f with
          | nx => exact fun B5 F5 H5 A5 σ5 c5 R6 k5 => let ⟨its5, h1, h2, h3, h4⟩ := hN B5 F5 c5; ⟨B5, F5, ρ4, A5, its5, (c2.trans c4).trans c5, R6, PostS.later q3 c5 k5, h1, h2, h3, h4⟩
          | ret o' => exact q3
    · have ei : i = items.length := by omega
      subst ei
      rw [List.drop_length] at q2
      exact .inl ⟨by rw [← hlen]; exact hJ2.stop H2 R2.le, q2.next (Cn.refl _ _ _) R2 (Kp.refl _ _)⟩
end
end WD

/-! WD, part 12: what changes lists; errors; the check of statements; a def keeps its promise. -/
namespace WD
open PySem PySem.Spec PyProof.Rows L2
section
variable {p : Pm} {W : XK} {top : Bool} {prot : List Nat} {B B' : Addr → Prop} {F F' G H : Hp} {σ σ' : L2.St} {ρ : Fr} {A : Fp} {X : Cx}
/-- a slot's own list, and what becomes of it -/
theorem Rel.ownL (R : Rel p B F G H σ ρ A) {i : Nat} {t : Bool} {ds : List D} (e : getS ρ i = some (.lst t ds)) : ∃ a vs, σ[i]? = some (some (.ref a)) ∧ H a = some (.lst vs) ∧ RDs p B F vs ds ∧
    ∀ vs' ds', RDs p B F vs' ds' → Rel p B F G (upd H a (.lst vs')) σ (setS ρ i (some (.lst t ds'))) A := by
  obtain ⟨v, e1, ro⟩ := R.sl i _ e
  obtain ⟨a, vs, rfl, eA, h, b, rs⟩ := ro.lstI
  refine ⟨a, vs, e1, h, rs, fun vs' ds' rs' => ?_⟩
  have ha : a ∈ A i := by
    rw [eA]
    exact List.mem_singleton_self _
  obtain ⟨hF, hG, _⟩ := R.own i a ha
  have hne : ∀ b, b ≠ a → upd H a (.lst vs') b = H b := fun b e => upd_ne e
  refine ⟨fun b x e => ?_, R.lg.upd hG h, R.fg, fun b hb => (R.bd b hb).upd (nt_lst _), by rw [setS_len]; exact R.len, fun j o e => ?_, R.nd, R.dj, fun j b hb => ?_⟩
  · rw [hne b (ne_of_none e hF)]
    exact R.le b x e
  · rcases getS_set_some e with ⟨rfl, z⟩ | ⟨ne, e⟩
    · cases z
      refine ⟨_, e1, ?_⟩
      rw [eA]
      exact .lst upd_same b rs'
    · obtain ⟨v', e2, r2⟩ := R.sl j o e
      refine ⟨v', e2, r2.mono (Same.refl _) fun b hb => hne b fun z => ne (R.dj j i a (by rw [← z]; exact hb) ha)⟩
  · obtain ⟨h1, h2, h3⟩ := R.own j b hb
    exact ⟨h1, h2, h3.upd (nt_lst _)⟩
theorem lstAt_s {ρ : Fr} {i : Nat} {q : Bool × List D} (h : lstAt ρ (.s i) = some q) : getS ρ i = some (.lst q.1 q.2) := by
  unfold lstAt getPl at h
  split at h
  · rename_i e
    cases h
    exact e
  · cases h
theorem lstD_eq {d : D} {xs : List D} (h : lstD d = some xs) : ∃ t, d = .lst t xs := by
  cases d with
  | lst t ds =>
    cases h
    exact ⟨t, rfl⟩
  | _ => cases h
theorem psApp {x : Str} {i : Nat} {v : Expr} {p1 p2 p3 pos : Pos} {m : Fr → R O} (hx : X.N[i]? = some x) (hv : Vis X.env.scope x) (hd : (x == ("__debug__" : Str)) = false) (hcd : (x == ("__classdict__" : Str)) = false) (h : PE X v (tO p W m)) (hs : nStar v = true) (hl : (p2.endLine == p3.line) = true) :
    PS X (.Expr (.Call (.Attribute (.Name x p1) "append" p2) [v] [] p3) pos) (tS p W top prot fun ρ => opt (lstAt ρ (.s i)) fun _ => bnd (m ρ) fun o ρ => opt (frz o) fun d => opt (lstAt ρ (.s i)) fun (t, ds) => if ds.length < big then .ok .nx (setPl ρ (.lst t (ds ++ [d])) (.s i)) else .fail) := by
  have hst : starEach [v] X.env = (false, eval v X.env) :: starEach [] X.env := star_cons hs
  refine psI (ps_expr (pe_bm PySem.F.plainAttrs_list PySem.F.slot_list_append PySem.F.type_list_append mt_append (pe_var hx hv hd hcd) (pa_cons h pa_nil hst) rfl (by rw [hst]; rfl) hl hst rfl) rfl) fun D σ H ⟨B, F, G, ρ, A, R, q⟩ => ?_
  obtain ⟨q0, e0, q⟩ := q.opt
  obtain ⟨a, vs, e1, h1, rs, _⟩ := R.ownL (lstAt_s e0)
  refine ⟨.ref a, e1, .inl ⟨rfl, _, .inl (.inl h1)⟩, B, F, G, ρ, A, R, ?_⟩
  refine (PostS.bnd q).imp fun o ρ1 F1 H1 A1 f1 R1 q y L ro ow => ?_
  obtain ⟨d, e2, q⟩ := q.opt
  obtain ⟨⟨t, ds⟩, e3, q⟩ := q.opt
  obtain ⟨F2, f2, R2, rd⟩ := R1.share ro ow e2
  obtain ⟨a', vs', e4, h4, rs', up⟩ := R2.ownL (lstAt_s e3)
  rw [e1] at e4
  cases e4
  dsimp only at q rs'
  split at q
  · rename_i hz
    refine ⟨a, vs', y, rfl, rfl, h4, by rw [rs'.len]; exact big_lt hz, ?_⟩
    exact q.next (.of f2) (up _ _ (rs'.app (.cons rd .nil))) (Kp.refl _ _)
  · exact q.elim
theorem psExt {x : Str} {i : Nat} {v : Expr} {p1 p2 p3 pos : Pos} {m : Fr → R O} (hx : X.N[i]? = some x) (hv : Vis X.env.scope x) (hd : (x == ("__debug__" : Str)) = false) (hcd : (x == ("__classdict__" : Str)) = false) (h : PE X v (tO p W m)) (hs : nStar v = true) (hl : (p2.endLine == p3.line) = true) :
    PS X (.Expr (.Call (.Attribute (.Name x p1) "extend" p2) [v] [] p3) pos) (tS p W top prot fun ρ => opt (lstAt ρ (.s i)) fun _ => bnd (m ρ) fun o ρ => opt (frz o) fun d => opt (lstD d) fun xs => opt (lstAt ρ (.s i)) fun (t, ds) => if ds.length + xs.length ≤ big then .ok .nx (setPl ρ (.lst t (ds ++ xs)) (.s i)) else .fail) := by
  have hst : starEach [v] X.env = (false, eval v X.env) :: starEach [] X.env := star_cons hs
  refine psI (ps_expr (pe_bm PySem.F.plainAttrs_list PySem.F.slot_list_extend PySem.F.type_list_extend mt_extend (pe_var hx hv hd hcd) (pa_cons h pa_nil hst) rfl (by rw [hst]; rfl) hl hst rfl) rfl) fun D σ H ⟨B, F, G, ρ, A, R, q⟩ => ?_
  obtain ⟨q0, e0, q⟩ := q.opt
  obtain ⟨a, vs, e1, h1, rs, _⟩ := R.ownL (lstAt_s e0)
  refine ⟨.ref a, e1, .inl ⟨rfl, _, .inl (.inl h1)⟩, B, F, G, ρ, A, R, ?_⟩
  refine (PostS.bnd q).imp fun o ρ1 F1 H1 A1 f1 R1 q y L ro ow => ?_
  obtain ⟨d, e2, q⟩ := q.opt
  obtain ⟨xs, e5, q⟩ := q.opt
  obtain ⟨⟨t, ds⟩, e3, qq⟩ := q.opt
  obtain ⟨F2, f2, R2, rd⟩ := R1.share ro ow e2
  obtain ⟨a', vs', e4, h4, rs', up⟩ := R2.ownL (lstAt_s e3)
  rw [e1] at e4
  cases e4
  dsimp only at qq rs'
  obtain ⟨t', rfl⟩ := lstD_eq e5
  cases rd with
  | lst hb _ rx =>
    split at qq
    · rename_i hz
      refine ⟨a, _, vs', _, rfl, rfl, h4, R2.le _ _ hb, by rw [rs'.len, rx.len]; exact big_le hz, ?_⟩
      exact qq.next (.of f2) (up _ _ (rs'.app rx)) (Kp.refl _ _)
    · exact qq.elim
theorem getS_kill : ∀ {ρ : Fr} {i : Nat} {o : O}, getS (killF ρ) i = some o → getS ρ i = some o ∧ yngO o = false
  | [], _, _, h => by cases h
  | x :: _, 0, o, h => by
    cases x with
    | none => cases h
    | some o' =>
      have h' : killO o' = some o := h
      unfold killO at h'
      split at h'
      · cases h'
      · rename_i n
        cases h'
        exact ⟨rfl, by simpa using n⟩
  | _ :: r, i + 1, o, h => getS_kill (ρ := r) (i := i) h
/-- a list that is no slot's own and younger than the last mark is changed: what holds such is forgotten -/
theorem Rel.poke (R : Rel p B F G H σ ρ A) {a : Addr} {vs : List V} (h : F a = some (.lst vs)) (nb : ¬ B a) (us : List V) : Rel p B (cutF F a) G (upd H a (.lst us)) σ (killF ρ) A := by
  have hH := R.le a _ h
  have hG := (R.fg a _ h).1
  refine ⟨fun b o e => ?_, R.lg.upd hG hH, fun b o e => R.fg b o (cutF_some e).2, fun b hb => (R.bd b hb).upd (nt_lst _), by rw [show (killF ρ).length = ρ.length from List.length_map ..]; exact R.len, fun i o e => ?_, R.nd, R.dj, fun i b hb => ?_⟩
  · obtain ⟨e1, e2⟩ := cutF_some e
    rw [upd_ne e1]
    exact R.le b o e2
  · obtain ⟨e1, y⟩ := getS_kill e
    obtain ⟨v, e2, ro⟩ := R.sl i o e1
    refine ⟨v, e2, ro.cut h nb y fun b hb => upd_ne fun z => ?_⟩
    have := (R.own i b hb).1
    rw [z, h] at this
    cases this
  · obtain ⟨h1, h2, h3⟩ := R.own i b hb
    refine ⟨?_, h2, h3.upd (nt_lst _)⟩
    unfold cutF
    split
    · rfl
    · exact h1
theorem psPoke {t v : Expr} {p2 p3 pos : Pos} {mt m : Fr → R O} (ht : PE X t (tO p W mt)) (hb : attributeBase t "append" X.env (eval t X.env) = eval t X.env) (h : PE X v (tO p W m)) (hs : nStar v = true) (hl : (p2.endLine == p3.line) = true) :
    PS X (.Expr (.Call (.Attribute t "append" p2) [v] [] p3) pos) (tS p W true prot fun ρ => bnd (mt ρ) fun o ρ => opt (frz o) fun d => opt (yngL d) fun ds => bnd (m ρ) fun _ ρ => if ds.length < big then .ok .nx (killF ρ) else .fail) := by
  have hst : starEach [v] X.env = (false, eval v X.env) :: starEach [] X.env := star_cons hs
  refine psI (ps_expr (pe_bm PySem.F.plainAttrs_list PySem.F.slot_list_append PySem.F.type_list_append mt_append ht (pa_cons h pa_nil hst) hb (by rw [hst]; rfl) hl hst rfl) rfl) fun D σ H ⟨B, F, G, ρ, A, R, q⟩ => ?_
  refine ⟨B, F, G, ρ, A, R, (PostS.bnd q).imp fun o ρ1 F1 H1 A1 f1 R1 q x L ro ow => ?_⟩
  obtain ⟨d, e1, q⟩ := q.opt
  obtain ⟨ds, e2, q⟩ := q.opt
  obtain ⟨F2, f2, R2, rd⟩ := R1.share ro ow e1
  have q2 := PostS.later (B' := B) (F' := F2) (σ' := σ) q (Cn.of f2) (Kp.refl _ _)
  clear q
  unfold yngL at e2
  split at e2
  case h_2 => cases e2
  cases e2
  cases rd with
  | lst ha hbb rs =>
    refine ⟨.inl ⟨rfl, _, .inl (.inl (R2.le _ _ ha))⟩, B, F2, G, ρ1, A1, R2, (PostS.bnd q2).imp fun o' ρ3 F3 H3 A3 f3 R3 q z L' ro' ow' => ?_⟩
    split at q
    · rename_i hz
      have nb : ¬ B _ := fun hB => by cases hbb.mp hB
      have ha3 := f3 _ _ ha
      refine ⟨_, _, z, rfl, rfl, R3.le _ _ ha3, by rw [rs.len]; exact big_lt hz, q.next ⟨fun z => (by cases z), fun b o hB e => ⟨hB, (cutF_ne fun z => nb (by rw [← z]; exact hB)).trans e⟩⟩ (R3.poke ha3 nb _) (Kp.refl _ _)⟩
    · exact q.elim
theorem psSetix {x : Str} {i : Nat} {v k : Expr} {p1 p2 pos : Pos} {m mk : Fr → R O} (hx : X.N[i]? = some x) (hv : Vis X.env.scope x) (hd : (x == ("__debug__" : Str)) = false) (hcd : (x == ("__classdict__" : Str)) = false) (h : PE X v (tO p W m)) (hk : PE X k (tO p W mk)) (hsl : nSlice k = true) :
    PS X (.Assign [.Subscript (.Name x p1) k p2] v pos) (tS p W top prot fun ρ => bnd (m ρ) fun o ρ => opt (frz o) fun d => opt (lstAt ρ (.s i)) fun _ => bnd (mk ρ) fun oi ρ => opt (intO oi) fun k => opt (lstAt ρ (.s i)) fun (t, ds) => opt (ixN ds.length k) fun j => .ok .nx (setS ρ i (some (.lst t (ds.set j d))))) := by
  have ha : ∀ v, assign (.Subscript (.Name x p1) k p2) X.env v = (do
      let ov ← holding [v] (eval (.Name x p1) X.env)
      let iv ← holding [v, ov] (eval k X.env)
      standAt p2
      holding [v, ov, iv] (setItem ov iv v)
      release [v, ov, iv] []) := fun v => by
    cases k <;> first
      | rfl
      | cases hsl
  have hsw : ∀ l, swapsWithSole [.Subscript (.Name x p1) k p2] v l X.env = pure false := fun l => by cases v <;> rfl
  refine psI (ps_asg h (pg_sub (pe_var hx hv hd hcd) hk set_list ha) (hsw _) rfl rfl) fun D σ H ⟨B, F, G, ρ, A, R, q⟩ => ⟨B, F, G, ρ, A, R, ?_⟩
  refine (PostS.bnd q).imp fun o ρ1 F1 H1 A1 f1 R1 q y L ro ow => ?_
  obtain ⟨d, e1, q⟩ := q.opt
  obtain ⟨F2, f2, R2, rd⟩ := R1.share ro ow e1
  have q := PostS.later q (.of f2) (Kp.refl _ _)
  obtain ⟨q0, e9, q⟩ := q.opt
  obtain ⟨a0, _, e0, _⟩ := R2.ownL (lstAt_s e9)
  refine ⟨.ref a0, e0, B, F2, G, ρ1, A1, R2, (PostS.bnd q).imp fun oi ρ3 F3 H3 A3 f3 R3 q z L' ro' ow' => ?_⟩
  obtain ⟨kk, e3, q⟩ := q.opt
  obtain ⟨⟨t, ds⟩, e4, q⟩ := q.opt
  obtain ⟨j, e5, q⟩ := q.opt
  obtain ⟨a', vs', e6, h6, rs', up⟩ := R3.ownL (lstAt_s e4)
  rw [e0] at e6
  cases e6
  have hz : z = .int kk := by
    cases oi with
    | sh d' =>
      cases d' with
      | int _ =>
        cases e3
        cases ro'.shI.1
        rfl
      | _ => cases e3
    | _ => cases e3
  refine ⟨a0, vs', kk, j, rfl, hz, h6, by rw [rs'.len]; exact e5, ?_⟩
  exact q.next (Cn.refl _ _ _) (up _ _ (rs'.set (rd.mono f3) j)) (Kp.refl _ _)
end
end WD

/-! WD, part 13: the check of statements; a def keeps its promise. -/
namespace WD
open PySem PySem.Spec PyProof.Rows L2
/-! ### views of statements -/
def vAsg : Stmt → Option (Expr × Expr × Pos)
  | .Assign [t] v pos => some (t, v, pos)
  | _ => none
def vExpr : Stmt → Option Expr
  | .Expr e _ => some e
  | _ => none
def vRet : Stmt → Option Expr
  | .Return (some e) _ => some e
  | _ => none
def vIf : Stmt → Option (Expr × List Stmt × List Stmt)
  | .If c a b _ => some (c, a, b)
  | _ => none
def vFor : Stmt → Option (Expr × Expr × List Stmt)
  | .For t it b [] _ => some (t, it, b)
  | _ => none
def vWhl : Stmt → Option (Expr × List Stmt)
  | .While c b [] _ => some (c, b)
  | _ => none
def vRais : Stmt → Option Str
  | .Raise (some (.Call (.Name x _) [.Constant (.str _) _ _] [] _)) none _ => some x
  | _ => none
theorem vAsg_eq {st : Stmt} {t v : Expr} {pos : Pos} (h : vAsg st = some (t, v, pos)) : st = .Assign [t] v pos := by
  unfold vAsg at h
  split at h
  · cases h
    rfl
  · cases h
theorem vExpr_eq {st : Stmt} {e : Expr} (h : vExpr st = some e) : ∃ pos, st = .Expr e pos := by
  unfold vExpr at h
  split at h
  · cases h
    exact ⟨_, rfl⟩
  · cases h
theorem vRet_eq {st : Stmt} {e : Expr} (h : vRet st = some e) : ∃ pos, st = .Return (some e) pos := by
  unfold vRet at h
  split at h
  · cases h
    exact ⟨_, rfl⟩
  · cases h
theorem vIf_eq {st : Stmt} {c : Expr} {a b : List Stmt} (h : vIf st = some (c, a, b)) : ∃ pos, st = .If c a b pos := by
  unfold vIf at h
  split at h
  · cases h
    exact ⟨_, rfl⟩
  · cases h
theorem vFor_eq {st : Stmt} {t it : Expr} {b : List Stmt} (h : vFor st = some (t, it, b)) : ∃ pos, st = .For t it b [] pos := by
  unfold vFor at h
  split at h
  · cases h
    exact ⟨_, rfl⟩
  · cases h
theorem vWhl_eq {st : Stmt} {c : Expr} {b : List Stmt} (h : vWhl st = some (c, b)) : ∃ pos, st = .While c b [] pos := by
  unfold vWhl at h
  split at h
  · cases h
    exact ⟨_, rfl⟩
  · cases h
theorem vRais_eq {st : Stmt} {x : Str} (h : vRais st = some x) : ∃ p1 m k p2 p3 pos, st = .Raise (some (.Call (.Name x p1) [.Constant (.str m) k p2] [] p3)) none pos := by
  unfold vRais at h
  split at h
  · cases h
    exact ⟨_, _, _, _, _, _, rfl⟩
  · cases h
def nComp : Expr → Bool
  | .ListComp _ _ _ _ => false
  | .SetComp _ _ _ _ => false
  | .DictComp _ _ _ _ _ => false
  | _ => true
def nTup : Expr → Bool
  | .Tuple _ _ _ => false
  | _ => true
theorem swap_no {e : Expr} {t : Option Expr} {l : Nat} {env : Env} (h : nComp e = true) : swapsWith e t l env = pure false := by
  cases e <;> first
    | rfl
    | cases h
/-- how a comprehension given to a name goes: some true: stored within; some false: an assignment as others -/
def swapB (sc : Scope) (y : Str) (py : Pos) (e : Expr) : Option Bool := match e with
  | .ListComp _ _ scope pos => if decide (sc.names.lookup y = some .local) && (py.line == pos.line) then (if (scope.names.any fun (n, k) => n == y && (k == .local || k == .cell)) then none else some true) else (if decide (sc.names.lookup y = some .local) then none else some false)
  | e => if nComp e then some false else none
theorem swapB_false {sc : Scope} {y : Str} {py : Pos} {e : Expr} {l : Nat} {env : Env} (hs : env.scope = sc) (h : swapB sc y py e = some false) : swapsWith e (some (.Name y py)) l env = pure false := by
  unfold swapB at h
  split at h
  · rename_i el gs scope pos
    split at h
    · split at h <;> cases h
    · split at h
      · cases h
      · rename_i hn
        have hk : (env.kindOf y == some .local) = false := by
          have : env.kindOf y = sc.names.lookup y := by rw [← hs]; rfl
          rw [this]
          simpa using hn
        unfold swapsWith
        simp only [hk, Bool.and_false, Bool.false_and]
  · split at h
    · exact swap_no (by assumption)
    · cases h
mutual
def chkS (g : GT) (N : List Str) (sc : Scope) (top : Bool) (prot : List Nat) : S → Stmt → Bool
  | .set i m, st => match vAsg st with
    | some (t, v, _) => match t with
      | .Name y py => decide (N[i]? = some y) && locB sc y && decide (i ∉ prot) && chkE g N m sc v && (swapB sc y py v).isSome
      | _ => false
    | none => false
  | .unp tg m, st => match vAsg st with
    | some (t, v, _) => chkE g N m sc v && chkT N sc none tg t && (slotsT tg).all (fun i => decide (i ∉ prot)) && nTup v && (!nTup t && g.calm)
    | none => false
  | .setix i k m, st => match vAsg st with
    | some (t, v, _) => match vSub t with
      | some (a, j) => match vName a with
        | some x => decide (N[i]? = some x) && visB sc x && chkE g N m sc v && chkE g N k sc j && nSlice j
        | none => false
      | none => false
    | none => false
  | .ex m, st => match vExpr st with
    | some e => chkE g N m sc e && nComp e
    | none => false
  | .app (.s i) m, st => match vExpr st with
    | some e => match vMet e with
      | some (x, mt, v, b) => decide (N[i]? = some x) && visB sc x && decide (mt = "append") && b && chkE g N m sc v && nStar v
      | none => false
    | none => false
  | .ext (.s i) m, st => match vExpr st with
    | some e => match vMet e with
      | some (x, mt, v, b) => decide (N[i]? = some x) && visB sc x && decide (mt = "extend") && b && chkE g N m sc v && nStar v
      | none => false
    | none => false
  | .ret m, st => match vRet st with
    | some e => chkE g N m sc e
    | none => false
  | .ite c a b, st => match vIf st with
    | some (e, x, y) => chkE g N c sc e && chkSs g N sc top prot a x && chkSs g N sc top prot b y
    | none => false
  | .for_ mk tg it b, st => match vFor st with
    | some (t, e, y) => chkI g N it sc e && chkT N sc none tg t && chkSs g N sc top prot b y && (slotsT tg).all (fun i => decide (i ∉ prot)) && (nSet e && g.calm) && (!top || isRng it || mk) && (!mk || top) && enuOk it tg
    | none => false
  | .whl c b, st => match vWhl st with
    | some (e, y) => chkE g N c sc e && chkSs g N sc top prot b y
    | none => false
  | .rais C, st => match vRais st with
    | some x => glB sc x && (decide (g.excs.lookup x = some C) && g.calm)
    | none => false
  | .poke t m, st => match vExpr st with
    | some e => match vMetE e with
      | some (r, mt, v, b) => top && decide (mt = "append") && b && nBase r && chkE g N t sc r && chkE g N m sc v && nStar v
      | none => false
    | none => false
  | .never, _ => true
  | _, _ => false
def chkSs (g : GT) (N : List Str) (sc : Scope) (top : Bool) (prot : List Nat) : S → List Stmt → Bool
  | .skip, sts => sts.isEmpty
  | .seq a b, sts => match sts with
    | st :: r => chkS g N sc top prot a st && chkSs g N sc top prot b r
    | [] => false
  | _, _ => false
end
structure XF (p : Pm) (X : Cx) (C : Nat) (x : Str) : Prop where
  mg : X.mg x = some (.ref (p.XA C))
  kp : PySem.W.keepIn X.K (.ref (p.XA C)) = true
  ex : PySem.W.excIn X.K (p.XA C) [.type "ValueError", .type "Exception", .type "BaseException", .type "object"] "ValueError.__new__" = true
  sb : PySem.W.subIn X.K (.ref (p.XA C)) (.type "BaseException") = some true
  ty : PySem.W.typeIn X.K (.ref (p.XA C)) = some (.type "type")
structure CtxS (p : Pm) (g : GT) (cl : Cl) (N : List Str) (X : Cx) (sc : Scope) (W : XK) : Prop extends Ctx p g cl N X sc W where
  fn : ∀ x, X.fn x = true
  kind : X.env.scope.kind = .function
  po : PassesOwn (model X.prog X.w) X.A X.env X.xe
  tk : Takes X (fun c d _ H => W c d H)
  excs : ∀ x C, g.excs.lookup x = some C → XF p X C x
section
variable {p : Pm} {g : GT} {cl : Cl} {N : List Str} {W : XK} {X : Cx} {sc : Scope} {top : Bool} {prot : List Nat} {Nf : Nat}
/-- an expression's value into a name, a comprehension's too -/
theorem asgOk (c : CtxS p g cl N X sc W) {i : Nat} {y : Str} {py pos : Pos} {m : E} {v : Expr} (h1 : N[i]? = some y) (h2 : locB sc y = true) (h3 : chkE g N m sc v = true) (h4 : (swapB sc y py v).isSome = true) :
    PS X (.Assign [.Name y py] v pos) (tAsg (tO p W (evO cl m)) (gName i)) := by
  have hloc : Loc X.env.scope y := by
    rw [c.sc]
    exact locB_ok h2
  cases e : swapB sc y py v with
  | none =>
    rw [e] at h4
    cases h4
  | some b =>
    cases b with
    | false => exact ps_set (by rw [c.nN]; exact c.nd) (by rw [c.nN]; exact h1) hloc ((okE_all m).1 X sc W v c.toCtx h3).pe (swapB_false c.sc e) (.inl (c.fn y))
    | true =>
      unfold swapB at e
      split at e
      · rename_i el gs scope pos2
        split at e
        · rename_i hq
          split at e
          · cases e
          · rename_i ha
            rw [Bool.and_eq_true, decide_eq_true_eq] at hq
            -- a comprehension
            cases m with
            | lc elt tg it ifs own =>
              have c0 := c.toCtx
              rw [chkE_lc] at h3
              split at h3
              · rename_i el' t i' fs scope' e1
                obtain ⟨pos3, e1⟩ := vLc_eq e1
                cases e1
                simp only [Bool.and_eq_true, decide_eq_true_eq] at h3
                obtain ⟨⟨⟨⟨⟨⟨⟨⟨k1, k2⟩, k3⟩, k4⟩, k5⟩, k6⟩, k7⟩, k8⟩, k9⟩ := h3
                have ht : (∃ es k pos, t = .Tuple es k pos) ∨ ∀ x, it ≠ .enu x := by
                  cases it with
                  | enu x =>
                    cases tg with
                    | tup ts => exact .inl (isTup_of k3)
                    | _ => cases k9
                  | _ => exact .inr fun x z => by cases z
                have e2 : evO cl (.lc elt tg it ifs own) = lcM tg own (evI cl it) (evB cl ifs true) (evO cl elt) := by
                  funext ρ
                  simp only [evO]
                  rfl
                rw [e2]
                have hx : ∀ (s : Shared) (H : Hp) (C : Addr) (cls : List (Str × Addr)) (fp : List Addr), Ctx p g.noK cl N (X.blk s H scope (compEnvC scope cls C X.env) fp) (relS scope sc) E0 := fun s H C cls fp => c0.blk s H C cls fp
                have hyl : X.env.scope.names.lookup y = some .local := by
                  rw [c.sc]
                  exact hq.1
                have ha' : (scope.names.any fun (n, k) => n == y && (k == .local || k == .cell)) = false := by simpa using ha
                refine psI (ps_setLc (own := ownP N own) (g := tTg p tg) (tt := tBo p E0 (evB cl ifs true)) (te := tO p E0 (evO cl elt)) (c.calm k7.2) (by rw [c.nN]; exact c.nd) (by rw [c.nN]; exact h1) hyl (sw_true c.kind hyl hq.2 ha') ((okE_all it).2.2 X sc W t i' c0 ht k1) (by rw [c.nN, c.sc]; exact blkOk_by k2)
                  (fun s H C cls fp => okT (hx s H C cls fp) k7.2 (fun x hr => ?_) tg t k3) (fun s H C cls fp => ((okE_all (g := g.noK) ifs).2.1 _ _ _ fs (hx s H C cls fp) (((chk_noK ifs k4.2).2.1 _ _).trans k4.1)).ts k5) (fun s H C cls fp => ((okE_all (g := g.noK) elt).1 _ _ _ el (hx s H C cls fp) (((chk_noK elt k6.2).1 _ _).trans k6.1)).pe) (fun x => fold_no k7.1 x)) fun D σ H h => ?_
                · unfold rawB at hr
                  rw [Bool.or_eq_true, decide_eq_true_eq, decide_eq_true_eq] at hr
                  rcases hr with hr | hr
                  · exact .inl (by show (scope.names.lookup x == some .cell) = true; rw [hr]; rfl)
                  · exact .inr (by rw [(hx s H C cls fp).sc]; exact hr)
                · rw [nodup_own]
                  exact lc_core (fun i hi => of_decide_eq_true (List.all_eq_true.mp k8 i hi)) h
              · cases h3
            | _ => first
              | (simp [chkE, vInt, vBl, vStr, vNon, vName, vBin, vNeg, vCmp, vNot, vBop, vIte, vLst, vTup, vSub, vCall, vLam, vMet] at h3; done)
              | skip
        · split at e <;> cases e
      · split at e <;> cases e
theorem okS_all : ∀ m : S, (∀ (X : Cx) (sc : Scope) (W : XK) (st : Stmt), CtxS p g cl N X sc W → chkS g N sc top prot m st = true → PS X st (tS p W top prot (evS cl Nf m))) ∧
    (∀ (X : Cx) (sc : Scope) (W : XK) (sts : List Stmt), CtxS p g cl N X sc W → chkSs g N sc top prot m sts = true → PSs X sts (tS p W top prot (evS cl Nf m))) := by
  have noS : ∀ m : S, (∀ (sc : Scope) (sts : List Stmt), chkSs g N sc top prot m sts = false) → ∀ (X : Cx) (sc : Scope) (W : XK) (sts : List Stmt), CtxS p g cl N X sc W → chkSs g N sc top prot m sts = true → PSs X sts (tS p W top prot (evS cl Nf m)) := fun m h X sc W sts c hc => by
    rw [h] at hc
    cases hc
  have noT : ∀ m : S, (∀ (sc : Scope) (st : Stmt), chkS g N sc top prot m st = false) → ∀ (X : Cx) (sc : Scope) (W : XK) (st : Stmt), CtxS p g cl N X sc W → chkS g N sc top prot m st = true → PS X st (tS p W top prot (evS cl Nf m)) := fun m h X sc W sts c hc => by
    rw [h] at hc
    cases hc
  intro m
  induction m with
  | skip =>
    refine ⟨noT _ fun _ _ => by simp [chkS], fun X sc W sts c hc => ?_⟩
    have : sts = [] := by simpa [chkSs] using hc
    subst this
    rw [show evS cl Nf .skip = fun ρ => .ok .nx ρ from by funext ρ; simp only [evS]]
    exact pssSkip
  | seq a b iha ihb =>
    refine ⟨noT _ fun _ _ => by simp [chkS], fun X sc W sts c hc => ?_⟩
    cases sts with
    | nil => simp [chkSs] at hc
    | cons st r =>
      simp only [chkSs, Bool.and_eq_true] at hc
      rw [show evS cl Nf (.seq a b) = seqM (evS cl Nf a) (evS cl Nf b) from by funext ρ; simp only [evS]; rfl]
      exact pssSeq (iha.1 X sc W st c hc.1) (ihb.2 X sc W r c hc.2)
  | set i m =>
    refine ⟨fun X sc W st c hc => ?_, noS _ fun _ _ => by simp [chkSs]⟩
    simp only [chkS] at hc
    split at hc
    · rename_i t v pos e1
      split at hc
      · rename_i y py
        obtain rfl := vAsg_eq e1
        simp only [Bool.and_eq_true, decide_eq_true_eq] at hc
        obtain ⟨⟨⟨⟨h1, h2⟩, h3⟩, h4⟩, h5⟩ := hc
        rw [show evS cl Nf (.set i m) = fun ρ => bnd (evO cl m ρ) fun o ρ => .ok .nx (setS ρ i (some o)) from by funext ρ; simp only [evS]]
        exact psAsg h3 (asgOk c h1 h2 h4 h5)
      · cases hc
    · cases hc
  | unp tg m =>
    refine ⟨fun X sc W st c hc => ?_, noS _ fun _ _ => by simp [chkSs]⟩
    simp only [chkS] at hc
    split at hc
    · rename_i t v pos e1
      obtain rfl := vAsg_eq e1
      simp only [Bool.and_eq_true, Bool.not_eq_true'] at hc
      obtain ⟨⟨⟨⟨h1, h2⟩, h3⟩, h4⟩, h5⟩ := hc
      obtain ⟨es, k, tpos, rfl⟩ : ∃ es k tpos, t = .Tuple es k tpos := by
        have h5 := h5.1
        cases t <;> first
          | exact ⟨_, _, _, rfl⟩
          | cases h5
      rw [show evS cl Nf (.unp tg m) = fun ρ => bnd (evO cl m ρ) fun o ρ => opt (frz o) fun d => opt (asg tg d ρ) fun ρ => .ok .nx ρ from by funext ρ; simp only [evS]]
      refine psUnp ((okE_all m).1 X sc W v c.toCtx h1).pe (okT c.toCtx h5.2 (fun x _ => .inl (c.fn x)) tg _ h2) (fun i hi => of_decide_eq_true (List.all_eq_true.mp h3 i hi)) ?_ ?_ rfl
      · cases v <;> rfl
      · cases v <;> first
          | rfl
          | cases h4
    · cases hc
  | setix i k m =>
    refine ⟨fun X sc W st c hc => ?_, noS _ fun _ _ => by simp [chkSs]⟩
    simp only [chkS] at hc
    split at hc
    · rename_i t v pos e1
      obtain rfl := vAsg_eq e1
      split at hc
      · rename_i a j e2
        obtain ⟨p2, rfl⟩ := vSub_eq e2
        split at hc
        · rename_i x e3
          obtain ⟨p1, rfl⟩ := vName_eq e3
          simp only [Bool.and_eq_true, decide_eq_true_eq] at hc
          obtain ⟨⟨⟨⟨h1, h2⟩, h3⟩, h4⟩, h5⟩ := hc
          obtain ⟨hv, hd1, hd2⟩ := visB_ok h2
          rw [show evS cl Nf (.setix i k m) = fun ρ => bnd (evO cl m ρ) fun o ρ => opt (frz o) fun d => opt (lstAt ρ (.s i)) fun _ => bnd (evO cl k ρ) fun oi ρ => opt (intO oi) fun k => opt (lstAt ρ (.s i)) fun (t, ds) => opt (ixN ds.length k) fun j => .ok .nx (setS ρ i (some (.lst t (ds.set j d)))) from by funext ρ; simp only [evS]]
          exact psSetix (by rw [c.nN]; exact h1) (by rw [c.sc]; exact hv) hd1 hd2 ((okE_all m).1 X sc W v c.toCtx h3).pe ((okE_all k).1 X sc W j c.toCtx h4).pe h5
        · cases hc
      · cases hc
    · cases hc
  | setfld i f m => exact ⟨noT _ fun _ _ => by simp [chkS], noS _ fun _ _ => by simp [chkSs]⟩
  | ex m =>
    refine ⟨fun X sc W st c hc => ?_, noS _ fun _ _ => by simp [chkSs]⟩
    simp only [chkS] at hc
    split at hc
    · rename_i e e1
      obtain ⟨pos, rfl⟩ := vExpr_eq e1
      rw [Bool.and_eq_true] at hc
      rw [show evS cl Nf (.ex m) = fun ρ => bnd (evO cl m ρ) fun _ ρ => .ok .nx ρ from by funext ρ; simp only [evS]]
      exact psEx ((okE_all m).1 X sc W e c.toCtx hc.1).pe (swap_no hc.2)
    · cases hc
  | app pl m =>
    cases pl with
    | f i n => exact ⟨noT _ fun _ _ => by simp [chkS], noS _ fun _ _ => by simp [chkSs]⟩
    | s i =>
      refine ⟨fun X sc W st c hc => ?_, noS _ fun _ _ => by simp [chkSs]⟩
      simp only [chkS] at hc
      split at hc
      · rename_i e e1
        obtain ⟨pos, rfl⟩ := vExpr_eq e1
        split at hc
        · rename_i x mt v b e2
          obtain ⟨p1, p2, p3, rfl, hl⟩ := vMet_eq e2
          simp only [Bool.and_eq_true, decide_eq_true_eq] at hc
          obtain ⟨⟨⟨⟨⟨h1, h2⟩, rfl⟩, h4⟩, h5⟩, h6⟩ := hc
          obtain ⟨hv, hd1, hd2⟩ := visB_ok h2
          rw [show evS cl Nf (.app (.s i) m) = fun ρ => opt (lstAt ρ (.s i)) fun _ => bnd (evO cl m ρ) fun o ρ => opt (frz o) fun d => opt (lstAt ρ (.s i)) fun (t, ds) => if ds.length < big then .ok .nx (setPl ρ (.lst t (ds ++ [d])) (.s i)) else .fail from by funext ρ; simp only [evS]]
          exact psApp (by rw [c.nN]; exact h1) (by rw [c.sc]; exact hv) hd1 hd2 ((okE_all m).1 X sc W v c.toCtx h5).pe h6 (hl.trans h4)
        · cases hc
      · cases hc
  | ext pl m =>
    cases pl with
    | f i n => exact ⟨noT _ fun _ _ => by simp [chkS], noS _ fun _ _ => by simp [chkSs]⟩
    | s i =>
      refine ⟨fun X sc W st c hc => ?_, noS _ fun _ _ => by simp [chkSs]⟩
      simp only [chkS] at hc
      split at hc
      · rename_i e e1
        obtain ⟨pos, rfl⟩ := vExpr_eq e1
        split at hc
        · rename_i x mt v b e2
          obtain ⟨p1, p2, p3, rfl, hl⟩ := vMet_eq e2
          simp only [Bool.and_eq_true, decide_eq_true_eq] at hc
          obtain ⟨⟨⟨⟨⟨h1, h2⟩, rfl⟩, h4⟩, h5⟩, h6⟩ := hc
          obtain ⟨hv, hd1, hd2⟩ := visB_ok h2
          rw [show evS cl Nf (.ext (.s i) m) = fun ρ => opt (lstAt ρ (.s i)) fun _ => bnd (evO cl m ρ) fun o ρ => opt (frz o) fun d => opt (lstD d) fun xs => opt (lstAt ρ (.s i)) fun (t, ds) => if ds.length + xs.length ≤ big then .ok .nx (setPl ρ (.lst t (ds ++ xs)) (.s i)) else .fail from by funext ρ; simp only [evS]]
          exact psExt (by rw [c.nN]; exact h1) (by rw [c.sc]; exact hv) hd1 hd2 ((okE_all m).1 X sc W v c.toCtx h5).pe h6 (hl.trans h4)
        · cases hc
      · cases hc
  | ret m =>
    refine ⟨fun X sc W st c hc => ?_, noS _ fun _ _ => by simp [chkSs]⟩
    simp only [chkS] at hc
    split at hc
    · rename_i e e1
      obtain ⟨pos, rfl⟩ := vRet_eq e1
      rw [show evS cl Nf (.ret m) = fun ρ => bnd (evO cl m ρ) fun o ρ => .ok (.ret o) ρ from by funext ρ; simp only [evS]]
      exact psRet ((okE_all m).1 X sc W e c.toCtx hc).pe
    · cases hc
  | ite m a b iha ihb =>
    refine ⟨fun X sc W st c hc => ?_, noS _ fun _ _ => by simp [chkSs]⟩
    simp only [chkS] at hc
    split at hc
    · rename_i e x y e1
      obtain ⟨pos, rfl⟩ := vIf_eq e1
      simp only [Bool.and_eq_true] at hc
      rw [show evS cl Nf (.ite m a b) = iteS (evO cl m) (evS cl Nf a) (evS cl Nf b) from by funext ρ; simp only [evS]; rfl]
      exact psIf ((okE_all m).1 X sc W e c.toCtx hc.1.1).pt (iha.2 X sc W x c hc.1.2) (ihb.2 X sc W y c hc.2)
    · cases hc
  | for_ mk tg it b ihb =>
    refine ⟨fun X sc W st c hc => ?_, noS _ fun _ _ => by simp [chkSs]⟩
    simp only [chkS] at hc
    split at hc
    · rename_i t e y e1
      obtain ⟨pos, rfl⟩ := vFor_eq e1
      simp only [Bool.and_eq_true, Bool.or_eq_true, Bool.not_eq_true'] at hc
      obtain ⟨⟨⟨⟨⟨⟨⟨h1, h2⟩, h3⟩, h4⟩, h5⟩, h6⟩, h7⟩, h8⟩ := hc
      have ht : (∃ es k pos, t = .Tuple es k pos) ∨ ∀ x, it ≠ .enu x := by
        cases it with
        | enu x =>
          cases tg with
          | tup ts => exact .inl (isTup_of h2)
          | _ => cases h8
        | _ => exact .inr fun x z => by cases z
      rw [show evS cl Nf (.for_ mk tg it b) = fun ρ => bnd (evI cl it ρ) fun items ρ => forL (forStep mk tg (evS cl Nf b)) items ρ from by funext ρ; simp only [evS]; rfl]
      exact psFor c.po (c.calm h5.2) ((okE_all it).2.2 X sc W t e c.toCtx ht h1) (okT c.toCtx h5.2 (fun x _ => .inl (c.fn x)) tg t h2) (ihb.2 X sc W y c h3) (fun i hi => of_decide_eq_true (List.all_eq_true.mp h4 i hi)) h5.1
        (fun z => by rcases h6 with (h | h) | h; rw [z] at h; cases h; exact .inl h; exact .inr h) (fun z => by rcases h7 with h | h; rw [z] at h; cases h; exact h)
    · cases hc
  | whl m b ihb =>
    refine ⟨fun X sc W st c hc => ?_, noS _ fun _ _ => by simp [chkSs]⟩
    simp only [chkS] at hc
    split at hc
    · rename_i e y e1
      obtain ⟨pos, rfl⟩ := vWhl_eq e1
      simp only [Bool.and_eq_true] at hc
      rw [show evS cl Nf (.whl m b) = whlL (evO cl m) (evS cl Nf b) Nf from by funext ρ; simp only [evS]]
      exact psWhl c.po ((okE_all m).1 X sc W e c.toCtx hc.1).pt (ihb.2 X sc W y c hc.2)
    · cases hc
  | rais C =>
    refine ⟨fun X sc W st c hc => ?_, noS _ fun _ _ => by simp [chkSs]⟩
    simp only [chkS] at hc
    split at hc
    · rename_i x e1
      obtain ⟨p1, m, k, p2, p3, pos, rfl⟩ := vRais_eq e1
      simp only [Bool.and_eq_true, decide_eq_true_eq] at hc
      obtain ⟨g1, g2, _⟩ := glB_ok hc.1
      have xf := c.excs x C hc.2.1
      rw [show evS cl Nf (.rais C) = fun ρ => .exn ⟨C, none⟩ ρ from by funext ρ; simp only [evS]]
      refine psI (ps_raise (c.calm hc.2.2) c.tk (pmk_own PySem.F.excBase_ValueError xf.ex xf.mg xf.kp (raises_own xf.sb xf.ty) (by show X.env.scope.names.lookup x = _; rw [c.sc]; exact g1) g2)) fun D σ H ⟨B, F, G, ρ, A, R, q⟩ => ?_
      exact q _ _ _ _ _ _ _ (Cn.refl _ _ _) R (Kp.refl _ _) ⟨rfl, rfl⟩
    · cases hc
  | poke t m =>
    refine ⟨fun X sc W st c hc => ?_, noS _ fun _ _ => by simp [chkSs]⟩
    simp only [chkS] at hc
    split at hc
    · rename_i e e1
      obtain ⟨pos, rfl⟩ := vExpr_eq e1
      split at hc
      · rename_i r mt v b e2
        obtain ⟨p2, p3, rfl, hl⟩ := vMetE_eq e2
        simp only [Bool.and_eq_true, decide_eq_true_eq] at hc
        obtain ⟨⟨⟨⟨⟨⟨rfl, rfl⟩, h3⟩, h4⟩, h5⟩, h6⟩, h7⟩ := hc
        rw [show evS cl Nf (.poke t m) = fun ρ => bnd (evO cl t ρ) fun o ρ => opt (frz o) fun d => opt (yngL d) fun ds => bnd (evO cl m ρ) fun _ ρ => if ds.length < big then .ok .nx (killF ρ) else .fail from by funext ρ; simp only [evS]]
        exact psPoke ((okE_all t).1 X sc W r c.toCtx h5).pe (by cases r <;> first | rfl | cases h4) ((okE_all m).1 X sc W v c.toCtx h6).pe h7 (hl.trans h3)
      · cases hc
    · cases hc
  | never =>
    refine ⟨fun X sc W st c hc => ?_, noS _ fun _ _ => by simp [chkSs]⟩
    rw [show evS cl Nf .never = fun _ => .fail from by funext ρ; simp only [evS]]
    exact psNever
end
end WD

/-! WD, part 14: a def keeps its promise; all defs of a text; the law. -/
namespace WD
open PySem PySem.Spec PyProof.Rows L2
def ixT : Nat → List Bool → List Nat
  | _, [] => []
  | j, true :: fs => j :: ixT (j + 1) fs
  | j, false :: fs => ixT (j + 1) fs
section
variable {p : Pm} {W : XK} {B : Addr → Prop} {F G H : Hp} {σ : L2.St} {ρ : Fr} {A : Fp}
theorem ixT_ge : ∀ (fs : List Bool) (j k : Nat), k ∈ ixT j fs → j ≤ k
  | [], _, _, h => by cases h
  | true :: fs, j, k, h => by
    rcases List.mem_cons.mp h with rfl | h
    · exact Nat.le_refl _
    · have := ixT_ge fs (j + 1) k h
      omega
  | false :: fs, j, k, h => by
    have := ixT_ge fs (j + 1) k h
    omega
theorem ixT_nd : ∀ (fs : List Bool) (j : Nat), (ixT j fs).Nodup
  | [], _ => List.nodup_nil
  | true :: fs, j => List.nodup_cons.mpr ⟨fun h => by have := ixT_ge fs (j + 1) j h; omega, ixT_nd fs (j + 1)⟩
  | false :: fs, j => ixT_nd fs (j + 1)
/-- some slots of a frame, as a frame of their own -/
theorem Rel.sub (R : Rel p B F G H σ ρ A) {is : List Nat} {vs : List V} {os : List O} (hn : is.Nodup) (hv : vs.length = is.length) (ho : os.length = is.length)
    (h : ∀ (k i : Nat), is[k]? = some i → ∃ v o, vs[k]? = some v ∧ os[k]? = some o ∧ σ[i]? = some (some v) ∧ getS ρ i = some o) : ∃ A', Rel p B F G H (vs.map some) (os.map some) A' ∧ ∀ k a, a ∈ A' k → ∃ i, a ∈ A i := by
  refine ⟨fun k => match is[k]? with | some i => A i | none => [], ⟨R.le, R.lg, R.fg, R.bd, by rw [List.length_map, List.length_map, hv, ho], fun k o e => ?_, fun k => ?_, fun k l a h1 h2 => ?_, fun k a h1 => ?_⟩, fun k a h1 => ?_⟩
  · rw [getS_map_some] at e
    have hk : k < is.length := by
      rw [← ho]
      exact (List.getElem?_eq_some_iff.mp e).1
    obtain ⟨v, o', e1, e2, e3, e4⟩ := h k _ (List.getElem?_eq_getElem hk)
    rw [e] at e2
    cases e2
    obtain ⟨v', e5, ro⟩ := R.sl _ _ e4
    rw [e3] at e5
    cases e5
    refine ⟨v, by rw [List.getElem?_map, e1]; rfl, ?_⟩
    rw [List.getElem?_eq_getElem hk]
    exact ro
  · split
    · exact R.nd _
    · exact List.nodup_nil
  · split at h1
    · rename_i i e1
      split at h2
      · rename_i j e2
        have := R.dj i j a h1 h2
        subst this
        obtain ⟨k1, q1⟩ := List.getElem?_eq_some_iff.mp e1
        obtain ⟨k2, q2⟩ := List.getElem?_eq_some_iff.mp e2
        exact (List.getElem_inj hn).mp (q1.trans q2.symm)
      · cases h2
    · cases h1
  · split at h1
    · exact R.own _ a h1
    · cases h1
  · dsimp only at h1
    split at h1
    · exact ⟨_, h1⟩
    · cases h1
theorem Own.sub {A' : Fp} {L : List Addr} (ow : Own F G H A L) (h : ∀ k a, a ∈ A' k → ∃ i, a ∈ A i) : Own F G H A' L := ⟨ow.nd, ow.own, fun a ha k hk => let ⟨i, hi⟩ := h k a hk; ow.ap a ha i hi⟩
theorem outs_ok : ∀ (io : List Bool) (j : Nat) (vs : List V) (outs : List O), outsOf ρ j io = some outs → vs.length = io.length → (∀ (k : Nat) (v : V), vs[k]? = some v → io[k]? = some true → σ[j + k]? = some (some v)) →
    (pick io vs).length = (ixT j io).length ∧ outs.length = (ixT j io).length ∧ ∀ (k i : Nat), (ixT j io)[k]? = some i → ∃ v o, (pick io vs)[k]? = some v ∧ outs[k]? = some o ∧ σ[i]? = some (some v) ∧ getS ρ i = some o
  | [], j, vs, outs, e, hl, h => by
    cases vs with
    | cons v vs => cases hl
    | nil =>
      cases e
      exact ⟨rfl, rfl, fun k i e => by simp [ixT] at e⟩
  | true :: io, j, vs, outs, e, hl, h => by
    cases vs with
    | nil => cases hl
    | cons v vs =>
      simp only [outsOf] at e
      split at e
      · rename_i o os e1 e2
        cases e
        obtain ⟨h1, h2, h3⟩ := outs_ok io (j + 1) vs os e2 (by simpa using hl) fun k w hk hi => by
          have := h (k + 1) w (by simpa using hk) (by simpa using hi)
          rwa [show j + 1 + k = j + (k + 1) by omega]
        refine ⟨congrArg Nat.succ h1, congrArg Nat.succ h2, fun k i ei => ?_⟩
        cases k with
        | zero =>
          have : j = i := by simpa [ixT] using ei
          subst this
          exact ⟨v, o, rfl, rfl, h 0 v rfl rfl, e1⟩
        | succ k =>
          obtain ⟨w, o', q1, q2, q3, q4⟩ := h3 k i (by simpa [ixT] using ei)
          exact ⟨w, o', by simpa [pick] using q1, by simpa using q2, q3, q4⟩
      · cases e
  | false :: io, j, vs, outs, e, hl, h => by
    cases vs with
    | nil => cases hl
    | cons v vs =>
      simp only [outsOf] at e
      obtain ⟨h1, h2, h3⟩ := outs_ok io (j + 1) vs outs e (by simpa using hl) fun k w hk hi => by
        have := h (k + 1) w (by simpa using hk) (by simpa using hi)
        rwa [show j + 1 + k = j + (k + 1) by omega]
      exact ⟨h1, h2, h3⟩
/-- a frame's start: the arguments, then empty slots -/
theorem Rel.pad {vs : List V} {os : List O} (R : Rel p B F G H (vs.map some) (os.map some) A) (n : Nat) : Rel p B F G H (vs.map some ++ List.replicate n none) (os.map some ++ List.replicate n none) A := by
  refine ⟨R.le, R.lg, R.fg, R.bd, by rw [List.length_append, List.length_append, R.len, List.length_replicate, List.length_replicate], fun i o e => ?_, R.nd, R.dj, R.own⟩
  rw [getS_append] at e
  obtain ⟨v, e1, ro⟩ := R.sl i o e
  refine ⟨v, ?_, ro⟩
  rw [List.getElem?_append_left (List.getElem?_eq_some_iff.mp e1).1]
  exact e1
end
/-- the names' tables stand for what the module holds -/
structure Mods (p : Pm) (g : GT) (cl : Cl) (P : Program) (w : World) (mg : Str → Option Value) (base : Heap) (k : Nat) : Prop where
  fns : ∀ x f, g.fns.lookup x = some f → ∃ a fd ps, mg x = some (.ref a) ∧ PySem.W.keepIn p.K (.ref a) = true ∧ FnOk P w p.K mg base (L2.CX P w) k a fd ps (spF p (cl.io f).length (cl.io f) (cl.run f)) ∧ Binds p.K fd ps []
  cns : ∀ x i, g.cns.lookup x = some i → ∃ t, mg x = some (.int i t)
  bis : ∀ x, x ∈ g.bis → mg x = none
  excs : ∀ x C, g.excs.lookup x = some C → mg x = some (.ref (p.XA C)) ∧ PySem.W.keepIn p.K (.ref (p.XA C)) = true ∧
    PySem.W.excIn p.K (p.XA C) [.type "ValueError", .type "Exception", .type "BaseException", .type "object"] "ValueError.__new__" = true ∧ PySem.W.subIn p.K (.ref (p.XA C)) (.type "BaseException") = some true ∧ PySem.W.typeIn p.K (.ref (p.XA C)) = some (.type "type")
section
variable {p : Pm} {g : GT} {cl : Cl} {P : Program} {w : World} {mg : Str → Option Value} {base : Heap} {k : Nat}
theorem Mods.ctx (M : Mods p g cl P w mg base k) {N : List Str} {ps : List Str} {qual : Str} {sc : Scope} {f : Addr} {cdv : Value} {A : Around} {outer : List Env} {s : Shared} {H : Hp} {W : XK} (S : FnScope N ps sc) {j : Nat} (hr : Room j (A.deeper (envOfC qual sc s.heap.objs.size f cdv))) (hj : k ≤ j) (hi : g.isx = []) (kd : g.kinds ≠ [] → KindF p g cl (cxOf (L2.CX P w) P w p.K mg base N qual sc f cdv A outer s H W)) :
    CtxS p g cl N (cxOf (L2.CX P w) P w p.K mg base N qual sc f cdv A outer s H W) sc W where
  K := rfl
  nN := rfl
  nd := S.nd
  sc := rfl
  calm := fun _ => rfl
  pas := passes_call (takes_of rfl rfl rfl rfl) fun _ _ _ _ h => h
  fns := fun x f h => let ⟨a, fd, ps, h1, h2, h3, h4⟩ := M.fns x f h; ⟨a, fd, ps, k, h1, h2, h3, h4, hr.mono hj⟩
  cns := M.cns
  bis := M.bis
  hu := hr.units
  kd := kd
  ix := fun i x b h => by
    rw [hi] at h
    cases h
  fn := fun _ => rfl
  kind := S.kind
  po := passes_of rfl
  tk := takes_of rfl rfl rfl rfl
  excs := fun x C h => let ⟨h1, h2, h3, h4, h5⟩ := M.excs x C h; ⟨h1, h2, h3, h4, h5⟩
/-- THE THEOREM of a def: the check lets its text through, so it does what the evaluator says -/
theorem fn_ok (M : Mods p g cl P w mg base k) (hk : g.kinds = []) (hi : g.isx = []) {x qual : Str} {st : Stmt} {f : Addr} {fd : FuncData} {N ps : List Str} (FF : Fun p.K x qual st f fd) (S : FnScope N ps (defScope st)) {fn : Fn} {Nf : Nat} (hnp : fn.np = fn.io.length) (hps : ps.length = fn.np) (hns : fn.ns = N.length)
    (hc : chkSs g N (defScope st) false (ixT 0 fn.io) fn.body (defBody st) = true) : FnOk P w p.K mg base (L2.CX P w) (k + 1) f fd ps (spF p fn.io.length fn.io (runF cl Nf fn)) := by
  refine FF.okX S (fun vs H Q E h => by rw [h.1, hps, hnp]) (fun cdv A outer s H vs Q E hr h => ?_)
  have C := M.ctx (outer := outer) (H := H) (W := E) S hr (Nat.le_refl _) hi fun z => absurd hk z
  refine ⟨_, (okS_all (top := false) (prot := ixT 0 fn.io) (Nf := Nf) fn.body).2 _ _ E _ C hc, ?_⟩
  obtain ⟨hl, B, F, G, os, A', R, h⟩ := h
  have hlo : os.length = vs.length := by
    have := R.len
    rw [List.length_map, List.length_map] at this
    exact this.symm
  have hstart : L2.start N vs = vs.map some ++ List.replicate (fn.ns - fn.np) none := by
    unfold L2.start
    rw [hns, hl, hnp]
  refine ⟨B, F, G, os.map some ++ List.replicate (fn.ns - fn.np) none, A', by rw [hstart]; exact R.pad _, ?_⟩
  unfold runF at h
  rw [if_pos (by rw [hlo, hl, hnp])] at h
  -- the slots of the in and out parameters keep their values
  have hk : ∀ {σ' : L2.St}, Kp (ixT 0 fn.io) (L2.start N vs) σ' → ∀ (k : Nat) (v : V), vs[k]? = some v → fn.io[k]? = some true → σ'[0 + k]? = some (some v) := fun {σ'} kp k v e1 e2 => by
    have hm : ∀ (io : List Bool) (j k : Nat), io[k]? = some true → j + k ∈ ixT j io := by
      intro io
      induction io with
      | nil => intro j k e; simp at e
      | cons b io ih =>
        intro j k e
        cases k with
        | zero =>
          simp at e
          subst e
          exact List.mem_cons_self
        | succ k =>
          have := ih (j + 1) k (by simpa using e)
          rw [show j + 1 + k = j + (k + 1) by omega] at this
          cases b with
          | true => exact List.mem_cons_of_mem _ this
          | false => exact this
    rw [kp _ (hm fn.io 0 k e2), hstart, Nat.zero_add, List.getElem?_append_left (by rw [List.length_map]; exact (List.getElem?_eq_some_iff.mp e1).1), List.getElem?_map, e1]
    rfl
  cases e : evS cl Nf fn.body (os.map some ++ List.replicate (fn.ns - fn.np) none) with
  | fail =>
    rw [e] at h
    exact h.elim
  | exn x ρ =>
    rw [e] at h
    dsimp only at h
    cases eo : outsOf ρ 0 fn.io with
    | none =>
      rw [eo] at h
      exact h.elim
    | some outs =>
      rw [eo] at h
      intro c d B' F' H' A2 σ' cn R2 kp xr
      obtain ⟨rfl, f2⟩ := cn.1 rfl
      obtain ⟨h1, h2, h3⟩ := outs_ok fn.io 0 vs outs eo hl (hk kp)
      obtain ⟨A3, R3, sb⟩ := R2.sub (ixT_nd _ _) h1 h2 h3
      exact h c d H' F' A3 f2 R3 xr
  | ok fl ρ =>
    rw [e] at h
    cases fl with
    | nx =>
      dsimp only at h
      cases eo : outsOf ρ 0 fn.io with
      | none =>
        rw [eo] at h
        exact h.elim
      | some outs =>
        rw [eo] at h
        intro B' F' H' A2 σ' cn R2 kp
        obtain ⟨rfl, f2⟩ := cn.1 rfl
        obtain ⟨h1, h2, h3⟩ := outs_ok fn.io 0 vs outs eo hl (hk kp)
        obtain ⟨A3, R3, sb⟩ := R2.sub (ixT_nd _ _) h1 h2 h3
        exact h .non H' F' A3 [] f2 R3 (.sh .non) Own.nil
    | ret o =>
      dsimp only at h
      cases eo : outsOf ρ 0 fn.io with
      | none =>
        rw [eo] at h
        exact h.elim
      | some outs =>
        rw [eo] at h
        intro B' F' H' A2 σ' v L cn R2 kp ro ow
        obtain ⟨rfl, f2⟩ := cn.1 rfl
        obtain ⟨h1, h2, h3⟩ := outs_ok fn.io 0 vs outs eo hl (hk kp)
        obtain ⟨A3, R3, sb⟩ := R2.sub (ixT_nd _ _) h1 h2 h3
        exact h v H' F' A3 L f2 R3 ro (ow.sub sb)
end
end WD

/-! WD, part 15: all defs of a text, and its law. -/
namespace WD
open PySem PySem.Spec PyProof.Rows L2
/-- a def of the text: its name, its qualified name, its statement, its names by slot, its parameters, its mini code -/
structure Dsc where
  x : Str
  qual : Str
  st : Stmt
  N : List Str
  ps : List Str
  fn : Fn
def fsB (N P : List Str) (sc : Scope) : Bool := decide (sc.kind = .function) && !sc.isCoroutine && !sc.isGenerator && decide N.Nodup && decide (N.take P.length = P) && (P.all fun x => locB sc x) && (sc.names.all fun y => decide (y.2 ≠ .free))
theorem fsB_ok {N P : List Str} {sc : Scope} (h : fsB N P sc = true) : FnScope N P sc := by
  unfold fsB at h
  simp only [Bool.and_eq_true, decide_eq_true_eq, Bool.not_eq_true', List.all_eq_true] at h
  obtain ⟨⟨⟨⟨⟨⟨h1, h2⟩, h3⟩, h4⟩, h5⟩, h6⟩, h7⟩ := h
  exact ⟨h1, h2, h3, h4, h5, fun x hx => locB_ok (h6 x hx), fun y hy => h7 y hy⟩
def chkD (g : GT) (top : Bool) (d : Dsc) : Bool := fsB d.N d.ps (defScope d.st) && decide (d.fn.np = d.fn.io.length) && decide (d.ps.length = d.fn.np) && decide (d.fn.ns = d.N.length) && chkSs g d.N (defScope d.st) top (ixT 0 d.fn.io) d.fn.body (defBody d.st)
/-- the defs' names stand at their places -/
def fnsB (g : GT) (L : List Dsc) : Bool := g.fns.all fun q => match L[q.2]? with
  | some d => decide (d.x = q.1)
  | none => false
theorem fnsB_ok {g : GT} {L : List Dsc} (h : fnsB g L = true) {x : Str} {f : Nat} (e : g.fns.lookup x = some f) : ∃ d, L[f]? = some d ∧ d.x = x := by
  have hm : (x, f) ∈ g.fns := by
    have : ∀ l : List (Str × Nat), l.lookup x = some f → (x, f) ∈ l := by
      intro l
      induction l with
      | nil => intro e; cases e
      | cons a l ih =>
        intro e
        obtain ⟨y, k⟩ := a
        rw [List.lookup_cons] at e
        split at e
        · rename_i hb
          cases e
          rw [beq_iff_eq.mp hb]
          exact List.mem_cons_self
        · exact List.mem_cons_of_mem _ (ih e)
    exact this _ e
  have q := List.all_eq_true.mp h _ hm
  dsimp only at q
  split at q
  · rename_i d e2
    exact ⟨d, e2, of_decide_eq_true q⟩
  · cases q
structure RtF (K : PySem.W.Frag) (mg : Str → Option Value) (d : Dsc) (a : Addr) (fd : FuncData) : Prop where
  fn : Fun K d.x d.qual d.st a fd
  bd : Binds K fd d.ps []
  mg : mg d.x = some (.ref a)
inductive AllR (K : PySem.W.Frag) (mg : Str → Option Value) : List Dsc → Prop
  | nil : AllR K mg []
  | cons {d : Dsc} {L : List Dsc} (a : Addr) (fd : FuncData) : RtF K mg d a fd → AllR K mg L → AllR K mg (d :: L)
theorem AllR.get {K : PySem.W.Frag} {mg : Str → Option Value} : ∀ {L : List Dsc} {i : Nat} {d : Dsc}, AllR K mg L → L[i]? = some d → ∃ a fd, RtF K mg d a fd
  | _, _, _, .nil, e => by simp at e
  | _, 0, _, .cons a fd h _, e => by
    simp at e
    subst e
    exact ⟨a, fd, h⟩
  | _, i + 1, _, .cons _ _ _ r, e => AllR.get (i := i) r (by simpa using e)
/-- what the top leaves, but for the defs -/
structure RtG (p : Pm) (g : GT) (mg : Str → Option Value) : Prop where
  cns : ∀ x i, g.cns.lookup x = some i → ∃ t, mg x = some (.int i t)
  bis : ∀ x, x ∈ g.bis → mg x = none
  excs : ∀ x C, g.excs.lookup x = some C → mg x = some (.ref (p.XA C)) ∧ PySem.W.keepIn p.K (.ref (p.XA C)) = true ∧
    PySem.W.excIn p.K (p.XA C) [.type "ValueError", .type "Exception", .type "BaseException", .type "object"] "ValueError.__new__" = true ∧ PySem.W.subIn p.K (.ref (p.XA C)) (.type "BaseException") = some true ∧ PySem.W.typeIn p.K (.ref (p.XA C)) = some (.type "type")
def fnsOf (L : List Dsc) : List Fn := L.map (·.fn)
section
variable {p : Pm} {g : GT} {P : Program} {w : World} {mg : Str → Option Value} {base : Heap} {L : List Dsc} {Nf : Nat}
theorem clOf_io (n f : Nat) {d : Dsc} (e : L[f]? = some d) : (clOf (fnsOf L) Nf n).io f = d.fn.io := by
  have e2 : (fnsOf L)[f]? = some d.fn := by
    unfold fnsOf
    rw [List.getElem?_map, e]
    rfl
  cases n <;> (show (match (fnsOf L)[f]? with | some fn => fn.io | none => []) = _; rw [e2])
theorem clOf_run (n f : Nat) {d : Dsc} (e : L[f]? = some d) (os : List O) : (clOf (fnsOf L) Nf (n + 1)).run f os = runF (clOf (fnsOf L) Nf n) Nf d.fn os := by
  have e2 : (fnsOf L)[f]? = some d.fn := by
    unfold fnsOf
    rw [List.getElem?_map, e]
    rfl
  show (match (fnsOf L)[f]? with | some fn => runF (clOf (fnsOf L) Nf n) Nf fn os | none => .fail) = _
  rw [e2]
theorem mods_of (hg : fnsB g L = true) (G : RtG p g mg) (hr : AllR p.K mg L) {n : Nat} (h : ∀ f d a fd, L[f]? = some d → RtF p.K mg d a fd → FnOk P w p.K mg base (L2.CX P w) (n + 1) a fd d.ps (spF p d.fn.io.length d.fn.io ((clOf (fnsOf L) Nf n).run f))) : Mods p g (clOf (fnsOf L) Nf n) P w mg base (n + 1) :=
  ⟨fun x f e => by
    obtain ⟨d, e1, e2⟩ := fnsB_ok hg e
    obtain ⟨a, fd, r⟩ := hr.get e1
    refine ⟨a, fd, d.ps, by rw [← e2]; exact r.mg, r.fn.kp, ?_, r.bd⟩
    rw [clOf_io n f e1]
    exact h f d a fd e1 r, G.cns, G.bis, G.excs⟩
/-- all defs keep their promises, at any depth of calls -/
theorem all_ok (hk : g.kinds = []) (hi : g.isx = []) (hg : fnsB g L = true) (hc : L.all (chkD g false) = true) (G : RtG p g mg) (hr : AllR p.K mg L) : ∀ (n f : Nat) (d : Dsc) (a : Addr) (fd : FuncData), L[f]? = some d → RtF p.K mg d a fd →
    FnOk P w p.K mg base (L2.CX P w) (n + 1) a fd d.ps (spF p d.fn.io.length d.fn.io ((clOf (fnsOf L) Nf n).run f)) := by
  intro n
  induction n with
  | zero =>
    intro f d a fd e r
    have hd := List.all_eq_true.mp hc d (List.mem_of_getElem? e)
    unfold chkD at hd
    simp only [Bool.and_eq_true, decide_eq_true_eq] at hd
    refine ⟨fun vs H Q E h => by rw [h.1, hd.1.1.2, hd.1.1.1.2], fun A outer s H args us vs Q E _ _ _ _ h => ?_⟩
    obtain ⟨_, _, _, _, _, _, _, h⟩ := h
    exact h.elim
  | succ n ih =>
    intro f d a fd e r
    have hd := List.all_eq_true.mp hc d (List.mem_of_getElem? e)
    unfold chkD at hd
    simp only [Bool.and_eq_true, decide_eq_true_eq] at hd
    obtain ⟨⟨⟨⟨h1, h2⟩, h3⟩, h4⟩, h5⟩ := hd
    have M : Mods p g (clOf (fnsOf L) Nf n) P w mg base (n + 1) := mods_of hg G hr ih
    have := fn_ok (Nf := Nf) M hk hi r.fn (fsB_ok h1) h2 h3 h4 h5
    refine this.imp fun vs H Q E h => ?_
    obtain ⟨h6, B, F, G', os, A, R, h⟩ := h
    refine ⟨h6, B, F, G', os, A, R, ?_⟩
    rw [clOf_run n f e] at h
    exact h
/-- the law's promise -/
def spLaw (K : PySem.W.Frag) (T : List (Addr × Str)) : Sp := fun vs H Q _ => ∃ (a : Addr) (ns : List Int), vs = [.ref a] ∧ SqL K H a (ns.map V.int) ∧ ns.length ≤ 63 ∧ LamX.Tabs T H ∧ ∀ H', Q (.bl true) H'
theorem law_start {K : PySem.W.Frag} {H : Hp} {a : Addr} {xs : List V} (h : SqL K H a xs) : ∃ F : Hp, Same F H ∧ (∀ b o, F b = some o → b = a ∧ NT o) ∧ SqB K (Lv H) F a xs := by
  rcases h with (h | ⟨o, h⟩) | h
  · refine ⟨upd (fun _ => none) a (.lst xs), fun b o e => ?_, fun b o e => ?_, .inl (.inl upd_same), .inl ⟨upd_same, _, h, nt_lst _⟩⟩
    · by_cases z : b = a
      · subst z
        rw [upd_same] at e
        cases e
        exact h
      · rw [upd_ne z] at e
        cases e
    · by_cases z : b = a
      · subst z
        rw [upd_same] at e
        cases e
        exact ⟨rfl, nt_lst _⟩
      · rw [upd_ne z] at e
        cases e
  · refine ⟨upd (fun _ => none) a (.frz o (.lst xs)), fun b o e => ?_, fun b o e => ?_, .inl (.inr ⟨o, upd_same⟩), .inr (.inl ⟨o, upd_same⟩)⟩
    · by_cases z : b = a
      · subst z
        rw [upd_same] at e
        cases e
        exact h
      · rw [upd_ne z] at e
        cases e
    · by_cases z : b = a
      · subst z
        rw [upd_same] at e
        cases e
        exact ⟨rfl, fun ps z => by cases z⟩
      · rw [upd_ne z] at e
        cases e
  · exact ⟨fun _ => none, fun b o e => (nomatch e), fun b o e => (nomatch e), .inr h, .inr (.inr fun _ => .inr h)⟩
/-- the law's body, in its context -/
theorem law_body {g' : GT} {cl : Cl} {d : Dsc} {top : Bool} {X : Cx} {W : XK} {vs : List V} {H : Hp} {Q : VK} {E : XK} (h1 : FnScope d.N d.ps (defScope d.st)) (h3' : d.ps.length = 1) (h4 : d.fn.ns = d.N.length) (C : CtxS p g' cl d.N X (defScope d.st) W) (h5 : chkSs g' d.N (defScope d.st) top (ixT 0 [false]) d.fn.body (defBody d.st) = true)
    (hev : ∀ ns : List Int, ns.length ≤ 63 → ∃ ρ, evS cl Nf d.fn.body (some (.sh (.scr ns)) :: List.replicate (d.fn.ns - 1) none) = .ok (.ret (.sh (.bl true))) ρ) (h : spLaw p.K p.T vs H Q E) :
    ∃ t, PSs X (defBody d.st) t ∧ t { nx := fun _ H' => Q .non H', rt := Q } (L2.start d.N vs) H := by
  refine ⟨_, (okS_all (p := p) (top := top) (prot := ixT 0 [false]) (Nf := Nf) d.fn.body).2 _ _ W _ C h5, ?_⟩
  obtain ⟨b, ns, rfl, hs, hl, hT, q⟩ := h
  obtain ⟨F0, f1, f2, f3⟩ := law_start hs
  obtain ⟨ρ, e⟩ := hev ns hl
  have hTab : ∀ b o, F0 b = some o → ∀ q ∈ p.T, q.1 ≠ b := fun b o e q hq z => by
    obtain ⟨ps, e2, _⟩ := hT q hq
    have e3 := f1 b o e
    rw [← z, e2] at e3
    cases e3
    exact (f2 b _ e).2 _ rfl
  refine ⟨Lv H, F0, fun b => if b ∈ p.T.map Prod.fst then H b else none, some (.sh (.scr ns)) :: List.replicate (d.fn.ns - 1) none, fun _ => [], ⟨f1, ⟨fun b x e n => ?_, hT, fun q hq => ?_⟩, fun b o e => ⟨?_, (f2 b o e).2⟩, fun b h => h, ?_, fun i o ei => ?_, fun _ => List.nodup_nil, fun _ _ _ h _ => absurd h List.not_mem_nil, fun _ _ h => absurd h List.not_mem_nil⟩, ?_⟩
  · rw [if_neg] at e
    · cases e
    · intro hm
      obtain ⟨q, hq, z⟩ := List.mem_map.mp hm
      exact n q hq z
  · obtain ⟨ps, e2, _⟩ := hT q hq
    exact ⟨_, by rw [if_pos (List.mem_map.mpr ⟨q, hq, rfl⟩)]; exact e2⟩
  · rw [if_neg]
    intro hm
    obtain ⟨q, hq, z⟩ := List.mem_map.mp hm
    exact hTab b o e q hq z
  · unfold L2.start
    have hp := congrArg List.length h1.pre
    rw [List.length_take, h3'] at hp
    simp only [List.length_append, List.length_map, List.length_replicate, List.length_cons, List.length_nil, h4]
    omega
  · have hn : ∀ (n i : Nat) (o : O), getS (List.replicate n none) i ≠ some o := by
      intro n
      induction n with
      | zero => intro i o h; cases h
      | succ n ih =>
        intro i o h
        cases i with
        | zero => cases h
        | succ i => exact ih i o h
    cases i with
    | zero =>
      cases ei
      exact ⟨.ref b, rfl, .sh (.scr f3)⟩
    | succ i => exact absurd ei (hn _ _ _)
  · rw [e]
    intro B' F' H' A' σ' v L _ _ _ ro _
    cases ro.shI.1
    exact q H'
theorem law_ok (hk : g.kinds = []) (hi : g.isx = []) (hg : fnsB g L = true) (hc : L.all (chkD g false) = true) (G : RtG p g mg) (hr : AllR p.K mg L) {top : Bool} {d : Dsc} {a : Addr} {fd : FuncData} {n : Nat} (hd : chkD g top d = true) (hio : d.fn.io = [false]) (r : Fun p.K d.x d.qual d.st a fd)
    (hev : ∀ ns : List Int, ns.length ≤ 63 → ∃ ρ, evS (clOf (fnsOf L) Nf n) Nf d.fn.body (some (.sh (.scr ns)) :: List.replicate (d.fn.ns - 1) none) = .ok (.ret (.sh (.bl true))) ρ) :
    FnOk P w p.K mg base (L2.CX P w) (n + 2) a fd d.ps (spLaw p.K p.T) := by
  unfold chkD at hd
  simp only [Bool.and_eq_true, decide_eq_true_eq] at hd
  obtain ⟨⟨⟨⟨h1, h2⟩, h3⟩, h4⟩, h5⟩ := hd
  rw [hio] at h2 h5
  have h3' : d.ps.length = 1 := by rw [h3, h2]; rfl
  have M : Mods p g (clOf (fnsOf L) Nf n) P w mg base (n + 1) := mods_of hg G hr (all_ok hk hi hg hc G hr n)
  refine r.okX (fsB_ok h1) (fun vs H Q E h => by obtain ⟨_, _, rfl, _⟩ := h; rw [h3']; rfl) (fun cdv A outer s H vs Q E hr h => ?_)
  exact law_body (fsB_ok h1) h3' h4 (M.ctx (outer := outer) (H := H) (W := E) (fsB_ok h1) hr (Nat.le_refl _) hi fun z => absurd hk z) h5 hev h
end
end WD

/-! WD, part 15a: the def that tells an error's kind. -/
namespace WD
open PySem PySem.Spec PyProof.Rows L2
def kwords : List Str := ["BadWindow", "BadPlan", "BadDelays", "BadWorks", "NoPats", "NoPlace", "BadTasks", "BadBeat", "TooMuch"]
def kStr : List Str → E
  | [] => .nil
  | x :: r => .cons (.cstr x) (kStr r)
/-- the suite, by what isinstance says -/
def kcB (b1 b2 b3 b4 b5 b6 b7 b8 b9 : Bool) : S := .seq (.set 2 (.lst (.cons (.isx 1 "BadWindow" b1) (.cons (.isx 1 "BadPlan" b2) (.cons (.isx 1 "BadDelays" b3) (.cons (.isx 1 "BadWorks" b4) .nil))))))
  (.seq (.set 2 (.bin .add (.var 2) (.lst (.cons (.isx 1 "NoPats" b5) (.cons (.isx 1 "NoPlace" b6) (.cons (.isx 1 "BadTasks" b7) (.cons (.isx 1 "BadBeat" b8) .nil)))))))
  (.seq (.app (.s 2) (.isx 1 "TooMuch" b9))
  (.seq (.set 3 (.lst (kStr kwords)))
  (.seq (.ite (.bop false (.cons (.cmp .ne (.cntT 2) (.cint 1)) (.cons (.not (.isx 1 "ValueError" true)) .nil))) (.seq (.ret (.cstr "other")) .skip) .skip)
  (.seq (.ret (.ix (.var 3) (.idxT 2))) .skip)))))
/-- the suite for an error of the class C -/
def kindCode (C : Str) : S := kcB (decide (("BadWindow" : Str) = C)) (decide (("BadPlan" : Str) = C)) (decide (("BadDelays" : Str) = C)) (decide (("BadWorks" : Str) = C)) (decide (("NoPats" : Str) = C)) (decide (("NoPlace" : Str) = C)) (decide (("BadTasks" : Str) = C)) (decide (("BadBeat" : Str) = C)) (decide (("TooMuch" : Str) = C))
def isxT (C : Str) : List (Nat × Str × Bool) := (kwords.map fun x => (1, x, decide (x = C))) ++ [(1, ("ValueError" : Str), true)]
def gS (C : Str) : GT := { fns := [], cns := [], bis := [], excs := [], kinds := [], isx := isxT C, calm := false }
def kN : List Str := ["_law_work", "e", "_law_kinds", "_law_words"]
def cl0 : Cl := ⟨fun _ => [], fun _ _ => .fail⟩
def kindChk (st : Stmt) (nm : List (Nat × Str)) : Bool := match defBody st with
  | [.Try [.Return (some (.Call (.Name a _) [] [] _)) _] [.ExceptHandler (some (.Name x _)) (some e) (b0 :: suite) _] [] [] _] =>
    decide (a = "_law_work") && decide (x = "DogError") && decide (e = "e") && fsB kN ["_law_work"] (defScope st) && glB (defScope st) "DogError" && decide ((defScope st).names.lookup ("e" : Str) = some NameKind.local) && visB (defScope st) "_law_work" &&
      (kwords.all fun x => glB (defScope st) x) && glB (defScope st) "ValueError" && glB (defScope st) "isinstance" && nm.all fun q => chkSs (gS q.2) kN (defScope st) false [] (kindCode q.2) (b0 :: suite)
  | _ => false
structure KindX (p : Pm) (mg : Str → Option Value) (nm : List (Nat × Str)) (CS : Addr) : Prop where
  dog : mg "DogError" = some (.ref CS)
  isi : mg "isinstance" = none
  val : mg "ValueError" = none
  one : ∀ C s, nm.lookup C = some s → PySem.W.exmOne p.K (.ref (p.XA C)) (.ref CS) = some true ∧ ExcC p.K (p.XA C) ∧ (∀ x ∈ kwords, ∃ a, mg x = some (.ref a) ∧ PySem.W.kitOne p.K (.ref (p.XA C)) (.ref a) = some (decide (x = s))) ∧ PySem.W.kitOne p.K (.ref (p.XA C)) (.type "ValueError") = some true
theorem lookup_memN {α : Type} {x : Nat} {a : α} : ∀ {l : List (Nat × α)}, l.lookup x = some a → (x, a) ∈ l
  | [], e => by cases e
  | (y, k) :: l, e => by
    rw [List.lookup_cons] at e
    split at e
    · rename_i hb
      cases e
      rw [beq_iff_eq.mp hb]
      exact List.mem_cons_self
    · exact List.mem_cons_of_mem _ (lookup_memN e)
/-- one isinstance of the suite -/
theorem pe_isx {X : Cx} {a D : Addr} {oe : Obj} {pn : List (Addr × Obj)} {x : Str} {c : V} {u : Value} {b : Bool} {p1 p2 p3 p4 : Pos} (C : ExcC X.K D) (hz : Zc (.ref D) none oe) (hf : ∃ vs, oe.data = .fields vs) (hN : X.N[1]? = some ("e" : Str)) (hv : Vis X.env.scope "e")
    (hg : Gl X "isinstance") (hm : X.mg "isinstance" = none) (hx : PE (X.suite a ((a, oe) :: pn)) (.Name x p3) (tC c)) (hc : ∀ w, RelV c w → w = u) (hk : PySem.W.kitOne X.K (.ref D) u = some b) :
    PE (X.suite a ((a, oe) :: pn)) (.Call (.Name "isinstance" p1) [.Name "e" p2, .Name x p3] [] p4) (fun σ H Q => σ[1]? = some (some (.ref a)) ∧ Q (.bl b) H) :=
  peI (pe_callB (X := X.suite a ((a, oe) :: pn)) (call_isE C hz hf) hg hm (by decide +kernel) (pa_cons (pe_var (X := X.suite a ((a, oe) :: pn)) (i := 1) hN hv (by decide) (by decide)) (pa_cons hx pa_nil)) (by decide) (by decide) (by rfl) (by rfl)) fun σ H Q ⟨h1, h2⟩ => ⟨.ref a, h1, c, u, b, rfl, hc, hk, h2⟩
open Classical in
theorem kind_gives {p : Pm} {nm : List (Nat × Str)} {CS : Addr} {X : Cx} {st : Stmt} {g : Addr} {cdg : Value} {q : Str} (hK : X.K = p.K) (hu : X.A.units + 200 < cLine) (KX : KindX p X.mg nm CS) (hc : kindChk st nm = true)
    (hev : ∀ s ∈ nm.map Prod.snd, ∃ ρ, evS cl0 0 (kindCode s) [none, some (.sh .opq), none, none] = .ok (.ret (.sh (.str s))) ρ) :
    LamX.GivesTo X kN "_law_kind" (defScope st) g cdg (defBody st) "_law_work" q (TTkind p nm) := by
  unfold kindChk at hc
  split at hc
  case h_2 => cases hc
  rename_i a p1 p2 p3 x p4 e b0 suite p5 p6 eb
  simp only [Bool.and_eq_true, decide_eq_true_eq] at hc
  obtain ⟨⟨⟨⟨⟨⟨⟨⟨⟨⟨rfl, rfl⟩, rfl⟩, h1⟩, h2⟩, h3⟩, h4⟩, h5⟩, h6⟩, h7⟩, h8⟩ := hc
  have S := fsB_ok h1
  rw [eb]
  intro f c' s H Q tl act hco h
  have hgl : Gl (cxOf C8.CX0 X.prog X.w X.K X.mg X.base kN "_law_kind" (defScope st) g cdg X.A X.stack s H C8.E0).nox "DogError" := (glB_ok h2).1
  refine ⟨_, pss_one (ps_try_as (X := (cxOf C8.CX0 X.prog X.w X.K X.mg X.base kN "_law_kind" (defScope st) g cdg X.A X.stack s H C8.E0).nox) (c := .ref CS) (i := 1)
      (tb := fun W D σ H => ∃ Ech : XK, (∀ cls d σ' H', Ech cls d H' → W cls d σ' H') ∧ σ[0]? = some (some (.ref f)) ∧ H c' = some (LamX.CodeO c' q) ∧ tl Ech H D.rt)
      (ts := fun a cls d D σ H => ∃ C s, nm.lookup C = some s ∧ cls = .ref (p.XA C) ∧ d = none ∧ (σ.length = 4 → tS { p with OA := a } E0 false [] (evS cl0 0 (kindCode s)) D σ H))
      rfl rfl S.nd rfl h3 ⟨hgl, by decide, .inl KX.dog⟩ LamX.takes0 (fun W pn xe tk _ => ?_) (fun a oe cls d pn hz hf => ?_)), ?_⟩
  · refine ⟨fun pins s' σ H' D I h' => ?_⟩
    obtain ⟨Ech, hW, h1, h2, h3⟩ := h'
    have hp := act W pn xe Ech p1 p2 tk hW
    have hq := pss_one (ps_ret (pos := p3) hp)
    exact hq.run pins s' σ H' D I ⟨h1, h2, h3⟩
  · refine ⟨fun pins s' σ H' D I h' => ?_⟩
    obtain ⟨C, w, hl, rfl, rfl, h'⟩ := h'
    obtain ⟨k1, k2, k3, k4⟩ := KX.one C w hl
    have hm := List.all_eq_true.mp h8 _ (lookup_memN hl)
    have hlen : σ.length = 4 := I.len
    refine ((okS_all (p := { p with OA := a }) (g := gS w) (cl := cl0) (N := kN) (top := false) (prot := []) (Nf := 0) (kindCode w)).2 _ _ E0 _ ?_ hm).run pins s' σ H' D I (h' hlen)
    refine { K := hK, nN := rfl, nd := S.nd, sc := rfl, calm := (fun z => nomatch z), pas := passL, fns := (fun x f z => nomatch z), cns := (fun x f z => nomatch z), bis := (fun x z => nomatch z), hu := ?_, kd := (fun z => absurd rfl z), ix := ?_, fn := (fun _ => rfl), kind := S.kind, po := PassesOwn.never, tk := LamX.takes0, excs := (fun x f z => nomatch z) }
    · show X.A.units + 3 + 64 < cLine
      omega
    · intro i x b hi
      rcases List.mem_append.mp hi with hi | hi
      · obtain ⟨y, hy, z⟩ := List.mem_map.mp hi
        cases z
        obtain ⟨ax, e1, e2⟩ := k3 _ hy
        refine ⟨"e", rfl, fun q1 q2 q3 q4 => pe_isx (X := (cxOf C8.CX0 X.prog X.w X.K X.mg X.base kN "_law_kind" (defScope st) g cdg X.A X.stack s H C8.E0).nox) (c := .ref ax) (u := .ref ax) (by show ExcC X.K _; rw [hK]; exact k2) hz hf rfl (.inl h3) (glB_ok h7).1 KX.isi (pe_glob (glB_ok (List.all_eq_true.mp h5 _ hy)).1 e1 rfl (glB_ok (List.all_eq_true.mp h5 _ hy)).2.1) (fun w hw => hw) (by show PySem.W.kitOne X.K _ _ = _; rw [hK]; exact e2)⟩
      · rw [List.mem_singleton] at hi
        cases hi
        exact ⟨"e", rfl, fun q1 q2 q3 q4 => pe_isx (X := (cxOf C8.CX0 X.prog X.w X.K X.mg X.base kN "_law_kind" (defScope st) g cdg X.A X.stack s H C8.E0).nox) (c := .ty "ValueError") (u := .type "ValueError") (by show ExcC X.K _; rw [hK]; exact k2) hz hf rfl (.inl h3) (glB_ok h7).1 KX.isi
          ⟨fun pins s σ H Q I q => ld_blt I (glB_ok h6).1 KX.val (by decide +kernel) ⟨.ty "ValueError", H, I, rfl, q⟩ (by decide) (by decide)⟩ (fun w hw => hw) (by show PySem.W.kitOne X.K _ _ = _; rw [hK]; exact k4)⟩
  · refine ⟨_, fun cls d σ' H' hE => ?_, rfl, hco, h⟩
    obtain ⟨C, w, hl, rfl, rfl, hT, hQ⟩ := hE
    obtain ⟨k1, k2, k3, k4⟩ := KX.one C w hl
    refine ⟨true, by show PySem.W.exmOne X.K _ _ = _; rw [hK]; exact k1, fun _ a ha => ⟨C, w, hl, rfl, rfl, fun hlen => ?_⟩, fun z => by cases z⟩
    obtain ⟨ρ, e⟩ := hev w (List.mem_map.mpr ⟨_, lookup_memN hl, rfl⟩)
    have hG : ∀ b o, H' b = some o → NT o → (if (∃ o, H' b = some o ∧ NT o) ∨ b ∈ p.T.map Prod.fst then H' b else none) = some o := fun b o e n => by
      rw [if_pos (.inl ⟨o, e, n⟩)]
      exact e
    refine ⟨fun _ => False, fun _ => none, fun b => if (∃ o, H' b = some o ∧ NT o) ∨ b ∈ p.T.map Prod.fst then H' b else none, [none, some (.sh .opq), none, none], fun _ => [], ⟨fun b o z => (nomatch z), ⟨fun b o z n => ?_, hT, fun q hq => ?_⟩, fun b o z => (nomatch z), fun b z => z.elim, hlen, fun i o z => ?_, fun _ => List.nodup_nil, fun _ _ _ z _ => absurd z List.not_mem_nil, fun _ _ z => absurd z List.not_mem_nil⟩, ?_⟩
    · split at z
      · rename_i hb
        rcases hb with ⟨o', e1, e2⟩ | hb
        · rw [e1] at z
          cases z
          exact ⟨e1, e2⟩
        · obtain ⟨q, hq, z2⟩ := List.mem_map.mp hb
          exact absurd z2 (n q hq)
      · cases z
    · obtain ⟨ps, e1, _⟩ := hT q hq
      exact ⟨_, by rw [if_pos (.inr (List.mem_map.mpr ⟨q, hq, rfl⟩))]; exact e1⟩
    · match i, z with
      | 1, z =>
        cases z
        refine ⟨.ref a, ?_, .sh .opq⟩
        have : (σ'.set 1 (some (.ref a))).length = 4 := hlen
        rw [List.length_set] at this
        rw [List.getElem?_set_self (by omega)]
      | 0, z => cases z
      | 2, z => cases z
      | 3, z => cases z
    · rw [e]
      intro B' F' H'' A' σ'' v L _ R _ ro _
      cases ro.shI.1
      refine hQ H'' (fun b o e n => ?_) R.lg.tabs
      refine (R.lg.same b o (hG b o e n) fun q hq z => ?_).1
      obtain ⟨ps, e1, _⟩ := hT q hq
      rw [z, e] at e1
      cases e1
      exact n _ rfl
end WD

/-! WD, part 15b: a law that hands lambdas to the def that tells an error's kind. -/
namespace WD
open PySem PySem.Spec PyProof.Rows L2
section
variable {p : Pm} {g : GT} {P : Program} {w : World} {mg : Str → Option Value} {base : Heap} {L : List Dsc} {Nf : Nat}
/-- the def's own object -/
structure RtK (K : PySem.W.Frag) (mg : Str → Option Value) (st : Stmt) (a : Addr) : Prop where
  ex : ∃ (oc : Value) (od : Option Addr) (kV doc pm : Value) (an : Option Addr) (cdv ct : Value) (osl : Array (Option Value)),
    K.lookup a = some ⟨oc, od, .func (PySem.W.fnOf "_law_kind" "_law_kind" (defArgs st) (defBody st) (defScope st) .none kV doc pm an cdv ct), osl⟩ ∧ PySem.W.codeIn K cdv "_law_kind" = true ∧
      L2.Binds K (PySem.W.fnOf "_law_kind" "_law_kind" (defArgs st) (defBody st) (defScope st) .none kV doc pm an cdv ct) ["_law_work"] []
  kp : PySem.W.keepIn K (.ref a) = true
  mg : mg "_law_kind" = some (.ref a)
theorem kindChk_sc {st : Stmt} {nm : List (Nat × Str)} (h : kindChk st nm = true) : FnScope kN ["_law_work"] (defScope st) ∧ Vis (defScope st) "_law_work" := by
  unfold kindChk at h
  split at h
  · simp only [Bool.and_eq_true, decide_eq_true_eq] at h
    obtain ⟨⟨⟨⟨⟨⟨⟨⟨⟨⟨_, _⟩, _⟩, h1⟩, _⟩, _⟩, h4⟩, _⟩, _⟩, _⟩, _⟩ := h
    exact ⟨fsB_ok h1, (visB_ok h4).1⟩
  · cases h
theorem kindF_of {cl : Cl} {X : Cx} {st : Stmt} {aK c T0 CS : Addr} {q : Str} {k : Nat} (hK : X.K = p.K) (hf : ∀ x f, g.fns.lookup x = some f → ∃ a fd ps, X.mg x = some (.ref a) ∧ PySem.W.keepIn X.K (.ref a) = true ∧ FnOk X.prog X.w X.K X.mg X.base (L2.CX X.prog X.w) k a fd ps (spF p (cl.io f).length (cl.io f) (cl.run f)) ∧ Binds X.K fd ps [])
    (R : RtK X.K X.mg st aK) (KX : KindX p X.mg g.kinds CS) (hc : kindChk st g.kinds = true) (hev : ∀ s ∈ g.kinds.map Prod.snd, ∃ ρ, evS cl0 0 (kindCode s) [none, some (.sh .opq), none, none] = .ok (.ret (.sh (.str s))) ρ)
    (TB : LamX.TabB X.base X.mg c T0) (hcode : X.env.code = .ref c) (hq : X.env.qual ++ "<lambda>" = q) (hT : p.T = [(T0, q)]) (hr : Room (k + 2) X.A) : KindF p g cl X := by
  obtain ⟨oc, od, kV, doc, pm, an, cdv, ct, osl, lk, hcg, hb⟩ := R.ex
  obtain ⟨S, hv⟩ := kindChk_sc hc
  refine ⟨k, hf, ?_, fun {ps body scope t p1 p2 p3} hgl hL hdef hbind hbody => ?_⟩
  · have := hr.un
    omega
  · refine LamX.pe_lamcall (T := p.T) (c := c) (P := T0) (k := k) (Ng := kN) hgl R.mg R.kp lk hcg hb S rfl hv (kind_gives hK ?_ KX hc hev) TB hcode ?_ ?_ hr hL hdef hbind hbody
    · have := hr.un
      omega
    · rw [hT, hq]
      exact List.mem_singleton_self _
    · intro z hz _
      rw [hT, List.mem_singleton] at hz
      rw [hz, hq]
theorem law_okK {nm : List (Nat × Str)} (hk : g.kinds = []) (hi : g.isx = []) (hg : fnsB g L = true) (hc : L.all (chkD g false) = true) (G : RtG p g mg) (hr : AllR p.K mg L) {top : Bool} {d : Dsc} {a aK c T0 CS : Addr} {n : Nat} {st : Stmt}
    (hd : chkD { g with kinds := nm } top d = true) (hio : d.fn.io = [false]) {oc : Value} {od : Option Addr} {kV doc pm : Value} {an : Option Addr} {ct : Value} {osl : Array (Option Value)}
    (lk : p.K.lookup a = some ⟨oc, od, .func (PySem.W.fnOf d.x d.qual (defArgs d.st) (defBody d.st) (defScope d.st) .none kV doc pm an (.ref c) ct), osl⟩) (hcd : PySem.W.codeIn p.K (.ref c) d.qual = true)
    (R : RtK p.K mg st aK) (KX : KindX p mg nm CS) (hck : kindChk st nm = true) (hke : ∀ s ∈ nm.map Prod.snd, ∃ ρ, evS cl0 0 (kindCode s) [none, some (.sh .opq), none, none] = .ok (.ret (.sh (.str s))) ρ)
    (TB : LamX.TabB base mg c T0) (hT : p.T = [(T0, d.qual ++ ".<locals>." ++ "<lambda>")])
    (hev : ∀ ns : List Int, ns.length ≤ 63 → ∃ ρ, evS (clOf (fnsOf L) Nf n) Nf d.fn.body (some (.sh (.scr ns)) :: List.replicate (d.fn.ns - 1) none) = .ok (.ret (.sh (.bl true))) ρ) :
    FnOk P w p.K mg base (L2.CX P w) (n + 4) a (PySem.W.fnOf d.x d.qual (defArgs d.st) (defBody d.st) (defScope d.st) .none kV doc pm an (.ref c) ct) d.ps (spLaw p.K p.T) := by
  unfold chkD at hd
  simp only [Bool.and_eq_true, decide_eq_true_eq] at hd
  obtain ⟨⟨⟨⟨h1, h2⟩, h3⟩, h4⟩, h5⟩ := hd
  rw [hio] at h2 h5
  have h3' : d.ps.length = 1 := by rw [h3, h2]; rfl
  have M0 : Mods p g (clOf (fnsOf L) Nf n) P w mg base (n + 1) := mods_of hg G hr (all_ok hk hi hg hc G hr n)
  have M : Mods p { g with kinds := nm } (clOf (fnsOf L) Nf n) P w mg base (n + 1) := ⟨M0.fns, M0.cns, M0.bis, M0.excs⟩
  refine fn_of lk hcd (fsB_ok h1) (fun vs H Q E h => by obtain ⟨_, _, rfl, _⟩ := h; rw [h3']; rfl) (fun A outer s H vs Q E hr h => ?_)
  exact law_body (fsB_ok h1) h3' h4 (M.ctx (outer := outer) (H := H) (W := E) (fsB_ok h1) hr (by omega) hi fun z => kindF_of rfl M.fns R KX hck hke TB rfl rfl hT hr) h5 hev h
end
end WD
namespace WD
open PySem PySem.Spec PyProof.Rows L2
theorem lawAtS_of {l : PySem.W.OpenLaw} {w : World} {K : PySem.W.Frag} {mg : Str → Option Value} {fa c T0 : Addr} {h : Heap} {fd : FuncData} {k : Nat} {x q : Str} (hY : h.get? T0 = some { cls := .none, data := .fields #[] }) (hn : K.lookup T0 = none) (X : K.In h) (hh : PySem.W.codeHdIn K c T0 = true)
    (hb : ∀ (s : Shared) (u : Value), BindsTo s fd ⟨[u], []⟩ [(x, u)]) (hF : ∀ base : Heap, K.In base → base.Ns mainGlobals mg → LamX.TabB base mg c T0 → FnOk l.prog w K mg base (L2.CX l.prog w) k fa fd [x] (spLaw K [(T0, q)])) :
    LamX.LawAtS l w K (L2.CX l.prog w) k 63 x mg fa h := by
  refine ⟨fd, [(c, T0)], spLaw K [(T0, q)], fun p hp => ?_, fun p hp => ?_, fun p hp => ?_, hb, fun H a ns h1 _ h2 h3 => ?_, fun base h1 h2 h3 => hF base h1 h2 (h3 _ (List.mem_singleton_self _))⟩
  · rw [List.mem_singleton.mp hp]
    exact hY
  · rw [List.mem_singleton.mp hp]
    exact hn
  · rw [List.mem_singleton.mp hp]
    exact PySem.W.codeHd_of_K X hh
  · refine ⟨a, ns, rfl, h3, h1, fun r hr => ?_, fun _ => rfl⟩
    rw [List.mem_singleton.mp hr]
    exact LamX.TabS.nil (h2 _ (List.mem_singleton_self _))
end WD

/-! WD, part 16: small words for a law's end. -/
namespace WD
open PySem PySem.Spec PyProof.Rows L2
def AllP {α : Type} (f : α → Prop) : List α → Prop
  | [] => True
  | a :: r => f a ∧ AllP f r
theorem AllP.mem {α : Type} {f : α → Prop} : ∀ {l : List α}, AllP f l → ∀ a, a ∈ l → f a
  | _ :: _, ⟨h, _⟩, _, .head _ => h
  | _ :: _, ⟨_, r⟩, _, .tail _ m => AllP.mem r _ m
theorem lookup_mem {α : Type} {x : Str} {a : α} : ∀ {l : List (Str × α)}, l.lookup x = some a → (x, a) ∈ l
  | [], e => by cases e
  | (y, k) :: l, e => by
    rw [List.lookup_cons] at e
    split at e
    · rename_i hb
      cases e
      rw [beq_iff_eq.mp hb]
      exact List.mem_cons_self
    · exact List.mem_cons_of_mem _ (lookup_mem e)
theorem RtG.mk' {p : Pm} {g : GT} {mg : Str → Option Value} (h1 : AllP (fun q : Str × Int => ∃ t, mg q.1 = some (.int q.2 t)) g.cns) (h2 : AllP (fun x => mg x = none) g.bis)
    (h3 : AllP (fun q : Str × Nat => mg q.1 = some (.ref (p.XA q.2)) ∧ PySem.W.keepIn p.K (.ref (p.XA q.2)) = true ∧
    PySem.W.excIn p.K (p.XA q.2) [.type "ValueError", .type "Exception", .type "BaseException", .type "object"] "ValueError.__new__" = true ∧ PySem.W.subIn p.K (.ref (p.XA q.2)) (.type "BaseException") = some true ∧ PySem.W.typeIn p.K (.ref (p.XA q.2)) = some (.type "type")) g.excs) : RtG p g mg :=
  ⟨fun x i h => h1.mem _ (lookup_mem h), fun x h => h2.mem _ h, fun x C h => h3.mem _ (lookup_mem h)⟩
end WD
namespace WD
open PySem PySem.Spec PyProof.Rows L2
theorem AllP.getK {α : Type} {f : Nat × α → Prop} {l : List (Nat × α)} (h : AllP f l) : ∀ C s, l.lookup C = some s → f (C, s) := fun C s e => h.mem _ (lookup_memN e)
end WD

/-! WD, part 17: words for the mathematics. -/
namespace WD
open PySem PySem.Spec PyProof.Rows L2
noncomputable section
@[simp] theorem optC_some {α : Type} (a : α) (f : α → CR) : optC (some a) f = f a := rfl

/-! ### the evaluator's laws, one by one -/
theorem evO_e1 (cl) (i) (ρ) : evO cl (.cint i) ρ = .ok (.sh (.int i)) ρ := by first | (simp only [evO]; done) | (simp only [evO]; rfl)
theorem evO_e2 (cl) (b) (ρ) : evO cl (.cbl b) ρ = .ok (.sh (.bl b)) ρ := by first | (simp only [evO]; done) | (simp only [evO]; rfl)
theorem evO_e3 (cl) (x) (ρ) : evO cl (.cstr x) ρ = .ok (.sh (.str x)) ρ := by first | (simp only [evO]; done) | (simp only [evO]; rfl)
theorem evO_e4 (cl) (ρ) : evO cl .cnon ρ = .ok (.sh .non) ρ := by first | (simp only [evO]; done) | (simp only [evO]; rfl)
theorem evO_e5 (cl) (i) (ρ) : evO cl (.var i) ρ = opt (frzAt ρ i) fun (d, ρ1) => .ok (.sh d) ρ1 := by first | (simp only [evO]; done) | (simp only [evO]; rfl)
theorem evO_e6 (cl) (i) (f) (ρ) : evO cl (.fld i f) ρ = match getS ρ i with
    | some (.sh (.obj _ ns ds)) => opt (lookN ns ds f) fun d => .ok (.sh d) ρ
    | some (.obj C ns os) => opt (lookN ns os f) fun o => opt (frz o) fun d => .ok (.sh d) (setS ρ i (some (.obj C ns (setN ns os f (.sh d)))))
    | _ => .fail := by first | (simp only [evO]; done) | (simp only [evO]; rfl)
theorem evO_e7 (cl) (op) (a) (b) (ρ) : evO cl (.bin op a b) ρ = bnd (opd a (evO cl a) ρ) fun x ρ => bnd (opd b (evO cl b) ρ) fun y ρ => opt (look ρ x) fun d => opt (look ρ y) fun e => opt (binD op d e) fun o => .ok o ρ := by first | (simp only [evO]; done) | (simp only [evO]; rfl)
theorem evO_e8 (cl) (a) (ρ) : evO cl (.neg a) ρ = bnd (evO cl a ρ) fun o ρ => match o with
    | .sh (.int i) => .ok (.sh (.int (-i))) ρ
    | _ => .fail := by first | (simp only [evO]; done) | (simp only [evO]; rfl)
theorem evO_e9 (cl) (op) (a) (b) (ρ) : evO cl (.cmp op a b) ρ = bnd (opd a (evO cl a) ρ) fun x ρ => bnd (opd b (evO cl b) ρ) fun y ρ => opt (look ρ x) fun d => opt (look ρ y) fun e => opt (cmpD op d e) fun k => .ok (.sh (.bl k)) ρ := by first | (simp only [evO]; done) | (simp only [evO]; rfl)
theorem evO_e10 (cl) (a) (ops) (es) (ρ) : evO cl (.chn a ops es) ρ = bnd (opd a (evO cl a) ρ) fun x ρ => bnd (evC cl es ops x ρ) fun k ρ => .ok (.sh (.bl k)) ρ := by first | (simp only [evO]; done) | (simp only [evO]; rfl)
theorem evO_e11 (cl) (a) (ρ) : evO cl (.not a) ρ = asB (evO cl a ρ) fun b ρ => .ok (.sh (.bl (!b))) ρ := by first | (simp only [evO]; done) | (simp only [evO]; rfl)
theorem evO_e12 (cl) (k) (es) (ρ) : evO cl (.bop k es) ρ = bnd (evB cl es k ρ) fun b ρ => .ok (.sh (.bl b)) ρ := by first | (simp only [evO]; done) | (simp only [evO]; rfl)
theorem evO_e13 (cl) (c) (a) (b) (ρ) : evO cl (.ite c a b) ρ = asB (evO cl c ρ) fun k ρ => match k with
    | true => evO cl a ρ
    | false => evO cl b ρ := by first | (simp only [evO]; done) | (simp only [evO]; rfl)
theorem evO_e14 (cl) (es) (ρ) : evO cl (.lst es) ρ = bnd (evPs cl es ρ) fun ps ρ => opt (gives ρ ps) fun (ds, ρ1) => if ds.length ≤ big then .ok (.lst true ds) ρ1 else .fail := by first | (simp only [evO]; done) | (simp only [evO]; rfl)
theorem evO_e15 (cl) (es) (ρ) : evO cl (.tup es) ρ = bnd (evPs cl es ρ) fun ps ρ => opt (gives ρ ps) fun (ds, ρ1) => if ds.length ≤ big then .ok (.sh (.tup ds)) ρ1 else .fail := by first | (simp only [evO]; done) | (simp only [evO]; rfl)
theorem evO_e16 (cl) (a) (i) (ρ) : evO cl (.ix a i) ρ = bnd (opd a (evO cl a) ρ) fun x ρ => bnd (opd i (evO cl i) ρ) fun y ρ => opt (look ρ x) fun d => opt (look ρ y) fun e => opt (ixD d e) fun v => .ok (.sh v) ρ := by first | (simp only [evO]; done) | (simp only [evO]; rfl)
theorem evO_e17 (cl) (a) (lo) (hi) (ρ) : evO cl (.sl a lo hi) ρ = bnd (opd a (evO cl a) ρ) fun x ρ => bnd (partE lo (evO cl lo) ρ) fun l ρ => bnd (partE hi (evO cl hi) ρ) fun h ρ => opt (look ρ x) fun d => opt (slD l h d) fun o => .ok o ρ := by first | (simp only [evO]; done) | (simp only [evO]; rfl)
theorem evO_e18 (cl) (f) (es) (ρ) : evO cl (.call f es) ρ = bnd (evPs cl es ρ) fun ps ρ => doCall cl f ps ρ := by first | (simp only [evO]; done) | (simp only [evO]; rfl)
theorem evO_e19 (cl) (f) (i) (es) (ρ) : evO cl (.mcall f i es) ρ = bnd (opd (.var i) (fun _ => .fail) ρ) fun p ρ => bnd (evPs cl es ρ) fun ps ρ => doCall cl f (p :: ps) ρ := by first | (simp only [evO]; done) | (simp only [evO]; rfl)
theorem evO_e20 (cl) (C) (f) (es) (ρ) : evO cl (.new C f es) ρ = bnd (evPs cl es ρ) fun ps ρ => doNew cl C f ps ρ := by first | (simp only [evO]; done) | (simp only [evO]; rfl)
theorem evO_e21 (cl) (b) (es) (ρ) : evO cl (.bi b es) ρ = bnd (evPs cl es ρ) fun ps ρ => opt (looks ρ ps) fun ds => opt (biD b ds) fun o => .ok o ρ := by first | (simp only [evO]; done) | (simp only [evO]; rfl)
theorem evPs_e1 (cl) (ρ) : evPs cl .nil ρ = .ok [] ρ := by first | (simp only [evPs]; done) | (simp only [evPs]; rfl)
theorem evPs_e2 (cl) (e) (es) (ρ) : evPs cl (.cons e es) ρ = bnd (opd e (evO cl e) ρ) fun p ρ => bnd (evPs cl es ρ) fun ps ρ => .ok (p :: ps) ρ := by first | (simp only [evPs]; done) | (simp only [evPs]; rfl)
theorem evC_e1 (cl) (e) (es) (op) (ops) (x) (ρ) : evC cl (.cons e es) (op :: ops) x ρ = bnd (opd e (evO cl e) ρ) fun y ρ => opt (look ρ x) fun d => opt (look ρ y) fun d' => opt (cmpD op d d') fun k => match ops with
    | [] => .ok k ρ
    | _ => match k with
      | true => evC cl es ops y ρ
      | false => .ok false ρ := by first | (simp only [evC]; done) | (simp only [evC]; rfl)
theorem evB_e1 (cl) (k) (ρ) : evB cl .nil k ρ = .ok k ρ := by first | (simp only [evB]; done) | (simp only [evB]; rfl)
theorem evB_e2 (cl) (e) (es) (k) (ρ) : evB cl (.cons e es) k ρ = asB (evO cl e ρ) fun b ρ => if b = k then evB cl es k ρ else .ok b ρ := by first | (simp only [evB]; done) | (simp only [evB]; rfl)
theorem evI_e1 (cl) (es) (ρ) : evI cl (.rng es) ρ = bnd (evPs cl es ρ) fun ps ρ => opt (looks ρ ps) fun ds => opt (ranges ds) fun (a, b, c) => opt (rngI a b c) fun items => .ok items ρ := by first | (simp only [evI]; done) | (simp only [evI]; rfl)
theorem evI_e2 (cl) (e) (ρ) : evI cl (.enu e) ρ = bnd (evO cl e ρ) fun o ρ => opt (frz o) fun d => opt (seqLD d) fun xs => .ok (enumD 0 xs) ρ := by first | (simp only [evI]; done) | (simp only [evI]; rfl)
theorem evI_e3 (cl) (a) (b) (ρ) : evI cl (.zip a b) ρ = bnd (evO cl a ρ) fun o ρ => opt (frz o) fun d => bnd (evO cl b ρ) fun o' ρ => opt (frz o') fun d' => opt (seqD d) fun xs => opt (seqD d') fun ys => .ok (zipD xs ys) ρ := by first | (simp only [evI]; done) | (simp only [evI]; rfl)
theorem evS_e1 (cl) (N) (ρ) : evS cl N .skip ρ = .ok .nx ρ := by first | (simp only [evS]; done) | (simp only [evS]; rfl)
theorem evS_e3 (cl) (N) (i) (e) (ρ) : evS cl N (.set i e) ρ = bnd (evO cl e ρ) fun o ρ => .ok .nx (setS ρ i (some o)) := by first | (simp only [evS]; done) | (simp only [evS]; rfl)
theorem evS_e4 (cl) (N) (tg) (e) (ρ) : evS cl N (.unp tg e) ρ = bnd (evO cl e ρ) fun o ρ => opt (frz o) fun d => opt (asg tg d ρ) fun ρ => .ok .nx ρ := by first | (simp only [evS]; done) | (simp only [evS]; rfl)
theorem evS_e5 (cl) (N) (p) (i) (e) (ρ) : evS cl N (.setix p i e) ρ = bnd (evO cl e ρ) fun o ρ => opt (frz o) fun d => opt (lstAt ρ (.s p)) fun _ => bnd (evO cl i ρ) fun oi ρ => opt (intO oi) fun k => opt (lstAt ρ (.s p)) fun (t, ds) => opt (ixN ds.length k) fun j => .ok .nx (setS ρ p (some (.lst t (ds.set j d)))) := by first | (simp only [evS]; done) | (simp only [evS]; rfl)
theorem evS_e6 (cl) (N) (i) (f) (e) (ρ) : evS cl N (.setfld i f e) ρ = bnd (evO cl e ρ) fun o ρ => match getS ρ i with
    | some (.obj C ns os) => if ns.length < 100 then .ok .nx (setS ρ i (some (.obj C (putN ns os f o).1 (putN ns os f o).2))) else .fail
    | _ => .fail := by first | (simp only [evS]; done) | (simp only [evS]; rfl)
theorem evS_e7 (cl) (N) (e) (ρ) : evS cl N (.ex e) ρ = bnd (evO cl e ρ) fun _ ρ => .ok .nx ρ := by first | (simp only [evS]; done) | (simp only [evS]; rfl)
theorem evS_e8 (cl) (N) (pl) (e) (ρ) : evS cl N (.app pl e) ρ = opt (lstAt ρ pl) fun _ => bnd (evO cl e ρ) fun o ρ => opt (frz o) fun d => opt (lstAt ρ pl) fun (t, ds) => if ds.length < big then .ok .nx (setPl ρ (.lst t (ds ++ [d])) pl) else .fail := by first | (simp only [evS]; done) | (simp only [evS]; rfl)
theorem evS_e9 (cl) (N) (pl) (e) (ρ) : evS cl N (.ext pl e) ρ = opt (lstAt ρ pl) fun _ => bnd (evO cl e ρ) fun o ρ => opt (frz o) fun d => opt (lstD d) fun xs => opt (lstAt ρ pl) fun (t, ds) => if ds.length + xs.length ≤ big then .ok .nx (setPl ρ (.lst t (ds ++ xs)) pl) else .fail := by first | (simp only [evS]; done) | (simp only [evS]; rfl)
theorem evS_e10 (cl) (N) (e) (ρ) : evS cl N (.ret e) ρ = bnd (evO cl e ρ) fun o ρ => .ok (.ret o) ρ := by first | (simp only [evS]; done) | (simp only [evS]; rfl)
theorem evS_e14 (cl) (N) (C) (ρ) : evS cl N (.rais C) ρ = .exn ⟨C, none⟩ ρ := by first | (simp only [evS]; done) | (simp only [evS]; rfl)


theorem evI_e (cl) (e) (ρ) (h1 : ∀ es, e ≠ .rng es) (h2 : ∀ es, e ≠ .enu es) (h3 : ∀ a b, e ≠ .zip a b) : evI cl e ρ = bnd (evO cl e ρ) fun o ρ => opt (frz o) fun d => opt (seqD d) fun xs => .ok xs ρ := by
  cases e <;> first
    | exact absurd rfl (h1 _)
    | exact absurd rfl (h2 _)
    | exact absurd rfl (h3 _ _)
    | simp only [evI]
def kSeq (cl : Cl) (N : Nat) (b : S) (f : Fl) (ρ : Fr) : R Fl := match f with
  | .nx => evS cl N b ρ
  | .ret o => .ok (.ret o) ρ
theorem kSeq_nx (cl N b ρ) : kSeq cl N b .nx ρ = evS cl N b ρ := rfl
theorem kSeq_ret (cl N b o ρ) : kSeq cl N b (.ret o) ρ = .ok (.ret o) ρ := rfl
def kIf (cl : Cl) (N : Nat) (a b : S) (k : Bool) (ρ : Fr) : R Fl := match k with
  | true => evS cl N a ρ
  | false => evS cl N b ρ
theorem kIf_true (cl N a b ρ) : kIf cl N a b true ρ = evS cl N a ρ := rfl
theorem kIf_false (cl N a b ρ) : kIf cl N a b false ρ = evS cl N b ρ := rfl
def kFor (cl : Cl) (N : Nat) (mk : Bool) (tg : T) (b : S) (d : D) (ρ : Fr) : R Fl := opt (asg tg (if mk then old d else d) (if mk then oldF ρ else ρ)) fun ρ => evS cl N b ρ
theorem evS_seq (cl N a b ρ) : evS cl N (.seq a b) ρ = bnd (evS cl N a ρ) fun f ρ => kSeq cl N b f ρ := by
  simp only [evS]
  rfl
theorem evS_ite (cl N c a b ρ) : evS cl N (.ite c a b) ρ = asB (evO cl c ρ) fun k ρ => kIf cl N a b k ρ := by
  simp only [evS]
  rfl
theorem evS_for (cl N mk tg it b ρ) : evS cl N (.for_ mk tg it b) ρ = bnd (evI cl it ρ) fun items ρ => forL (kFor cl N mk tg b) items ρ := by
  simp only [evS]
  rfl
theorem evS_whl (cl N c b ρ) : evS cl N (.whl c b) ρ = whlL (evO cl c) (evS cl N b) N ρ := by
  simp only [evS]
theorem evS_poke (cl N t e ρ) : evS cl N (.poke t e) ρ = bnd (evO cl t ρ) fun o ρ => opt (frz o) fun d => opt (yngL d) fun ds => bnd (evO cl e ρ) fun _ ρ => if ds.length < big then .ok .nx (killF ρ) else .fail := by
  simp only [evS]
theorem yngL_lst (ds) : yngL (.lst true ds) = some ds := rfl
def kLc (cl : Cl) (elt : E) (tg : T) (ifs : E) (own : List Nat) (d : D) (ρ : Fr) : R (Option D) := opt (asg tg d (wipeF ρ own)) fun ρ => bnd (evB cl ifs true ρ) fun k ρ => match k with
  | true => bnd (evO cl elt ρ) fun o ρ => opt (frz o) fun y => .ok (some y) ρ
  | false => .ok none ρ
def kLcs (cl : Cl) (elt : E) (tg : T) (ifs : E) (own : List Nat) (items : List D) (ρ : Fr) (k : Bool) : R O := match k with
  | true => bnd (lcL (kLc cl elt tg ifs own) items [] (wipeF ρ own)) fun ds ρ2 => .ok (.lst true ds) (backF ρ ρ2 own)
  | false => .fail
theorem kLcs_true (cl elt tg ifs own items ρ) : kLcs cl elt tg ifs own items ρ true = bnd (lcL (kLc cl elt tg ifs own) items [] (wipeF ρ own)) fun ds ρ2 => .ok (.lst true ds) (backF ρ ρ2 own) := rfl
theorem evO_lc (cl elt tg it ifs own ρ) : evO cl (.lc elt tg it ifs own) ρ = bnd (evI cl it ρ) fun items ρ1 => kLcs cl elt tg ifs own items ρ1 (own.all fun i => shOrNone (getS ρ1 i)) := by
  simp only [evO]
  rfl
def kRun (fn : Fn) (r : R Fl) : CR := match r with
  | .ok .nx ρ => optC (outsOf ρ 0 fn.io) fun outs => .ok (.sh .non) outs
  | .ok (.ret o) ρ => optC (outsOf ρ 0 fn.io) fun outs => .ok o outs
  | .exn x ρ => optC (outsOf ρ 0 fn.io) fun outs => .exn x outs
  | .fail => .fail
theorem runF_eq (cl N fn os) (h : os.length = fn.np) : runF cl N fn os = kRun fn (evS cl N fn.body (os.map some ++ List.replicate (fn.ns - fn.np) none)) := by
  unfold runF
  rw [if_pos h]
  rfl
theorem kRun_nx (fn ρ) : kRun fn (.ok .nx ρ) = optC (outsOf ρ 0 fn.io) fun outs => .ok (.sh .non) outs := rfl
theorem kRun_ret (fn o ρ) : kRun fn (.ok (.ret o) ρ) = optC (outsOf ρ 0 fn.io) fun outs => .ok o outs := rfl
theorem kRun_exn (fn x ρ) : kRun fn (.exn x ρ) = optC (outsOf ρ 0 fn.io) fun outs => .exn x outs := rfl

/-! ### words that wait for their arguments -/
def lk : Option O → Option D
  | some (.lst t ds) => some (.lst t ds)
  | some (.sh d) => some d
  | _ => none
theorem lk_lst (t ds) : lk (some (.lst t ds)) = some (.lst t ds) := rfl
theorem lk_sh (d) : lk (some (.sh d)) = some d := rfl
theorem look_val (ρ d) : look ρ (.val d) = some d := rfl
theorem look_at (ρ i) : look ρ (.at i) = lk (getS ρ i) := rfl
def opv (i : Nat) (ρ : Fr) : Option O → R Pd
  | some (.sh d) => .ok (.val d) ρ
  | some _ => .ok (.at i) ρ
  | none => .fail
theorem opv_sh (i ρ d) : opv i ρ (some (.sh d)) = .ok (.val d) ρ := rfl
theorem opv_lst (i ρ t ds) : opv i ρ (some (.lst t ds)) = .ok (.at i) ρ := rfl
theorem opv_obj (i ρ C ns os) : opv i ρ (some (.obj C ns os)) = .ok (.at i) ρ := rfl
theorem opv_dic (i ρ t ds) : opv i ρ (some (.dic t ds)) = .ok (.at i) ρ := rfl
theorem opd_var (i r ρ) : opd (.var i) r ρ = opv i ρ (getS ρ i) := by
  unfold opd opv
  rfl
theorem opd_ne (e r ρ) (h : ∀ i, e ≠ .var i) : opd e r ρ = bnd (r ρ) fun o ρ => opt (frz o) fun d => .ok (.val d) ρ := by
  cases e <;> first
    | exact absurd rfl (h _)
    | rfl
def fza (ρ : Fr) (i : Nat) : Option O → Option (D × Fr)
  | some o => match frz o with
    | some d => some (d, setS ρ i (some (.sh d)))
    | none => none
  | none => none
theorem frzAt_eq (ρ i) : frzAt ρ i = fza ρ i (getS ρ i) := by
  unfold frzAt fza
  rfl
theorem fza_sh (ρ i d) : fza ρ i (some (.sh d)) = some (d, setS ρ i (some (.sh d))) := rfl
theorem fza_lst (ρ i t ds) : fza ρ i (some (.lst t ds)) = some (.lst t ds, setS ρ i (some (.sh (.lst t ds)))) := rfl
theorem give_val (ρ d) : give ρ (.val d) = some (d, ρ) := rfl
theorem give_at (ρ i) : give ρ (.at i) = fza ρ i (getS ρ i) := frzAt_eq ρ i
def dcB (is : List Nat) (ρ : Fr) : CR → R O
  | .ok o outs => opt (backA ρ is outs) fun ρ2 => .ok o ρ2
  | .exn x outs => opt (backA ρ is outs) fun ρ2 => .exn x ρ2
  | .fail => .fail
def dcA (cl : Cl) (f : Nat) : Option (List O × List Nat × Fr) → R O
  | none => .fail
  | some (os, is, ρ) => dcB is ρ (cl.run f os)
theorem dcA_some (cl f os is ρ) : dcA cl f (some (os, is, ρ)) = dcB is ρ (cl.run f os) := rfl
theorem dcB_ok (is ρ o outs) : dcB is ρ (.ok o outs) = opt (backA ρ is outs) fun ρ2 => .ok o ρ2 := rfl
theorem dcB_exn (is ρ o outs) : dcB is ρ (.exn o outs) = opt (backA ρ is outs) fun ρ2 => .exn o ρ2 := rfl
theorem doCall_eq (cl f ps ρ) : doCall cl f ps ρ = dcA cl f (takeA ρ (cl.io f) ps) := by
  unfold doCall
  cases takeA ρ (cl.io f) ps with
  | none => rfl
  | some q =>
    obtain ⟨os, is, ρ1⟩ := q
    show (match cl.run f os with | .ok o outs => opt (backA ρ1 is outs) fun ρ2 => R.ok o ρ2 | .exn x outs => opt (backA ρ1 is outs) fun ρ2 => R.exn x ρ2 | .fail => .fail) = dcB is ρ1 (cl.run f os)
    cases cl.run f os <;> rfl
theorem bin_addI (i j) : binD .add (.int i) (.int j) = some (.sh (.int (i + j))) := rfl
theorem bin_addL (t u xs ys) : binD .add (.lst t xs) (.lst u ys) = if xs.length + ys.length ≤ big then some (.lst true (xs ++ ys)) else none := rfl
theorem bin_addT (xs ys) : binD .add (.tup xs) (.tup ys) = if xs.length + ys.length ≤ big then some (.sh (.tup (xs ++ ys))) else none := rfl
theorem bin_sub (i j) : binD .sub (.int i) (.int j) = some (.sh (.int (i - j))) := rfl
theorem bin_mulI (i j) : binD .mul (.int i) (.int j) = if lt64 i || lt64 j then some (.sh (.int (i * j))) else none := rfl
theorem bin_mulL (t xs k) : binD .mul (.lst t xs) (.int k) = if decide (-1000000 ≤ k) && decide (k ≤ 1000000) && decide (xs.length * k.toNat ≤ big) then some (.lst true (List.replicate k.toNat xs).flatten) else none := rfl
theorem bin_fdiv (i j) : binD .fdiv (.int i) (.int j) = if 0 < j ∧ j < 2 ^ 200 then some (.sh (.int (i / j))) else none := rfl
theorem bin_mod (i j) : binD .mod (.int i) (.int j) = if 0 < j then some (.sh (.int (i % j))) else none := rfl
theorem bin_pow (i j) : binD .pow (.int i) (.int j) = if 0 ≤ j ∧ j ≤ 1000 ∧ i.natAbs < 1000000 then some (.sh (.int (i ^ j.toNat))) else none := rfl
theorem cmp_eq (a b) : cmpD .eq a b = eqD a b := by cases a <;> cases b <;> rfl
theorem cmp_ne (a b) : cmpD .ne a b = (eqD a b).map (!·) := by cases a <;> cases b <;> rfl
theorem cmp_lt (i j) : cmpD .lt (.int i) (.int j) = some (decide (i < j)) := rfl
theorem cmp_le (i j) : cmpD .le (.int i) (.int j) = some (decide (i ≤ j)) := rfl
theorem cmp_gt (i j) : cmpD .gt (.int i) (.int j) = some (decide (j < i)) := rfl
theorem cmp_ge (i j) : cmpD .ge (.int i) (.int j) = some (decide (j ≤ i)) := rfl
theorem cmp_is (a) : cmpD .is a .non = some (isNon a) := by cases a <;> rfl
theorem cmp_isn (a) : cmpD .isn a .non = some (!isNon a) := by cases a <;> rfl
theorem cmp_inL (a t xs) : cmpD .in a (.lst t xs) = inD a xs := by cases a <;> rfl
theorem cmp_inT (a xs) : cmpD .in a (.tup xs) = inD a xs := by cases a <;> rfl
theorem cmp_ninL (a t xs) : cmpD .nin a (.lst t xs) = (inD a xs).map (!·) := by cases a <;> rfl
theorem cmp_ninT (a xs) : cmpD .nin a (.tup xs) = (inD a xs).map (!·) := by cases a <;> rfl
theorem isNon_non : isNon .non = true := rfl
theorem isNon_int (i) : isNon (.int i) = false := rfl
theorem isNon_str (i) : isNon (.str i) = false := rfl
theorem isNon_bl (i) : isNon (.bl i) = false := rfl
theorem isNon_tup (i) : isNon (.tup i) = false := rfl
theorem isNon_lst (t i) : isNon (.lst t i) = false := rfl
theorem ix_lst (t xs i) : ixD (.lst t xs) (.int i) = atI xs i := rfl
theorem ix_tup (xs i) : ixD (.tup xs) (.int i) = atI xs i := rfl
theorem ix_scr (xs i) : ixD (.scr xs) (.int i) = (atI xs i).map .int := rfl
theorem sl_lst (lo hi t xs) : slD lo hi (.lst t xs) = some (.lst true (cutA xs lo hi)) := rfl
theorem sl_tup (lo hi xs) : slD lo hi (.tup xs) = some (.sh (.tup (cutA xs lo hi))) := rfl
theorem seq_lst (t xs) : seqD (.lst t xs) = some xs := rfl
theorem seq_tup (xs) : seqD (.tup xs) = some xs := rfl
theorem seq_scr (xs) : seqD (.scr xs) = some (xs.map .int) := rfl
theorem seqL_lst (t xs) : seqLD (.lst t xs) = some xs := rfl
theorem seqL_scr (xs) : seqLD (.scr xs) = some (xs.map .int) := rfl
theorem bi_lenL (t xs) : biD .len [.lst t xs] = some (.sh (.int xs.length)) := rfl
theorem bi_lenT (xs) : biD .len [.tup xs] = some (.sh (.int xs.length)) := rfl
theorem bi_lenS (xs) : biD .len [.scr xs] = some (.sh (.int xs.length)) := rfl
theorem bi_listL (t xs) : biD .list [.lst t xs] = some (.lst true xs) := rfl
theorem bi_listT (xs) : biD .list [.tup xs] = some (.lst true xs) := rfl
theorem bi_tupL (t xs) : biD .tuple [.lst t xs] = some (.sh (.tup xs)) := rfl
theorem bi_tupT (xs) : biD .tuple [.tup xs] = some (.sh (.tup xs)) := rfl
theorem bi_intI (i) : biD .int [.int i] = some (.sh (.int i)) := rfl
theorem bi_intB (b) : biD .int [.bl b] = some (.sh (.int (if b then 1 else 0))) := rfl
theorem bi_max2 (i j) : biD .max [.int i, .int j] = some (.sh (.int (if j > i then j else i))) := rfl
theorem bi_min2 (i j) : biD .min [.int i, .int j] = some (.sh (.int (if j < i then j else i))) := rfl
/-- a range's numbers -/
def rngsD (ds : List D) : Option (List D) := match ranges ds with
  | some (a, b, c) => rngI a b c
  | none => none
theorem rngsD_1 (n) : rngsD [.int n] = rngI 0 n 1 := rfl
theorem rngsD_2 (a b) : rngsD [.int a, .int b] = rngI a b 1 := rfl
theorem rngsD_3 (a b c) : rngsD [.int a, .int b, .int c] = rngI a b c := rfl
theorem evI_rng (cl es ρ) : evI cl (.rng es) ρ = bnd (evPs cl es ρ) fun ps ρ => opt (looks ρ ps) fun ds => opt (rngsD ds) fun items => .ok items ρ := by
  rw [evI_e1]
  congr 1
  funext ps ρ
  congr 1
  funext ds
  unfold rngsD
  cases ranges ds with
  | none => rfl
  | some q =>
    obtain ⟨a, b, c⟩ := q
    rfl
theorem rng1 (n) : ranges [.int n] = some (0, n, 1) := rfl
theorem rng2 (a b) : ranges [.int a, .int b] = some (a, b, 1) := rfl
theorem rng3 (a b c) : ranges [.int a, .int b, .int c] = some (a, b, c) := rfl
def lao : Option O → Option (Bool × List D)
  | some (.lst t ds) => some (t, ds)
  | _ => none
theorem lao_lst (t ds) : lao (some (.lst t ds)) = some (t, ds) := rfl
theorem lstAt_se (ρ i) : lstAt ρ (.s i) = lao (getS ρ i) := by
  unfold lstAt lao getPl
  rfl
def gpo (n : Str) : Option O → Option O
  | some (.obj _ ns os) => lookN ns os n
  | _ => none
theorem gpo_obj (n C ns os) : gpo n (some (.obj C ns os)) = lookN ns os n := rfl
theorem lstAt_fe (ρ i n) : lstAt ρ (.f i n) = lao (gpo n (getS ρ i)) := by
  unfold lstAt lao getPl gpo
  rfl
theorem setPl_s (ρ o i) : setPl ρ o (.s i) = setS ρ i (some o) := rfl
def spo (ρ : Fr) (o : O) (i : Nat) (n : Str) : Option O → Fr
  | some (.obj C ns os) => setS ρ i (some (.obj C ns (setN ns os n o)))
  | _ => ρ
theorem spo_obj (ρ o i n C ns os) : spo ρ o i n (some (.obj C ns os)) = setS ρ i (some (.obj C ns (setN ns os n o))) := rfl
theorem setPl_f (ρ o i n) : setPl ρ o (.f i n) = spo ρ o i n (getS ρ i) := by
  unfold setPl spo
  rfl
theorem partE_nil (r ρ) : partE .nil r ρ = .ok none ρ := rfl
theorem partE_ne (e r ρ) (h : e ≠ .nil) : partE e r ρ = asI (r ρ) := by
  cases e <;> first
    | exact absurd rfl h
    | rfl
theorem intO_sh (i) : intO (.sh (.int i)) = some i := rfl
theorem lstD_lst (t xs) : lstD (.lst t xs) = some xs := rfl
def fldR (i : Nat) (f : Str) (ρ : Fr) : Option O → R O
  | some (.sh (.obj _ ns ds)) => opt (lookN ns ds f) fun d => .ok (.sh d) ρ
  | some (.obj C ns os) => opt (lookN ns os f) fun o => opt (frz o) fun d => .ok (.sh d) (setS ρ i (some (.obj C ns (setN ns os f (.sh d)))))
  | _ => .fail
theorem fldR_sh (i f ρ C ns ds) : fldR i f ρ (some (.sh (.obj C ns ds))) = opt (lookN ns ds f) fun d => .ok (.sh d) ρ := rfl
theorem fldR_obj (i f ρ C ns os) : fldR i f ρ (some (.obj C ns os)) = opt (lookN ns os f) fun o => opt (frz o) fun d => .ok (.sh d) (setS ρ i (some (.obj C ns (setN ns os f (.sh d))))) := rfl
theorem evO_fld (cl i f ρ) : evO cl (.fld i f) ρ = fldR i f ρ (getS ρ i) := by
  simp only [evO]
  rfl
theorem evO_isi (cl a k ts ρ) : evO cl (.isi a k ts) ρ = bnd (opd a (evO cl a) ρ) fun x ρ => opt (look ρ x) fun d => opt (isiD d ts) fun b => .ok (.sh (.bl b)) ρ := by
  simp only [evO]
theorem evO_isx (cl i x b ρ) : evO cl (.isx i x b) ρ = opt (opqAt (getS ρ i)) fun _ => .ok (.sh (.bl b)) ρ := by
  simp only [evO]
theorem evO_cntT (cl i ρ) : evO cl (.cntT i) ρ = opt (lstOf (getS ρ i)) fun ds => opt (blsD ds) fun bs => .ok (.sh (.int ((bs.filter id).length : Nat))) ρ := by
  simp only [evO]
theorem evO_idxT (cl i ρ) : evO cl (.idxT i) ρ = opt (lstOf (getS ρ i)) fun ds => opt (blsD ds) fun bs => opt (idxB bs) fun j => .ok (.sh (.int (j : Nat))) ρ := by
  simp only [evO]
theorem evO_kind (cl e nm ρ) : evO cl (.kind e nm) ρ = kindR nm (evO cl e ρ) := by
  simp only [evO]
theorem kindR_ok (nm o ρ) : kindR nm (.ok o ρ) = .ok o ρ := rfl
theorem kindR_exn (nm C ρ) : kindR nm (.exn ⟨C, none⟩ ρ) = opt (nm.lookup C) fun s => .ok (.sh (.str s)) ρ := by
  simp only [kindR]
  cases nm.lookup C <;> rfl
theorem isiD_some {d : D} {t : Ty} (ts) (h : tyD d = some t) : isiD d ts = some (ts.any (isT t)) := by
  unfold isiD
  rw [h]
theorem isi_int (i ts) : isiD (.int i) ts = some (ts.any (isT .int)) := rfl
theorem isi_bl (i ts) : isiD (.bl i) ts = some (ts.any (isT .bool)) := rfl
theorem isi_str (i ts) : isiD (.str i) ts = some (ts.any (isT .str)) := rfl
theorem isi_non (ts) : isiD .non ts = some (ts.any (isT .none)) := rfl
theorem isi_tup (i ts) : isiD (.tup i) ts = some (ts.any (isT .tuple)) := rfl
theorem isi_lst (t i ts) : isiD (.lst t i) ts = some (ts.any (isT .list)) := rfl
theorem evO_gint (cl x i ρ) : evO cl (.gint x i) ρ = .ok (.sh (.int i)) ρ := by
  simp only [evO]
def negR (o : O) (ρ : Fr) : R O := match o with
  | .sh (.int i) => .ok (.sh (.int (-i))) ρ
  | _ => .fail
theorem negR_int (i ρ) : negR (.sh (.int i)) ρ = .ok (.sh (.int (-i))) ρ := rfl
theorem evO_neg (cl a ρ) : evO cl (.neg a) ρ = bnd (evO cl a ρ) fun o ρ => negR o ρ := by
  simp only [evO]
  rfl
def iteR (cl : Cl) (a b : E) (k : Bool) (ρ : Fr) : R O := match k with
  | true => evO cl a ρ
  | false => evO cl b ρ
theorem iteR_true (cl a b ρ) : iteR cl a b true ρ = evO cl a ρ := rfl
theorem iteR_false (cl a b ρ) : iteR cl a b false ρ = evO cl b ρ := rfl
theorem evO_ite (cl c a b ρ) : evO cl (.ite c a b) ρ = asB (evO cl c ρ) fun k ρ => iteR cl a b k ρ := by
  simp only [evO]
  rfl
def chR (cl : Cl) (es : E) (ops : List Cop) (y : Pd) (k : Bool) (ρ : Fr) : R Bool := match k with
  | true => evC cl es ops y ρ
  | false => .ok false ρ
theorem chR_true (cl es ops y ρ) : chR cl es ops y true ρ = evC cl es ops y ρ := rfl
theorem chR_false (cl es ops y ρ) : chR cl es ops y false ρ = .ok false ρ := rfl
theorem evC_one (cl e es op x ρ) : evC cl (.cons e es) [op] x ρ = bnd (opd e (evO cl e) ρ) fun y ρ => opt (look ρ x) fun d => opt (look ρ y) fun d' => opt (cmpD op d d') fun k => .ok k ρ := by
  simp only [evC]
theorem evC_two (cl e es op op' ops x ρ) : evC cl (.cons e es) (op :: op' :: ops) x ρ = bnd (opd e (evO cl e) ρ) fun y ρ => opt (look ρ x) fun d => opt (look ρ y) fun d' => opt (cmpD op d d') fun k => chR cl es (op' :: ops) y k ρ := by
  simp only [evC]
  rfl
def bopR (cl : Cl) (es : E) (k b : Bool) (ρ : Fr) : R Bool := if b = k then evB cl es k ρ else .ok b ρ
theorem bopR_tt (cl es ρ) : bopR cl es true true ρ = evB cl es true ρ := rfl
theorem bopR_tf (cl es ρ) : bopR cl es true false ρ = .ok false ρ := rfl
theorem bopR_ft (cl es ρ) : bopR cl es false true ρ = .ok true ρ := rfl
theorem bopR_ff (cl es ρ) : bopR cl es false false ρ = evB cl es false ρ := rfl
theorem evB_cs (cl e es k ρ) : evB cl (.cons e es) k ρ = asB (evO cl e ρ) fun b ρ => bopR cl es k b ρ := by
  simp only [evB]
  rfl
def sfR (i : Nat) (f : Str) (o : O) (ρ : Fr) : Option O → R Fl
  | some (.obj C ns os) => if ns.length < 100 then .ok .nx (setS ρ i (some (.obj C (putN ns os f o).1 (putN ns os f o).2))) else .fail
  | _ => .fail
theorem sfR_obj (i f o ρ C ns os) : sfR i f o ρ (some (.obj C ns os)) = if ns.length < 100 then .ok .nx (setS ρ i (some (.obj C (putN ns os f o).1 (putN ns os f o).2))) else .fail := rfl
theorem evS_setfld (cl N i f e ρ) : evS cl N (.setfld i f e) ρ = bnd (evO cl e ρ) fun o ρ => sfR i f o ρ (getS ρ i) := by
  simp only [evS]
  rfl
theorem asg_name (i d ρ) : asg (.name i) d ρ = some (setS ρ i (some (.sh d))) := by
  cases d <;> rfl
theorem asg_tup (ts ds ρ) : asg (.tup ts) (.tup ds) ρ = asgs ts ds ρ := by
  simp only [asg]
def asg2 (ts : T) (ds : List D) : Option Fr → Option Fr
  | some ρ => asgs ts ds ρ
  | none => none
theorem asg2_some (ts ds ρ) : asg2 ts ds (some ρ) = asgs ts ds ρ := rfl
theorem asgs_nil (ρ) : asgs .nil [] ρ = some ρ := by
  simp only [asgs]
theorem asgs_cons (t ts d ds ρ) : asgs (.cons t ts) (d :: ds) ρ = asg2 ts ds (asg t d ρ) := by
  simp only [asgs]
  rfl
theorem shOrNone_none : shOrNone none = true := rfl
theorem shOrNone_sh (d) : shOrNone (some (.sh d)) = true := rfl
/-! ### marks -/
theorem oldF_nil : oldF [] = [] := rfl
theorem oldF_cons (o ρ) : oldF (o :: ρ) = o.map oldO :: oldF ρ := rfl
theorem oldF_none (ρ) : oldF (none :: ρ) = none :: oldF ρ := rfl
theorem oldF_some (o ρ) : oldF (some o :: ρ) = some (oldO o) :: oldF ρ := rfl
theorem oldO_sh (d) : oldO (.sh d) = .sh (old d) := by simp only [oldO]
theorem oldO_lst (t ds) : oldO (.lst t ds) = .lst false (olds ds) := by simp only [oldO]
theorem old_int (i) : old (.int i) = .int i := by simp only [old]
theorem old_str (i) : old (.str i) = .str i := by simp only [old]
theorem old_bl (i) : old (.bl i) = .bl i := by simp only [old]
theorem old_non : old .non = .non := by simp only [old]
theorem old_scr (i) : old (.scr i) = .scr i := by simp only [old]
theorem old_tup (ds) : old (.tup ds) = .tup (olds ds) := by simp only [old]
theorem old_lst (t ds) : old (.lst t ds) = .lst false (olds ds) := by simp only [old]
theorem olds_nil : olds [] = [] := by simp only [olds]
theorem olds_cons (d r) : olds (d :: r) = old d :: olds r := by simp only [olds]
def killB (b : Bool) (o : O) : Option O := match b with
  | true => none
  | false => some o
theorem killB_true (o) : killB true o = none := rfl
theorem killB_false (o) : killB false o = some o := rfl
theorem killO_eq (o) : killO o = killB (yngO o) o := by
  unfold killO killB
  cases yngO o <;> rfl
theorem killF_nil : killF [] = [] := rfl
theorem killF_cons (o ρ) : killF (o :: ρ) = o.bind killO :: killF ρ := rfl
theorem killF_none (ρ) : killF (none :: ρ) = none :: killF ρ := rfl
theorem killF_some (o ρ) : killF (some o :: ρ) = killB (yngO o) o :: killF ρ := by
  rw [← killO_eq]
  rfl
theorem yngO_sh (d) : yngO (.sh d) = yng d := by simp only [yngO]
theorem yngO_lst (t ds) : yngO (.lst t ds) = yngs ds := by simp only [yngO]
theorem yng_int (i) : yng (.int i) = false := by simp only [yng]
theorem yng_str (i) : yng (.str i) = false := by simp only [yng]
theorem yng_bl (i) : yng (.bl i) = false := by simp only [yng]
theorem yng_non : yng .non = false := by simp only [yng]
theorem yng_scr (i) : yng (.scr i) = false := by simp only [yng]
theorem yng_tup (ds) : yng (.tup ds) = yngs ds := by simp only [yng]
theorem yng_lstT (ds) : yng (.lst true ds) = true := by simp only [yng, Bool.true_or]
theorem yng_lstF (ds) : yng (.lst false ds) = yngs ds := by simp only [yng, Bool.false_or]
theorem yngs_nil : yngs [] = false := by simp only [yngs]
theorem yngs_cons (d r) : yngs (d :: r) = (yng d || yngs r) := by simp only [yngs]
mutual
theorem yng_old : ∀ d, yng (old d) = false
  | .non => by simp only [old, yng]
  | .bl _ => by simp only [old, yng]
  | .int _ => by simp only [old, yng]
  | .str _ => by simp only [old, yng]
  | .tup ds => by
    simp only [old, yng]
    exact yngs_olds ds
  | .lst _ ds => by
    simp only [old, yng, Bool.false_or]
    exact yngs_olds ds
  | .scr _ => by simp only [old, yng]
  | .obj _ _ ds => by
    simp only [old, yng]
    exact yngs_olds ds
  | .opq => by simp only [old, yng]
theorem yngs_olds : ∀ ds, yngs (olds ds) = false
  | [] => by simp only [olds, yngs]
  | d :: r => by
    simp only [olds, yngs]
    rw [yng_old d, yngs_olds r]
    rfl
end
/-! ### == -/
mutual
/-- no truth and no instance lies within -/
def nbP : PyData → Bool
  | .none => true
  | .bool _ => false
  | .int _ => true
  | .str _ => true
  | .list xs => nbPs xs
  | .tuple xs => nbPs xs
  | .dict _ => false
def nbPs : List PyData → Bool
  | [] => true
  | x :: xs => nbP x && nbPs xs
end
mutual
theorem eqv_nb : ∀ (a b : PyData), nbP a = true → nbP b = true → (PyData.eqv a b = true ↔ a = b)
  | .none, b, _, h => by cases b <;> simp_all [PyData.eqv, nbP]
  | .bool _, b, h, _ => by simp [nbP] at h
  | .int i, b, _, h => by cases b <;> simp_all [PyData.eqv, nbP]
  | .str x, b, _, h => by cases b <;> simp_all [PyData.eqv, nbP]
  | .list xs, b, ha, h => by
    cases b <;> simp_all [PyData.eqv, nbP]
    exact eqvAll_nb xs _ ha h
  | .tuple xs, b, ha, h => by
    cases b <;> simp_all [PyData.eqv, nbP]
    exact eqvAll_nb xs _ ha h
  | .dict _, b, h, _ => by simp [nbP] at h
theorem eqvAll_nb : ∀ (a b : List PyData), nbPs a = true → nbPs b = true → (PyData.eqvAll a b = true ↔ a = b)
  | [], b, _, h => by cases b <;> simp_all [PyData.eqvAll, nbPs]
  | x :: xs, [], _, h => by simp [PyData.eqvAll]
  | x :: xs, y :: ys, ha, hb => by
    rw [nbPs, Bool.and_eq_true] at ha hb
    rw [PyData.eqvAll, Bool.and_eq_true, eqv_nb x y ha.1 hb.1, eqvAll_nb xs ys ha.2 hb.2]
    simp
end
mutual
theorem nbP_plain : ∀ a : PyData, nbP a = true → a.plain = true
  | .none, _ => rfl
  | .bool _, h => by simp [nbP] at h
  | .int _, _ => rfl
  | .str _, _ => rfl
  | .list xs, h => by
    rw [nbP] at h
    rw [PyData.plain]
    exact nbPs_plain xs h
  | .tuple xs, h => by
    rw [nbP] at h
    rw [PyData.plain]
    exact nbPs_plain xs h
  | .dict _, h => by simp [nbP] at h
theorem nbPs_plain : ∀ a : List PyData, nbPs a = true → PyData.plainAll a = true
  | [], _ => rfl
  | x :: xs, h => by
    rw [nbPs, Bool.and_eq_true] at h
    rw [PyData.plainAll, nbP_plain x h.1, nbPs_plain xs h.2]
    rfl
end
theorem eqD_iff {a b : D} (ha : nbP (py a) = true) (hb : nbP (py b) = true) (hd : (py a).depth ≤ 32 ∨ (py b).depth ≤ 32) : ∃ k, eqD a b = some k ∧ (k = true ↔ py a = py b) := by
  refine ⟨PyData.eqv (py a) (py b), ?_, eqv_nb _ _ ha hb⟩
  unfold eqD
  rw [nbP_plain _ ha, nbP_plain _ hb, show decide (min (py a).depth (py b).depth ≤ 32) = true from decide_eq_true (by omega)]
  rfl
/-- == with a decided side -/
theorem eqD_of {a b : D} {p : Prop} [Decidable p] (ha : nbP (py a) = true) (hb : nbP (py b) = true) (hd : (py a).depth ≤ 32 ∨ (py b).depth ≤ 32) (hp : py a = py b ↔ p) : eqD a b = some (decide p) := by
  obtain ⟨k, e, h⟩ := eqD_iff ha hb hd
  rw [e]
  congr 1
  rw [Bool.eq_iff_iff, h, hp]
  simp
@[simp] theorem eqD_int (a b : Int) : eqD (.int a) (.int b) = some (decide (a = b)) :=
  eqD_of (by simp [py, nbP]) (by simp [py, nbP]) (.inl (by simp [py, PyData.depth])) (by simp [py])
theorem eqD_bl (a b : Bool) : eqD (.bl a) (.bl b) = some (decide (a = b)) := by
  unfold eqD
  cases a <;> cases b <;> simp [py, PyData.plain, PyData.depth, PyData.eqv]
theorem eqD_str (a b : Str) : eqD (.str a) (.str b) = some (decide (a = b)) :=
  eqD_of (by simp [py, nbP]) (by simp [py, nbP]) (.inl (by simp [py, PyData.depth])) (by simp [py])
@[simp] theorem py_list (t : Bool) (ds : List D) : py (.lst t ds) = .list (pys ds) := by simp [py]
@[simp] theorem py_tup (ds : List D) : py (.tup ds) = .tuple (pys ds) := by simp [py]
@[simp] theorem py_int (i : Int) : py (.int i) = .int i := by simp [py]
@[simp] theorem py_str (i : Str) : py (.str i) = .str i := by simp [py]
@[simp] theorem py_non : py .non = .none := by simp [py]
@[simp] theorem pys_nil : pys [] = [] := by simp [pys]
@[simp] theorem pys_cons (d : D) (ds : List D) : pys (d :: ds) = py d :: pys ds := by simp [pys]
theorem pys_map (ds : List D) : pys ds = ds.map py := by
  induction ds with
  | nil => rfl
  | cons d ds ih => simp [ih]
theorem nbPs_all (xs : List PyData) : nbPs xs = xs.all nbP := by
  induction xs with
  | nil => rfl
  | cons d ds ih => simp [nbPs, ih]
theorem eqD_nil {t t' : Bool} {ds : List D} (h : ∀ d ∈ ds, nbP (py d) = true) : eqD (.lst t ds) (.lst t' []) = some ds.isEmpty := by
  rw [eqD_of (p := ds = []) _ (by simp [nbP, nbPs]) (.inr (by simp [PyData.depth, PyData.depthAll])) (by cases ds <;> simp)]
  · cases ds <;> simp
  · simp only [py_list, nbP, nbPs_all, pys_map, List.all_map, List.all_eq_true]
    exact fun d hd => h d hd
theorem isa_int_TL : ([Ty.tuple, Ty.list].any (isT .int)) = false := rfl
theorem isa_int_L : ([Ty.list].any (isT .int)) = false := rfl
theorem isa_int_S : ([Ty.str].any (isT .int)) = false := rfl
theorem isa_int_B : ([Ty.bool].any (isT .int)) = false := rfl
theorem isa_int_I : ([Ty.int].any (isT .int)) = true := rfl
theorem isa_int_T : ([Ty.tuple].any (isT .int)) = false := rfl
theorem isa_bool_TL : ([Ty.tuple, Ty.list].any (isT .bool)) = false := rfl
theorem isa_bool_L : ([Ty.list].any (isT .bool)) = false := rfl
theorem isa_bool_S : ([Ty.str].any (isT .bool)) = false := rfl
theorem isa_bool_B : ([Ty.bool].any (isT .bool)) = true := rfl
theorem isa_bool_I : ([Ty.int].any (isT .bool)) = true := rfl
theorem isa_bool_T : ([Ty.tuple].any (isT .bool)) = false := rfl
theorem isa_str_TL : ([Ty.tuple, Ty.list].any (isT .str)) = false := rfl
theorem isa_str_L : ([Ty.list].any (isT .str)) = false := rfl
theorem isa_str_S : ([Ty.str].any (isT .str)) = true := rfl
theorem isa_str_B : ([Ty.bool].any (isT .str)) = false := rfl
theorem isa_str_I : ([Ty.int].any (isT .str)) = false := rfl
theorem isa_str_T : ([Ty.tuple].any (isT .str)) = false := rfl
theorem isa_list_TL : ([Ty.tuple, Ty.list].any (isT .list)) = true := rfl
theorem isa_list_L : ([Ty.list].any (isT .list)) = true := rfl
theorem isa_list_S : ([Ty.str].any (isT .list)) = false := rfl
theorem isa_list_B : ([Ty.bool].any (isT .list)) = false := rfl
theorem isa_list_I : ([Ty.int].any (isT .list)) = false := rfl
theorem isa_list_T : ([Ty.tuple].any (isT .list)) = false := rfl
theorem isa_tuple_TL : ([Ty.tuple, Ty.list].any (isT .tuple)) = true := rfl
theorem isa_tuple_L : ([Ty.list].any (isT .tuple)) = false := rfl
theorem isa_tuple_S : ([Ty.str].any (isT .tuple)) = false := rfl
theorem isa_tuple_B : ([Ty.bool].any (isT .tuple)) = false := rfl
theorem isa_tuple_I : ([Ty.int].any (isT .tuple)) = false := rfl
theorem isa_tuple_T : ([Ty.tuple].any (isT .tuple)) = true := rfl
theorem isa_none_TL : ([Ty.tuple, Ty.list].any (isT .none)) = false := rfl
theorem isa_none_L : ([Ty.list].any (isT .none)) = false := rfl
theorem isa_none_S : ([Ty.str].any (isT .none)) = false := rfl
theorem isa_none_B : ([Ty.bool].any (isT .none)) = false := rfl
theorem isa_none_I : ([Ty.int].any (isT .none)) = false := rfl
theorem isa_none_T : ([Ty.tuple].any (isT .none)) = false := rfl
theorem eqD_nil0 (t u) : eqD (.lst t []) (.lst u []) = some true := by
  rw [eqD_nil (fun d hd => absurd hd List.not_mem_nil)]
  rfl
/-! ### loops -/
theorem whl_step {c : Fr → R O} {b : Fr → R Fl} {n : Nat} {ρ ρ1 ρ2 : Fr} (hc : c ρ = .ok (.sh (.bl true)) ρ1) (hb : b ρ1 = .ok .nx ρ2) : whlL c b (n + 1) ρ = whlL c b n ρ2 := by
  rw [whlL, hc]
  show bnd (b ρ1) _ = _
  rw [hb]
  rfl
theorem whl_stop {c : Fr → R O} {b : Fr → R Fl} {n : Nat} {ρ ρ1 : Fr} (hc : c ρ = .ok (.sh (.bl false)) ρ1) : whlL c b (n + 1) ρ = .ok .nx ρ1 := by
  rw [whlL, hc]
  rfl
theorem whl_ret {c : Fr → R O} {b : Fr → R Fl} {n : Nat} {ρ ρ1 ρ2 : Fr} {o : O} (hc : c ρ = .ok (.sh (.bl true)) ρ1) (hb : b ρ1 = .ok (.ret o) ρ2) : whlL c b (n + 1) ρ = .ok (.ret o) ρ2 := by
  rw [whlL, hc]
  show bnd (b ρ1) _ = _
  rw [hb]
  rfl
theorem forL_ok {step : D → Fr → R Fl} (I : List D → Fr → Prop) (hs : ∀ d r ρ, I (d :: r) ρ → ∃ ρ', step d ρ = .ok .nx ρ' ∧ I r ρ') : ∀ (ds : List D) (ρ : Fr), I ds ρ → ∃ ρ', forL step ds ρ = .ok .nx ρ' ∧ I [] ρ'
  | [], ρ, h => ⟨ρ, rfl, h⟩
  | d :: r, ρ, h => by
    obtain ⟨ρ1, e, h1⟩ := hs d r ρ h
    obtain ⟨ρ2, e2, h2⟩ := forL_ok I hs r ρ1 h1
    exact ⟨ρ2, by rw [forL, e]; exact e2, h2⟩
theorem forL_map {step : D → Fr → R Fl} {α : Type} (f : α → D) (I : List α → Fr → Prop) (hs : ∀ a r ρ, I (a :: r) ρ → ∃ ρ', step (f a) ρ = .ok .nx ρ' ∧ I r ρ') : ∀ (as : List α) (ρ : Fr), I as ρ → ∃ ρ', forL step (as.map f) ρ = .ok .nx ρ' ∧ I [] ρ'
  | [], ρ, h => ⟨ρ, rfl, h⟩
  | d :: r, ρ, h => by
    obtain ⟨ρ1, e, h1⟩ := hs d r ρ h
    obtain ⟨ρ2, e2, h2⟩ := forL_map f I hs r ρ1 h1
    exact ⟨ρ2, by rw [List.map_cons, forL, e]; exact e2, h2⟩
/-- a loop that may answer within -/
theorem forL_ret {step : D → Fr → R Fl} {α : Type} (f : α → D) (I : List α → Fr → Prop) (Q : Fl → Fr → Prop) (he : ∀ ρ, I [] ρ → Q .nx ρ)
    (hs : ∀ a r ρ, I (a :: r) ρ → (∃ ρ', step (f a) ρ = .ok .nx ρ' ∧ I r ρ') ∨ ∃ o ρ', step (f a) ρ = .ok (.ret o) ρ' ∧ Q (.ret o) ρ') : ∀ (as : List α) (ρ : Fr), I as ρ → ∃ fl ρ', forL step (as.map f) ρ = .ok fl ρ' ∧ Q fl ρ'
  | [], ρ, h => ⟨.nx, ρ, rfl, he ρ h⟩
  | d :: r, ρ, h => by
    rcases hs d r ρ h with ⟨ρ1, e, h1⟩ | ⟨o, ρ1, e, h1⟩
    · obtain ⟨fl, ρ2, e2, h2⟩ := forL_ret f I Q he hs r ρ1 h1
      exact ⟨fl, ρ2, by rw [List.map_cons, forL, e]; exact e2, h2⟩
    · exact ⟨.ret o, ρ1, by rw [List.map_cons, forL, e]; rfl, h1⟩
theorem lcL_ok {step : D → Fr → R (Option D)} (I : List D → List D → Fr → Prop) (hs : ∀ d r acc ρ, I (d :: r) acc ρ → (∃ y ρ', step d ρ = .ok (some y) ρ' ∧ acc.length < big ∧ I r (acc ++ [y]) ρ') ∨ ∃ ρ', step d ρ = .ok none ρ' ∧ I r acc ρ') :
    ∀ (ds acc : List D) (ρ : Fr), I ds acc ρ → ∃ acc' ρ', lcL step ds acc ρ = .ok acc' ρ' ∧ I [] acc' ρ'
  | [], acc, ρ, h => ⟨acc, ρ, rfl, h⟩
  | d :: r, acc, ρ, h => by
    rcases hs d r acc ρ h with ⟨y, ρ1, e, hl, h1⟩ | ⟨ρ1, e, h1⟩
    · obtain ⟨a2, ρ2, e2, h2⟩ := lcL_ok I hs r _ ρ1 h1
      exact ⟨a2, ρ2, by rw [lcL, e]; dsimp only; rw [if_pos hl]; exact e2, h2⟩
    · obtain ⟨a2, ρ2, e2, h2⟩ := lcL_ok I hs r _ ρ1 h1
      exact ⟨a2, ρ2, by rw [lcL, e]; exact e2, h2⟩
/-- a comprehension that only picks and maps: the frame stays but for its own slots -/
theorem lcL_map {step : D → Fr → R (Option D)} {α : Type} (f : α → D) (g : α → Option D) (C : Fr → Prop) (hs : ∀ a ρ, C ρ → ∃ ρ', step (f a) ρ = .ok (g a) ρ' ∧ C ρ') :
    ∀ (as : List α) (acc : List D) (ρ : Fr), C ρ → acc.length + as.length ≤ big → ∃ ρ', lcL step (as.map f) acc ρ = .ok (acc ++ as.filterMap g) ρ' ∧ C ρ'
  | [], acc, ρ, h, _ => ⟨ρ, by simp [lcL], h⟩
  | a :: as, acc, ρ, h, hl => by
    obtain ⟨ρ1, e, h1⟩ := hs a ρ h
    rw [List.length_cons] at hl
    cases eg : g a with
    | none =>
      rw [eg] at e
      obtain ⟨ρ2, e2, h2⟩ := lcL_map f g C hs as acc ρ1 h1 (by omega)
      exact ⟨ρ2, by rw [List.map_cons, lcL, e]; dsimp only; rw [e2, List.filterMap_cons, eg], h2⟩
    | some y =>
      rw [eg] at e
      obtain ⟨ρ2, e2, h2⟩ := lcL_map f g C hs as (acc ++ [y]) ρ1 h1 (by rw [List.length_append, List.length_singleton]; omega)
      exact ⟨ρ2, by rw [List.map_cons, lcL, e]; dsimp only; rw [if_pos (by omega), e2, List.filterMap_cons, eg, List.append_assoc]; rfl, h2⟩
theorem lcL_mapM {step : D → Fr → R (Option D)} {α : Type} (f : α → D) (g : α → Option D) (C : Fr → Prop) :
    ∀ (as : List α) (acc : List D) (ρ : Fr), (∀ a ∈ as, ∀ ρ, C ρ → ∃ ρ', step (f a) ρ = .ok (g a) ρ' ∧ C ρ') → C ρ → acc.length + as.length ≤ big → ∃ ρ', lcL step (as.map f) acc ρ = .ok (acc ++ as.filterMap g) ρ' ∧ C ρ'
  | [], acc, ρ, _, h, _ => ⟨ρ, by simp [lcL], h⟩
  | a :: as, acc, ρ, hs, h, hl => by
    obtain ⟨ρ1, e, h1⟩ := hs a List.mem_cons_self ρ h
    rw [List.length_cons] at hl
    cases eg : g a with
    | none =>
      rw [eg] at e
      obtain ⟨ρ2, e2, h2⟩ := lcL_mapM f g C as acc ρ1 (fun a m => hs a (List.mem_cons_of_mem _ m)) h1 (by omega)
      exact ⟨ρ2, by rw [List.map_cons, lcL, e]; dsimp only; rw [e2, List.filterMap_cons, eg], h2⟩
    | some y =>
      rw [eg] at e
      obtain ⟨ρ2, e2, h2⟩ := lcL_mapM f g C as (acc ++ [y]) ρ1 (fun a m => hs a (List.mem_cons_of_mem _ m)) h1 (by rw [List.length_append, List.length_singleton]; omega)
      exact ⟨ρ2, by rw [List.map_cons, lcL, e]; dsimp only; rw [if_pos (by omega), e2, List.filterMap_cons, eg, List.append_assoc]; rfl, h2⟩
theorem atI_nat' {α : Type} {xs : List α} {i : Int} {a : α} (h0 : 0 ≤ i) (h : xs[i.toNat]? = some a) : atI xs i = some a := by
  have : i = (i.toNat : Int) := by omega
  rw [this]
  exact atI_nat h
theorem atI_0 {α : Type} (a : α) (r : List α) : atI (a :: r) 0 = some a := atI_nat (j := 0) rfl
theorem atI_1 {α : Type} (a b : α) (r : List α) : atI (a :: b :: r) 1 = some b := atI_nat (j := 1) rfl
theorem atI_2 {α : Type} (a b c : α) (r : List α) : atI (a :: b :: c :: r) 2 = some c := atI_nat (j := 2) rfl
theorem atI_3 {α : Type} (a b c d : α) (r : List α) : atI (a :: b :: c :: d :: r) 3 = some d := atI_nat (j := 3) rfl
theorem len1 {α : Type} (a : α) : [a].length = 1 := rfl
theorem len2 {α : Type} (a b : α) : [a, b].length = 2 := rfl
theorem len3 {α : Type} (a b c : α) : [a, b, c].length = 3 := rfl
theorem len4 {α : Type} (a b c d : α) : [a, b, c, d].length = 4 := rfl
theorem ixN_40 : ixN 4 0 = some 0 := rfl
theorem ixN_41 : ixN 4 1 = some 1 := rfl
theorem ixN_42 : ixN 4 2 = some 2 := rfl
theorem ixN_43 : ixN 4 3 = some 3 := rfl
theorem len5 {α : Type} (a b c d e : α) : [a, b, c, d, e].length = 5 := rfl
theorem len6 {α : Type} (a b c d e f : α) : [a, b, c, d, e, f].length = 6 := rfl
theorem len7 {α : Type} (a b c d e f g : α) : [a, b, c, d, e, f, g].length = 7 := rfl
theorem le_big1 : 1 ≤ big := by decide
theorem le_big2 : 2 ≤ big := by decide
theorem le_big3 : 3 ≤ big := by decide
theorem le_big4 : 4 ≤ big := by decide
theorem le_big5 : 5 ≤ big := by decide
theorem le_big6 : 6 ≤ big := by decide
theorem le_big7 : 7 ≤ big := by decide
theorem le_big8 : 8 ≤ big := by decide
theorem le_big9 : 9 ≤ big := by decide
theorem le_big10 : 10 ≤ big := by decide
theorem le_big11 : 11 ≤ big := by decide
theorem le_big12 : 12 ≤ big := by decide
end
end WD

/-! WD, part 17a: the kind-telling suite's answers. -/
namespace WD
open PySem PySem.Spec PyProof.Rows L2
theorem kev0 : evS cl0 0 (kcB true false false false false false false false false) [none, some (.sh .opq), none, none] = .ok (.ret (.sh (.str "BadWindow"))) [none, some (.sh .opq), some (.lst true [.bl true, .bl false, .bl false, .bl false, .bl false, .bl false, .bl false, .bl false, .bl false]), some (.lst true [.str "BadWindow", .str "BadPlan", .str "BadDelays", .str "BadWorks", .str "NoPats", .str "NoPlace", .str "BadTasks", .str "BadBeat", .str "TooMuch"])] := by
  unfold kcB kwords
  simp only [evO_e1, evO_e2, evO_e3, evO_e4, evO_e5, evO_e7, evO_e9, evO_e10, evO_e11, evO_e12, evO_e14, evO_e15, evO_e16, evO_e17, evO_e18, evO_e19, evO_e20, evO_e21, evPs_e1, evPs_e2, evB_e1, evI_rng, evI_e2, evI_e3, evS_e1, evS_e3, evS_e4, evS_e5, evS_e7, evS_e8, evS_e9, evS_e10, evS_e14, evS_poke, yngL_lst, lk_lst, lk_sh, look_val, look_at, opv_sh, opv_lst, opv_obj, opv_dic, opd_var, opd_ne, frzAt_eq, fza_sh, fza_lst, give_val, give_at, dcA_some, dcB_ok, dcB_exn, doCall_eq, bin_addI, bin_addL, bin_addT, bin_sub, bin_mulI, bin_mulL, bin_fdiv, bin_mod, bin_pow, cmp_eq, cmp_ne, cmp_lt, cmp_le, cmp_gt, cmp_ge, cmp_is, cmp_isn, cmp_inL, cmp_inT, cmp_ninL, cmp_ninT, isNon_non, isNon_int, isNon_str, isNon_bl, isNon_tup, isNon_lst, ix_lst, ix_tup, ix_scr, sl_lst, sl_tup, seq_lst, seq_tup, seq_scr, seqL_lst, seqL_scr, bi_lenL, bi_lenT, bi_lenS, bi_listL, bi_listT, bi_tupL, bi_tupT, bi_intI, bi_intB, bi_max2, bi_min2, rngsD_1, rngsD_2, rngsD_3, lao_lst, lstAt_se, gpo_obj, lstAt_fe, setPl_s, spo_obj, setPl_f, partE_nil, partE_ne, intO_sh, lstD_lst, fldR_sh, fldR_obj, evO_fld, negR_int, evO_neg, iteR_true, iteR_false, evO_ite, chR_true, chR_false, evC_one, evC_two, bopR_tt, bopR_tf, bopR_ft, bopR_ff, evB_cs, sfR_obj, evS_setfld, evI_e, evS_seq, evS_ite, evS_for, evS_whl, evO_lc, kSeq_nx, kSeq_ret, kIf_true, kIf_false, kLcs_true, bnd_ok, bnd_exn, bnd_fail, opt_some, opt_none, optC_some, asB_ok, asB_exn, asI_ok, getS, setS, looks, frz, frzs, gives, takeA, backA, doNew, intsD, outsOf, eqD_int, kRun_nx, kRun_ret, kRun_exn, wipeF, backF, ne_eq, not_false_eq_true, forall_const, implies_true, reduceCtorEq, List.map_cons, List.map_nil, List.cons_append, List.nil_append, List.append_nil, List.replicate_succ, List.replicate_zero, Option.map_some, and_self, if_true, if_false, decide_true, decide_false, Bool.not_true, Bool.not_false, Bool.false_eq_true, Bool.or_true, Bool.true_or, Bool.and_true, Bool.true_and, Bool.or_false, Bool.false_or, asg_name, asg_tup, asg2_some, asgs_nil, asgs_cons, evO_gint, Nat.sub_self, Nat.reduceSub, shOrNone_none, shOrNone_sh, List.all_cons, List.all_nil, evO_isi, evO_isx, evO_cntT, evO_idxT, evO_kind, kindR_ok, kindR_exn, isi_int, isi_bl, isi_str, isi_non, isi_tup, isi_lst, eqD_bl, eqD_str, isa_int_TL, isa_int_L, isa_int_S, isa_int_B, isa_int_I, isa_int_T, isa_bool_TL, isa_bool_L, isa_bool_S, isa_bool_B, isa_bool_I, isa_bool_T, isa_str_TL, isa_str_L, isa_str_S, isa_str_B, isa_str_I, isa_str_T, isa_list_TL, isa_list_L, isa_list_S, isa_list_B, isa_list_I, isa_list_T, isa_tuple_TL, isa_tuple_L, isa_tuple_S, isa_tuple_B, isa_tuple_I, isa_tuple_T, isa_none_TL, isa_none_L, isa_none_S, isa_none_B, isa_none_I, isa_none_T, eqD_nil0, List.length_nil, Nat.zero_le, oldF_nil, oldO_sh, oldO_lst, old_int, old_str, old_bl, old_non, old_scr, old_tup, old_lst, olds_nil, olds_cons, killB_true, killB_false, killF_nil, yngO_sh, yngO_lst, yng_int, yng_str, yng_bl, yng_non, yng_scr, yng_tup, yng_lstT, yng_lstF, yngs_nil, yngs_cons, oldF_cons, killF_cons, Option.map_none, Option.bind_some, Option.bind_none, killO_eq, atI_0, atI_1, atI_2, atI_3, len1, len2, len3, len4, len5, len6, len7, le_big1, le_big2, le_big3, le_big4, le_big5, le_big6, le_big7, le_big8, le_big9, le_big10, le_big11, le_big12, kStr, opqAt, lstOf, blsD, idxB, show 4 + 4 ≤ big from by decide, show 4 ≤ big from by decide, show 9 ≤ big from by decide, show 8 < big from by decide, List.length_cons, List.length_nil, List.filter_cons, List.filter_nil, id, show decide (((0 + 1 : Nat) : Int) = 1) = true from rfl, Nat.zero_add, Nat.reduceAdd, show atI [D.str "BadWindow", D.str "BadPlan", D.str "BadDelays", D.str "BadWorks", D.str "NoPats", D.str "NoPlace", D.str "BadTasks", D.str "BadBeat", D.str "TooMuch"] (0 : Nat) = some (D.str "BadWindow") from atI_nat rfl]
  try rfl
theorem kev1 : evS cl0 0 (kcB false true false false false false false false false) [none, some (.sh .opq), none, none] = .ok (.ret (.sh (.str "BadPlan"))) [none, some (.sh .opq), some (.lst true [.bl false, .bl true, .bl false, .bl false, .bl false, .bl false, .bl false, .bl false, .bl false]), some (.lst true [.str "BadWindow", .str "BadPlan", .str "BadDelays", .str "BadWorks", .str "NoPats", .str "NoPlace", .str "BadTasks", .str "BadBeat", .str "TooMuch"])] := by
  unfold kcB kwords
  simp only [evO_e1, evO_e2, evO_e3, evO_e4, evO_e5, evO_e7, evO_e9, evO_e10, evO_e11, evO_e12, evO_e14, evO_e15, evO_e16, evO_e17, evO_e18, evO_e19, evO_e20, evO_e21, evPs_e1, evPs_e2, evB_e1, evI_rng, evI_e2, evI_e3, evS_e1, evS_e3, evS_e4, evS_e5, evS_e7, evS_e8, evS_e9, evS_e10, evS_e14, evS_poke, yngL_lst, lk_lst, lk_sh, look_val, look_at, opv_sh, opv_lst, opv_obj, opv_dic, opd_var, opd_ne, frzAt_eq, fza_sh, fza_lst, give_val, give_at, dcA_some, dcB_ok, dcB_exn, doCall_eq, bin_addI, bin_addL, bin_addT, bin_sub, bin_mulI, bin_mulL, bin_fdiv, bin_mod, bin_pow, cmp_eq, cmp_ne, cmp_lt, cmp_le, cmp_gt, cmp_ge, cmp_is, cmp_isn, cmp_inL, cmp_inT, cmp_ninL, cmp_ninT, isNon_non, isNon_int, isNon_str, isNon_bl, isNon_tup, isNon_lst, ix_lst, ix_tup, ix_scr, sl_lst, sl_tup, seq_lst, seq_tup, seq_scr, seqL_lst, seqL_scr, bi_lenL, bi_lenT, bi_lenS, bi_listL, bi_listT, bi_tupL, bi_tupT, bi_intI, bi_intB, bi_max2, bi_min2, rngsD_1, rngsD_2, rngsD_3, lao_lst, lstAt_se, gpo_obj, lstAt_fe, setPl_s, spo_obj, setPl_f, partE_nil, partE_ne, intO_sh, lstD_lst, fldR_sh, fldR_obj, evO_fld, negR_int, evO_neg, iteR_true, iteR_false, evO_ite, chR_true, chR_false, evC_one, evC_two, bopR_tt, bopR_tf, bopR_ft, bopR_ff, evB_cs, sfR_obj, evS_setfld, evI_e, evS_seq, evS_ite, evS_for, evS_whl, evO_lc, kSeq_nx, kSeq_ret, kIf_true, kIf_false, kLcs_true, bnd_ok, bnd_exn, bnd_fail, opt_some, opt_none, optC_some, asB_ok, asB_exn, asI_ok, getS, setS, looks, frz, frzs, gives, takeA, backA, doNew, intsD, outsOf, eqD_int, kRun_nx, kRun_ret, kRun_exn, wipeF, backF, ne_eq, not_false_eq_true, forall_const, implies_true, reduceCtorEq, List.map_cons, List.map_nil, List.cons_append, List.nil_append, List.append_nil, List.replicate_succ, List.replicate_zero, Option.map_some, and_self, if_true, if_false, decide_true, decide_false, Bool.not_true, Bool.not_false, Bool.false_eq_true, Bool.or_true, Bool.true_or, Bool.and_true, Bool.true_and, Bool.or_false, Bool.false_or, asg_name, asg_tup, asg2_some, asgs_nil, asgs_cons, evO_gint, Nat.sub_self, Nat.reduceSub, shOrNone_none, shOrNone_sh, List.all_cons, List.all_nil, evO_isi, evO_isx, evO_cntT, evO_idxT, evO_kind, kindR_ok, kindR_exn, isi_int, isi_bl, isi_str, isi_non, isi_tup, isi_lst, eqD_bl, eqD_str, isa_int_TL, isa_int_L, isa_int_S, isa_int_B, isa_int_I, isa_int_T, isa_bool_TL, isa_bool_L, isa_bool_S, isa_bool_B, isa_bool_I, isa_bool_T, isa_str_TL, isa_str_L, isa_str_S, isa_str_B, isa_str_I, isa_str_T, isa_list_TL, isa_list_L, isa_list_S, isa_list_B, isa_list_I, isa_list_T, isa_tuple_TL, isa_tuple_L, isa_tuple_S, isa_tuple_B, isa_tuple_I, isa_tuple_T, isa_none_TL, isa_none_L, isa_none_S, isa_none_B, isa_none_I, isa_none_T, eqD_nil0, List.length_nil, Nat.zero_le, oldF_nil, oldO_sh, oldO_lst, old_int, old_str, old_bl, old_non, old_scr, old_tup, old_lst, olds_nil, olds_cons, killB_true, killB_false, killF_nil, yngO_sh, yngO_lst, yng_int, yng_str, yng_bl, yng_non, yng_scr, yng_tup, yng_lstT, yng_lstF, yngs_nil, yngs_cons, oldF_cons, killF_cons, Option.map_none, Option.bind_some, Option.bind_none, killO_eq, atI_0, atI_1, atI_2, atI_3, len1, len2, len3, len4, len5, len6, len7, le_big1, le_big2, le_big3, le_big4, le_big5, le_big6, le_big7, le_big8, le_big9, le_big10, le_big11, le_big12, kStr, opqAt, lstOf, blsD, idxB, show 4 + 4 ≤ big from by decide, show 4 ≤ big from by decide, show 9 ≤ big from by decide, show 8 < big from by decide, List.length_cons, List.length_nil, List.filter_cons, List.filter_nil, id, show decide (((0 + 1 : Nat) : Int) = 1) = true from rfl, Nat.zero_add, Nat.reduceAdd, show atI [D.str "BadWindow", D.str "BadPlan", D.str "BadDelays", D.str "BadWorks", D.str "NoPats", D.str "NoPlace", D.str "BadTasks", D.str "BadBeat", D.str "TooMuch"] (1 : Nat) = some (D.str "BadPlan") from atI_nat rfl]
  try rfl
theorem kev2 : evS cl0 0 (kcB false false true false false false false false false) [none, some (.sh .opq), none, none] = .ok (.ret (.sh (.str "BadDelays"))) [none, some (.sh .opq), some (.lst true [.bl false, .bl false, .bl true, .bl false, .bl false, .bl false, .bl false, .bl false, .bl false]), some (.lst true [.str "BadWindow", .str "BadPlan", .str "BadDelays", .str "BadWorks", .str "NoPats", .str "NoPlace", .str "BadTasks", .str "BadBeat", .str "TooMuch"])] := by
  unfold kcB kwords
  simp only [evO_e1, evO_e2, evO_e3, evO_e4, evO_e5, evO_e7, evO_e9, evO_e10, evO_e11, evO_e12, evO_e14, evO_e15, evO_e16, evO_e17, evO_e18, evO_e19, evO_e20, evO_e21, evPs_e1, evPs_e2, evB_e1, evI_rng, evI_e2, evI_e3, evS_e1, evS_e3, evS_e4, evS_e5, evS_e7, evS_e8, evS_e9, evS_e10, evS_e14, evS_poke, yngL_lst, lk_lst, lk_sh, look_val, look_at, opv_sh, opv_lst, opv_obj, opv_dic, opd_var, opd_ne, frzAt_eq, fza_sh, fza_lst, give_val, give_at, dcA_some, dcB_ok, dcB_exn, doCall_eq, bin_addI, bin_addL, bin_addT, bin_sub, bin_mulI, bin_mulL, bin_fdiv, bin_mod, bin_pow, cmp_eq, cmp_ne, cmp_lt, cmp_le, cmp_gt, cmp_ge, cmp_is, cmp_isn, cmp_inL, cmp_inT, cmp_ninL, cmp_ninT, isNon_non, isNon_int, isNon_str, isNon_bl, isNon_tup, isNon_lst, ix_lst, ix_tup, ix_scr, sl_lst, sl_tup, seq_lst, seq_tup, seq_scr, seqL_lst, seqL_scr, bi_lenL, bi_lenT, bi_lenS, bi_listL, bi_listT, bi_tupL, bi_tupT, bi_intI, bi_intB, bi_max2, bi_min2, rngsD_1, rngsD_2, rngsD_3, lao_lst, lstAt_se, gpo_obj, lstAt_fe, setPl_s, spo_obj, setPl_f, partE_nil, partE_ne, intO_sh, lstD_lst, fldR_sh, fldR_obj, evO_fld, negR_int, evO_neg, iteR_true, iteR_false, evO_ite, chR_true, chR_false, evC_one, evC_two, bopR_tt, bopR_tf, bopR_ft, bopR_ff, evB_cs, sfR_obj, evS_setfld, evI_e, evS_seq, evS_ite, evS_for, evS_whl, evO_lc, kSeq_nx, kSeq_ret, kIf_true, kIf_false, kLcs_true, bnd_ok, bnd_exn, bnd_fail, opt_some, opt_none, optC_some, asB_ok, asB_exn, asI_ok, getS, setS, looks, frz, frzs, gives, takeA, backA, doNew, intsD, outsOf, eqD_int, kRun_nx, kRun_ret, kRun_exn, wipeF, backF, ne_eq, not_false_eq_true, forall_const, implies_true, reduceCtorEq, List.map_cons, List.map_nil, List.cons_append, List.nil_append, List.append_nil, List.replicate_succ, List.replicate_zero, Option.map_some, and_self, if_true, if_false, decide_true, decide_false, Bool.not_true, Bool.not_false, Bool.false_eq_true, Bool.or_true, Bool.true_or, Bool.and_true, Bool.true_and, Bool.or_false, Bool.false_or, asg_name, asg_tup, asg2_some, asgs_nil, asgs_cons, evO_gint, Nat.sub_self, Nat.reduceSub, shOrNone_none, shOrNone_sh, List.all_cons, List.all_nil, evO_isi, evO_isx, evO_cntT, evO_idxT, evO_kind, kindR_ok, kindR_exn, isi_int, isi_bl, isi_str, isi_non, isi_tup, isi_lst, eqD_bl, eqD_str, isa_int_TL, isa_int_L, isa_int_S, isa_int_B, isa_int_I, isa_int_T, isa_bool_TL, isa_bool_L, isa_bool_S, isa_bool_B, isa_bool_I, isa_bool_T, isa_str_TL, isa_str_L, isa_str_S, isa_str_B, isa_str_I, isa_str_T, isa_list_TL, isa_list_L, isa_list_S, isa_list_B, isa_list_I, isa_list_T, isa_tuple_TL, isa_tuple_L, isa_tuple_S, isa_tuple_B, isa_tuple_I, isa_tuple_T, isa_none_TL, isa_none_L, isa_none_S, isa_none_B, isa_none_I, isa_none_T, eqD_nil0, List.length_nil, Nat.zero_le, oldF_nil, oldO_sh, oldO_lst, old_int, old_str, old_bl, old_non, old_scr, old_tup, old_lst, olds_nil, olds_cons, killB_true, killB_false, killF_nil, yngO_sh, yngO_lst, yng_int, yng_str, yng_bl, yng_non, yng_scr, yng_tup, yng_lstT, yng_lstF, yngs_nil, yngs_cons, oldF_cons, killF_cons, Option.map_none, Option.bind_some, Option.bind_none, killO_eq, atI_0, atI_1, atI_2, atI_3, len1, len2, len3, len4, len5, len6, len7, le_big1, le_big2, le_big3, le_big4, le_big5, le_big6, le_big7, le_big8, le_big9, le_big10, le_big11, le_big12, kStr, opqAt, lstOf, blsD, idxB, show 4 + 4 ≤ big from by decide, show 4 ≤ big from by decide, show 9 ≤ big from by decide, show 8 < big from by decide, List.length_cons, List.length_nil, List.filter_cons, List.filter_nil, id, show decide (((0 + 1 : Nat) : Int) = 1) = true from rfl, Nat.zero_add, Nat.reduceAdd, show atI [D.str "BadWindow", D.str "BadPlan", D.str "BadDelays", D.str "BadWorks", D.str "NoPats", D.str "NoPlace", D.str "BadTasks", D.str "BadBeat", D.str "TooMuch"] (2 : Nat) = some (D.str "BadDelays") from atI_nat rfl]
  try rfl
theorem kev3 : evS cl0 0 (kcB false false false true false false false false false) [none, some (.sh .opq), none, none] = .ok (.ret (.sh (.str "BadWorks"))) [none, some (.sh .opq), some (.lst true [.bl false, .bl false, .bl false, .bl true, .bl false, .bl false, .bl false, .bl false, .bl false]), some (.lst true [.str "BadWindow", .str "BadPlan", .str "BadDelays", .str "BadWorks", .str "NoPats", .str "NoPlace", .str "BadTasks", .str "BadBeat", .str "TooMuch"])] := by
  unfold kcB kwords
  simp only [evO_e1, evO_e2, evO_e3, evO_e4, evO_e5, evO_e7, evO_e9, evO_e10, evO_e11, evO_e12, evO_e14, evO_e15, evO_e16, evO_e17, evO_e18, evO_e19, evO_e20, evO_e21, evPs_e1, evPs_e2, evB_e1, evI_rng, evI_e2, evI_e3, evS_e1, evS_e3, evS_e4, evS_e5, evS_e7, evS_e8, evS_e9, evS_e10, evS_e14, evS_poke, yngL_lst, lk_lst, lk_sh, look_val, look_at, opv_sh, opv_lst, opv_obj, opv_dic, opd_var, opd_ne, frzAt_eq, fza_sh, fza_lst, give_val, give_at, dcA_some, dcB_ok, dcB_exn, doCall_eq, bin_addI, bin_addL, bin_addT, bin_sub, bin_mulI, bin_mulL, bin_fdiv, bin_mod, bin_pow, cmp_eq, cmp_ne, cmp_lt, cmp_le, cmp_gt, cmp_ge, cmp_is, cmp_isn, cmp_inL, cmp_inT, cmp_ninL, cmp_ninT, isNon_non, isNon_int, isNon_str, isNon_bl, isNon_tup, isNon_lst, ix_lst, ix_tup, ix_scr, sl_lst, sl_tup, seq_lst, seq_tup, seq_scr, seqL_lst, seqL_scr, bi_lenL, bi_lenT, bi_lenS, bi_listL, bi_listT, bi_tupL, bi_tupT, bi_intI, bi_intB, bi_max2, bi_min2, rngsD_1, rngsD_2, rngsD_3, lao_lst, lstAt_se, gpo_obj, lstAt_fe, setPl_s, spo_obj, setPl_f, partE_nil, partE_ne, intO_sh, lstD_lst, fldR_sh, fldR_obj, evO_fld, negR_int, evO_neg, iteR_true, iteR_false, evO_ite, chR_true, chR_false, evC_one, evC_two, bopR_tt, bopR_tf, bopR_ft, bopR_ff, evB_cs, sfR_obj, evS_setfld, evI_e, evS_seq, evS_ite, evS_for, evS_whl, evO_lc, kSeq_nx, kSeq_ret, kIf_true, kIf_false, kLcs_true, bnd_ok, bnd_exn, bnd_fail, opt_some, opt_none, optC_some, asB_ok, asB_exn, asI_ok, getS, setS, looks, frz, frzs, gives, takeA, backA, doNew, intsD, outsOf, eqD_int, kRun_nx, kRun_ret, kRun_exn, wipeF, backF, ne_eq, not_false_eq_true, forall_const, implies_true, reduceCtorEq, List.map_cons, List.map_nil, List.cons_append, List.nil_append, List.append_nil, List.replicate_succ, List.replicate_zero, Option.map_some, and_self, if_true, if_false, decide_true, decide_false, Bool.not_true, Bool.not_false, Bool.false_eq_true, Bool.or_true, Bool.true_or, Bool.and_true, Bool.true_and, Bool.or_false, Bool.false_or, asg_name, asg_tup, asg2_some, asgs_nil, asgs_cons, evO_gint, Nat.sub_self, Nat.reduceSub, shOrNone_none, shOrNone_sh, List.all_cons, List.all_nil, evO_isi, evO_isx, evO_cntT, evO_idxT, evO_kind, kindR_ok, kindR_exn, isi_int, isi_bl, isi_str, isi_non, isi_tup, isi_lst, eqD_bl, eqD_str, isa_int_TL, isa_int_L, isa_int_S, isa_int_B, isa_int_I, isa_int_T, isa_bool_TL, isa_bool_L, isa_bool_S, isa_bool_B, isa_bool_I, isa_bool_T, isa_str_TL, isa_str_L, isa_str_S, isa_str_B, isa_str_I, isa_str_T, isa_list_TL, isa_list_L, isa_list_S, isa_list_B, isa_list_I, isa_list_T, isa_tuple_TL, isa_tuple_L, isa_tuple_S, isa_tuple_B, isa_tuple_I, isa_tuple_T, isa_none_TL, isa_none_L, isa_none_S, isa_none_B, isa_none_I, isa_none_T, eqD_nil0, List.length_nil, Nat.zero_le, oldF_nil, oldO_sh, oldO_lst, old_int, old_str, old_bl, old_non, old_scr, old_tup, old_lst, olds_nil, olds_cons, killB_true, killB_false, killF_nil, yngO_sh, yngO_lst, yng_int, yng_str, yng_bl, yng_non, yng_scr, yng_tup, yng_lstT, yng_lstF, yngs_nil, yngs_cons, oldF_cons, killF_cons, Option.map_none, Option.bind_some, Option.bind_none, killO_eq, atI_0, atI_1, atI_2, atI_3, len1, len2, len3, len4, len5, len6, len7, le_big1, le_big2, le_big3, le_big4, le_big5, le_big6, le_big7, le_big8, le_big9, le_big10, le_big11, le_big12, kStr, opqAt, lstOf, blsD, idxB, show 4 + 4 ≤ big from by decide, show 4 ≤ big from by decide, show 9 ≤ big from by decide, show 8 < big from by decide, List.length_cons, List.length_nil, List.filter_cons, List.filter_nil, id, show decide (((0 + 1 : Nat) : Int) = 1) = true from rfl, Nat.zero_add, Nat.reduceAdd, show atI [D.str "BadWindow", D.str "BadPlan", D.str "BadDelays", D.str "BadWorks", D.str "NoPats", D.str "NoPlace", D.str "BadTasks", D.str "BadBeat", D.str "TooMuch"] (3 : Nat) = some (D.str "BadWorks") from atI_nat rfl]
  try rfl
theorem kev4 : evS cl0 0 (kcB false false false false true false false false false) [none, some (.sh .opq), none, none] = .ok (.ret (.sh (.str "NoPats"))) [none, some (.sh .opq), some (.lst true [.bl false, .bl false, .bl false, .bl false, .bl true, .bl false, .bl false, .bl false, .bl false]), some (.lst true [.str "BadWindow", .str "BadPlan", .str "BadDelays", .str "BadWorks", .str "NoPats", .str "NoPlace", .str "BadTasks", .str "BadBeat", .str "TooMuch"])] := by
  unfold kcB kwords
  simp only [evO_e1, evO_e2, evO_e3, evO_e4, evO_e5, evO_e7, evO_e9, evO_e10, evO_e11, evO_e12, evO_e14, evO_e15, evO_e16, evO_e17, evO_e18, evO_e19, evO_e20, evO_e21, evPs_e1, evPs_e2, evB_e1, evI_rng, evI_e2, evI_e3, evS_e1, evS_e3, evS_e4, evS_e5, evS_e7, evS_e8, evS_e9, evS_e10, evS_e14, evS_poke, yngL_lst, lk_lst, lk_sh, look_val, look_at, opv_sh, opv_lst, opv_obj, opv_dic, opd_var, opd_ne, frzAt_eq, fza_sh, fza_lst, give_val, give_at, dcA_some, dcB_ok, dcB_exn, doCall_eq, bin_addI, bin_addL, bin_addT, bin_sub, bin_mulI, bin_mulL, bin_fdiv, bin_mod, bin_pow, cmp_eq, cmp_ne, cmp_lt, cmp_le, cmp_gt, cmp_ge, cmp_is, cmp_isn, cmp_inL, cmp_inT, cmp_ninL, cmp_ninT, isNon_non, isNon_int, isNon_str, isNon_bl, isNon_tup, isNon_lst, ix_lst, ix_tup, ix_scr, sl_lst, sl_tup, seq_lst, seq_tup, seq_scr, seqL_lst, seqL_scr, bi_lenL, bi_lenT, bi_lenS, bi_listL, bi_listT, bi_tupL, bi_tupT, bi_intI, bi_intB, bi_max2, bi_min2, rngsD_1, rngsD_2, rngsD_3, lao_lst, lstAt_se, gpo_obj, lstAt_fe, setPl_s, spo_obj, setPl_f, partE_nil, partE_ne, intO_sh, lstD_lst, fldR_sh, fldR_obj, evO_fld, negR_int, evO_neg, iteR_true, iteR_false, evO_ite, chR_true, chR_false, evC_one, evC_two, bopR_tt, bopR_tf, bopR_ft, bopR_ff, evB_cs, sfR_obj, evS_setfld, evI_e, evS_seq, evS_ite, evS_for, evS_whl, evO_lc, kSeq_nx, kSeq_ret, kIf_true, kIf_false, kLcs_true, bnd_ok, bnd_exn, bnd_fail, opt_some, opt_none, optC_some, asB_ok, asB_exn, asI_ok, getS, setS, looks, frz, frzs, gives, takeA, backA, doNew, intsD, outsOf, eqD_int, kRun_nx, kRun_ret, kRun_exn, wipeF, backF, ne_eq, not_false_eq_true, forall_const, implies_true, reduceCtorEq, List.map_cons, List.map_nil, List.cons_append, List.nil_append, List.append_nil, List.replicate_succ, List.replicate_zero, Option.map_some, and_self, if_true, if_false, decide_true, decide_false, Bool.not_true, Bool.not_false, Bool.false_eq_true, Bool.or_true, Bool.true_or, Bool.and_true, Bool.true_and, Bool.or_false, Bool.false_or, asg_name, asg_tup, asg2_some, asgs_nil, asgs_cons, evO_gint, Nat.sub_self, Nat.reduceSub, shOrNone_none, shOrNone_sh, List.all_cons, List.all_nil, evO_isi, evO_isx, evO_cntT, evO_idxT, evO_kind, kindR_ok, kindR_exn, isi_int, isi_bl, isi_str, isi_non, isi_tup, isi_lst, eqD_bl, eqD_str, isa_int_TL, isa_int_L, isa_int_S, isa_int_B, isa_int_I, isa_int_T, isa_bool_TL, isa_bool_L, isa_bool_S, isa_bool_B, isa_bool_I, isa_bool_T, isa_str_TL, isa_str_L, isa_str_S, isa_str_B, isa_str_I, isa_str_T, isa_list_TL, isa_list_L, isa_list_S, isa_list_B, isa_list_I, isa_list_T, isa_tuple_TL, isa_tuple_L, isa_tuple_S, isa_tuple_B, isa_tuple_I, isa_tuple_T, isa_none_TL, isa_none_L, isa_none_S, isa_none_B, isa_none_I, isa_none_T, eqD_nil0, List.length_nil, Nat.zero_le, oldF_nil, oldO_sh, oldO_lst, old_int, old_str, old_bl, old_non, old_scr, old_tup, old_lst, olds_nil, olds_cons, killB_true, killB_false, killF_nil, yngO_sh, yngO_lst, yng_int, yng_str, yng_bl, yng_non, yng_scr, yng_tup, yng_lstT, yng_lstF, yngs_nil, yngs_cons, oldF_cons, killF_cons, Option.map_none, Option.bind_some, Option.bind_none, killO_eq, atI_0, atI_1, atI_2, atI_3, len1, len2, len3, len4, len5, len6, len7, le_big1, le_big2, le_big3, le_big4, le_big5, le_big6, le_big7, le_big8, le_big9, le_big10, le_big11, le_big12, kStr, opqAt, lstOf, blsD, idxB, show 4 + 4 ≤ big from by decide, show 4 ≤ big from by decide, show 9 ≤ big from by decide, show 8 < big from by decide, List.length_cons, List.length_nil, List.filter_cons, List.filter_nil, id, show decide (((0 + 1 : Nat) : Int) = 1) = true from rfl, Nat.zero_add, Nat.reduceAdd, show atI [D.str "BadWindow", D.str "BadPlan", D.str "BadDelays", D.str "BadWorks", D.str "NoPats", D.str "NoPlace", D.str "BadTasks", D.str "BadBeat", D.str "TooMuch"] (4 : Nat) = some (D.str "NoPats") from atI_nat rfl]
  try rfl
theorem kev5 : evS cl0 0 (kcB false false false false false true false false false) [none, some (.sh .opq), none, none] = .ok (.ret (.sh (.str "NoPlace"))) [none, some (.sh .opq), some (.lst true [.bl false, .bl false, .bl false, .bl false, .bl false, .bl true, .bl false, .bl false, .bl false]), some (.lst true [.str "BadWindow", .str "BadPlan", .str "BadDelays", .str "BadWorks", .str "NoPats", .str "NoPlace", .str "BadTasks", .str "BadBeat", .str "TooMuch"])] := by
  unfold kcB kwords
  simp only [evO_e1, evO_e2, evO_e3, evO_e4, evO_e5, evO_e7, evO_e9, evO_e10, evO_e11, evO_e12, evO_e14, evO_e15, evO_e16, evO_e17, evO_e18, evO_e19, evO_e20, evO_e21, evPs_e1, evPs_e2, evB_e1, evI_rng, evI_e2, evI_e3, evS_e1, evS_e3, evS_e4, evS_e5, evS_e7, evS_e8, evS_e9, evS_e10, evS_e14, evS_poke, yngL_lst, lk_lst, lk_sh, look_val, look_at, opv_sh, opv_lst, opv_obj, opv_dic, opd_var, opd_ne, frzAt_eq, fza_sh, fza_lst, give_val, give_at, dcA_some, dcB_ok, dcB_exn, doCall_eq, bin_addI, bin_addL, bin_addT, bin_sub, bin_mulI, bin_mulL, bin_fdiv, bin_mod, bin_pow, cmp_eq, cmp_ne, cmp_lt, cmp_le, cmp_gt, cmp_ge, cmp_is, cmp_isn, cmp_inL, cmp_inT, cmp_ninL, cmp_ninT, isNon_non, isNon_int, isNon_str, isNon_bl, isNon_tup, isNon_lst, ix_lst, ix_tup, ix_scr, sl_lst, sl_tup, seq_lst, seq_tup, seq_scr, seqL_lst, seqL_scr, bi_lenL, bi_lenT, bi_lenS, bi_listL, bi_listT, bi_tupL, bi_tupT, bi_intI, bi_intB, bi_max2, bi_min2, rngsD_1, rngsD_2, rngsD_3, lao_lst, lstAt_se, gpo_obj, lstAt_fe, setPl_s, spo_obj, setPl_f, partE_nil, partE_ne, intO_sh, lstD_lst, fldR_sh, fldR_obj, evO_fld, negR_int, evO_neg, iteR_true, iteR_false, evO_ite, chR_true, chR_false, evC_one, evC_two, bopR_tt, bopR_tf, bopR_ft, bopR_ff, evB_cs, sfR_obj, evS_setfld, evI_e, evS_seq, evS_ite, evS_for, evS_whl, evO_lc, kSeq_nx, kSeq_ret, kIf_true, kIf_false, kLcs_true, bnd_ok, bnd_exn, bnd_fail, opt_some, opt_none, optC_some, asB_ok, asB_exn, asI_ok, getS, setS, looks, frz, frzs, gives, takeA, backA, doNew, intsD, outsOf, eqD_int, kRun_nx, kRun_ret, kRun_exn, wipeF, backF, ne_eq, not_false_eq_true, forall_const, implies_true, reduceCtorEq, List.map_cons, List.map_nil, List.cons_append, List.nil_append, List.append_nil, List.replicate_succ, List.replicate_zero, Option.map_some, and_self, if_true, if_false, decide_true, decide_false, Bool.not_true, Bool.not_false, Bool.false_eq_true, Bool.or_true, Bool.true_or, Bool.and_true, Bool.true_and, Bool.or_false, Bool.false_or, asg_name, asg_tup, asg2_some, asgs_nil, asgs_cons, evO_gint, Nat.sub_self, Nat.reduceSub, shOrNone_none, shOrNone_sh, List.all_cons, List.all_nil, evO_isi, evO_isx, evO_cntT, evO_idxT, evO_kind, kindR_ok, kindR_exn, isi_int, isi_bl, isi_str, isi_non, isi_tup, isi_lst, eqD_bl, eqD_str, isa_int_TL, isa_int_L, isa_int_S, isa_int_B, isa_int_I, isa_int_T, isa_bool_TL, isa_bool_L, isa_bool_S, isa_bool_B, isa_bool_I, isa_bool_T, isa_str_TL, isa_str_L, isa_str_S, isa_str_B, isa_str_I, isa_str_T, isa_list_TL, isa_list_L, isa_list_S, isa_list_B, isa_list_I, isa_list_T, isa_tuple_TL, isa_tuple_L, isa_tuple_S, isa_tuple_B, isa_tuple_I, isa_tuple_T, isa_none_TL, isa_none_L, isa_none_S, isa_none_B, isa_none_I, isa_none_T, eqD_nil0, List.length_nil, Nat.zero_le, oldF_nil, oldO_sh, oldO_lst, old_int, old_str, old_bl, old_non, old_scr, old_tup, old_lst, olds_nil, olds_cons, killB_true, killB_false, killF_nil, yngO_sh, yngO_lst, yng_int, yng_str, yng_bl, yng_non, yng_scr, yng_tup, yng_lstT, yng_lstF, yngs_nil, yngs_cons, oldF_cons, killF_cons, Option.map_none, Option.bind_some, Option.bind_none, killO_eq, atI_0, atI_1, atI_2, atI_3, len1, len2, len3, len4, len5, len6, len7, le_big1, le_big2, le_big3, le_big4, le_big5, le_big6, le_big7, le_big8, le_big9, le_big10, le_big11, le_big12, kStr, opqAt, lstOf, blsD, idxB, show 4 + 4 ≤ big from by decide, show 4 ≤ big from by decide, show 9 ≤ big from by decide, show 8 < big from by decide, List.length_cons, List.length_nil, List.filter_cons, List.filter_nil, id, show decide (((0 + 1 : Nat) : Int) = 1) = true from rfl, Nat.zero_add, Nat.reduceAdd, show atI [D.str "BadWindow", D.str "BadPlan", D.str "BadDelays", D.str "BadWorks", D.str "NoPats", D.str "NoPlace", D.str "BadTasks", D.str "BadBeat", D.str "TooMuch"] (5 : Nat) = some (D.str "NoPlace") from atI_nat rfl]
  try rfl
theorem kev6 : evS cl0 0 (kcB false false false false false false true false false) [none, some (.sh .opq), none, none] = .ok (.ret (.sh (.str "BadTasks"))) [none, some (.sh .opq), some (.lst true [.bl false, .bl false, .bl false, .bl false, .bl false, .bl false, .bl true, .bl false, .bl false]), some (.lst true [.str "BadWindow", .str "BadPlan", .str "BadDelays", .str "BadWorks", .str "NoPats", .str "NoPlace", .str "BadTasks", .str "BadBeat", .str "TooMuch"])] := by
  unfold kcB kwords
  simp only [evO_e1, evO_e2, evO_e3, evO_e4, evO_e5, evO_e7, evO_e9, evO_e10, evO_e11, evO_e12, evO_e14, evO_e15, evO_e16, evO_e17, evO_e18, evO_e19, evO_e20, evO_e21, evPs_e1, evPs_e2, evB_e1, evI_rng, evI_e2, evI_e3, evS_e1, evS_e3, evS_e4, evS_e5, evS_e7, evS_e8, evS_e9, evS_e10, evS_e14, evS_poke, yngL_lst, lk_lst, lk_sh, look_val, look_at, opv_sh, opv_lst, opv_obj, opv_dic, opd_var, opd_ne, frzAt_eq, fza_sh, fza_lst, give_val, give_at, dcA_some, dcB_ok, dcB_exn, doCall_eq, bin_addI, bin_addL, bin_addT, bin_sub, bin_mulI, bin_mulL, bin_fdiv, bin_mod, bin_pow, cmp_eq, cmp_ne, cmp_lt, cmp_le, cmp_gt, cmp_ge, cmp_is, cmp_isn, cmp_inL, cmp_inT, cmp_ninL, cmp_ninT, isNon_non, isNon_int, isNon_str, isNon_bl, isNon_tup, isNon_lst, ix_lst, ix_tup, ix_scr, sl_lst, sl_tup, seq_lst, seq_tup, seq_scr, seqL_lst, seqL_scr, bi_lenL, bi_lenT, bi_lenS, bi_listL, bi_listT, bi_tupL, bi_tupT, bi_intI, bi_intB, bi_max2, bi_min2, rngsD_1, rngsD_2, rngsD_3, lao_lst, lstAt_se, gpo_obj, lstAt_fe, setPl_s, spo_obj, setPl_f, partE_nil, partE_ne, intO_sh, lstD_lst, fldR_sh, fldR_obj, evO_fld, negR_int, evO_neg, iteR_true, iteR_false, evO_ite, chR_true, chR_false, evC_one, evC_two, bopR_tt, bopR_tf, bopR_ft, bopR_ff, evB_cs, sfR_obj, evS_setfld, evI_e, evS_seq, evS_ite, evS_for, evS_whl, evO_lc, kSeq_nx, kSeq_ret, kIf_true, kIf_false, kLcs_true, bnd_ok, bnd_exn, bnd_fail, opt_some, opt_none, optC_some, asB_ok, asB_exn, asI_ok, getS, setS, looks, frz, frzs, gives, takeA, backA, doNew, intsD, outsOf, eqD_int, kRun_nx, kRun_ret, kRun_exn, wipeF, backF, ne_eq, not_false_eq_true, forall_const, implies_true, reduceCtorEq, List.map_cons, List.map_nil, List.cons_append, List.nil_append, List.append_nil, List.replicate_succ, List.replicate_zero, Option.map_some, and_self, if_true, if_false, decide_true, decide_false, Bool.not_true, Bool.not_false, Bool.false_eq_true, Bool.or_true, Bool.true_or, Bool.and_true, Bool.true_and, Bool.or_false, Bool.false_or, asg_name, asg_tup, asg2_some, asgs_nil, asgs_cons, evO_gint, Nat.sub_self, Nat.reduceSub, shOrNone_none, shOrNone_sh, List.all_cons, List.all_nil, evO_isi, evO_isx, evO_cntT, evO_idxT, evO_kind, kindR_ok, kindR_exn, isi_int, isi_bl, isi_str, isi_non, isi_tup, isi_lst, eqD_bl, eqD_str, isa_int_TL, isa_int_L, isa_int_S, isa_int_B, isa_int_I, isa_int_T, isa_bool_TL, isa_bool_L, isa_bool_S, isa_bool_B, isa_bool_I, isa_bool_T, isa_str_TL, isa_str_L, isa_str_S, isa_str_B, isa_str_I, isa_str_T, isa_list_TL, isa_list_L, isa_list_S, isa_list_B, isa_list_I, isa_list_T, isa_tuple_TL, isa_tuple_L, isa_tuple_S, isa_tuple_B, isa_tuple_I, isa_tuple_T, isa_none_TL, isa_none_L, isa_none_S, isa_none_B, isa_none_I, isa_none_T, eqD_nil0, List.length_nil, Nat.zero_le, oldF_nil, oldO_sh, oldO_lst, old_int, old_str, old_bl, old_non, old_scr, old_tup, old_lst, olds_nil, olds_cons, killB_true, killB_false, killF_nil, yngO_sh, yngO_lst, yng_int, yng_str, yng_bl, yng_non, yng_scr, yng_tup, yng_lstT, yng_lstF, yngs_nil, yngs_cons, oldF_cons, killF_cons, Option.map_none, Option.bind_some, Option.bind_none, killO_eq, atI_0, atI_1, atI_2, atI_3, len1, len2, len3, len4, len5, len6, len7, le_big1, le_big2, le_big3, le_big4, le_big5, le_big6, le_big7, le_big8, le_big9, le_big10, le_big11, le_big12, kStr, opqAt, lstOf, blsD, idxB, show 4 + 4 ≤ big from by decide, show 4 ≤ big from by decide, show 9 ≤ big from by decide, show 8 < big from by decide, List.length_cons, List.length_nil, List.filter_cons, List.filter_nil, id, show decide (((0 + 1 : Nat) : Int) = 1) = true from rfl, Nat.zero_add, Nat.reduceAdd, show atI [D.str "BadWindow", D.str "BadPlan", D.str "BadDelays", D.str "BadWorks", D.str "NoPats", D.str "NoPlace", D.str "BadTasks", D.str "BadBeat", D.str "TooMuch"] (6 : Nat) = some (D.str "BadTasks") from atI_nat rfl]
  try rfl
theorem kev7 : evS cl0 0 (kcB false false false false false false false true false) [none, some (.sh .opq), none, none] = .ok (.ret (.sh (.str "BadBeat"))) [none, some (.sh .opq), some (.lst true [.bl false, .bl false, .bl false, .bl false, .bl false, .bl false, .bl false, .bl true, .bl false]), some (.lst true [.str "BadWindow", .str "BadPlan", .str "BadDelays", .str "BadWorks", .str "NoPats", .str "NoPlace", .str "BadTasks", .str "BadBeat", .str "TooMuch"])] := by
  unfold kcB kwords
  simp only [evO_e1, evO_e2, evO_e3, evO_e4, evO_e5, evO_e7, evO_e9, evO_e10, evO_e11, evO_e12, evO_e14, evO_e15, evO_e16, evO_e17, evO_e18, evO_e19, evO_e20, evO_e21, evPs_e1, evPs_e2, evB_e1, evI_rng, evI_e2, evI_e3, evS_e1, evS_e3, evS_e4, evS_e5, evS_e7, evS_e8, evS_e9, evS_e10, evS_e14, evS_poke, yngL_lst, lk_lst, lk_sh, look_val, look_at, opv_sh, opv_lst, opv_obj, opv_dic, opd_var, opd_ne, frzAt_eq, fza_sh, fza_lst, give_val, give_at, dcA_some, dcB_ok, dcB_exn, doCall_eq, bin_addI, bin_addL, bin_addT, bin_sub, bin_mulI, bin_mulL, bin_fdiv, bin_mod, bin_pow, cmp_eq, cmp_ne, cmp_lt, cmp_le, cmp_gt, cmp_ge, cmp_is, cmp_isn, cmp_inL, cmp_inT, cmp_ninL, cmp_ninT, isNon_non, isNon_int, isNon_str, isNon_bl, isNon_tup, isNon_lst, ix_lst, ix_tup, ix_scr, sl_lst, sl_tup, seq_lst, seq_tup, seq_scr, seqL_lst, seqL_scr, bi_lenL, bi_lenT, bi_lenS, bi_listL, bi_listT, bi_tupL, bi_tupT, bi_intI, bi_intB, bi_max2, bi_min2, rngsD_1, rngsD_2, rngsD_3, lao_lst, lstAt_se, gpo_obj, lstAt_fe, setPl_s, spo_obj, setPl_f, partE_nil, partE_ne, intO_sh, lstD_lst, fldR_sh, fldR_obj, evO_fld, negR_int, evO_neg, iteR_true, iteR_false, evO_ite, chR_true, chR_false, evC_one, evC_two, bopR_tt, bopR_tf, bopR_ft, bopR_ff, evB_cs, sfR_obj, evS_setfld, evI_e, evS_seq, evS_ite, evS_for, evS_whl, evO_lc, kSeq_nx, kSeq_ret, kIf_true, kIf_false, kLcs_true, bnd_ok, bnd_exn, bnd_fail, opt_some, opt_none, optC_some, asB_ok, asB_exn, asI_ok, getS, setS, looks, frz, frzs, gives, takeA, backA, doNew, intsD, outsOf, eqD_int, kRun_nx, kRun_ret, kRun_exn, wipeF, backF, ne_eq, not_false_eq_true, forall_const, implies_true, reduceCtorEq, List.map_cons, List.map_nil, List.cons_append, List.nil_append, List.append_nil, List.replicate_succ, List.replicate_zero, Option.map_some, and_self, if_true, if_false, decide_true, decide_false, Bool.not_true, Bool.not_false, Bool.false_eq_true, Bool.or_true, Bool.true_or, Bool.and_true, Bool.true_and, Bool.or_false, Bool.false_or, asg_name, asg_tup, asg2_some, asgs_nil, asgs_cons, evO_gint, Nat.sub_self, Nat.reduceSub, shOrNone_none, shOrNone_sh, List.all_cons, List.all_nil, evO_isi, evO_isx, evO_cntT, evO_idxT, evO_kind, kindR_ok, kindR_exn, isi_int, isi_bl, isi_str, isi_non, isi_tup, isi_lst, eqD_bl, eqD_str, isa_int_TL, isa_int_L, isa_int_S, isa_int_B, isa_int_I, isa_int_T, isa_bool_TL, isa_bool_L, isa_bool_S, isa_bool_B, isa_bool_I, isa_bool_T, isa_str_TL, isa_str_L, isa_str_S, isa_str_B, isa_str_I, isa_str_T, isa_list_TL, isa_list_L, isa_list_S, isa_list_B, isa_list_I, isa_list_T, isa_tuple_TL, isa_tuple_L, isa_tuple_S, isa_tuple_B, isa_tuple_I, isa_tuple_T, isa_none_TL, isa_none_L, isa_none_S, isa_none_B, isa_none_I, isa_none_T, eqD_nil0, List.length_nil, Nat.zero_le, oldF_nil, oldO_sh, oldO_lst, old_int, old_str, old_bl, old_non, old_scr, old_tup, old_lst, olds_nil, olds_cons, killB_true, killB_false, killF_nil, yngO_sh, yngO_lst, yng_int, yng_str, yng_bl, yng_non, yng_scr, yng_tup, yng_lstT, yng_lstF, yngs_nil, yngs_cons, oldF_cons, killF_cons, Option.map_none, Option.bind_some, Option.bind_none, killO_eq, atI_0, atI_1, atI_2, atI_3, len1, len2, len3, len4, len5, len6, len7, le_big1, le_big2, le_big3, le_big4, le_big5, le_big6, le_big7, le_big8, le_big9, le_big10, le_big11, le_big12, kStr, opqAt, lstOf, blsD, idxB, show 4 + 4 ≤ big from by decide, show 4 ≤ big from by decide, show 9 ≤ big from by decide, show 8 < big from by decide, List.length_cons, List.length_nil, List.filter_cons, List.filter_nil, id, show decide (((0 + 1 : Nat) : Int) = 1) = true from rfl, Nat.zero_add, Nat.reduceAdd, show atI [D.str "BadWindow", D.str "BadPlan", D.str "BadDelays", D.str "BadWorks", D.str "NoPats", D.str "NoPlace", D.str "BadTasks", D.str "BadBeat", D.str "TooMuch"] (7 : Nat) = some (D.str "BadBeat") from atI_nat rfl]
  try rfl
theorem kev8 : evS cl0 0 (kcB false false false false false false false false true) [none, some (.sh .opq), none, none] = .ok (.ret (.sh (.str "TooMuch"))) [none, some (.sh .opq), some (.lst true [.bl false, .bl false, .bl false, .bl false, .bl false, .bl false, .bl false, .bl false, .bl true]), some (.lst true [.str "BadWindow", .str "BadPlan", .str "BadDelays", .str "BadWorks", .str "NoPats", .str "NoPlace", .str "BadTasks", .str "BadBeat", .str "TooMuch"])] := by
  unfold kcB kwords
  simp only [evO_e1, evO_e2, evO_e3, evO_e4, evO_e5, evO_e7, evO_e9, evO_e10, evO_e11, evO_e12, evO_e14, evO_e15, evO_e16, evO_e17, evO_e18, evO_e19, evO_e20, evO_e21, evPs_e1, evPs_e2, evB_e1, evI_rng, evI_e2, evI_e3, evS_e1, evS_e3, evS_e4, evS_e5, evS_e7, evS_e8, evS_e9, evS_e10, evS_e14, evS_poke, yngL_lst, lk_lst, lk_sh, look_val, look_at, opv_sh, opv_lst, opv_obj, opv_dic, opd_var, opd_ne, frzAt_eq, fza_sh, fza_lst, give_val, give_at, dcA_some, dcB_ok, dcB_exn, doCall_eq, bin_addI, bin_addL, bin_addT, bin_sub, bin_mulI, bin_mulL, bin_fdiv, bin_mod, bin_pow, cmp_eq, cmp_ne, cmp_lt, cmp_le, cmp_gt, cmp_ge, cmp_is, cmp_isn, cmp_inL, cmp_inT, cmp_ninL, cmp_ninT, isNon_non, isNon_int, isNon_str, isNon_bl, isNon_tup, isNon_lst, ix_lst, ix_tup, ix_scr, sl_lst, sl_tup, seq_lst, seq_tup, seq_scr, seqL_lst, seqL_scr, bi_lenL, bi_lenT, bi_lenS, bi_listL, bi_listT, bi_tupL, bi_tupT, bi_intI, bi_intB, bi_max2, bi_min2, rngsD_1, rngsD_2, rngsD_3, lao_lst, lstAt_se, gpo_obj, lstAt_fe, setPl_s, spo_obj, setPl_f, partE_nil, partE_ne, intO_sh, lstD_lst, fldR_sh, fldR_obj, evO_fld, negR_int, evO_neg, iteR_true, iteR_false, evO_ite, chR_true, chR_false, evC_one, evC_two, bopR_tt, bopR_tf, bopR_ft, bopR_ff, evB_cs, sfR_obj, evS_setfld, evI_e, evS_seq, evS_ite, evS_for, evS_whl, evO_lc, kSeq_nx, kSeq_ret, kIf_true, kIf_false, kLcs_true, bnd_ok, bnd_exn, bnd_fail, opt_some, opt_none, optC_some, asB_ok, asB_exn, asI_ok, getS, setS, looks, frz, frzs, gives, takeA, backA, doNew, intsD, outsOf, eqD_int, kRun_nx, kRun_ret, kRun_exn, wipeF, backF, ne_eq, not_false_eq_true, forall_const, implies_true, reduceCtorEq, List.map_cons, List.map_nil, List.cons_append, List.nil_append, List.append_nil, List.replicate_succ, List.replicate_zero, Option.map_some, and_self, if_true, if_false, decide_true, decide_false, Bool.not_true, Bool.not_false, Bool.false_eq_true, Bool.or_true, Bool.true_or, Bool.and_true, Bool.true_and, Bool.or_false, Bool.false_or, asg_name, asg_tup, asg2_some, asgs_nil, asgs_cons, evO_gint, Nat.sub_self, Nat.reduceSub, shOrNone_none, shOrNone_sh, List.all_cons, List.all_nil, evO_isi, evO_isx, evO_cntT, evO_idxT, evO_kind, kindR_ok, kindR_exn, isi_int, isi_bl, isi_str, isi_non, isi_tup, isi_lst, eqD_bl, eqD_str, isa_int_TL, isa_int_L, isa_int_S, isa_int_B, isa_int_I, isa_int_T, isa_bool_TL, isa_bool_L, isa_bool_S, isa_bool_B, isa_bool_I, isa_bool_T, isa_str_TL, isa_str_L, isa_str_S, isa_str_B, isa_str_I, isa_str_T, isa_list_TL, isa_list_L, isa_list_S, isa_list_B, isa_list_I, isa_list_T, isa_tuple_TL, isa_tuple_L, isa_tuple_S, isa_tuple_B, isa_tuple_I, isa_tuple_T, isa_none_TL, isa_none_L, isa_none_S, isa_none_B, isa_none_I, isa_none_T, eqD_nil0, List.length_nil, Nat.zero_le, oldF_nil, oldO_sh, oldO_lst, old_int, old_str, old_bl, old_non, old_scr, old_tup, old_lst, olds_nil, olds_cons, killB_true, killB_false, killF_nil, yngO_sh, yngO_lst, yng_int, yng_str, yng_bl, yng_non, yng_scr, yng_tup, yng_lstT, yng_lstF, yngs_nil, yngs_cons, oldF_cons, killF_cons, Option.map_none, Option.bind_some, Option.bind_none, killO_eq, atI_0, atI_1, atI_2, atI_3, len1, len2, len3, len4, len5, len6, len7, le_big1, le_big2, le_big3, le_big4, le_big5, le_big6, le_big7, le_big8, le_big9, le_big10, le_big11, le_big12, kStr, opqAt, lstOf, blsD, idxB, show 4 + 4 ≤ big from by decide, show 4 ≤ big from by decide, show 9 ≤ big from by decide, show 8 < big from by decide, List.length_cons, List.length_nil, List.filter_cons, List.filter_nil, id, show decide (((0 + 1 : Nat) : Int) = 1) = true from rfl, Nat.zero_add, Nat.reduceAdd, show atI [D.str "BadWindow", D.str "BadPlan", D.str "BadDelays", D.str "BadWorks", D.str "NoPats", D.str "NoPlace", D.str "BadTasks", D.str "BadBeat", D.str "TooMuch"] (8 : Nat) = some (D.str "TooMuch") from atI_nat rfl]
  try rfl
theorem kind_ev {s : Str} (h : s ∈ kwords) : ∃ ρ, evS cl0 0 (kindCode s) [none, some (.sh .opq), none, none] = .ok (.ret (.sh (.str s))) ρ := by
  unfold kwords at h
  simp only [List.mem_cons, List.not_mem_nil, or_false] at h
  rcases h with rfl | rfl | rfl | rfl | rfl | rfl | rfl | rfl | rfl
  · exact ⟨_, kev0⟩
  · exact ⟨_, kev1⟩
  · exact ⟨_, kev2⟩
  · exact ⟨_, kev3⟩
  · exact ⟨_, kev4⟩
  · exact ⟨_, kev5⟩
  · exact ⟨_, kev6⟩
  · exact ⟨_, kev7⟩
  · exact ⟨_, kev8⟩
end WD


/-! WD, part 18: the laws' draws. -/
namespace WD
open PySem PySem.Spec PyProof.Rows L2
/-- a state of the draws -/
def St (ns : List Int) (o : O) : Prop := ∃ (t : Bool) (p m r : Int), o = .lst t [.scr ns, .int p, .int m, .int r] ∧ 0 ≤ p
theorem St.lst {ns : List Int} {o : O} (h : St ns o) : ∃ t ds, o = .lst t ds := by
  obtain ⟨t, p, m, r, rfl, _⟩ := h
  exact ⟨_, _, rfl⟩
structure DrawOk (ns : List Int) (cl : Cl) (i : Nat) : Prop where
  io : cl.io i = [true, false]
  run : ∀ (t : Bool) (ds : List D) (many : Int), St ns (.lst t ds) → 0 < many → many < 2 ^ 128 → ∃ (v : Int) (t' : Bool) (ds' : List D), St ns (.lst t' ds') ∧ 0 ≤ v ∧ v < many ∧ cl.run i [.lst t ds, .sh (.int many)] = .ok (.sh (.int v)) [.lst t' ds']
/-- _law_drawn(_law_state, _law_many): 0=_law_state 1=_law_many 2=_law_found 3=_law_cell -/
def F__law_drawn : WD.Fn := ⟨2, 4, [true, false], (.seq (.ite (.cmp .gt (.ix (.var 0) (.cint 3)) (.cint 0)) (.seq (.set 2 (.bin .mod (.ix (.var 0) (.cint 3)) (.var 1))) (.seq (.setix 0 (.cint 3) (.bin .fdiv (.ix (.var 0) (.cint 3)) (.var 1))) (.seq (.ret (.var 2)) .skip))) .skip) (.seq (.setix 0 (.cint 1) (.bin .add (.ix (.var 0) (.cint 1)) (.cint 1))) (.seq (.ite (.cmp .le (.ix (.var 0) (.cint 1)) (.bi .len (.cons (.ix (.var 0) (.cint 0)) .nil))) (.seq (.set 3 (.ix (.ix (.var 0) (.cint 0)) (.bin .sub (.ix (.var 0) (.cint 1)) (.cint 1)))) (.seq (.setix 0 (.cint 3) (.ite (.cmp .ge (.var 3) (.bin .pow (.cint 10) (.cint 18))) (.bin .fdiv (.var 3) (.var 1)) (.cint 0))) (.seq (.ret (.bin .mod (.var 3) (.var 1))) .skip))) .skip) (.seq (.setix 0 (.cint 2) (.bin .mod (.bin .add (.bin .mul (.ix (.var 0) (.cint 2)) (.cint 48271)) (.cint 11)) (.cint 2147483647))) (.seq (.ret (.bin .mod (.bin .fdiv (.ix (.var 0) (.cint 2)) (.cint 7)) (.var 1))) .skip)))))⟩
/-- _law_start(_law_script): 0=_law_script 1=_law_mixed 2=_law_cell -/
def F__law_start_b1 : WD.S := (.seq (.set 1 (.bin .mod (.bin .add (.bin .add (.bin .mul (.var 1) (.cint 48271)) (.var 2)) (.cint 7)) (.cint 2147483647))) .skip)
def F__law_start : WD.Fn := ⟨1, 3, [false], (.seq (.set 1 (.cint 1)) (.seq (.for_ false (.name 2) (.var 0) F__law_start_b1) (.seq (.ret (.lst (.cons (.var 0) (.cons (.cint 0) (.cons (.var 1) (.cons (.cint 0) .nil)))))) .skip)))⟩
/-- _law_window(_law_state, _law_most): 0=_law_state 1=_law_most 2=_law_high -/
def F__law_window (i__law_drawn : Nat) : WD.Fn := ⟨2, 3, [true, false], (.seq (.set 2 (.call i__law_drawn (.cons (.var 0) (.cons (.bin .add (.var 1) (.cint 1)) .nil)))) (.seq (.ret (.tup (.cons (.ix (.lst (.cons (.cint 0) (.cons (.call i__law_drawn (.cons (.var 0) (.cons (.bin .add (.var 2) (.cint 1)) .nil))) (.cons (.call i__law_drawn (.cons (.var 0) (.cons (.bin .add (.bin .fdiv (.var 2) (.cint 2)) (.cint 1)) .nil))) .nil)))) (.call i__law_drawn (.cons (.var 0) (.cons (.cint 3) .nil)))) (.cons (.var 2) .nil)))) .skip))⟩
theorem drawn_run (cl : Cl) (N : Nat) {ns : List Int} {o : O} {many : Int} (h : St ns o) (h0 : 0 < many) (h1 : many < 2 ^ 128) : ∃ (v : Int) (o' : O), St ns o' ∧ 0 ≤ v ∧ v < many ∧ runF cl N F__law_drawn [o, .sh (.int many)] = .ok (.sh (.int v)) [o'] := by
  obtain ⟨t, p, m, r, rfl, hp⟩ := h
  have hm200 : many < 2 ^ 200 := by omega
  rw [runF_eq _ _ _ _ rfl]
  by_cases hr : 0 < r
  · refine ⟨r % many, .lst t [.scr ns, .int p, .int m, .int (r / many)], ⟨_, _, _, _, rfl, hp⟩, Int.emod_nonneg _ (by omega), Int.emod_lt_of_pos _ h0, ?_⟩
    unfold F__law_drawn
    simp only [evO_e1, evO_e2, evO_e3, evO_e4, evO_e5, evO_e7, evO_e9, evO_e10, evO_e11, evO_e12, evO_e14, evO_e15, evO_e16, evO_e17, evO_e18, evO_e19, evO_e20, evO_e21, evPs_e1, evPs_e2, evB_e1, evI_rng, evI_e2, evI_e3, evS_e1, evS_e3, evS_e4, evS_e5, evS_e7, evS_e8, evS_e9, evS_e10, evS_e14, evS_poke, yngL_lst, lk_lst, lk_sh, look_val, look_at, opv_sh, opv_lst, opv_obj, opv_dic, opd_var, opd_ne, frzAt_eq, fza_sh, fza_lst, give_val, give_at, dcA_some, dcB_ok, dcB_exn, doCall_eq, bin_addI, bin_addL, bin_addT, bin_sub, bin_mulI, bin_mulL, bin_fdiv, bin_mod, bin_pow, cmp_eq, cmp_ne, cmp_lt, cmp_le, cmp_gt, cmp_ge, cmp_is, cmp_isn, cmp_inL, cmp_inT, cmp_ninL, cmp_ninT, isNon_non, isNon_int, isNon_str, isNon_bl, isNon_tup, isNon_lst, ix_lst, ix_tup, ix_scr, sl_lst, sl_tup, seq_lst, seq_tup, seq_scr, seqL_lst, seqL_scr, bi_lenL, bi_lenT, bi_lenS, bi_listL, bi_listT, bi_tupL, bi_tupT, bi_intI, bi_intB, bi_max2, bi_min2, rngsD_1, rngsD_2, rngsD_3, lao_lst, lstAt_se, gpo_obj, lstAt_fe, setPl_s, spo_obj, setPl_f, partE_nil, partE_ne, intO_sh, lstD_lst, fldR_sh, fldR_obj, evO_fld, negR_int, evO_neg, iteR_true, iteR_false, evO_ite, chR_true, chR_false, evC_one, evC_two, bopR_tt, bopR_tf, bopR_ft, bopR_ff, evB_cs, sfR_obj, evS_setfld, evI_e, evS_seq, evS_ite, evS_for, evS_whl, evO_lc, kSeq_nx, kSeq_ret, kIf_true, kIf_false, kLcs_true, bnd_ok, bnd_exn, bnd_fail, opt_some, opt_none, optC_some, asB_ok, asB_exn, asI_ok, getS, setS, looks, frz, frzs, gives, takeA, backA, doNew, intsD, outsOf, eqD_int, kRun_nx, kRun_ret, kRun_exn, wipeF, backF, ne_eq, not_false_eq_true, forall_const, implies_true, reduceCtorEq, List.map_cons, List.map_nil, List.cons_append, List.nil_append, List.append_nil, List.replicate_succ, List.replicate_zero, Option.map_some, and_self, if_true, if_false, decide_true, decide_false, Bool.not_true, Bool.not_false, Bool.false_eq_true, Bool.or_true, Bool.true_or, Bool.and_true, Bool.true_and, Bool.or_false, Bool.false_or, asg_name, asg_tup, asg2_some, asgs_nil, asgs_cons, evO_gint, Nat.sub_self, Nat.reduceSub, shOrNone_none, shOrNone_sh, List.all_cons, List.all_nil, evO_isi, evO_isx, evO_cntT, evO_idxT, evO_kind, kindR_ok, kindR_exn, isi_int, isi_bl, isi_str, isi_non, isi_tup, isi_lst, eqD_bl, eqD_str, isa_int_TL, isa_int_L, isa_int_S, isa_int_B, isa_int_I, isa_int_T, isa_bool_TL, isa_bool_L, isa_bool_S, isa_bool_B, isa_bool_I, isa_bool_T, isa_str_TL, isa_str_L, isa_str_S, isa_str_B, isa_str_I, isa_str_T, isa_list_TL, isa_list_L, isa_list_S, isa_list_B, isa_list_I, isa_list_T, isa_tuple_TL, isa_tuple_L, isa_tuple_S, isa_tuple_B, isa_tuple_I, isa_tuple_T, isa_none_TL, isa_none_L, isa_none_S, isa_none_B, isa_none_I, isa_none_T, eqD_nil0, List.length_nil, Nat.zero_le, oldF_nil, oldO_sh, oldO_lst, old_int, old_str, old_bl, old_non, old_scr, old_tup, old_lst, olds_nil, olds_cons, killB_true, killB_false, killF_nil, yngO_sh, yngO_lst, yng_int, yng_str, yng_bl, yng_non, yng_scr, yng_tup, yng_lstT, yng_lstF, yngs_nil, yngs_cons, oldF_cons, killF_cons, Option.map_none, Option.bind_some, Option.bind_none, killO_eq, atI_0, atI_1, atI_2, atI_3, len1, len2, len3, len4, len5, len6, len7, le_big1, le_big2, le_big3, le_big4, le_big5, le_big6, le_big7, le_big8, le_big9, le_big10, le_big11, le_big12, atI_3, hr, decide_true, h0, if_true, hm200, and_self, len4, ixN_43, List.set_cons_succ, List.set_cons_zero]
  · by_cases hq : p + 1 ≤ (ns.length : Int)
    · have hlt : p.toNat < ns.length := by omega
      have ha : atI ns (p + 1 - 1) = some ns[p.toNat] := atI_nat' (by omega) (by rw [show (p + 1 - 1).toNat = p.toNat by omega]; exact List.getElem?_eq_getElem hlt)
      generalize ns[p.toNat] = c at ha
      refine ⟨c % many, .lst t [.scr ns, .int (p + 1), .int m, .int (if 10 ^ 18 ≤ c then c / many else 0)], ⟨_, _, _, _, rfl, by omega⟩, Int.emod_nonneg _ (by omega), Int.emod_lt_of_pos _ h0, ?_⟩
      unfold F__law_drawn
      by_cases hc : (10 ^ 18 : Int) ≤ c
      · simp only [evO_e1, evO_e2, evO_e3, evO_e4, evO_e5, evO_e7, evO_e9, evO_e10, evO_e11, evO_e12, evO_e14, evO_e15, evO_e16, evO_e17, evO_e18, evO_e19, evO_e20, evO_e21, evPs_e1, evPs_e2, evB_e1, evI_rng, evI_e2, evI_e3, evS_e1, evS_e3, evS_e4, evS_e5, evS_e7, evS_e8, evS_e9, evS_e10, evS_e14, evS_poke, yngL_lst, lk_lst, lk_sh, look_val, look_at, opv_sh, opv_lst, opv_obj, opv_dic, opd_var, opd_ne, frzAt_eq, fza_sh, fza_lst, give_val, give_at, dcA_some, dcB_ok, dcB_exn, doCall_eq, bin_addI, bin_addL, bin_addT, bin_sub, bin_mulI, bin_mulL, bin_fdiv, bin_mod, bin_pow, cmp_eq, cmp_ne, cmp_lt, cmp_le, cmp_gt, cmp_ge, cmp_is, cmp_isn, cmp_inL, cmp_inT, cmp_ninL, cmp_ninT, isNon_non, isNon_int, isNon_str, isNon_bl, isNon_tup, isNon_lst, ix_lst, ix_tup, ix_scr, sl_lst, sl_tup, seq_lst, seq_tup, seq_scr, seqL_lst, seqL_scr, bi_lenL, bi_lenT, bi_lenS, bi_listL, bi_listT, bi_tupL, bi_tupT, bi_intI, bi_intB, bi_max2, bi_min2, rngsD_1, rngsD_2, rngsD_3, lao_lst, lstAt_se, gpo_obj, lstAt_fe, setPl_s, spo_obj, setPl_f, partE_nil, partE_ne, intO_sh, lstD_lst, fldR_sh, fldR_obj, evO_fld, negR_int, evO_neg, iteR_true, iteR_false, evO_ite, chR_true, chR_false, evC_one, evC_two, bopR_tt, bopR_tf, bopR_ft, bopR_ff, evB_cs, sfR_obj, evS_setfld, evI_e, evS_seq, evS_ite, evS_for, evS_whl, evO_lc, kSeq_nx, kSeq_ret, kIf_true, kIf_false, kLcs_true, bnd_ok, bnd_exn, bnd_fail, opt_some, opt_none, optC_some, asB_ok, asB_exn, asI_ok, getS, setS, looks, frz, frzs, gives, takeA, backA, doNew, intsD, outsOf, eqD_int, kRun_nx, kRun_ret, kRun_exn, wipeF, backF, ne_eq, not_false_eq_true, forall_const, implies_true, reduceCtorEq, List.map_cons, List.map_nil, List.cons_append, List.nil_append, List.append_nil, List.replicate_succ, List.replicate_zero, Option.map_some, and_self, if_true, if_false, decide_true, decide_false, Bool.not_true, Bool.not_false, Bool.false_eq_true, Bool.or_true, Bool.true_or, Bool.and_true, Bool.true_and, Bool.or_false, Bool.false_or, asg_name, asg_tup, asg2_some, asgs_nil, asgs_cons, evO_gint, Nat.sub_self, Nat.reduceSub, shOrNone_none, shOrNone_sh, List.all_cons, List.all_nil, evO_isi, evO_isx, evO_cntT, evO_idxT, evO_kind, kindR_ok, kindR_exn, isi_int, isi_bl, isi_str, isi_non, isi_tup, isi_lst, eqD_bl, eqD_str, isa_int_TL, isa_int_L, isa_int_S, isa_int_B, isa_int_I, isa_int_T, isa_bool_TL, isa_bool_L, isa_bool_S, isa_bool_B, isa_bool_I, isa_bool_T, isa_str_TL, isa_str_L, isa_str_S, isa_str_B, isa_str_I, isa_str_T, isa_list_TL, isa_list_L, isa_list_S, isa_list_B, isa_list_I, isa_list_T, isa_tuple_TL, isa_tuple_L, isa_tuple_S, isa_tuple_B, isa_tuple_I, isa_tuple_T, isa_none_TL, isa_none_L, isa_none_S, isa_none_B, isa_none_I, isa_none_T, eqD_nil0, List.length_nil, Nat.zero_le, oldF_nil, oldO_sh, oldO_lst, old_int, old_str, old_bl, old_non, old_scr, old_tup, old_lst, olds_nil, olds_cons, killB_true, killB_false, killF_nil, yngO_sh, yngO_lst, yng_int, yng_str, yng_bl, yng_non, yng_scr, yng_tup, yng_lstT, yng_lstF, yngs_nil, yngs_cons, oldF_cons, killF_cons, Option.map_none, Option.bind_some, Option.bind_none, killO_eq, atI_0, atI_1, atI_2, atI_3, len1, len2, len3, len4, len5, len6, len7, le_big1, le_big2, le_big3, le_big4, le_big5, le_big6, le_big7, le_big8, le_big9, le_big10, le_big11, le_big12, atI_0, atI_1, atI_2, atI_3, hr, decide_true, decide_false, h0, if_true, hm200, and_self, len4, ixN_43, ixN_41, List.set_cons_succ, List.set_cons_zero, hq, ha, Option.map_some, hc, show (0 : Int) ≤ 18 ∧ (18 : Int) ≤ 1000 ∧ (10 : Int).natAbs < 1000000 from by decide, show (18 : Int).toNat = 18 from rfl]
      · simp only [evO_e1, evO_e2, evO_e3, evO_e4, evO_e5, evO_e7, evO_e9, evO_e10, evO_e11, evO_e12, evO_e14, evO_e15, evO_e16, evO_e17, evO_e18, evO_e19, evO_e20, evO_e21, evPs_e1, evPs_e2, evB_e1, evI_rng, evI_e2, evI_e3, evS_e1, evS_e3, evS_e4, evS_e5, evS_e7, evS_e8, evS_e9, evS_e10, evS_e14, evS_poke, yngL_lst, lk_lst, lk_sh, look_val, look_at, opv_sh, opv_lst, opv_obj, opv_dic, opd_var, opd_ne, frzAt_eq, fza_sh, fza_lst, give_val, give_at, dcA_some, dcB_ok, dcB_exn, doCall_eq, bin_addI, bin_addL, bin_addT, bin_sub, bin_mulI, bin_mulL, bin_fdiv, bin_mod, bin_pow, cmp_eq, cmp_ne, cmp_lt, cmp_le, cmp_gt, cmp_ge, cmp_is, cmp_isn, cmp_inL, cmp_inT, cmp_ninL, cmp_ninT, isNon_non, isNon_int, isNon_str, isNon_bl, isNon_tup, isNon_lst, ix_lst, ix_tup, ix_scr, sl_lst, sl_tup, seq_lst, seq_tup, seq_scr, seqL_lst, seqL_scr, bi_lenL, bi_lenT, bi_lenS, bi_listL, bi_listT, bi_tupL, bi_tupT, bi_intI, bi_intB, bi_max2, bi_min2, rngsD_1, rngsD_2, rngsD_3, lao_lst, lstAt_se, gpo_obj, lstAt_fe, setPl_s, spo_obj, setPl_f, partE_nil, partE_ne, intO_sh, lstD_lst, fldR_sh, fldR_obj, evO_fld, negR_int, evO_neg, iteR_true, iteR_false, evO_ite, chR_true, chR_false, evC_one, evC_two, bopR_tt, bopR_tf, bopR_ft, bopR_ff, evB_cs, sfR_obj, evS_setfld, evI_e, evS_seq, evS_ite, evS_for, evS_whl, evO_lc, kSeq_nx, kSeq_ret, kIf_true, kIf_false, kLcs_true, bnd_ok, bnd_exn, bnd_fail, opt_some, opt_none, optC_some, asB_ok, asB_exn, asI_ok, getS, setS, looks, frz, frzs, gives, takeA, backA, doNew, intsD, outsOf, eqD_int, kRun_nx, kRun_ret, kRun_exn, wipeF, backF, ne_eq, not_false_eq_true, forall_const, implies_true, reduceCtorEq, List.map_cons, List.map_nil, List.cons_append, List.nil_append, List.append_nil, List.replicate_succ, List.replicate_zero, Option.map_some, and_self, if_true, if_false, decide_true, decide_false, Bool.not_true, Bool.not_false, Bool.false_eq_true, Bool.or_true, Bool.true_or, Bool.and_true, Bool.true_and, Bool.or_false, Bool.false_or, asg_name, asg_tup, asg2_some, asgs_nil, asgs_cons, evO_gint, Nat.sub_self, Nat.reduceSub, shOrNone_none, shOrNone_sh, List.all_cons, List.all_nil, evO_isi, evO_isx, evO_cntT, evO_idxT, evO_kind, kindR_ok, kindR_exn, isi_int, isi_bl, isi_str, isi_non, isi_tup, isi_lst, eqD_bl, eqD_str, isa_int_TL, isa_int_L, isa_int_S, isa_int_B, isa_int_I, isa_int_T, isa_bool_TL, isa_bool_L, isa_bool_S, isa_bool_B, isa_bool_I, isa_bool_T, isa_str_TL, isa_str_L, isa_str_S, isa_str_B, isa_str_I, isa_str_T, isa_list_TL, isa_list_L, isa_list_S, isa_list_B, isa_list_I, isa_list_T, isa_tuple_TL, isa_tuple_L, isa_tuple_S, isa_tuple_B, isa_tuple_I, isa_tuple_T, isa_none_TL, isa_none_L, isa_none_S, isa_none_B, isa_none_I, isa_none_T, eqD_nil0, List.length_nil, Nat.zero_le, oldF_nil, oldO_sh, oldO_lst, old_int, old_str, old_bl, old_non, old_scr, old_tup, old_lst, olds_nil, olds_cons, killB_true, killB_false, killF_nil, yngO_sh, yngO_lst, yng_int, yng_str, yng_bl, yng_non, yng_scr, yng_tup, yng_lstT, yng_lstF, yngs_nil, yngs_cons, oldF_cons, killF_cons, Option.map_none, Option.bind_some, Option.bind_none, killO_eq, atI_0, atI_1, atI_2, atI_3, len1, len2, len3, len4, len5, len6, len7, le_big1, le_big2, le_big3, le_big4, le_big5, le_big6, le_big7, le_big8, le_big9, le_big10, le_big11, le_big12, atI_0, atI_1, atI_2, atI_3, hr, decide_true, decide_false, h0, if_true, if_false, hm200, and_self, len4, ixN_43, ixN_41, List.set_cons_succ, List.set_cons_zero, hq, ha, Option.map_some, hc, show (0 : Int) ≤ 18 ∧ (18 : Int) ≤ 1000 ∧ (10 : Int).natAbs < 1000000 from by decide, show (18 : Int).toNat = 18 from rfl]
    · refine ⟨(m * 48271 + 11) % 2147483647 / 7 % many, .lst t [.scr ns, .int (p + 1), .int ((m * 48271 + 11) % 2147483647), .int r], ⟨_, _, _, _, rfl, by omega⟩, Int.emod_nonneg _ (by omega), Int.emod_lt_of_pos _ h0, ?_⟩
      unfold F__law_drawn
      simp only [evO_e1, evO_e2, evO_e3, evO_e4, evO_e5, evO_e7, evO_e9, evO_e10, evO_e11, evO_e12, evO_e14, evO_e15, evO_e16, evO_e17, evO_e18, evO_e19, evO_e20, evO_e21, evPs_e1, evPs_e2, evB_e1, evI_rng, evI_e2, evI_e3, evS_e1, evS_e3, evS_e4, evS_e5, evS_e7, evS_e8, evS_e9, evS_e10, evS_e14, evS_poke, yngL_lst, lk_lst, lk_sh, look_val, look_at, opv_sh, opv_lst, opv_obj, opv_dic, opd_var, opd_ne, frzAt_eq, fza_sh, fza_lst, give_val, give_at, dcA_some, dcB_ok, dcB_exn, doCall_eq, bin_addI, bin_addL, bin_addT, bin_sub, bin_mulI, bin_mulL, bin_fdiv, bin_mod, bin_pow, cmp_eq, cmp_ne, cmp_lt, cmp_le, cmp_gt, cmp_ge, cmp_is, cmp_isn, cmp_inL, cmp_inT, cmp_ninL, cmp_ninT, isNon_non, isNon_int, isNon_str, isNon_bl, isNon_tup, isNon_lst, ix_lst, ix_tup, ix_scr, sl_lst, sl_tup, seq_lst, seq_tup, seq_scr, seqL_lst, seqL_scr, bi_lenL, bi_lenT, bi_lenS, bi_listL, bi_listT, bi_tupL, bi_tupT, bi_intI, bi_intB, bi_max2, bi_min2, rngsD_1, rngsD_2, rngsD_3, lao_lst, lstAt_se, gpo_obj, lstAt_fe, setPl_s, spo_obj, setPl_f, partE_nil, partE_ne, intO_sh, lstD_lst, fldR_sh, fldR_obj, evO_fld, negR_int, evO_neg, iteR_true, iteR_false, evO_ite, chR_true, chR_false, evC_one, evC_two, bopR_tt, bopR_tf, bopR_ft, bopR_ff, evB_cs, sfR_obj, evS_setfld, evI_e, evS_seq, evS_ite, evS_for, evS_whl, evO_lc, kSeq_nx, kSeq_ret, kIf_true, kIf_false, kLcs_true, bnd_ok, bnd_exn, bnd_fail, opt_some, opt_none, optC_some, asB_ok, asB_exn, asI_ok, getS, setS, looks, frz, frzs, gives, takeA, backA, doNew, intsD, outsOf, eqD_int, kRun_nx, kRun_ret, kRun_exn, wipeF, backF, ne_eq, not_false_eq_true, forall_const, implies_true, reduceCtorEq, List.map_cons, List.map_nil, List.cons_append, List.nil_append, List.append_nil, List.replicate_succ, List.replicate_zero, Option.map_some, and_self, if_true, if_false, decide_true, decide_false, Bool.not_true, Bool.not_false, Bool.false_eq_true, Bool.or_true, Bool.true_or, Bool.and_true, Bool.true_and, Bool.or_false, Bool.false_or, asg_name, asg_tup, asg2_some, asgs_nil, asgs_cons, evO_gint, Nat.sub_self, Nat.reduceSub, shOrNone_none, shOrNone_sh, List.all_cons, List.all_nil, evO_isi, evO_isx, evO_cntT, evO_idxT, evO_kind, kindR_ok, kindR_exn, isi_int, isi_bl, isi_str, isi_non, isi_tup, isi_lst, eqD_bl, eqD_str, isa_int_TL, isa_int_L, isa_int_S, isa_int_B, isa_int_I, isa_int_T, isa_bool_TL, isa_bool_L, isa_bool_S, isa_bool_B, isa_bool_I, isa_bool_T, isa_str_TL, isa_str_L, isa_str_S, isa_str_B, isa_str_I, isa_str_T, isa_list_TL, isa_list_L, isa_list_S, isa_list_B, isa_list_I, isa_list_T, isa_tuple_TL, isa_tuple_L, isa_tuple_S, isa_tuple_B, isa_tuple_I, isa_tuple_T, isa_none_TL, isa_none_L, isa_none_S, isa_none_B, isa_none_I, isa_none_T, eqD_nil0, List.length_nil, Nat.zero_le, oldF_nil, oldO_sh, oldO_lst, old_int, old_str, old_bl, old_non, old_scr, old_tup, old_lst, olds_nil, olds_cons, killB_true, killB_false, killF_nil, yngO_sh, yngO_lst, yng_int, yng_str, yng_bl, yng_non, yng_scr, yng_tup, yng_lstT, yng_lstF, yngs_nil, yngs_cons, oldF_cons, killF_cons, Option.map_none, Option.bind_some, Option.bind_none, killO_eq, atI_0, atI_1, atI_2, atI_3, len1, len2, len3, len4, len5, len6, len7, le_big1, le_big2, le_big3, le_big4, le_big5, le_big6, le_big7, le_big8, le_big9, le_big10, le_big11, le_big12, atI_0, atI_1, atI_2, atI_3, hr, decide_true, decide_false, h0, if_true, hm200, and_self, len4, ixN_43, ixN_42, ixN_41, List.set_cons_succ, List.set_cons_zero, hq, show lt64 48271 = true from by decide, Bool.or_true, show (0 : Int) < 2147483647 from by decide, show (0 : Int) < 7 ∧ (7 : Int) < 2 ^ 200 from by decide]
theorem start_run (cl : Cl) (N : Nat) (ns : List Int) : ∃ o, St ns o ∧ runF cl N F__law_start [.sh (.scr ns)] = .ok o [] := by
  rw [runF_eq _ _ _ _ rfl]
  unfold F__law_start
  obtain ⟨ρ, e, m, x, hρ⟩ := forL_map (step := kFor cl N false (.name 2) F__law_start_b1) D.int (fun _ ρ => ∃ (m : Int) (x : Option O), ρ = [some (.sh (.scr ns)), some (.sh (.int m)), x]) (fun a r ρ ⟨m, x, eρ⟩ => by
    subst eρ
    refine ⟨_, ?_, (m * 48271 + a + 7) % 2147483647, some (.sh (.int a)), rfl⟩
    unfold kFor F__law_start_b1
    simp only [evO_e1, evO_e2, evO_e3, evO_e4, evO_e5, evO_e7, evO_e9, evO_e10, evO_e11, evO_e12, evO_e14, evO_e15, evO_e16, evO_e17, evO_e18, evO_e19, evO_e20, evO_e21, evPs_e1, evPs_e2, evB_e1, evI_rng, evI_e2, evI_e3, evS_e1, evS_e3, evS_e4, evS_e5, evS_e7, evS_e8, evS_e9, evS_e10, evS_e14, evS_poke, yngL_lst, lk_lst, lk_sh, look_val, look_at, opv_sh, opv_lst, opv_obj, opv_dic, opd_var, opd_ne, frzAt_eq, fza_sh, fza_lst, give_val, give_at, dcA_some, dcB_ok, dcB_exn, doCall_eq, bin_addI, bin_addL, bin_addT, bin_sub, bin_mulI, bin_mulL, bin_fdiv, bin_mod, bin_pow, cmp_eq, cmp_ne, cmp_lt, cmp_le, cmp_gt, cmp_ge, cmp_is, cmp_isn, cmp_inL, cmp_inT, cmp_ninL, cmp_ninT, isNon_non, isNon_int, isNon_str, isNon_bl, isNon_tup, isNon_lst, ix_lst, ix_tup, ix_scr, sl_lst, sl_tup, seq_lst, seq_tup, seq_scr, seqL_lst, seqL_scr, bi_lenL, bi_lenT, bi_lenS, bi_listL, bi_listT, bi_tupL, bi_tupT, bi_intI, bi_intB, bi_max2, bi_min2, rngsD_1, rngsD_2, rngsD_3, lao_lst, lstAt_se, gpo_obj, lstAt_fe, setPl_s, spo_obj, setPl_f, partE_nil, partE_ne, intO_sh, lstD_lst, fldR_sh, fldR_obj, evO_fld, negR_int, evO_neg, iteR_true, iteR_false, evO_ite, chR_true, chR_false, evC_one, evC_two, bopR_tt, bopR_tf, bopR_ft, bopR_ff, evB_cs, sfR_obj, evS_setfld, evI_e, evS_seq, evS_ite, evS_for, evS_whl, evO_lc, kSeq_nx, kSeq_ret, kIf_true, kIf_false, kLcs_true, bnd_ok, bnd_exn, bnd_fail, opt_some, opt_none, optC_some, asB_ok, asB_exn, asI_ok, getS, setS, looks, frz, frzs, gives, takeA, backA, doNew, intsD, outsOf, eqD_int, kRun_nx, kRun_ret, kRun_exn, wipeF, backF, ne_eq, not_false_eq_true, forall_const, implies_true, reduceCtorEq, List.map_cons, List.map_nil, List.cons_append, List.nil_append, List.append_nil, List.replicate_succ, List.replicate_zero, Option.map_some, and_self, if_true, if_false, decide_true, decide_false, Bool.not_true, Bool.not_false, Bool.false_eq_true, Bool.or_true, Bool.true_or, Bool.and_true, Bool.true_and, Bool.or_false, Bool.false_or, asg_name, asg_tup, asg2_some, asgs_nil, asgs_cons, evO_gint, Nat.sub_self, Nat.reduceSub, shOrNone_none, shOrNone_sh, List.all_cons, List.all_nil, evO_isi, evO_isx, evO_cntT, evO_idxT, evO_kind, kindR_ok, kindR_exn, isi_int, isi_bl, isi_str, isi_non, isi_tup, isi_lst, eqD_bl, eqD_str, isa_int_TL, isa_int_L, isa_int_S, isa_int_B, isa_int_I, isa_int_T, isa_bool_TL, isa_bool_L, isa_bool_S, isa_bool_B, isa_bool_I, isa_bool_T, isa_str_TL, isa_str_L, isa_str_S, isa_str_B, isa_str_I, isa_str_T, isa_list_TL, isa_list_L, isa_list_S, isa_list_B, isa_list_I, isa_list_T, isa_tuple_TL, isa_tuple_L, isa_tuple_S, isa_tuple_B, isa_tuple_I, isa_tuple_T, isa_none_TL, isa_none_L, isa_none_S, isa_none_B, isa_none_I, isa_none_T, eqD_nil0, List.length_nil, Nat.zero_le, oldF_nil, oldO_sh, oldO_lst, old_int, old_str, old_bl, old_non, old_scr, old_tup, old_lst, olds_nil, olds_cons, killB_true, killB_false, killF_nil, yngO_sh, yngO_lst, yng_int, yng_str, yng_bl, yng_non, yng_scr, yng_tup, yng_lstT, yng_lstF, yngs_nil, yngs_cons, oldF_cons, killF_cons, Option.map_none, Option.bind_some, Option.bind_none, killO_eq, atI_0, atI_1, atI_2, atI_3, len1, len2, len3, len4, len5, len6, len7, le_big1, le_big2, le_big3, le_big4, le_big5, le_big6, le_big7, le_big8, le_big9, le_big10, le_big11, le_big12, if_false, Bool.false_eq_true, show lt64 48271 = true from by decide, Bool.or_true, show (0 : Int) < 2147483647 from by decide, if_true]) ns [some (.sh (.scr ns)), some (.sh (.int 1)), none] ⟨1, none, rfl⟩
  refine ⟨.lst true [.scr ns, .int 0, .int m, .int 0], ⟨_, _, _, _, rfl, by omega⟩, ?_⟩
  simp only [evO_e1, evO_e2, evO_e3, evO_e4, evO_e5, evO_e7, evO_e9, evO_e10, evO_e11, evO_e12, evO_e14, evO_e15, evO_e16, evO_e17, evO_e18, evO_e19, evO_e20, evO_e21, evPs_e1, evPs_e2, evB_e1, evI_rng, evI_e2, evI_e3, evS_e1, evS_e3, evS_e4, evS_e5, evS_e7, evS_e8, evS_e9, evS_e10, evS_e14, evS_poke, yngL_lst, lk_lst, lk_sh, look_val, look_at, opv_sh, opv_lst, opv_obj, opv_dic, opd_var, opd_ne, frzAt_eq, fza_sh, fza_lst, give_val, give_at, dcA_some, dcB_ok, dcB_exn, doCall_eq, bin_addI, bin_addL, bin_addT, bin_sub, bin_mulI, bin_mulL, bin_fdiv, bin_mod, bin_pow, cmp_eq, cmp_ne, cmp_lt, cmp_le, cmp_gt, cmp_ge, cmp_is, cmp_isn, cmp_inL, cmp_inT, cmp_ninL, cmp_ninT, isNon_non, isNon_int, isNon_str, isNon_bl, isNon_tup, isNon_lst, ix_lst, ix_tup, ix_scr, sl_lst, sl_tup, seq_lst, seq_tup, seq_scr, seqL_lst, seqL_scr, bi_lenL, bi_lenT, bi_lenS, bi_listL, bi_listT, bi_tupL, bi_tupT, bi_intI, bi_intB, bi_max2, bi_min2, rngsD_1, rngsD_2, rngsD_3, lao_lst, lstAt_se, gpo_obj, lstAt_fe, setPl_s, spo_obj, setPl_f, partE_nil, partE_ne, intO_sh, lstD_lst, fldR_sh, fldR_obj, evO_fld, negR_int, evO_neg, iteR_true, iteR_false, evO_ite, chR_true, chR_false, evC_one, evC_two, bopR_tt, bopR_tf, bopR_ft, bopR_ff, evB_cs, sfR_obj, evS_setfld, evI_e, evS_seq, evS_ite, evS_for, evS_whl, evO_lc, kSeq_nx, kSeq_ret, kIf_true, kIf_false, kLcs_true, bnd_ok, bnd_exn, bnd_fail, opt_some, opt_none, optC_some, asB_ok, asB_exn, asI_ok, getS, setS, looks, frz, frzs, gives, takeA, backA, doNew, intsD, outsOf, eqD_int, kRun_nx, kRun_ret, kRun_exn, wipeF, backF, ne_eq, not_false_eq_true, forall_const, implies_true, reduceCtorEq, List.map_cons, List.map_nil, List.cons_append, List.nil_append, List.append_nil, List.replicate_succ, List.replicate_zero, Option.map_some, and_self, if_true, if_false, decide_true, decide_false, Bool.not_true, Bool.not_false, Bool.false_eq_true, Bool.or_true, Bool.true_or, Bool.and_true, Bool.true_and, Bool.or_false, Bool.false_or, asg_name, asg_tup, asg2_some, asgs_nil, asgs_cons, evO_gint, Nat.sub_self, Nat.reduceSub, shOrNone_none, shOrNone_sh, List.all_cons, List.all_nil, evO_isi, evO_isx, evO_cntT, evO_idxT, evO_kind, kindR_ok, kindR_exn, isi_int, isi_bl, isi_str, isi_non, isi_tup, isi_lst, eqD_bl, eqD_str, isa_int_TL, isa_int_L, isa_int_S, isa_int_B, isa_int_I, isa_int_T, isa_bool_TL, isa_bool_L, isa_bool_S, isa_bool_B, isa_bool_I, isa_bool_T, isa_str_TL, isa_str_L, isa_str_S, isa_str_B, isa_str_I, isa_str_T, isa_list_TL, isa_list_L, isa_list_S, isa_list_B, isa_list_I, isa_list_T, isa_tuple_TL, isa_tuple_L, isa_tuple_S, isa_tuple_B, isa_tuple_I, isa_tuple_T, isa_none_TL, isa_none_L, isa_none_S, isa_none_B, isa_none_I, isa_none_T, eqD_nil0, List.length_nil, Nat.zero_le, oldF_nil, oldO_sh, oldO_lst, old_int, old_str, old_bl, old_non, old_scr, old_tup, old_lst, olds_nil, olds_cons, killB_true, killB_false, killF_nil, yngO_sh, yngO_lst, yng_int, yng_str, yng_bl, yng_non, yng_scr, yng_tup, yng_lstT, yng_lstF, yngs_nil, yngs_cons, oldF_cons, killF_cons, Option.map_none, Option.bind_some, Option.bind_none, killO_eq, atI_0, atI_1, atI_2, atI_3, len1, len2, len3, len4, len5, len6, len7, le_big1, le_big2, le_big3, le_big4, le_big5, le_big6, le_big7, le_big8, le_big9, le_big10, le_big11, le_big12, e, hρ]
/-- a window's data -/
def winD (low high : Int) : D := .tup [.int low, .int high]
theorem DrawOk.of {ns : List Int} {cl : Cl} {i N : Nat} {cl' : Cl} (h : cl.io i = [true, false]) (e : ∀ os, cl.run i os = runF cl' N F__law_drawn os) : DrawOk ns cl i :=
  ⟨h, fun t ds many s h0 h1 => by
    obtain ⟨v, o', a, b, c, d⟩ := drawn_run cl' N s h0 h1
    obtain ⟨t', ds', rfl⟩ := a.lst
    exact ⟨v, t', ds', a, b, c, by rw [e, d]⟩⟩
theorem window_run (cl : Cl) (N i : Nat) {ns : List Int} (dr : DrawOk ns cl i) {t : Bool} {ds : List D} {most : Int} (h : St ns (.lst t ds)) (h0 : 0 ≤ most) (h1 : most < 2 ^ 60) : ∃ (low high : Int) (t' : Bool) (ds' : List D), St ns (.lst t' ds') ∧ 0 ≤ low ∧ low ≤ high ∧ high ≤ most ∧ runF cl N (F__law_window i) [.lst t ds, .sh (.int most)] = .ok (.sh (winD low high)) [.lst t' ds'] := by
  rw [runF_eq _ _ _ _ rfl]
  obtain ⟨high, t1, o1, s1, a1, b1, e1⟩ := dr.run _ _ (most + 1) h (by omega) (by omega)
  obtain ⟨x, t2, o2, s2, a2, b2, e2⟩ := dr.run _ _ (high + 1) s1 (by omega) (by omega)
  obtain ⟨y, t3, o3, s3, a3, b3, e3⟩ := dr.run _ _ (high / 2 + 1) s2 (by omega) (by omega)
  obtain ⟨z, t4, o4, s4, a4, b4, e4⟩ := dr.run _ _ 3 s3 (by omega) (by omega)
  have hz : z = 0 ∨ z = 1 ∨ z = 2 := by omega
  unfold F__law_window winD
  rcases hz with rfl | rfl | rfl
  · exact ⟨0, high, t4, o4, s4, by omega, by omega, by omega, by
      simp only [evO_e1, evO_e2, evO_e3, evO_e4, evO_e5, evO_e7, evO_e9, evO_e10, evO_e11, evO_e12, evO_e14, evO_e15, evO_e16, evO_e17, evO_e18, evO_e19, evO_e20, evO_e21, evPs_e1, evPs_e2, evB_e1, evI_rng, evI_e2, evI_e3, evS_e1, evS_e3, evS_e4, evS_e5, evS_e7, evS_e8, evS_e9, evS_e10, evS_e14, evS_poke, yngL_lst, lk_lst, lk_sh, look_val, look_at, opv_sh, opv_lst, opv_obj, opv_dic, opd_var, opd_ne, frzAt_eq, fza_sh, fza_lst, give_val, give_at, dcA_some, dcB_ok, dcB_exn, doCall_eq, bin_addI, bin_addL, bin_addT, bin_sub, bin_mulI, bin_mulL, bin_fdiv, bin_mod, bin_pow, cmp_eq, cmp_ne, cmp_lt, cmp_le, cmp_gt, cmp_ge, cmp_is, cmp_isn, cmp_inL, cmp_inT, cmp_ninL, cmp_ninT, isNon_non, isNon_int, isNon_str, isNon_bl, isNon_tup, isNon_lst, ix_lst, ix_tup, ix_scr, sl_lst, sl_tup, seq_lst, seq_tup, seq_scr, seqL_lst, seqL_scr, bi_lenL, bi_lenT, bi_lenS, bi_listL, bi_listT, bi_tupL, bi_tupT, bi_intI, bi_intB, bi_max2, bi_min2, rngsD_1, rngsD_2, rngsD_3, lao_lst, lstAt_se, gpo_obj, lstAt_fe, setPl_s, spo_obj, setPl_f, partE_nil, partE_ne, intO_sh, lstD_lst, fldR_sh, fldR_obj, evO_fld, negR_int, evO_neg, iteR_true, iteR_false, evO_ite, chR_true, chR_false, evC_one, evC_two, bopR_tt, bopR_tf, bopR_ft, bopR_ff, evB_cs, sfR_obj, evS_setfld, evI_e, evS_seq, evS_ite, evS_for, evS_whl, evO_lc, kSeq_nx, kSeq_ret, kIf_true, kIf_false, kLcs_true, bnd_ok, bnd_exn, bnd_fail, opt_some, opt_none, optC_some, asB_ok, asB_exn, asI_ok, getS, setS, looks, frz, frzs, gives, takeA, backA, doNew, intsD, outsOf, eqD_int, kRun_nx, kRun_ret, kRun_exn, wipeF, backF, ne_eq, not_false_eq_true, forall_const, implies_true, reduceCtorEq, List.map_cons, List.map_nil, List.cons_append, List.nil_append, List.append_nil, List.replicate_succ, List.replicate_zero, Option.map_some, and_self, if_true, if_false, decide_true, decide_false, Bool.not_true, Bool.not_false, Bool.false_eq_true, Bool.or_true, Bool.true_or, Bool.and_true, Bool.true_and, Bool.or_false, Bool.false_or, asg_name, asg_tup, asg2_some, asgs_nil, asgs_cons, evO_gint, Nat.sub_self, Nat.reduceSub, shOrNone_none, shOrNone_sh, List.all_cons, List.all_nil, evO_isi, evO_isx, evO_cntT, evO_idxT, evO_kind, kindR_ok, kindR_exn, isi_int, isi_bl, isi_str, isi_non, isi_tup, isi_lst, eqD_bl, eqD_str, isa_int_TL, isa_int_L, isa_int_S, isa_int_B, isa_int_I, isa_int_T, isa_bool_TL, isa_bool_L, isa_bool_S, isa_bool_B, isa_bool_I, isa_bool_T, isa_str_TL, isa_str_L, isa_str_S, isa_str_B, isa_str_I, isa_str_T, isa_list_TL, isa_list_L, isa_list_S, isa_list_B, isa_list_I, isa_list_T, isa_tuple_TL, isa_tuple_L, isa_tuple_S, isa_tuple_B, isa_tuple_I, isa_tuple_T, isa_none_TL, isa_none_L, isa_none_S, isa_none_B, isa_none_I, isa_none_T, eqD_nil0, List.length_nil, Nat.zero_le, oldF_nil, oldO_sh, oldO_lst, old_int, old_str, old_bl, old_non, old_scr, old_tup, old_lst, olds_nil, olds_cons, killB_true, killB_false, killF_nil, yngO_sh, yngO_lst, yng_int, yng_str, yng_bl, yng_non, yng_scr, yng_tup, yng_lstT, yng_lstF, yngs_nil, yngs_cons, oldF_cons, killF_cons, Option.map_none, Option.bind_some, Option.bind_none, killO_eq, atI_0, atI_1, atI_2, atI_3, len1, len2, len3, len4, len5, len6, len7, le_big1, le_big2, le_big3, le_big4, le_big5, le_big6, le_big7, le_big8, le_big9, le_big10, le_big11, le_big12, dr.io, e1, e2, e3, e4, atI_0, show (0 : Int) < 2 ∧ (2 : Int) < 2 ^ 200 from by decide, if_true, len3, show 3 ≤ big from by decide, show 2 ≤ big from by decide, len2]⟩
  · exact ⟨x, high, t4, o4, s4, by omega, by omega, by omega, by
      simp only [evO_e1, evO_e2, evO_e3, evO_e4, evO_e5, evO_e7, evO_e9, evO_e10, evO_e11, evO_e12, evO_e14, evO_e15, evO_e16, evO_e17, evO_e18, evO_e19, evO_e20, evO_e21, evPs_e1, evPs_e2, evB_e1, evI_rng, evI_e2, evI_e3, evS_e1, evS_e3, evS_e4, evS_e5, evS_e7, evS_e8, evS_e9, evS_e10, evS_e14, evS_poke, yngL_lst, lk_lst, lk_sh, look_val, look_at, opv_sh, opv_lst, opv_obj, opv_dic, opd_var, opd_ne, frzAt_eq, fza_sh, fza_lst, give_val, give_at, dcA_some, dcB_ok, dcB_exn, doCall_eq, bin_addI, bin_addL, bin_addT, bin_sub, bin_mulI, bin_mulL, bin_fdiv, bin_mod, bin_pow, cmp_eq, cmp_ne, cmp_lt, cmp_le, cmp_gt, cmp_ge, cmp_is, cmp_isn, cmp_inL, cmp_inT, cmp_ninL, cmp_ninT, isNon_non, isNon_int, isNon_str, isNon_bl, isNon_tup, isNon_lst, ix_lst, ix_tup, ix_scr, sl_lst, sl_tup, seq_lst, seq_tup, seq_scr, seqL_lst, seqL_scr, bi_lenL, bi_lenT, bi_lenS, bi_listL, bi_listT, bi_tupL, bi_tupT, bi_intI, bi_intB, bi_max2, bi_min2, rngsD_1, rngsD_2, rngsD_3, lao_lst, lstAt_se, gpo_obj, lstAt_fe, setPl_s, spo_obj, setPl_f, partE_nil, partE_ne, intO_sh, lstD_lst, fldR_sh, fldR_obj, evO_fld, negR_int, evO_neg, iteR_true, iteR_false, evO_ite, chR_true, chR_false, evC_one, evC_two, bopR_tt, bopR_tf, bopR_ft, bopR_ff, evB_cs, sfR_obj, evS_setfld, evI_e, evS_seq, evS_ite, evS_for, evS_whl, evO_lc, kSeq_nx, kSeq_ret, kIf_true, kIf_false, kLcs_true, bnd_ok, bnd_exn, bnd_fail, opt_some, opt_none, optC_some, asB_ok, asB_exn, asI_ok, getS, setS, looks, frz, frzs, gives, takeA, backA, doNew, intsD, outsOf, eqD_int, kRun_nx, kRun_ret, kRun_exn, wipeF, backF, ne_eq, not_false_eq_true, forall_const, implies_true, reduceCtorEq, List.map_cons, List.map_nil, List.cons_append, List.nil_append, List.append_nil, List.replicate_succ, List.replicate_zero, Option.map_some, and_self, if_true, if_false, decide_true, decide_false, Bool.not_true, Bool.not_false, Bool.false_eq_true, Bool.or_true, Bool.true_or, Bool.and_true, Bool.true_and, Bool.or_false, Bool.false_or, asg_name, asg_tup, asg2_some, asgs_nil, asgs_cons, evO_gint, Nat.sub_self, Nat.reduceSub, shOrNone_none, shOrNone_sh, List.all_cons, List.all_nil, evO_isi, evO_isx, evO_cntT, evO_idxT, evO_kind, kindR_ok, kindR_exn, isi_int, isi_bl, isi_str, isi_non, isi_tup, isi_lst, eqD_bl, eqD_str, isa_int_TL, isa_int_L, isa_int_S, isa_int_B, isa_int_I, isa_int_T, isa_bool_TL, isa_bool_L, isa_bool_S, isa_bool_B, isa_bool_I, isa_bool_T, isa_str_TL, isa_str_L, isa_str_S, isa_str_B, isa_str_I, isa_str_T, isa_list_TL, isa_list_L, isa_list_S, isa_list_B, isa_list_I, isa_list_T, isa_tuple_TL, isa_tuple_L, isa_tuple_S, isa_tuple_B, isa_tuple_I, isa_tuple_T, isa_none_TL, isa_none_L, isa_none_S, isa_none_B, isa_none_I, isa_none_T, eqD_nil0, List.length_nil, Nat.zero_le, oldF_nil, oldO_sh, oldO_lst, old_int, old_str, old_bl, old_non, old_scr, old_tup, old_lst, olds_nil, olds_cons, killB_true, killB_false, killF_nil, yngO_sh, yngO_lst, yng_int, yng_str, yng_bl, yng_non, yng_scr, yng_tup, yng_lstT, yng_lstF, yngs_nil, yngs_cons, oldF_cons, killF_cons, Option.map_none, Option.bind_some, Option.bind_none, killO_eq, atI_0, atI_1, atI_2, atI_3, len1, len2, len3, len4, len5, len6, len7, le_big1, le_big2, le_big3, le_big4, le_big5, le_big6, le_big7, le_big8, le_big9, le_big10, le_big11, le_big12, dr.io, e1, e2, e3, e4, atI_1, show (0 : Int) < 2 ∧ (2 : Int) < 2 ^ 200 from by decide, if_true, len3, show 3 ≤ big from by decide, show 2 ≤ big from by decide, len2]⟩
  · exact ⟨y, high, t4, o4, s4, by omega, by omega, by omega, by
      simp only [evO_e1, evO_e2, evO_e3, evO_e4, evO_e5, evO_e7, evO_e9, evO_e10, evO_e11, evO_e12, evO_e14, evO_e15, evO_e16, evO_e17, evO_e18, evO_e19, evO_e20, evO_e21, evPs_e1, evPs_e2, evB_e1, evI_rng, evI_e2, evI_e3, evS_e1, evS_e3, evS_e4, evS_e5, evS_e7, evS_e8, evS_e9, evS_e10, evS_e14, evS_poke, yngL_lst, lk_lst, lk_sh, look_val, look_at, opv_sh, opv_lst, opv_obj, opv_dic, opd_var, opd_ne, frzAt_eq, fza_sh, fza_lst, give_val, give_at, dcA_some, dcB_ok, dcB_exn, doCall_eq, bin_addI, bin_addL, bin_addT, bin_sub, bin_mulI, bin_mulL, bin_fdiv, bin_mod, bin_pow, cmp_eq, cmp_ne, cmp_lt, cmp_le, cmp_gt, cmp_ge, cmp_is, cmp_isn, cmp_inL, cmp_inT, cmp_ninL, cmp_ninT, isNon_non, isNon_int, isNon_str, isNon_bl, isNon_tup, isNon_lst, ix_lst, ix_tup, ix_scr, sl_lst, sl_tup, seq_lst, seq_tup, seq_scr, seqL_lst, seqL_scr, bi_lenL, bi_lenT, bi_lenS, bi_listL, bi_listT, bi_tupL, bi_tupT, bi_intI, bi_intB, bi_max2, bi_min2, rngsD_1, rngsD_2, rngsD_3, lao_lst, lstAt_se, gpo_obj, lstAt_fe, setPl_s, spo_obj, setPl_f, partE_nil, partE_ne, intO_sh, lstD_lst, fldR_sh, fldR_obj, evO_fld, negR_int, evO_neg, iteR_true, iteR_false, evO_ite, chR_true, chR_false, evC_one, evC_two, bopR_tt, bopR_tf, bopR_ft, bopR_ff, evB_cs, sfR_obj, evS_setfld, evI_e, evS_seq, evS_ite, evS_for, evS_whl, evO_lc, kSeq_nx, kSeq_ret, kIf_true, kIf_false, kLcs_true, bnd_ok, bnd_exn, bnd_fail, opt_some, opt_none, optC_some, asB_ok, asB_exn, asI_ok, getS, setS, looks, frz, frzs, gives, takeA, backA, doNew, intsD, outsOf, eqD_int, kRun_nx, kRun_ret, kRun_exn, wipeF, backF, ne_eq, not_false_eq_true, forall_const, implies_true, reduceCtorEq, List.map_cons, List.map_nil, List.cons_append, List.nil_append, List.append_nil, List.replicate_succ, List.replicate_zero, Option.map_some, and_self, if_true, if_false, decide_true, decide_false, Bool.not_true, Bool.not_false, Bool.false_eq_true, Bool.or_true, Bool.true_or, Bool.and_true, Bool.true_and, Bool.or_false, Bool.false_or, asg_name, asg_tup, asg2_some, asgs_nil, asgs_cons, evO_gint, Nat.sub_self, Nat.reduceSub, shOrNone_none, shOrNone_sh, List.all_cons, List.all_nil, evO_isi, evO_isx, evO_cntT, evO_idxT, evO_kind, kindR_ok, kindR_exn, isi_int, isi_bl, isi_str, isi_non, isi_tup, isi_lst, eqD_bl, eqD_str, isa_int_TL, isa_int_L, isa_int_S, isa_int_B, isa_int_I, isa_int_T, isa_bool_TL, isa_bool_L, isa_bool_S, isa_bool_B, isa_bool_I, isa_bool_T, isa_str_TL, isa_str_L, isa_str_S, isa_str_B, isa_str_I, isa_str_T, isa_list_TL, isa_list_L, isa_list_S, isa_list_B, isa_list_I, isa_list_T, isa_tuple_TL, isa_tuple_L, isa_tuple_S, isa_tuple_B, isa_tuple_I, isa_tuple_T, isa_none_TL, isa_none_L, isa_none_S, isa_none_B, isa_none_I, isa_none_T, eqD_nil0, List.length_nil, Nat.zero_le, oldF_nil, oldO_sh, oldO_lst, old_int, old_str, old_bl, old_non, old_scr, old_tup, old_lst, olds_nil, olds_cons, killB_true, killB_false, killF_nil, yngO_sh, yngO_lst, yng_int, yng_str, yng_bl, yng_non, yng_scr, yng_tup, yng_lstT, yng_lstF, yngs_nil, yngs_cons, oldF_cons, killF_cons, Option.map_none, Option.bind_some, Option.bind_none, killO_eq, atI_0, atI_1, atI_2, atI_3, len1, len2, len3, len4, len5, len6, len7, le_big1, le_big2, le_big3, le_big4, le_big5, le_big6, le_big7, le_big8, le_big9, le_big10, le_big11, le_big12, dr.io, e1, e2, e3, e4, atI_2, show (0 : Int) < 2 ∧ (2 : Int) < 2 ^ 200 from by decide, if_true, len3, show 3 ≤ big from by decide, show 2 ≤ big from by decide, len2]⟩
end WD


/-! WD, part 19: bites, reports, pats. -/
namespace WD
open PySem PySem.Spec PyProof.Rows L2
/-- need_window(window): 0=window -/
def F_need_window (x_BadWindow : Nat) : WD.Fn := ⟨1, 1, [false], (.seq (.ite (.not (.chn (.cint 0) [.le, .le, .le] (.cons (.ix (.var 0) (.cint 0)) (.cons (.ix (.var 0) (.cint 1)) (.cons (.gint "MOST_HIGH" 1000) .nil))))) (.seq (.rais x_BadWindow) .skip) .skip) .skip)⟩
/-- late_bite(moment, end): 0=moment 1=end -/
def F_late_bite : WD.Fn := ⟨2, 2, [false, false], (.seq (.ret (.ite (.cmp .le (.var 0) (.var 1)) (.tup (.cons (.var 0) (.cons (.cstr "late") .nil))) .cnon)) .skip)⟩
/-- first_bite(window, pats, end): 0=window 1=pats 2=end 3=low 4=high 5=last 6=pat -/
def F_first_bite_b1 (i_late_bite : Nat) : WD.S := (.seq (.ite (.bop false (.cons (.cmp .gt (.var 6) (.bin .add (.var 5) (.var 4))) (.cons (.cmp .gt (.var 6) (.var 2)) .nil))) (.seq (.ret (.call i_late_bite (.cons (.bin .add (.bin .add (.var 5) (.var 4)) (.cint 1)) (.cons (.var 2) .nil)))) .skip) .skip) (.seq (.ite (.cmp .lt (.var 6) (.bin .add (.var 5) (.var 3))) (.seq (.ret (.tup (.cons (.var 6) (.cons (.cstr "early") .nil)))) .skip) .skip) (.seq (.set 5 (.var 6)) .skip)))
def F_first_bite (i_late_bite : Nat) : WD.Fn := ⟨3, 7, [false, false, false], (.seq (.unp (.tup (.cons (.name 3) (.cons (.name 4) .nil))) (.var 0)) (.seq (.set 5 (.cint 0)) (.seq (.for_ false (.name 6) (.var 1) (F_first_bite_b1 i_late_bite)) (.seq (.ret (.call i_late_bite (.cons (.bin .add (.bin .add (.var 5) (.var 4)) (.cint 1)) (.cons (.var 2) .nil)))) .skip))))⟩
/-- need_beat(beat): 0=beat -/
def F_need_beat (x_BadBeat : Nat) : WD.Fn := ⟨1, 1, [false], (.seq (.ite (.not (.chn (.cint 1) [.le, .le] (.cons (.var 0) (.cons (.gint "MOST_BEAT" 60) .nil)))) (.seq (.rais x_BadBeat) .skip) .skip) .skip)⟩
/-- has_reported(moments, last, now): 0=moments 1=last 2=now 3=moment -/
def F_has_reported_e1 : WD.E := (.var 3)
def F_has_reported_g1 : WD.E := (.cons (.chn (.var 1) [.lt, .le] (.cons (.var 3) (.cons (.var 2) .nil))) .nil)
def F_has_reported : WD.Fn := ⟨3, 4, [false, false, false], (.seq (.ret (.cmp .ne (.lc F_has_reported_e1 (.name 3) (.var 0) F_has_reported_g1 [3]) (.lst .nil))) .skip)⟩
/-- pats_of(beat, reports, end): 0=beat 1=reports 2=end 3=found 4=last 5=now 6=moments -/
def F_pats_of_e1 : WD.E := (.var 6)
def F_pats_of_g1 (i_has_reported : Nat) : WD.E := (.cons (.not (.call i_has_reported (.cons (.var 6) (.cons (.var 4) (.cons (.var 5) .nil))))) .nil)
def F_pats_of_b1 (i_has_reported : Nat) : WD.S := (.seq (.ite (.cmp .eq (.lc F_pats_of_e1 (.name 6) (.var 1) (F_pats_of_g1 i_has_reported) [6]) (.lst .nil)) (.seq (.app (.s 3) (.var 5)) (.seq (.set 4 (.var 5)) .skip)) .skip) .skip)
def F_pats_of (i_has_reported : Nat) : WD.Fn := ⟨3, 7, [false, false, false], (.seq (.set 3 (.lst .nil)) (.seq (.set 4 (.cint 0)) (.seq (.for_ false (.name 5) (.rng (.cons (.var 0) (.cons (.bin .add (.var 2) (.cint 1)) (.cons (.var 0) .nil)))) (F_pats_of_b1 i_has_reported)) (.seq (.ret (.var 3)) .skip))))⟩
/-- keeper_pats(beat, reports, end): 0=beat 1=reports 2=end -/
def F_keeper_pats (i_pats_of i_need_beat : Nat) : WD.Fn := ⟨3, 3, [false, false, false], (.seq (.ex (.call i_need_beat (.cons (.var 0) .nil))) (.seq (.ret (.call i_pats_of (.cons (.var 0) (.cons (.var 1) (.cons (.var 2) .nil))))) .skip))⟩
/-- found_at(window, beat, reports, end): 0=window 1=beat 2=reports 3=end -/
def F_found_at (i_pats_of i_first_bite i_need_beat i_need_window : Nat) : WD.Fn := ⟨4, 4, [false, false, false, false], (.seq (.ex (.call i_need_window (.cons (.var 0) .nil))) (.seq (.ex (.call i_need_beat (.cons (.var 1) .nil))) (.seq (.ret (.call i_first_bite (.cons (.var 0) (.cons (.call i_pats_of (.cons (.var 1) (.cons (.var 2) (.cons (.var 3) .nil)))) (.cons (.var 3) .nil))))) .skip)))⟩
/-! ### windows -/
def winOk (low high : Int) : Bool := decide (0 ≤ low) && decide (low ≤ high) && decide (high ≤ 1000)
theorem need_window_run (cl : Cl) (N x : Nat) (low high : Int) : runF cl N (F_need_window x) [.sh (winD low high)] = if winOk low high then .ok (.sh .non) [] else .exn ⟨x, none⟩ [] := by
  rw [runF_eq _ _ _ _ rfl]
  unfold F_need_window winD winOk
  by_cases h1 : 0 ≤ low
  · by_cases h2 : low ≤ high
    · by_cases h3 : high ≤ 1000
      · simp only [evO_e1, evO_e2, evO_e3, evO_e4, evO_e5, evO_e7, evO_e9, evO_e10, evO_e11, evO_e12, evO_e14, evO_e15, evO_e16, evO_e17, evO_e18, evO_e19, evO_e20, evO_e21, evPs_e1, evPs_e2, evB_e1, evI_rng, evI_e2, evI_e3, evS_e1, evS_e3, evS_e4, evS_e5, evS_e7, evS_e8, evS_e9, evS_e10, evS_e14, evS_poke, yngL_lst, lk_lst, lk_sh, look_val, look_at, opv_sh, opv_lst, opv_obj, opv_dic, opd_var, opd_ne, frzAt_eq, fza_sh, fza_lst, give_val, give_at, dcA_some, dcB_ok, dcB_exn, doCall_eq, bin_addI, bin_addL, bin_addT, bin_sub, bin_mulI, bin_mulL, bin_fdiv, bin_mod, bin_pow, cmp_eq, cmp_ne, cmp_lt, cmp_le, cmp_gt, cmp_ge, cmp_is, cmp_isn, cmp_inL, cmp_inT, cmp_ninL, cmp_ninT, isNon_non, isNon_int, isNon_str, isNon_bl, isNon_tup, isNon_lst, ix_lst, ix_tup, ix_scr, sl_lst, sl_tup, seq_lst, seq_tup, seq_scr, seqL_lst, seqL_scr, bi_lenL, bi_lenT, bi_lenS, bi_listL, bi_listT, bi_tupL, bi_tupT, bi_intI, bi_intB, bi_max2, bi_min2, rngsD_1, rngsD_2, rngsD_3, lao_lst, lstAt_se, gpo_obj, lstAt_fe, setPl_s, spo_obj, setPl_f, partE_nil, partE_ne, intO_sh, lstD_lst, fldR_sh, fldR_obj, evO_fld, negR_int, evO_neg, iteR_true, iteR_false, evO_ite, chR_true, chR_false, evC_one, evC_two, bopR_tt, bopR_tf, bopR_ft, bopR_ff, evB_cs, sfR_obj, evS_setfld, evI_e, evS_seq, evS_ite, evS_for, evS_whl, evO_lc, kSeq_nx, kSeq_ret, kIf_true, kIf_false, kLcs_true, bnd_ok, bnd_exn, bnd_fail, opt_some, opt_none, optC_some, asB_ok, asB_exn, asI_ok, getS, setS, looks, frz, frzs, gives, takeA, backA, doNew, intsD, outsOf, eqD_int, kRun_nx, kRun_ret, kRun_exn, wipeF, backF, ne_eq, not_false_eq_true, forall_const, implies_true, reduceCtorEq, List.map_cons, List.map_nil, List.cons_append, List.nil_append, List.append_nil, List.replicate_succ, List.replicate_zero, Option.map_some, and_self, if_true, if_false, decide_true, decide_false, Bool.not_true, Bool.not_false, Bool.false_eq_true, Bool.or_true, Bool.true_or, Bool.and_true, Bool.true_and, Bool.or_false, Bool.false_or, asg_name, asg_tup, asg2_some, asgs_nil, asgs_cons, evO_gint, Nat.sub_self, Nat.reduceSub, shOrNone_none, shOrNone_sh, List.all_cons, List.all_nil, evO_isi, evO_isx, evO_cntT, evO_idxT, evO_kind, kindR_ok, kindR_exn, isi_int, isi_bl, isi_str, isi_non, isi_tup, isi_lst, eqD_bl, eqD_str, isa_int_TL, isa_int_L, isa_int_S, isa_int_B, isa_int_I, isa_int_T, isa_bool_TL, isa_bool_L, isa_bool_S, isa_bool_B, isa_bool_I, isa_bool_T, isa_str_TL, isa_str_L, isa_str_S, isa_str_B, isa_str_I, isa_str_T, isa_list_TL, isa_list_L, isa_list_S, isa_list_B, isa_list_I, isa_list_T, isa_tuple_TL, isa_tuple_L, isa_tuple_S, isa_tuple_B, isa_tuple_I, isa_tuple_T, isa_none_TL, isa_none_L, isa_none_S, isa_none_B, isa_none_I, isa_none_T, eqD_nil0, List.length_nil, Nat.zero_le, oldF_nil, oldO_sh, oldO_lst, old_int, old_str, old_bl, old_non, old_scr, old_tup, old_lst, olds_nil, olds_cons, killB_true, killB_false, killF_nil, yngO_sh, yngO_lst, yng_int, yng_str, yng_bl, yng_non, yng_scr, yng_tup, yng_lstT, yng_lstF, yngs_nil, yngs_cons, oldF_cons, killF_cons, Option.map_none, Option.bind_some, Option.bind_none, killO_eq, atI_0, atI_1, atI_2, atI_3, len1, len2, len3, len4, len5, len6, len7, le_big1, le_big2, le_big3, le_big4, le_big5, le_big6, le_big7, le_big8, le_big9, le_big10, le_big11, le_big12, h1, h2, h3, atI_0, atI_1]
      · simp only [evO_e1, evO_e2, evO_e3, evO_e4, evO_e5, evO_e7, evO_e9, evO_e10, evO_e11, evO_e12, evO_e14, evO_e15, evO_e16, evO_e17, evO_e18, evO_e19, evO_e20, evO_e21, evPs_e1, evPs_e2, evB_e1, evI_rng, evI_e2, evI_e3, evS_e1, evS_e3, evS_e4, evS_e5, evS_e7, evS_e8, evS_e9, evS_e10, evS_e14, evS_poke, yngL_lst, lk_lst, lk_sh, look_val, look_at, opv_sh, opv_lst, opv_obj, opv_dic, opd_var, opd_ne, frzAt_eq, fza_sh, fza_lst, give_val, give_at, dcA_some, dcB_ok, dcB_exn, doCall_eq, bin_addI, bin_addL, bin_addT, bin_sub, bin_mulI, bin_mulL, bin_fdiv, bin_mod, bin_pow, cmp_eq, cmp_ne, cmp_lt, cmp_le, cmp_gt, cmp_ge, cmp_is, cmp_isn, cmp_inL, cmp_inT, cmp_ninL, cmp_ninT, isNon_non, isNon_int, isNon_str, isNon_bl, isNon_tup, isNon_lst, ix_lst, ix_tup, ix_scr, sl_lst, sl_tup, seq_lst, seq_tup, seq_scr, seqL_lst, seqL_scr, bi_lenL, bi_lenT, bi_lenS, bi_listL, bi_listT, bi_tupL, bi_tupT, bi_intI, bi_intB, bi_max2, bi_min2, rngsD_1, rngsD_2, rngsD_3, lao_lst, lstAt_se, gpo_obj, lstAt_fe, setPl_s, spo_obj, setPl_f, partE_nil, partE_ne, intO_sh, lstD_lst, fldR_sh, fldR_obj, evO_fld, negR_int, evO_neg, iteR_true, iteR_false, evO_ite, chR_true, chR_false, evC_one, evC_two, bopR_tt, bopR_tf, bopR_ft, bopR_ff, evB_cs, sfR_obj, evS_setfld, evI_e, evS_seq, evS_ite, evS_for, evS_whl, evO_lc, kSeq_nx, kSeq_ret, kIf_true, kIf_false, kLcs_true, bnd_ok, bnd_exn, bnd_fail, opt_some, opt_none, optC_some, asB_ok, asB_exn, asI_ok, getS, setS, looks, frz, frzs, gives, takeA, backA, doNew, intsD, outsOf, eqD_int, kRun_nx, kRun_ret, kRun_exn, wipeF, backF, ne_eq, not_false_eq_true, forall_const, implies_true, reduceCtorEq, List.map_cons, List.map_nil, List.cons_append, List.nil_append, List.append_nil, List.replicate_succ, List.replicate_zero, Option.map_some, and_self, if_true, if_false, decide_true, decide_false, Bool.not_true, Bool.not_false, Bool.false_eq_true, Bool.or_true, Bool.true_or, Bool.and_true, Bool.true_and, Bool.or_false, Bool.false_or, asg_name, asg_tup, asg2_some, asgs_nil, asgs_cons, evO_gint, Nat.sub_self, Nat.reduceSub, shOrNone_none, shOrNone_sh, List.all_cons, List.all_nil, evO_isi, evO_isx, evO_cntT, evO_idxT, evO_kind, kindR_ok, kindR_exn, isi_int, isi_bl, isi_str, isi_non, isi_tup, isi_lst, eqD_bl, eqD_str, isa_int_TL, isa_int_L, isa_int_S, isa_int_B, isa_int_I, isa_int_T, isa_bool_TL, isa_bool_L, isa_bool_S, isa_bool_B, isa_bool_I, isa_bool_T, isa_str_TL, isa_str_L, isa_str_S, isa_str_B, isa_str_I, isa_str_T, isa_list_TL, isa_list_L, isa_list_S, isa_list_B, isa_list_I, isa_list_T, isa_tuple_TL, isa_tuple_L, isa_tuple_S, isa_tuple_B, isa_tuple_I, isa_tuple_T, isa_none_TL, isa_none_L, isa_none_S, isa_none_B, isa_none_I, isa_none_T, eqD_nil0, List.length_nil, Nat.zero_le, oldF_nil, oldO_sh, oldO_lst, old_int, old_str, old_bl, old_non, old_scr, old_tup, old_lst, olds_nil, olds_cons, killB_true, killB_false, killF_nil, yngO_sh, yngO_lst, yng_int, yng_str, yng_bl, yng_non, yng_scr, yng_tup, yng_lstT, yng_lstF, yngs_nil, yngs_cons, oldF_cons, killF_cons, Option.map_none, Option.bind_some, Option.bind_none, killO_eq, atI_0, atI_1, atI_2, atI_3, len1, len2, len3, len4, len5, len6, len7, le_big1, le_big2, le_big3, le_big4, le_big5, le_big6, le_big7, le_big8, le_big9, le_big10, le_big11, le_big12, h1, h2, h3, atI_0, atI_1, Bool.and_false]
    · simp only [evO_e1, evO_e2, evO_e3, evO_e4, evO_e5, evO_e7, evO_e9, evO_e10, evO_e11, evO_e12, evO_e14, evO_e15, evO_e16, evO_e17, evO_e18, evO_e19, evO_e20, evO_e21, evPs_e1, evPs_e2, evB_e1, evI_rng, evI_e2, evI_e3, evS_e1, evS_e3, evS_e4, evS_e5, evS_e7, evS_e8, evS_e9, evS_e10, evS_e14, evS_poke, yngL_lst, lk_lst, lk_sh, look_val, look_at, opv_sh, opv_lst, opv_obj, opv_dic, opd_var, opd_ne, frzAt_eq, fza_sh, fza_lst, give_val, give_at, dcA_some, dcB_ok, dcB_exn, doCall_eq, bin_addI, bin_addL, bin_addT, bin_sub, bin_mulI, bin_mulL, bin_fdiv, bin_mod, bin_pow, cmp_eq, cmp_ne, cmp_lt, cmp_le, cmp_gt, cmp_ge, cmp_is, cmp_isn, cmp_inL, cmp_inT, cmp_ninL, cmp_ninT, isNon_non, isNon_int, isNon_str, isNon_bl, isNon_tup, isNon_lst, ix_lst, ix_tup, ix_scr, sl_lst, sl_tup, seq_lst, seq_tup, seq_scr, seqL_lst, seqL_scr, bi_lenL, bi_lenT, bi_lenS, bi_listL, bi_listT, bi_tupL, bi_tupT, bi_intI, bi_intB, bi_max2, bi_min2, rngsD_1, rngsD_2, rngsD_3, lao_lst, lstAt_se, gpo_obj, lstAt_fe, setPl_s, spo_obj, setPl_f, partE_nil, partE_ne, intO_sh, lstD_lst, fldR_sh, fldR_obj, evO_fld, negR_int, evO_neg, iteR_true, iteR_false, evO_ite, chR_true, chR_false, evC_one, evC_two, bopR_tt, bopR_tf, bopR_ft, bopR_ff, evB_cs, sfR_obj, evS_setfld, evI_e, evS_seq, evS_ite, evS_for, evS_whl, evO_lc, kSeq_nx, kSeq_ret, kIf_true, kIf_false, kLcs_true, bnd_ok, bnd_exn, bnd_fail, opt_some, opt_none, optC_some, asB_ok, asB_exn, asI_ok, getS, setS, looks, frz, frzs, gives, takeA, backA, doNew, intsD, outsOf, eqD_int, kRun_nx, kRun_ret, kRun_exn, wipeF, backF, ne_eq, not_false_eq_true, forall_const, implies_true, reduceCtorEq, List.map_cons, List.map_nil, List.cons_append, List.nil_append, List.append_nil, List.replicate_succ, List.replicate_zero, Option.map_some, and_self, if_true, if_false, decide_true, decide_false, Bool.not_true, Bool.not_false, Bool.false_eq_true, Bool.or_true, Bool.true_or, Bool.and_true, Bool.true_and, Bool.or_false, Bool.false_or, asg_name, asg_tup, asg2_some, asgs_nil, asgs_cons, evO_gint, Nat.sub_self, Nat.reduceSub, shOrNone_none, shOrNone_sh, List.all_cons, List.all_nil, evO_isi, evO_isx, evO_cntT, evO_idxT, evO_kind, kindR_ok, kindR_exn, isi_int, isi_bl, isi_str, isi_non, isi_tup, isi_lst, eqD_bl, eqD_str, isa_int_TL, isa_int_L, isa_int_S, isa_int_B, isa_int_I, isa_int_T, isa_bool_TL, isa_bool_L, isa_bool_S, isa_bool_B, isa_bool_I, isa_bool_T, isa_str_TL, isa_str_L, isa_str_S, isa_str_B, isa_str_I, isa_str_T, isa_list_TL, isa_list_L, isa_list_S, isa_list_B, isa_list_I, isa_list_T, isa_tuple_TL, isa_tuple_L, isa_tuple_S, isa_tuple_B, isa_tuple_I, isa_tuple_T, isa_none_TL, isa_none_L, isa_none_S, isa_none_B, isa_none_I, isa_none_T, eqD_nil0, List.length_nil, Nat.zero_le, oldF_nil, oldO_sh, oldO_lst, old_int, old_str, old_bl, old_non, old_scr, old_tup, old_lst, olds_nil, olds_cons, killB_true, killB_false, killF_nil, yngO_sh, yngO_lst, yng_int, yng_str, yng_bl, yng_non, yng_scr, yng_tup, yng_lstT, yng_lstF, yngs_nil, yngs_cons, oldF_cons, killF_cons, Option.map_none, Option.bind_some, Option.bind_none, killO_eq, atI_0, atI_1, atI_2, atI_3, len1, len2, len3, len4, len5, len6, len7, le_big1, le_big2, le_big3, le_big4, le_big5, le_big6, le_big7, le_big8, le_big9, le_big10, le_big11, le_big12, h1, h2, atI_0, atI_1, Bool.and_false, Bool.false_and]
  · simp only [evO_e1, evO_e2, evO_e3, evO_e4, evO_e5, evO_e7, evO_e9, evO_e10, evO_e11, evO_e12, evO_e14, evO_e15, evO_e16, evO_e17, evO_e18, evO_e19, evO_e20, evO_e21, evPs_e1, evPs_e2, evB_e1, evI_rng, evI_e2, evI_e3, evS_e1, evS_e3, evS_e4, evS_e5, evS_e7, evS_e8, evS_e9, evS_e10, evS_e14, evS_poke, yngL_lst, lk_lst, lk_sh, look_val, look_at, opv_sh, opv_lst, opv_obj, opv_dic, opd_var, opd_ne, frzAt_eq, fza_sh, fza_lst, give_val, give_at, dcA_some, dcB_ok, dcB_exn, doCall_eq, bin_addI, bin_addL, bin_addT, bin_sub, bin_mulI, bin_mulL, bin_fdiv, bin_mod, bin_pow, cmp_eq, cmp_ne, cmp_lt, cmp_le, cmp_gt, cmp_ge, cmp_is, cmp_isn, cmp_inL, cmp_inT, cmp_ninL, cmp_ninT, isNon_non, isNon_int, isNon_str, isNon_bl, isNon_tup, isNon_lst, ix_lst, ix_tup, ix_scr, sl_lst, sl_tup, seq_lst, seq_tup, seq_scr, seqL_lst, seqL_scr, bi_lenL, bi_lenT, bi_lenS, bi_listL, bi_listT, bi_tupL, bi_tupT, bi_intI, bi_intB, bi_max2, bi_min2, rngsD_1, rngsD_2, rngsD_3, lao_lst, lstAt_se, gpo_obj, lstAt_fe, setPl_s, spo_obj, setPl_f, partE_nil, partE_ne, intO_sh, lstD_lst, fldR_sh, fldR_obj, evO_fld, negR_int, evO_neg, iteR_true, iteR_false, evO_ite, chR_true, chR_false, evC_one, evC_two, bopR_tt, bopR_tf, bopR_ft, bopR_ff, evB_cs, sfR_obj, evS_setfld, evI_e, evS_seq, evS_ite, evS_for, evS_whl, evO_lc, kSeq_nx, kSeq_ret, kIf_true, kIf_false, kLcs_true, bnd_ok, bnd_exn, bnd_fail, opt_some, opt_none, optC_some, asB_ok, asB_exn, asI_ok, getS, setS, looks, frz, frzs, gives, takeA, backA, doNew, intsD, outsOf, eqD_int, kRun_nx, kRun_ret, kRun_exn, wipeF, backF, ne_eq, not_false_eq_true, forall_const, implies_true, reduceCtorEq, List.map_cons, List.map_nil, List.cons_append, List.nil_append, List.append_nil, List.replicate_succ, List.replicate_zero, Option.map_some, and_self, if_true, if_false, decide_true, decide_false, Bool.not_true, Bool.not_false, Bool.false_eq_true, Bool.or_true, Bool.true_or, Bool.and_true, Bool.true_and, Bool.or_false, Bool.false_or, asg_name, asg_tup, asg2_some, asgs_nil, asgs_cons, evO_gint, Nat.sub_self, Nat.reduceSub, shOrNone_none, shOrNone_sh, List.all_cons, List.all_nil, evO_isi, evO_isx, evO_cntT, evO_idxT, evO_kind, kindR_ok, kindR_exn, isi_int, isi_bl, isi_str, isi_non, isi_tup, isi_lst, eqD_bl, eqD_str, isa_int_TL, isa_int_L, isa_int_S, isa_int_B, isa_int_I, isa_int_T, isa_bool_TL, isa_bool_L, isa_bool_S, isa_bool_B, isa_bool_I, isa_bool_T, isa_str_TL, isa_str_L, isa_str_S, isa_str_B, isa_str_I, isa_str_T, isa_list_TL, isa_list_L, isa_list_S, isa_list_B, isa_list_I, isa_list_T, isa_tuple_TL, isa_tuple_L, isa_tuple_S, isa_tuple_B, isa_tuple_I, isa_tuple_T, isa_none_TL, isa_none_L, isa_none_S, isa_none_B, isa_none_I, isa_none_T, eqD_nil0, List.length_nil, Nat.zero_le, oldF_nil, oldO_sh, oldO_lst, old_int, old_str, old_bl, old_non, old_scr, old_tup, old_lst, olds_nil, olds_cons, killB_true, killB_false, killF_nil, yngO_sh, yngO_lst, yng_int, yng_str, yng_bl, yng_non, yng_scr, yng_tup, yng_lstT, yng_lstF, yngs_nil, yngs_cons, oldF_cons, killF_cons, Option.map_none, Option.bind_some, Option.bind_none, killO_eq, atI_0, atI_1, atI_2, atI_3, len1, len2, len3, len4, len5, len6, len7, le_big1, le_big2, le_big3, le_big4, le_big5, le_big6, le_big7, le_big8, le_big9, le_big10, le_big11, le_big12, h1, atI_0, atI_1, Bool.and_false, Bool.false_and]
theorem need_beat_run (cl : Cl) (N x : Nat) (b : Int) : runF cl N (F_need_beat x) [.sh (.int b)] = if 1 ≤ b ∧ b ≤ 60 then .ok (.sh .non) [] else .exn ⟨x, none⟩ [] := by
  rw [runF_eq _ _ _ _ rfl]
  unfold F_need_beat
  by_cases h1 : 1 ≤ b
  · by_cases h2 : b ≤ 60
    · simp only [evO_e1, evO_e2, evO_e3, evO_e4, evO_e5, evO_e7, evO_e9, evO_e10, evO_e11, evO_e12, evO_e14, evO_e15, evO_e16, evO_e17, evO_e18, evO_e19, evO_e20, evO_e21, evPs_e1, evPs_e2, evB_e1, evI_rng, evI_e2, evI_e3, evS_e1, evS_e3, evS_e4, evS_e5, evS_e7, evS_e8, evS_e9, evS_e10, evS_e14, evS_poke, yngL_lst, lk_lst, lk_sh, look_val, look_at, opv_sh, opv_lst, opv_obj, opv_dic, opd_var, opd_ne, frzAt_eq, fza_sh, fza_lst, give_val, give_at, dcA_some, dcB_ok, dcB_exn, doCall_eq, bin_addI, bin_addL, bin_addT, bin_sub, bin_mulI, bin_mulL, bin_fdiv, bin_mod, bin_pow, cmp_eq, cmp_ne, cmp_lt, cmp_le, cmp_gt, cmp_ge, cmp_is, cmp_isn, cmp_inL, cmp_inT, cmp_ninL, cmp_ninT, isNon_non, isNon_int, isNon_str, isNon_bl, isNon_tup, isNon_lst, ix_lst, ix_tup, ix_scr, sl_lst, sl_tup, seq_lst, seq_tup, seq_scr, seqL_lst, seqL_scr, bi_lenL, bi_lenT, bi_lenS, bi_listL, bi_listT, bi_tupL, bi_tupT, bi_intI, bi_intB, bi_max2, bi_min2, rngsD_1, rngsD_2, rngsD_3, lao_lst, lstAt_se, gpo_obj, lstAt_fe, setPl_s, spo_obj, setPl_f, partE_nil, partE_ne, intO_sh, lstD_lst, fldR_sh, fldR_obj, evO_fld, negR_int, evO_neg, iteR_true, iteR_false, evO_ite, chR_true, chR_false, evC_one, evC_two, bopR_tt, bopR_tf, bopR_ft, bopR_ff, evB_cs, sfR_obj, evS_setfld, evI_e, evS_seq, evS_ite, evS_for, evS_whl, evO_lc, kSeq_nx, kSeq_ret, kIf_true, kIf_false, kLcs_true, bnd_ok, bnd_exn, bnd_fail, opt_some, opt_none, optC_some, asB_ok, asB_exn, asI_ok, getS, setS, looks, frz, frzs, gives, takeA, backA, doNew, intsD, outsOf, eqD_int, kRun_nx, kRun_ret, kRun_exn, wipeF, backF, ne_eq, not_false_eq_true, forall_const, implies_true, reduceCtorEq, List.map_cons, List.map_nil, List.cons_append, List.nil_append, List.append_nil, List.replicate_succ, List.replicate_zero, Option.map_some, and_self, if_true, if_false, decide_true, decide_false, Bool.not_true, Bool.not_false, Bool.false_eq_true, Bool.or_true, Bool.true_or, Bool.and_true, Bool.true_and, Bool.or_false, Bool.false_or, asg_name, asg_tup, asg2_some, asgs_nil, asgs_cons, evO_gint, Nat.sub_self, Nat.reduceSub, shOrNone_none, shOrNone_sh, List.all_cons, List.all_nil, evO_isi, evO_isx, evO_cntT, evO_idxT, evO_kind, kindR_ok, kindR_exn, isi_int, isi_bl, isi_str, isi_non, isi_tup, isi_lst, eqD_bl, eqD_str, isa_int_TL, isa_int_L, isa_int_S, isa_int_B, isa_int_I, isa_int_T, isa_bool_TL, isa_bool_L, isa_bool_S, isa_bool_B, isa_bool_I, isa_bool_T, isa_str_TL, isa_str_L, isa_str_S, isa_str_B, isa_str_I, isa_str_T, isa_list_TL, isa_list_L, isa_list_S, isa_list_B, isa_list_I, isa_list_T, isa_tuple_TL, isa_tuple_L, isa_tuple_S, isa_tuple_B, isa_tuple_I, isa_tuple_T, isa_none_TL, isa_none_L, isa_none_S, isa_none_B, isa_none_I, isa_none_T, eqD_nil0, List.length_nil, Nat.zero_le, oldF_nil, oldO_sh, oldO_lst, old_int, old_str, old_bl, old_non, old_scr, old_tup, old_lst, olds_nil, olds_cons, killB_true, killB_false, killF_nil, yngO_sh, yngO_lst, yng_int, yng_str, yng_bl, yng_non, yng_scr, yng_tup, yng_lstT, yng_lstF, yngs_nil, yngs_cons, oldF_cons, killF_cons, Option.map_none, Option.bind_some, Option.bind_none, killO_eq, atI_0, atI_1, atI_2, atI_3, len1, len2, len3, len4, len5, len6, len7, le_big1, le_big2, le_big3, le_big4, le_big5, le_big6, le_big7, le_big8, le_big9, le_big10, le_big11, le_big12, h1, h2]
    · simp only [evO_e1, evO_e2, evO_e3, evO_e4, evO_e5, evO_e7, evO_e9, evO_e10, evO_e11, evO_e12, evO_e14, evO_e15, evO_e16, evO_e17, evO_e18, evO_e19, evO_e20, evO_e21, evPs_e1, evPs_e2, evB_e1, evI_rng, evI_e2, evI_e3, evS_e1, evS_e3, evS_e4, evS_e5, evS_e7, evS_e8, evS_e9, evS_e10, evS_e14, evS_poke, yngL_lst, lk_lst, lk_sh, look_val, look_at, opv_sh, opv_lst, opv_obj, opv_dic, opd_var, opd_ne, frzAt_eq, fza_sh, fza_lst, give_val, give_at, dcA_some, dcB_ok, dcB_exn, doCall_eq, bin_addI, bin_addL, bin_addT, bin_sub, bin_mulI, bin_mulL, bin_fdiv, bin_mod, bin_pow, cmp_eq, cmp_ne, cmp_lt, cmp_le, cmp_gt, cmp_ge, cmp_is, cmp_isn, cmp_inL, cmp_inT, cmp_ninL, cmp_ninT, isNon_non, isNon_int, isNon_str, isNon_bl, isNon_tup, isNon_lst, ix_lst, ix_tup, ix_scr, sl_lst, sl_tup, seq_lst, seq_tup, seq_scr, seqL_lst, seqL_scr, bi_lenL, bi_lenT, bi_lenS, bi_listL, bi_listT, bi_tupL, bi_tupT, bi_intI, bi_intB, bi_max2, bi_min2, rngsD_1, rngsD_2, rngsD_3, lao_lst, lstAt_se, gpo_obj, lstAt_fe, setPl_s, spo_obj, setPl_f, partE_nil, partE_ne, intO_sh, lstD_lst, fldR_sh, fldR_obj, evO_fld, negR_int, evO_neg, iteR_true, iteR_false, evO_ite, chR_true, chR_false, evC_one, evC_two, bopR_tt, bopR_tf, bopR_ft, bopR_ff, evB_cs, sfR_obj, evS_setfld, evI_e, evS_seq, evS_ite, evS_for, evS_whl, evO_lc, kSeq_nx, kSeq_ret, kIf_true, kIf_false, kLcs_true, bnd_ok, bnd_exn, bnd_fail, opt_some, opt_none, optC_some, asB_ok, asB_exn, asI_ok, getS, setS, looks, frz, frzs, gives, takeA, backA, doNew, intsD, outsOf, eqD_int, kRun_nx, kRun_ret, kRun_exn, wipeF, backF, ne_eq, not_false_eq_true, forall_const, implies_true, reduceCtorEq, List.map_cons, List.map_nil, List.cons_append, List.nil_append, List.append_nil, List.replicate_succ, List.replicate_zero, Option.map_some, and_self, if_true, if_false, decide_true, decide_false, Bool.not_true, Bool.not_false, Bool.false_eq_true, Bool.or_true, Bool.true_or, Bool.and_true, Bool.true_and, Bool.or_false, Bool.false_or, asg_name, asg_tup, asg2_some, asgs_nil, asgs_cons, evO_gint, Nat.sub_self, Nat.reduceSub, shOrNone_none, shOrNone_sh, List.all_cons, List.all_nil, evO_isi, evO_isx, evO_cntT, evO_idxT, evO_kind, kindR_ok, kindR_exn, isi_int, isi_bl, isi_str, isi_non, isi_tup, isi_lst, eqD_bl, eqD_str, isa_int_TL, isa_int_L, isa_int_S, isa_int_B, isa_int_I, isa_int_T, isa_bool_TL, isa_bool_L, isa_bool_S, isa_bool_B, isa_bool_I, isa_bool_T, isa_str_TL, isa_str_L, isa_str_S, isa_str_B, isa_str_I, isa_str_T, isa_list_TL, isa_list_L, isa_list_S, isa_list_B, isa_list_I, isa_list_T, isa_tuple_TL, isa_tuple_L, isa_tuple_S, isa_tuple_B, isa_tuple_I, isa_tuple_T, isa_none_TL, isa_none_L, isa_none_S, isa_none_B, isa_none_I, isa_none_T, eqD_nil0, List.length_nil, Nat.zero_le, oldF_nil, oldO_sh, oldO_lst, old_int, old_str, old_bl, old_non, old_scr, old_tup, old_lst, olds_nil, olds_cons, killB_true, killB_false, killF_nil, yngO_sh, yngO_lst, yng_int, yng_str, yng_bl, yng_non, yng_scr, yng_tup, yng_lstT, yng_lstF, yngs_nil, yngs_cons, oldF_cons, killF_cons, Option.map_none, Option.bind_some, Option.bind_none, killO_eq, atI_0, atI_1, atI_2, atI_3, len1, len2, len3, len4, len5, len6, len7, le_big1, le_big2, le_big3, le_big4, le_big5, le_big6, le_big7, le_big8, le_big9, le_big10, le_big11, le_big12, h1, h2, and_false]
  · simp only [evO_e1, evO_e2, evO_e3, evO_e4, evO_e5, evO_e7, evO_e9, evO_e10, evO_e11, evO_e12, evO_e14, evO_e15, evO_e16, evO_e17, evO_e18, evO_e19, evO_e20, evO_e21, evPs_e1, evPs_e2, evB_e1, evI_rng, evI_e2, evI_e3, evS_e1, evS_e3, evS_e4, evS_e5, evS_e7, evS_e8, evS_e9, evS_e10, evS_e14, evS_poke, yngL_lst, lk_lst, lk_sh, look_val, look_at, opv_sh, opv_lst, opv_obj, opv_dic, opd_var, opd_ne, frzAt_eq, fza_sh, fza_lst, give_val, give_at, dcA_some, dcB_ok, dcB_exn, doCall_eq, bin_addI, bin_addL, bin_addT, bin_sub, bin_mulI, bin_mulL, bin_fdiv, bin_mod, bin_pow, cmp_eq, cmp_ne, cmp_lt, cmp_le, cmp_gt, cmp_ge, cmp_is, cmp_isn, cmp_inL, cmp_inT, cmp_ninL, cmp_ninT, isNon_non, isNon_int, isNon_str, isNon_bl, isNon_tup, isNon_lst, ix_lst, ix_tup, ix_scr, sl_lst, sl_tup, seq_lst, seq_tup, seq_scr, seqL_lst, seqL_scr, bi_lenL, bi_lenT, bi_lenS, bi_listL, bi_listT, bi_tupL, bi_tupT, bi_intI, bi_intB, bi_max2, bi_min2, rngsD_1, rngsD_2, rngsD_3, lao_lst, lstAt_se, gpo_obj, lstAt_fe, setPl_s, spo_obj, setPl_f, partE_nil, partE_ne, intO_sh, lstD_lst, fldR_sh, fldR_obj, evO_fld, negR_int, evO_neg, iteR_true, iteR_false, evO_ite, chR_true, chR_false, evC_one, evC_two, bopR_tt, bopR_tf, bopR_ft, bopR_ff, evB_cs, sfR_obj, evS_setfld, evI_e, evS_seq, evS_ite, evS_for, evS_whl, evO_lc, kSeq_nx, kSeq_ret, kIf_true, kIf_false, kLcs_true, bnd_ok, bnd_exn, bnd_fail, opt_some, opt_none, optC_some, asB_ok, asB_exn, asI_ok, getS, setS, looks, frz, frzs, gives, takeA, backA, doNew, intsD, outsOf, eqD_int, kRun_nx, kRun_ret, kRun_exn, wipeF, backF, ne_eq, not_false_eq_true, forall_const, implies_true, reduceCtorEq, List.map_cons, List.map_nil, List.cons_append, List.nil_append, List.append_nil, List.replicate_succ, List.replicate_zero, Option.map_some, and_self, if_true, if_false, decide_true, decide_false, Bool.not_true, Bool.not_false, Bool.false_eq_true, Bool.or_true, Bool.true_or, Bool.and_true, Bool.true_and, Bool.or_false, Bool.false_or, asg_name, asg_tup, asg2_some, asgs_nil, asgs_cons, evO_gint, Nat.sub_self, Nat.reduceSub, shOrNone_none, shOrNone_sh, List.all_cons, List.all_nil, evO_isi, evO_isx, evO_cntT, evO_idxT, evO_kind, kindR_ok, kindR_exn, isi_int, isi_bl, isi_str, isi_non, isi_tup, isi_lst, eqD_bl, eqD_str, isa_int_TL, isa_int_L, isa_int_S, isa_int_B, isa_int_I, isa_int_T, isa_bool_TL, isa_bool_L, isa_bool_S, isa_bool_B, isa_bool_I, isa_bool_T, isa_str_TL, isa_str_L, isa_str_S, isa_str_B, isa_str_I, isa_str_T, isa_list_TL, isa_list_L, isa_list_S, isa_list_B, isa_list_I, isa_list_T, isa_tuple_TL, isa_tuple_L, isa_tuple_S, isa_tuple_B, isa_tuple_I, isa_tuple_T, isa_none_TL, isa_none_L, isa_none_S, isa_none_B, isa_none_I, isa_none_T, eqD_nil0, List.length_nil, Nat.zero_le, oldF_nil, oldO_sh, oldO_lst, old_int, old_str, old_bl, old_non, old_scr, old_tup, old_lst, olds_nil, olds_cons, killB_true, killB_false, killF_nil, yngO_sh, yngO_lst, yng_int, yng_str, yng_bl, yng_non, yng_scr, yng_tup, yng_lstT, yng_lstF, yngs_nil, yngs_cons, oldF_cons, killF_cons, Option.map_none, Option.bind_some, Option.bind_none, killO_eq, atI_0, atI_1, atI_2, atI_3, len1, len2, len3, len4, len5, len6, len7, le_big1, le_big2, le_big3, le_big4, le_big5, le_big6, le_big7, le_big8, le_big9, le_big10, le_big11, le_big12, h1, false_and]
/-! ### bites -/
def lateD (m e : Int) : D := if m ≤ e then .tup [.int m, .str "late"] else .non
theorem late_run (cl : Cl) (N : Nat) (m e : Int) : runF cl N F_late_bite [.sh (.int m), .sh (.int e)] = .ok (.sh (lateD m e)) [] := by
  rw [runF_eq _ _ _ _ rfl]
  unfold F_late_bite lateD
  by_cases h1 : m ≤ e
  · simp only [evO_e1, evO_e2, evO_e3, evO_e4, evO_e5, evO_e7, evO_e9, evO_e10, evO_e11, evO_e12, evO_e14, evO_e15, evO_e16, evO_e17, evO_e18, evO_e19, evO_e20, evO_e21, evPs_e1, evPs_e2, evB_e1, evI_rng, evI_e2, evI_e3, evS_e1, evS_e3, evS_e4, evS_e5, evS_e7, evS_e8, evS_e9, evS_e10, evS_e14, evS_poke, yngL_lst, lk_lst, lk_sh, look_val, look_at, opv_sh, opv_lst, opv_obj, opv_dic, opd_var, opd_ne, frzAt_eq, fza_sh, fza_lst, give_val, give_at, dcA_some, dcB_ok, dcB_exn, doCall_eq, bin_addI, bin_addL, bin_addT, bin_sub, bin_mulI, bin_mulL, bin_fdiv, bin_mod, bin_pow, cmp_eq, cmp_ne, cmp_lt, cmp_le, cmp_gt, cmp_ge, cmp_is, cmp_isn, cmp_inL, cmp_inT, cmp_ninL, cmp_ninT, isNon_non, isNon_int, isNon_str, isNon_bl, isNon_tup, isNon_lst, ix_lst, ix_tup, ix_scr, sl_lst, sl_tup, seq_lst, seq_tup, seq_scr, seqL_lst, seqL_scr, bi_lenL, bi_lenT, bi_lenS, bi_listL, bi_listT, bi_tupL, bi_tupT, bi_intI, bi_intB, bi_max2, bi_min2, rngsD_1, rngsD_2, rngsD_3, lao_lst, lstAt_se, gpo_obj, lstAt_fe, setPl_s, spo_obj, setPl_f, partE_nil, partE_ne, intO_sh, lstD_lst, fldR_sh, fldR_obj, evO_fld, negR_int, evO_neg, iteR_true, iteR_false, evO_ite, chR_true, chR_false, evC_one, evC_two, bopR_tt, bopR_tf, bopR_ft, bopR_ff, evB_cs, sfR_obj, evS_setfld, evI_e, evS_seq, evS_ite, evS_for, evS_whl, evO_lc, kSeq_nx, kSeq_ret, kIf_true, kIf_false, kLcs_true, bnd_ok, bnd_exn, bnd_fail, opt_some, opt_none, optC_some, asB_ok, asB_exn, asI_ok, getS, setS, looks, frz, frzs, gives, takeA, backA, doNew, intsD, outsOf, eqD_int, kRun_nx, kRun_ret, kRun_exn, wipeF, backF, ne_eq, not_false_eq_true, forall_const, implies_true, reduceCtorEq, List.map_cons, List.map_nil, List.cons_append, List.nil_append, List.append_nil, List.replicate_succ, List.replicate_zero, Option.map_some, and_self, if_true, if_false, decide_true, decide_false, Bool.not_true, Bool.not_false, Bool.false_eq_true, Bool.or_true, Bool.true_or, Bool.and_true, Bool.true_and, Bool.or_false, Bool.false_or, asg_name, asg_tup, asg2_some, asgs_nil, asgs_cons, evO_gint, Nat.sub_self, Nat.reduceSub, shOrNone_none, shOrNone_sh, List.all_cons, List.all_nil, evO_isi, evO_isx, evO_cntT, evO_idxT, evO_kind, kindR_ok, kindR_exn, isi_int, isi_bl, isi_str, isi_non, isi_tup, isi_lst, eqD_bl, eqD_str, isa_int_TL, isa_int_L, isa_int_S, isa_int_B, isa_int_I, isa_int_T, isa_bool_TL, isa_bool_L, isa_bool_S, isa_bool_B, isa_bool_I, isa_bool_T, isa_str_TL, isa_str_L, isa_str_S, isa_str_B, isa_str_I, isa_str_T, isa_list_TL, isa_list_L, isa_list_S, isa_list_B, isa_list_I, isa_list_T, isa_tuple_TL, isa_tuple_L, isa_tuple_S, isa_tuple_B, isa_tuple_I, isa_tuple_T, isa_none_TL, isa_none_L, isa_none_S, isa_none_B, isa_none_I, isa_none_T, eqD_nil0, List.length_nil, Nat.zero_le, oldF_nil, oldO_sh, oldO_lst, old_int, old_str, old_bl, old_non, old_scr, old_tup, old_lst, olds_nil, olds_cons, killB_true, killB_false, killF_nil, yngO_sh, yngO_lst, yng_int, yng_str, yng_bl, yng_non, yng_scr, yng_tup, yng_lstT, yng_lstF, yngs_nil, yngs_cons, oldF_cons, killF_cons, Option.map_none, Option.bind_some, Option.bind_none, killO_eq, atI_0, atI_1, atI_2, atI_3, len1, len2, len3, len4, len5, len6, len7, le_big1, le_big2, le_big3, le_big4, le_big5, le_big6, le_big7, le_big8, le_big9, le_big10, le_big11, le_big12, h1, len2, show 2 ≤ big from by decide]
  · simp only [evO_e1, evO_e2, evO_e3, evO_e4, evO_e5, evO_e7, evO_e9, evO_e10, evO_e11, evO_e12, evO_e14, evO_e15, evO_e16, evO_e17, evO_e18, evO_e19, evO_e20, evO_e21, evPs_e1, evPs_e2, evB_e1, evI_rng, evI_e2, evI_e3, evS_e1, evS_e3, evS_e4, evS_e5, evS_e7, evS_e8, evS_e9, evS_e10, evS_e14, evS_poke, yngL_lst, lk_lst, lk_sh, look_val, look_at, opv_sh, opv_lst, opv_obj, opv_dic, opd_var, opd_ne, frzAt_eq, fza_sh, fza_lst, give_val, give_at, dcA_some, dcB_ok, dcB_exn, doCall_eq, bin_addI, bin_addL, bin_addT, bin_sub, bin_mulI, bin_mulL, bin_fdiv, bin_mod, bin_pow, cmp_eq, cmp_ne, cmp_lt, cmp_le, cmp_gt, cmp_ge, cmp_is, cmp_isn, cmp_inL, cmp_inT, cmp_ninL, cmp_ninT, isNon_non, isNon_int, isNon_str, isNon_bl, isNon_tup, isNon_lst, ix_lst, ix_tup, ix_scr, sl_lst, sl_tup, seq_lst, seq_tup, seq_scr, seqL_lst, seqL_scr, bi_lenL, bi_lenT, bi_lenS, bi_listL, bi_listT, bi_tupL, bi_tupT, bi_intI, bi_intB, bi_max2, bi_min2, rngsD_1, rngsD_2, rngsD_3, lao_lst, lstAt_se, gpo_obj, lstAt_fe, setPl_s, spo_obj, setPl_f, partE_nil, partE_ne, intO_sh, lstD_lst, fldR_sh, fldR_obj, evO_fld, negR_int, evO_neg, iteR_true, iteR_false, evO_ite, chR_true, chR_false, evC_one, evC_two, bopR_tt, bopR_tf, bopR_ft, bopR_ff, evB_cs, sfR_obj, evS_setfld, evI_e, evS_seq, evS_ite, evS_for, evS_whl, evO_lc, kSeq_nx, kSeq_ret, kIf_true, kIf_false, kLcs_true, bnd_ok, bnd_exn, bnd_fail, opt_some, opt_none, optC_some, asB_ok, asB_exn, asI_ok, getS, setS, looks, frz, frzs, gives, takeA, backA, doNew, intsD, outsOf, eqD_int, kRun_nx, kRun_ret, kRun_exn, wipeF, backF, ne_eq, not_false_eq_true, forall_const, implies_true, reduceCtorEq, List.map_cons, List.map_nil, List.cons_append, List.nil_append, List.append_nil, List.replicate_succ, List.replicate_zero, Option.map_some, and_self, if_true, if_false, decide_true, decide_false, Bool.not_true, Bool.not_false, Bool.false_eq_true, Bool.or_true, Bool.true_or, Bool.and_true, Bool.true_and, Bool.or_false, Bool.false_or, asg_name, asg_tup, asg2_some, asgs_nil, asgs_cons, evO_gint, Nat.sub_self, Nat.reduceSub, shOrNone_none, shOrNone_sh, List.all_cons, List.all_nil, evO_isi, evO_isx, evO_cntT, evO_idxT, evO_kind, kindR_ok, kindR_exn, isi_int, isi_bl, isi_str, isi_non, isi_tup, isi_lst, eqD_bl, eqD_str, isa_int_TL, isa_int_L, isa_int_S, isa_int_B, isa_int_I, isa_int_T, isa_bool_TL, isa_bool_L, isa_bool_S, isa_bool_B, isa_bool_I, isa_bool_T, isa_str_TL, isa_str_L, isa_str_S, isa_str_B, isa_str_I, isa_str_T, isa_list_TL, isa_list_L, isa_list_S, isa_list_B, isa_list_I, isa_list_T, isa_tuple_TL, isa_tuple_L, isa_tuple_S, isa_tuple_B, isa_tuple_I, isa_tuple_T, isa_none_TL, isa_none_L, isa_none_S, isa_none_B, isa_none_I, isa_none_T, eqD_nil0, List.length_nil, Nat.zero_le, oldF_nil, oldO_sh, oldO_lst, old_int, old_str, old_bl, old_non, old_scr, old_tup, old_lst, olds_nil, olds_cons, killB_true, killB_false, killF_nil, yngO_sh, yngO_lst, yng_int, yng_str, yng_bl, yng_non, yng_scr, yng_tup, yng_lstT, yng_lstF, yngs_nil, yngs_cons, oldF_cons, killF_cons, Option.map_none, Option.bind_some, Option.bind_none, killO_eq, atI_0, atI_1, atI_2, atI_3, len1, len2, len3, len4, len5, len6, len7, le_big1, le_big2, le_big3, le_big4, le_big5, le_big6, le_big7, le_big8, le_big9, le_big10, le_big11, le_big12, h1]
structure LateOk (cl : Cl) (i : Nat) : Prop where
  io : cl.io i = [false, false]
  run : ∀ m e : Int, cl.run i [.sh (.int m), .sh (.int e)] = .ok (.sh (lateD m e)) []
/-- the first bite behind last -/
def fbD (low high e : Int) : Int → List Int → D
  | last, [] => lateD (last + high + 1) e
  | last, p :: r => if last + high < p ∨ e < p then lateD (last + high + 1) e else if p < last + low then .tup [.int p, .str "early"] else fbD low high e p r
theorem first_run (cl : Cl) (N i : Nat) (hl : LateOk cl i) (low high e : Int) (t : Bool) (ps : List Int) : runF cl N (F_first_bite i) [.sh (winD low high), .sh (.lst t (ps.map .int)), .sh (.int e)] = .ok (.sh (fbD low high e 0 ps)) [] := by
  rw [runF_eq _ _ _ _ rfl]
  obtain ⟨fl, ρ', e1, hQ⟩ := forL_ret (step := kFor cl N false (.name 6) (F_first_bite_b1 i)) D.int
    (fun r ρ => ∃ (last : Int) (x : Option O), ρ = [some (.sh (winD low high)), some (.sh (.lst t (ps.map .int))), some (.sh (.int e)), some (.sh (.int low)), some (.sh (.int high)), some (.sh (.int last)), x] ∧ fbD low high e last r = fbD low high e 0 ps)
    (fun fl ρ => (∃ (last : Int) (x : Option O), fl = .nx ∧ ρ = [some (.sh (winD low high)), some (.sh (.lst t (ps.map .int))), some (.sh (.int e)), some (.sh (.int low)), some (.sh (.int high)), some (.sh (.int last)), x] ∧ lateD (last + high + 1) e = fbD low high e 0 ps) ∨ fl = .ret (.sh (fbD low high e 0 ps)))
    (fun ρ ⟨last, x, h1, h2⟩ => .inl ⟨last, x, rfl, h1, h2⟩)
    (fun p r ρ ⟨last, x, h1, h2⟩ => by
      subst h1
      unfold kFor F_first_bite_b1
      rw [fbD] at h2
      by_cases c1 : last + high < p
      · rw [if_pos (.inl c1)] at h2
        refine .inr ⟨_, [some (.sh (winD low high)), some (.sh (.lst t (ps.map .int))), some (.sh (.int e)), some (.sh (.int low)), some (.sh (.int high)), some (.sh (.int last)), some (.sh (.int p))], ?_, .inr rfl⟩
        simp only [evO_e1, evO_e2, evO_e3, evO_e4, evO_e5, evO_e7, evO_e9, evO_e10, evO_e11, evO_e12, evO_e14, evO_e15, evO_e16, evO_e17, evO_e18, evO_e19, evO_e20, evO_e21, evPs_e1, evPs_e2, evB_e1, evI_rng, evI_e2, evI_e3, evS_e1, evS_e3, evS_e4, evS_e5, evS_e7, evS_e8, evS_e9, evS_e10, evS_e14, evS_poke, yngL_lst, lk_lst, lk_sh, look_val, look_at, opv_sh, opv_lst, opv_obj, opv_dic, opd_var, opd_ne, frzAt_eq, fza_sh, fza_lst, give_val, give_at, dcA_some, dcB_ok, dcB_exn, doCall_eq, bin_addI, bin_addL, bin_addT, bin_sub, bin_mulI, bin_mulL, bin_fdiv, bin_mod, bin_pow, cmp_eq, cmp_ne, cmp_lt, cmp_le, cmp_gt, cmp_ge, cmp_is, cmp_isn, cmp_inL, cmp_inT, cmp_ninL, cmp_ninT, isNon_non, isNon_int, isNon_str, isNon_bl, isNon_tup, isNon_lst, ix_lst, ix_tup, ix_scr, sl_lst, sl_tup, seq_lst, seq_tup, seq_scr, seqL_lst, seqL_scr, bi_lenL, bi_lenT, bi_lenS, bi_listL, bi_listT, bi_tupL, bi_tupT, bi_intI, bi_intB, bi_max2, bi_min2, rngsD_1, rngsD_2, rngsD_3, lao_lst, lstAt_se, gpo_obj, lstAt_fe, setPl_s, spo_obj, setPl_f, partE_nil, partE_ne, intO_sh, lstD_lst, fldR_sh, fldR_obj, evO_fld, negR_int, evO_neg, iteR_true, iteR_false, evO_ite, chR_true, chR_false, evC_one, evC_two, bopR_tt, bopR_tf, bopR_ft, bopR_ff, evB_cs, sfR_obj, evS_setfld, evI_e, evS_seq, evS_ite, evS_for, evS_whl, evO_lc, kSeq_nx, kSeq_ret, kIf_true, kIf_false, kLcs_true, bnd_ok, bnd_exn, bnd_fail, opt_some, opt_none, optC_some, asB_ok, asB_exn, asI_ok, getS, setS, looks, frz, frzs, gives, takeA, backA, doNew, intsD, outsOf, eqD_int, kRun_nx, kRun_ret, kRun_exn, wipeF, backF, ne_eq, not_false_eq_true, forall_const, implies_true, reduceCtorEq, List.map_cons, List.map_nil, List.cons_append, List.nil_append, List.append_nil, List.replicate_succ, List.replicate_zero, Option.map_some, and_self, if_true, if_false, decide_true, decide_false, Bool.not_true, Bool.not_false, Bool.false_eq_true, Bool.or_true, Bool.true_or, Bool.and_true, Bool.true_and, Bool.or_false, Bool.false_or, asg_name, asg_tup, asg2_some, asgs_nil, asgs_cons, evO_gint, Nat.sub_self, Nat.reduceSub, shOrNone_none, shOrNone_sh, List.all_cons, List.all_nil, evO_isi, evO_isx, evO_cntT, evO_idxT, evO_kind, kindR_ok, kindR_exn, isi_int, isi_bl, isi_str, isi_non, isi_tup, isi_lst, eqD_bl, eqD_str, isa_int_TL, isa_int_L, isa_int_S, isa_int_B, isa_int_I, isa_int_T, isa_bool_TL, isa_bool_L, isa_bool_S, isa_bool_B, isa_bool_I, isa_bool_T, isa_str_TL, isa_str_L, isa_str_S, isa_str_B, isa_str_I, isa_str_T, isa_list_TL, isa_list_L, isa_list_S, isa_list_B, isa_list_I, isa_list_T, isa_tuple_TL, isa_tuple_L, isa_tuple_S, isa_tuple_B, isa_tuple_I, isa_tuple_T, isa_none_TL, isa_none_L, isa_none_S, isa_none_B, isa_none_I, isa_none_T, eqD_nil0, List.length_nil, Nat.zero_le, oldF_nil, oldO_sh, oldO_lst, old_int, old_str, old_bl, old_non, old_scr, old_tup, old_lst, olds_nil, olds_cons, killB_true, killB_false, killF_nil, yngO_sh, yngO_lst, yng_int, yng_str, yng_bl, yng_non, yng_scr, yng_tup, yng_lstT, yng_lstF, yngs_nil, yngs_cons, oldF_cons, killF_cons, Option.map_none, Option.bind_some, Option.bind_none, killO_eq, atI_0, atI_1, atI_2, atI_3, len1, len2, len3, len4, len5, len6, len7, le_big1, le_big2, le_big3, le_big4, le_big5, le_big6, le_big7, le_big8, le_big9, le_big10, le_big11, le_big12, c1, hl.io, hl.run, h2]
      · by_cases c2 : e < p
        · rw [if_pos (.inr c2)] at h2
          refine .inr ⟨_, [some (.sh (winD low high)), some (.sh (.lst t (ps.map .int))), some (.sh (.int e)), some (.sh (.int low)), some (.sh (.int high)), some (.sh (.int last)), some (.sh (.int p))], ?_, .inr rfl⟩
          simp only [evO_e1, evO_e2, evO_e3, evO_e4, evO_e5, evO_e7, evO_e9, evO_e10, evO_e11, evO_e12, evO_e14, evO_e15, evO_e16, evO_e17, evO_e18, evO_e19, evO_e20, evO_e21, evPs_e1, evPs_e2, evB_e1, evI_rng, evI_e2, evI_e3, evS_e1, evS_e3, evS_e4, evS_e5, evS_e7, evS_e8, evS_e9, evS_e10, evS_e14, evS_poke, yngL_lst, lk_lst, lk_sh, look_val, look_at, opv_sh, opv_lst, opv_obj, opv_dic, opd_var, opd_ne, frzAt_eq, fza_sh, fza_lst, give_val, give_at, dcA_some, dcB_ok, dcB_exn, doCall_eq, bin_addI, bin_addL, bin_addT, bin_sub, bin_mulI, bin_mulL, bin_fdiv, bin_mod, bin_pow, cmp_eq, cmp_ne, cmp_lt, cmp_le, cmp_gt, cmp_ge, cmp_is, cmp_isn, cmp_inL, cmp_inT, cmp_ninL, cmp_ninT, isNon_non, isNon_int, isNon_str, isNon_bl, isNon_tup, isNon_lst, ix_lst, ix_tup, ix_scr, sl_lst, sl_tup, seq_lst, seq_tup, seq_scr, seqL_lst, seqL_scr, bi_lenL, bi_lenT, bi_lenS, bi_listL, bi_listT, bi_tupL, bi_tupT, bi_intI, bi_intB, bi_max2, bi_min2, rngsD_1, rngsD_2, rngsD_3, lao_lst, lstAt_se, gpo_obj, lstAt_fe, setPl_s, spo_obj, setPl_f, partE_nil, partE_ne, intO_sh, lstD_lst, fldR_sh, fldR_obj, evO_fld, negR_int, evO_neg, iteR_true, iteR_false, evO_ite, chR_true, chR_false, evC_one, evC_two, bopR_tt, bopR_tf, bopR_ft, bopR_ff, evB_cs, sfR_obj, evS_setfld, evI_e, evS_seq, evS_ite, evS_for, evS_whl, evO_lc, kSeq_nx, kSeq_ret, kIf_true, kIf_false, kLcs_true, bnd_ok, bnd_exn, bnd_fail, opt_some, opt_none, optC_some, asB_ok, asB_exn, asI_ok, getS, setS, looks, frz, frzs, gives, takeA, backA, doNew, intsD, outsOf, eqD_int, kRun_nx, kRun_ret, kRun_exn, wipeF, backF, ne_eq, not_false_eq_true, forall_const, implies_true, reduceCtorEq, List.map_cons, List.map_nil, List.cons_append, List.nil_append, List.append_nil, List.replicate_succ, List.replicate_zero, Option.map_some, and_self, if_true, if_false, decide_true, decide_false, Bool.not_true, Bool.not_false, Bool.false_eq_true, Bool.or_true, Bool.true_or, Bool.and_true, Bool.true_and, Bool.or_false, Bool.false_or, asg_name, asg_tup, asg2_some, asgs_nil, asgs_cons, evO_gint, Nat.sub_self, Nat.reduceSub, shOrNone_none, shOrNone_sh, List.all_cons, List.all_nil, evO_isi, evO_isx, evO_cntT, evO_idxT, evO_kind, kindR_ok, kindR_exn, isi_int, isi_bl, isi_str, isi_non, isi_tup, isi_lst, eqD_bl, eqD_str, isa_int_TL, isa_int_L, isa_int_S, isa_int_B, isa_int_I, isa_int_T, isa_bool_TL, isa_bool_L, isa_bool_S, isa_bool_B, isa_bool_I, isa_bool_T, isa_str_TL, isa_str_L, isa_str_S, isa_str_B, isa_str_I, isa_str_T, isa_list_TL, isa_list_L, isa_list_S, isa_list_B, isa_list_I, isa_list_T, isa_tuple_TL, isa_tuple_L, isa_tuple_S, isa_tuple_B, isa_tuple_I, isa_tuple_T, isa_none_TL, isa_none_L, isa_none_S, isa_none_B, isa_none_I, isa_none_T, eqD_nil0, List.length_nil, Nat.zero_le, oldF_nil, oldO_sh, oldO_lst, old_int, old_str, old_bl, old_non, old_scr, old_tup, old_lst, olds_nil, olds_cons, killB_true, killB_false, killF_nil, yngO_sh, yngO_lst, yng_int, yng_str, yng_bl, yng_non, yng_scr, yng_tup, yng_lstT, yng_lstF, yngs_nil, yngs_cons, oldF_cons, killF_cons, Option.map_none, Option.bind_some, Option.bind_none, killO_eq, atI_0, atI_1, atI_2, atI_3, len1, len2, len3, len4, len5, len6, len7, le_big1, le_big2, le_big3, le_big4, le_big5, le_big6, le_big7, le_big8, le_big9, le_big10, le_big11, le_big12, c1, c2, hl.io, hl.run, h2]
        · rw [if_neg (by omega)] at h2
          by_cases c3 : p < last + low
          · rw [if_pos c3] at h2
            refine .inr ⟨_, [some (.sh (winD low high)), some (.sh (.lst t (ps.map .int))), some (.sh (.int e)), some (.sh (.int low)), some (.sh (.int high)), some (.sh (.int last)), some (.sh (.int p))], ?_, .inr rfl⟩
            simp only [evO_e1, evO_e2, evO_e3, evO_e4, evO_e5, evO_e7, evO_e9, evO_e10, evO_e11, evO_e12, evO_e14, evO_e15, evO_e16, evO_e17, evO_e18, evO_e19, evO_e20, evO_e21, evPs_e1, evPs_e2, evB_e1, evI_rng, evI_e2, evI_e3, evS_e1, evS_e3, evS_e4, evS_e5, evS_e7, evS_e8, evS_e9, evS_e10, evS_e14, evS_poke, yngL_lst, lk_lst, lk_sh, look_val, look_at, opv_sh, opv_lst, opv_obj, opv_dic, opd_var, opd_ne, frzAt_eq, fza_sh, fza_lst, give_val, give_at, dcA_some, dcB_ok, dcB_exn, doCall_eq, bin_addI, bin_addL, bin_addT, bin_sub, bin_mulI, bin_mulL, bin_fdiv, bin_mod, bin_pow, cmp_eq, cmp_ne, cmp_lt, cmp_le, cmp_gt, cmp_ge, cmp_is, cmp_isn, cmp_inL, cmp_inT, cmp_ninL, cmp_ninT, isNon_non, isNon_int, isNon_str, isNon_bl, isNon_tup, isNon_lst, ix_lst, ix_tup, ix_scr, sl_lst, sl_tup, seq_lst, seq_tup, seq_scr, seqL_lst, seqL_scr, bi_lenL, bi_lenT, bi_lenS, bi_listL, bi_listT, bi_tupL, bi_tupT, bi_intI, bi_intB, bi_max2, bi_min2, rngsD_1, rngsD_2, rngsD_3, lao_lst, lstAt_se, gpo_obj, lstAt_fe, setPl_s, spo_obj, setPl_f, partE_nil, partE_ne, intO_sh, lstD_lst, fldR_sh, fldR_obj, evO_fld, negR_int, evO_neg, iteR_true, iteR_false, evO_ite, chR_true, chR_false, evC_one, evC_two, bopR_tt, bopR_tf, bopR_ft, bopR_ff, evB_cs, sfR_obj, evS_setfld, evI_e, evS_seq, evS_ite, evS_for, evS_whl, evO_lc, kSeq_nx, kSeq_ret, kIf_true, kIf_false, kLcs_true, bnd_ok, bnd_exn, bnd_fail, opt_some, opt_none, optC_some, asB_ok, asB_exn, asI_ok, getS, setS, looks, frz, frzs, gives, takeA, backA, doNew, intsD, outsOf, eqD_int, kRun_nx, kRun_ret, kRun_exn, wipeF, backF, ne_eq, not_false_eq_true, forall_const, implies_true, reduceCtorEq, List.map_cons, List.map_nil, List.cons_append, List.nil_append, List.append_nil, List.replicate_succ, List.replicate_zero, Option.map_some, and_self, if_true, if_false, decide_true, decide_false, Bool.not_true, Bool.not_false, Bool.false_eq_true, Bool.or_true, Bool.true_or, Bool.and_true, Bool.true_and, Bool.or_false, Bool.false_or, asg_name, asg_tup, asg2_some, asgs_nil, asgs_cons, evO_gint, Nat.sub_self, Nat.reduceSub, shOrNone_none, shOrNone_sh, List.all_cons, List.all_nil, evO_isi, evO_isx, evO_cntT, evO_idxT, evO_kind, kindR_ok, kindR_exn, isi_int, isi_bl, isi_str, isi_non, isi_tup, isi_lst, eqD_bl, eqD_str, isa_int_TL, isa_int_L, isa_int_S, isa_int_B, isa_int_I, isa_int_T, isa_bool_TL, isa_bool_L, isa_bool_S, isa_bool_B, isa_bool_I, isa_bool_T, isa_str_TL, isa_str_L, isa_str_S, isa_str_B, isa_str_I, isa_str_T, isa_list_TL, isa_list_L, isa_list_S, isa_list_B, isa_list_I, isa_list_T, isa_tuple_TL, isa_tuple_L, isa_tuple_S, isa_tuple_B, isa_tuple_I, isa_tuple_T, isa_none_TL, isa_none_L, isa_none_S, isa_none_B, isa_none_I, isa_none_T, eqD_nil0, List.length_nil, Nat.zero_le, oldF_nil, oldO_sh, oldO_lst, old_int, old_str, old_bl, old_non, old_scr, old_tup, old_lst, olds_nil, olds_cons, killB_true, killB_false, killF_nil, yngO_sh, yngO_lst, yng_int, yng_str, yng_bl, yng_non, yng_scr, yng_tup, yng_lstT, yng_lstF, yngs_nil, yngs_cons, oldF_cons, killF_cons, Option.map_none, Option.bind_some, Option.bind_none, killO_eq, atI_0, atI_1, atI_2, atI_3, len1, len2, len3, len4, len5, len6, len7, le_big1, le_big2, le_big3, le_big4, le_big5, le_big6, le_big7, le_big8, le_big9, le_big10, le_big11, le_big12, c1, c2, c3, h2, len2, show 2 ≤ big from by decide]
          · rw [if_neg c3] at h2
            refine .inl ⟨[some (.sh (winD low high)), some (.sh (.lst t (ps.map .int))), some (.sh (.int e)), some (.sh (.int low)), some (.sh (.int high)), some (.sh (.int p)), some (.sh (.int p))], ?_, p, _, rfl, h2⟩
            simp only [evO_e1, evO_e2, evO_e3, evO_e4, evO_e5, evO_e7, evO_e9, evO_e10, evO_e11, evO_e12, evO_e14, evO_e15, evO_e16, evO_e17, evO_e18, evO_e19, evO_e20, evO_e21, evPs_e1, evPs_e2, evB_e1, evI_rng, evI_e2, evI_e3, evS_e1, evS_e3, evS_e4, evS_e5, evS_e7, evS_e8, evS_e9, evS_e10, evS_e14, evS_poke, yngL_lst, lk_lst, lk_sh, look_val, look_at, opv_sh, opv_lst, opv_obj, opv_dic, opd_var, opd_ne, frzAt_eq, fza_sh, fza_lst, give_val, give_at, dcA_some, dcB_ok, dcB_exn, doCall_eq, bin_addI, bin_addL, bin_addT, bin_sub, bin_mulI, bin_mulL, bin_fdiv, bin_mod, bin_pow, cmp_eq, cmp_ne, cmp_lt, cmp_le, cmp_gt, cmp_ge, cmp_is, cmp_isn, cmp_inL, cmp_inT, cmp_ninL, cmp_ninT, isNon_non, isNon_int, isNon_str, isNon_bl, isNon_tup, isNon_lst, ix_lst, ix_tup, ix_scr, sl_lst, sl_tup, seq_lst, seq_tup, seq_scr, seqL_lst, seqL_scr, bi_lenL, bi_lenT, bi_lenS, bi_listL, bi_listT, bi_tupL, bi_tupT, bi_intI, bi_intB, bi_max2, bi_min2, rngsD_1, rngsD_2, rngsD_3, lao_lst, lstAt_se, gpo_obj, lstAt_fe, setPl_s, spo_obj, setPl_f, partE_nil, partE_ne, intO_sh, lstD_lst, fldR_sh, fldR_obj, evO_fld, negR_int, evO_neg, iteR_true, iteR_false, evO_ite, chR_true, chR_false, evC_one, evC_two, bopR_tt, bopR_tf, bopR_ft, bopR_ff, evB_cs, sfR_obj, evS_setfld, evI_e, evS_seq, evS_ite, evS_for, evS_whl, evO_lc, kSeq_nx, kSeq_ret, kIf_true, kIf_false, kLcs_true, bnd_ok, bnd_exn, bnd_fail, opt_some, opt_none, optC_some, asB_ok, asB_exn, asI_ok, getS, setS, looks, frz, frzs, gives, takeA, backA, doNew, intsD, outsOf, eqD_int, kRun_nx, kRun_ret, kRun_exn, wipeF, backF, ne_eq, not_false_eq_true, forall_const, implies_true, reduceCtorEq, List.map_cons, List.map_nil, List.cons_append, List.nil_append, List.append_nil, List.replicate_succ, List.replicate_zero, Option.map_some, and_self, if_true, if_false, decide_true, decide_false, Bool.not_true, Bool.not_false, Bool.false_eq_true, Bool.or_true, Bool.true_or, Bool.and_true, Bool.true_and, Bool.or_false, Bool.false_or, asg_name, asg_tup, asg2_some, asgs_nil, asgs_cons, evO_gint, Nat.sub_self, Nat.reduceSub, shOrNone_none, shOrNone_sh, List.all_cons, List.all_nil, evO_isi, evO_isx, evO_cntT, evO_idxT, evO_kind, kindR_ok, kindR_exn, isi_int, isi_bl, isi_str, isi_non, isi_tup, isi_lst, eqD_bl, eqD_str, isa_int_TL, isa_int_L, isa_int_S, isa_int_B, isa_int_I, isa_int_T, isa_bool_TL, isa_bool_L, isa_bool_S, isa_bool_B, isa_bool_I, isa_bool_T, isa_str_TL, isa_str_L, isa_str_S, isa_str_B, isa_str_I, isa_str_T, isa_list_TL, isa_list_L, isa_list_S, isa_list_B, isa_list_I, isa_list_T, isa_tuple_TL, isa_tuple_L, isa_tuple_S, isa_tuple_B, isa_tuple_I, isa_tuple_T, isa_none_TL, isa_none_L, isa_none_S, isa_none_B, isa_none_I, isa_none_T, eqD_nil0, List.length_nil, Nat.zero_le, oldF_nil, oldO_sh, oldO_lst, old_int, old_str, old_bl, old_non, old_scr, old_tup, old_lst, olds_nil, olds_cons, killB_true, killB_false, killF_nil, yngO_sh, yngO_lst, yng_int, yng_str, yng_bl, yng_non, yng_scr, yng_tup, yng_lstT, yng_lstF, yngs_nil, yngs_cons, oldF_cons, killF_cons, Option.map_none, Option.bind_some, Option.bind_none, killO_eq, atI_0, atI_1, atI_2, atI_3, len1, len2, len3, len4, len5, len6, len7, le_big1, le_big2, le_big3, le_big4, le_big5, le_big6, le_big7, le_big8, le_big9, le_big10, le_big11, le_big12, c1, c2, c3])
    ps [some (.sh (winD low high)), some (.sh (.lst t (ps.map .int))), some (.sh (.int e)), some (.sh (.int low)), some (.sh (.int high)), some (.sh (.int 0)), none] ⟨0, none, rfl, rfl⟩
  unfold F_first_bite winD
  unfold winD at e1
  rcases hQ with ⟨last, x, rfl, rfl, h⟩ | rfl
  · simp only [evO_e1, evO_e2, evO_e3, evO_e4, evO_e5, evO_e7, evO_e9, evO_e10, evO_e11, evO_e12, evO_e14, evO_e15, evO_e16, evO_e17, evO_e18, evO_e19, evO_e20, evO_e21, evPs_e1, evPs_e2, evB_e1, evI_rng, evI_e2, evI_e3, evS_e1, evS_e3, evS_e4, evS_e5, evS_e7, evS_e8, evS_e9, evS_e10, evS_e14, evS_poke, yngL_lst, lk_lst, lk_sh, look_val, look_at, opv_sh, opv_lst, opv_obj, opv_dic, opd_var, opd_ne, frzAt_eq, fza_sh, fza_lst, give_val, give_at, dcA_some, dcB_ok, dcB_exn, doCall_eq, bin_addI, bin_addL, bin_addT, bin_sub, bin_mulI, bin_mulL, bin_fdiv, bin_mod, bin_pow, cmp_eq, cmp_ne, cmp_lt, cmp_le, cmp_gt, cmp_ge, cmp_is, cmp_isn, cmp_inL, cmp_inT, cmp_ninL, cmp_ninT, isNon_non, isNon_int, isNon_str, isNon_bl, isNon_tup, isNon_lst, ix_lst, ix_tup, ix_scr, sl_lst, sl_tup, seq_lst, seq_tup, seq_scr, seqL_lst, seqL_scr, bi_lenL, bi_lenT, bi_lenS, bi_listL, bi_listT, bi_tupL, bi_tupT, bi_intI, bi_intB, bi_max2, bi_min2, rngsD_1, rngsD_2, rngsD_3, lao_lst, lstAt_se, gpo_obj, lstAt_fe, setPl_s, spo_obj, setPl_f, partE_nil, partE_ne, intO_sh, lstD_lst, fldR_sh, fldR_obj, evO_fld, negR_int, evO_neg, iteR_true, iteR_false, evO_ite, chR_true, chR_false, evC_one, evC_two, bopR_tt, bopR_tf, bopR_ft, bopR_ff, evB_cs, sfR_obj, evS_setfld, evI_e, evS_seq, evS_ite, evS_for, evS_whl, evO_lc, kSeq_nx, kSeq_ret, kIf_true, kIf_false, kLcs_true, bnd_ok, bnd_exn, bnd_fail, opt_some, opt_none, optC_some, asB_ok, asB_exn, asI_ok, getS, setS, looks, frz, frzs, gives, takeA, backA, doNew, intsD, outsOf, eqD_int, kRun_nx, kRun_ret, kRun_exn, wipeF, backF, ne_eq, not_false_eq_true, forall_const, implies_true, reduceCtorEq, List.map_cons, List.map_nil, List.cons_append, List.nil_append, List.append_nil, List.replicate_succ, List.replicate_zero, Option.map_some, and_self, if_true, if_false, decide_true, decide_false, Bool.not_true, Bool.not_false, Bool.false_eq_true, Bool.or_true, Bool.true_or, Bool.and_true, Bool.true_and, Bool.or_false, Bool.false_or, asg_name, asg_tup, asg2_some, asgs_nil, asgs_cons, evO_gint, Nat.sub_self, Nat.reduceSub, shOrNone_none, shOrNone_sh, List.all_cons, List.all_nil, evO_isi, evO_isx, evO_cntT, evO_idxT, evO_kind, kindR_ok, kindR_exn, isi_int, isi_bl, isi_str, isi_non, isi_tup, isi_lst, eqD_bl, eqD_str, isa_int_TL, isa_int_L, isa_int_S, isa_int_B, isa_int_I, isa_int_T, isa_bool_TL, isa_bool_L, isa_bool_S, isa_bool_B, isa_bool_I, isa_bool_T, isa_str_TL, isa_str_L, isa_str_S, isa_str_B, isa_str_I, isa_str_T, isa_list_TL, isa_list_L, isa_list_S, isa_list_B, isa_list_I, isa_list_T, isa_tuple_TL, isa_tuple_L, isa_tuple_S, isa_tuple_B, isa_tuple_I, isa_tuple_T, isa_none_TL, isa_none_L, isa_none_S, isa_none_B, isa_none_I, isa_none_T, eqD_nil0, List.length_nil, Nat.zero_le, oldF_nil, oldO_sh, oldO_lst, old_int, old_str, old_bl, old_non, old_scr, old_tup, old_lst, olds_nil, olds_cons, killB_true, killB_false, killF_nil, yngO_sh, yngO_lst, yng_int, yng_str, yng_bl, yng_non, yng_scr, yng_tup, yng_lstT, yng_lstF, yngs_nil, yngs_cons, oldF_cons, killF_cons, Option.map_none, Option.bind_some, Option.bind_none, killO_eq, atI_0, atI_1, atI_2, atI_3, len1, len2, len3, len4, len5, len6, len7, le_big1, le_big2, le_big3, le_big4, le_big5, le_big6, le_big7, le_big8, le_big9, le_big10, le_big11, le_big12, e1, hl.io, hl.run, h, winD]
  · simp only [evO_e1, evO_e2, evO_e3, evO_e4, evO_e5, evO_e7, evO_e9, evO_e10, evO_e11, evO_e12, evO_e14, evO_e15, evO_e16, evO_e17, evO_e18, evO_e19, evO_e20, evO_e21, evPs_e1, evPs_e2, evB_e1, evI_rng, evI_e2, evI_e3, evS_e1, evS_e3, evS_e4, evS_e5, evS_e7, evS_e8, evS_e9, evS_e10, evS_e14, evS_poke, yngL_lst, lk_lst, lk_sh, look_val, look_at, opv_sh, opv_lst, opv_obj, opv_dic, opd_var, opd_ne, frzAt_eq, fza_sh, fza_lst, give_val, give_at, dcA_some, dcB_ok, dcB_exn, doCall_eq, bin_addI, bin_addL, bin_addT, bin_sub, bin_mulI, bin_mulL, bin_fdiv, bin_mod, bin_pow, cmp_eq, cmp_ne, cmp_lt, cmp_le, cmp_gt, cmp_ge, cmp_is, cmp_isn, cmp_inL, cmp_inT, cmp_ninL, cmp_ninT, isNon_non, isNon_int, isNon_str, isNon_bl, isNon_tup, isNon_lst, ix_lst, ix_tup, ix_scr, sl_lst, sl_tup, seq_lst, seq_tup, seq_scr, seqL_lst, seqL_scr, bi_lenL, bi_lenT, bi_lenS, bi_listL, bi_listT, bi_tupL, bi_tupT, bi_intI, bi_intB, bi_max2, bi_min2, rngsD_1, rngsD_2, rngsD_3, lao_lst, lstAt_se, gpo_obj, lstAt_fe, setPl_s, spo_obj, setPl_f, partE_nil, partE_ne, intO_sh, lstD_lst, fldR_sh, fldR_obj, evO_fld, negR_int, evO_neg, iteR_true, iteR_false, evO_ite, chR_true, chR_false, evC_one, evC_two, bopR_tt, bopR_tf, bopR_ft, bopR_ff, evB_cs, sfR_obj, evS_setfld, evI_e, evS_seq, evS_ite, evS_for, evS_whl, evO_lc, kSeq_nx, kSeq_ret, kIf_true, kIf_false, kLcs_true, bnd_ok, bnd_exn, bnd_fail, opt_some, opt_none, optC_some, asB_ok, asB_exn, asI_ok, getS, setS, looks, frz, frzs, gives, takeA, backA, doNew, intsD, outsOf, eqD_int, kRun_nx, kRun_ret, kRun_exn, wipeF, backF, ne_eq, not_false_eq_true, forall_const, implies_true, reduceCtorEq, List.map_cons, List.map_nil, List.cons_append, List.nil_append, List.append_nil, List.replicate_succ, List.replicate_zero, Option.map_some, and_self, if_true, if_false, decide_true, decide_false, Bool.not_true, Bool.not_false, Bool.false_eq_true, Bool.or_true, Bool.true_or, Bool.and_true, Bool.true_and, Bool.or_false, Bool.false_or, asg_name, asg_tup, asg2_some, asgs_nil, asgs_cons, evO_gint, Nat.sub_self, Nat.reduceSub, shOrNone_none, shOrNone_sh, List.all_cons, List.all_nil, evO_isi, evO_isx, evO_cntT, evO_idxT, evO_kind, kindR_ok, kindR_exn, isi_int, isi_bl, isi_str, isi_non, isi_tup, isi_lst, eqD_bl, eqD_str, isa_int_TL, isa_int_L, isa_int_S, isa_int_B, isa_int_I, isa_int_T, isa_bool_TL, isa_bool_L, isa_bool_S, isa_bool_B, isa_bool_I, isa_bool_T, isa_str_TL, isa_str_L, isa_str_S, isa_str_B, isa_str_I, isa_str_T, isa_list_TL, isa_list_L, isa_list_S, isa_list_B, isa_list_I, isa_list_T, isa_tuple_TL, isa_tuple_L, isa_tuple_S, isa_tuple_B, isa_tuple_I, isa_tuple_T, isa_none_TL, isa_none_L, isa_none_S, isa_none_B, isa_none_I, isa_none_T, eqD_nil0, List.length_nil, Nat.zero_le, oldF_nil, oldO_sh, oldO_lst, old_int, old_str, old_bl, old_non, old_scr, old_tup, old_lst, olds_nil, olds_cons, killB_true, killB_false, killF_nil, yngO_sh, yngO_lst, yng_int, yng_str, yng_bl, yng_non, yng_scr, yng_tup, yng_lstT, yng_lstF, yngs_nil, yngs_cons, oldF_cons, killF_cons, Option.map_none, Option.bind_some, Option.bind_none, killO_eq, atI_0, atI_1, atI_2, atI_3, len1, len2, len3, len4, len5, len6, len7, le_big1, le_big2, le_big3, le_big4, le_big5, le_big6, le_big7, le_big8, le_big9, le_big10, le_big11, le_big12, e1]
/-! ### reports -/
def hasR (ms : List Int) (last now : Int) : Bool := ms.any fun m => decide (last < m) && decide (m ≤ now)
def intsL (t : Bool) (ms : List Int) : D := .lst t (ms.map .int)
theorem nb_int (i : Int) : nbP (py (.int i)) = true := by simp [nbP]
theorem nb_ints (ms : List Int) : nbPs (pys (ms.map D.int)) = true := by
  rw [nbPs_all, pys_map, List.all_map, List.all_map, List.all_eq_true]
  intro x _
  simp [nbP]
theorem nb_intsL (t : Bool) (ms : List Int) : nbP (py (intsL t ms)) = true := by
  unfold intsL
  simp only [py_list, nbP]
  exact nb_ints ms
theorem has_run (cl : Cl) (N : Nat) (t : Bool) (ms : List Int) (last now : Int) (h : ms.length ≤ big) : runF cl N F_has_reported [.sh (intsL t ms), .sh (.int last), .sh (.int now)] = .ok (.sh (.bl (hasR ms last now))) [] := by
  rw [runF_eq _ _ _ _ rfl]
  obtain ⟨ρ', e, x, hC⟩ := lcL_map (step := kLc cl F_has_reported_e1 (.name 3) F_has_reported_g1 [3]) D.int (fun m => if last < m ∧ m ≤ now then some (.int m) else none)
    (fun ρ => ∃ x, ρ = [some (.sh (intsL t ms)), some (.sh (.int last)), some (.sh (.int now)), x]) (fun m ρ ⟨x, h⟩ => by
      subst h
      refine ⟨[some (.sh (intsL t ms)), some (.sh (.int last)), some (.sh (.int now)), some (.sh (.int m))], ?_, _, rfl⟩
      unfold kLc F_has_reported_e1 F_has_reported_g1
      by_cases h1 : last < m
      · by_cases h2 : m ≤ now
        · simp only [evO_e1, evO_e2, evO_e3, evO_e4, evO_e5, evO_e7, evO_e9, evO_e10, evO_e11, evO_e12, evO_e14, evO_e15, evO_e16, evO_e17, evO_e18, evO_e19, evO_e20, evO_e21, evPs_e1, evPs_e2, evB_e1, evI_rng, evI_e2, evI_e3, evS_e1, evS_e3, evS_e4, evS_e5, evS_e7, evS_e8, evS_e9, evS_e10, evS_e14, evS_poke, yngL_lst, lk_lst, lk_sh, look_val, look_at, opv_sh, opv_lst, opv_obj, opv_dic, opd_var, opd_ne, frzAt_eq, fza_sh, fza_lst, give_val, give_at, dcA_some, dcB_ok, dcB_exn, doCall_eq, bin_addI, bin_addL, bin_addT, bin_sub, bin_mulI, bin_mulL, bin_fdiv, bin_mod, bin_pow, cmp_eq, cmp_ne, cmp_lt, cmp_le, cmp_gt, cmp_ge, cmp_is, cmp_isn, cmp_inL, cmp_inT, cmp_ninL, cmp_ninT, isNon_non, isNon_int, isNon_str, isNon_bl, isNon_tup, isNon_lst, ix_lst, ix_tup, ix_scr, sl_lst, sl_tup, seq_lst, seq_tup, seq_scr, seqL_lst, seqL_scr, bi_lenL, bi_lenT, bi_lenS, bi_listL, bi_listT, bi_tupL, bi_tupT, bi_intI, bi_intB, bi_max2, bi_min2, rngsD_1, rngsD_2, rngsD_3, lao_lst, lstAt_se, gpo_obj, lstAt_fe, setPl_s, spo_obj, setPl_f, partE_nil, partE_ne, intO_sh, lstD_lst, fldR_sh, fldR_obj, evO_fld, negR_int, evO_neg, iteR_true, iteR_false, evO_ite, chR_true, chR_false, evC_one, evC_two, bopR_tt, bopR_tf, bopR_ft, bopR_ff, evB_cs, sfR_obj, evS_setfld, evI_e, evS_seq, evS_ite, evS_for, evS_whl, evO_lc, kSeq_nx, kSeq_ret, kIf_true, kIf_false, kLcs_true, bnd_ok, bnd_exn, bnd_fail, opt_some, opt_none, optC_some, asB_ok, asB_exn, asI_ok, getS, setS, looks, frz, frzs, gives, takeA, backA, doNew, intsD, outsOf, eqD_int, kRun_nx, kRun_ret, kRun_exn, wipeF, backF, ne_eq, not_false_eq_true, forall_const, implies_true, reduceCtorEq, List.map_cons, List.map_nil, List.cons_append, List.nil_append, List.append_nil, List.replicate_succ, List.replicate_zero, Option.map_some, and_self, if_true, if_false, decide_true, decide_false, Bool.not_true, Bool.not_false, Bool.false_eq_true, Bool.or_true, Bool.true_or, Bool.and_true, Bool.true_and, Bool.or_false, Bool.false_or, asg_name, asg_tup, asg2_some, asgs_nil, asgs_cons, evO_gint, Nat.sub_self, Nat.reduceSub, shOrNone_none, shOrNone_sh, List.all_cons, List.all_nil, evO_isi, evO_isx, evO_cntT, evO_idxT, evO_kind, kindR_ok, kindR_exn, isi_int, isi_bl, isi_str, isi_non, isi_tup, isi_lst, eqD_bl, eqD_str, isa_int_TL, isa_int_L, isa_int_S, isa_int_B, isa_int_I, isa_int_T, isa_bool_TL, isa_bool_L, isa_bool_S, isa_bool_B, isa_bool_I, isa_bool_T, isa_str_TL, isa_str_L, isa_str_S, isa_str_B, isa_str_I, isa_str_T, isa_list_TL, isa_list_L, isa_list_S, isa_list_B, isa_list_I, isa_list_T, isa_tuple_TL, isa_tuple_L, isa_tuple_S, isa_tuple_B, isa_tuple_I, isa_tuple_T, isa_none_TL, isa_none_L, isa_none_S, isa_none_B, isa_none_I, isa_none_T, eqD_nil0, List.length_nil, Nat.zero_le, oldF_nil, oldO_sh, oldO_lst, old_int, old_str, old_bl, old_non, old_scr, old_tup, old_lst, olds_nil, olds_cons, killB_true, killB_false, killF_nil, yngO_sh, yngO_lst, yng_int, yng_str, yng_bl, yng_non, yng_scr, yng_tup, yng_lstT, yng_lstF, yngs_nil, yngs_cons, oldF_cons, killF_cons, Option.map_none, Option.bind_some, Option.bind_none, killO_eq, atI_0, atI_1, atI_2, atI_3, len1, len2, len3, len4, len5, len6, len7, le_big1, le_big2, le_big3, le_big4, le_big5, le_big6, le_big7, le_big8, le_big9, le_big10, le_big11, le_big12, h1, h2]
        · simp only [evO_e1, evO_e2, evO_e3, evO_e4, evO_e5, evO_e7, evO_e9, evO_e10, evO_e11, evO_e12, evO_e14, evO_e15, evO_e16, evO_e17, evO_e18, evO_e19, evO_e20, evO_e21, evPs_e1, evPs_e2, evB_e1, evI_rng, evI_e2, evI_e3, evS_e1, evS_e3, evS_e4, evS_e5, evS_e7, evS_e8, evS_e9, evS_e10, evS_e14, evS_poke, yngL_lst, lk_lst, lk_sh, look_val, look_at, opv_sh, opv_lst, opv_obj, opv_dic, opd_var, opd_ne, frzAt_eq, fza_sh, fza_lst, give_val, give_at, dcA_some, dcB_ok, dcB_exn, doCall_eq, bin_addI, bin_addL, bin_addT, bin_sub, bin_mulI, bin_mulL, bin_fdiv, bin_mod, bin_pow, cmp_eq, cmp_ne, cmp_lt, cmp_le, cmp_gt, cmp_ge, cmp_is, cmp_isn, cmp_inL, cmp_inT, cmp_ninL, cmp_ninT, isNon_non, isNon_int, isNon_str, isNon_bl, isNon_tup, isNon_lst, ix_lst, ix_tup, ix_scr, sl_lst, sl_tup, seq_lst, seq_tup, seq_scr, seqL_lst, seqL_scr, bi_lenL, bi_lenT, bi_lenS, bi_listL, bi_listT, bi_tupL, bi_tupT, bi_intI, bi_intB, bi_max2, bi_min2, rngsD_1, rngsD_2, rngsD_3, lao_lst, lstAt_se, gpo_obj, lstAt_fe, setPl_s, spo_obj, setPl_f, partE_nil, partE_ne, intO_sh, lstD_lst, fldR_sh, fldR_obj, evO_fld, negR_int, evO_neg, iteR_true, iteR_false, evO_ite, chR_true, chR_false, evC_one, evC_two, bopR_tt, bopR_tf, bopR_ft, bopR_ff, evB_cs, sfR_obj, evS_setfld, evI_e, evS_seq, evS_ite, evS_for, evS_whl, evO_lc, kSeq_nx, kSeq_ret, kIf_true, kIf_false, kLcs_true, bnd_ok, bnd_exn, bnd_fail, opt_some, opt_none, optC_some, asB_ok, asB_exn, asI_ok, getS, setS, looks, frz, frzs, gives, takeA, backA, doNew, intsD, outsOf, eqD_int, kRun_nx, kRun_ret, kRun_exn, wipeF, backF, ne_eq, not_false_eq_true, forall_const, implies_true, reduceCtorEq, List.map_cons, List.map_nil, List.cons_append, List.nil_append, List.append_nil, List.replicate_succ, List.replicate_zero, Option.map_some, and_self, if_true, if_false, decide_true, decide_false, Bool.not_true, Bool.not_false, Bool.false_eq_true, Bool.or_true, Bool.true_or, Bool.and_true, Bool.true_and, Bool.or_false, Bool.false_or, asg_name, asg_tup, asg2_some, asgs_nil, asgs_cons, evO_gint, Nat.sub_self, Nat.reduceSub, shOrNone_none, shOrNone_sh, List.all_cons, List.all_nil, evO_isi, evO_isx, evO_cntT, evO_idxT, evO_kind, kindR_ok, kindR_exn, isi_int, isi_bl, isi_str, isi_non, isi_tup, isi_lst, eqD_bl, eqD_str, isa_int_TL, isa_int_L, isa_int_S, isa_int_B, isa_int_I, isa_int_T, isa_bool_TL, isa_bool_L, isa_bool_S, isa_bool_B, isa_bool_I, isa_bool_T, isa_str_TL, isa_str_L, isa_str_S, isa_str_B, isa_str_I, isa_str_T, isa_list_TL, isa_list_L, isa_list_S, isa_list_B, isa_list_I, isa_list_T, isa_tuple_TL, isa_tuple_L, isa_tuple_S, isa_tuple_B, isa_tuple_I, isa_tuple_T, isa_none_TL, isa_none_L, isa_none_S, isa_none_B, isa_none_I, isa_none_T, eqD_nil0, List.length_nil, Nat.zero_le, oldF_nil, oldO_sh, oldO_lst, old_int, old_str, old_bl, old_non, old_scr, old_tup, old_lst, olds_nil, olds_cons, killB_true, killB_false, killF_nil, yngO_sh, yngO_lst, yng_int, yng_str, yng_bl, yng_non, yng_scr, yng_tup, yng_lstT, yng_lstF, yngs_nil, yngs_cons, oldF_cons, killF_cons, Option.map_none, Option.bind_some, Option.bind_none, killO_eq, atI_0, atI_1, atI_2, atI_3, len1, len2, len3, len4, len5, len6, len7, le_big1, le_big2, le_big3, le_big4, le_big5, le_big6, le_big7, le_big8, le_big9, le_big10, le_big11, le_big12, h1, h2, and_false]
      · simp only [evO_e1, evO_e2, evO_e3, evO_e4, evO_e5, evO_e7, evO_e9, evO_e10, evO_e11, evO_e12, evO_e14, evO_e15, evO_e16, evO_e17, evO_e18, evO_e19, evO_e20, evO_e21, evPs_e1, evPs_e2, evB_e1, evI_rng, evI_e2, evI_e3, evS_e1, evS_e3, evS_e4, evS_e5, evS_e7, evS_e8, evS_e9, evS_e10, evS_e14, evS_poke, yngL_lst, lk_lst, lk_sh, look_val, look_at, opv_sh, opv_lst, opv_obj, opv_dic, opd_var, opd_ne, frzAt_eq, fza_sh, fza_lst, give_val, give_at, dcA_some, dcB_ok, dcB_exn, doCall_eq, bin_addI, bin_addL, bin_addT, bin_sub, bin_mulI, bin_mulL, bin_fdiv, bin_mod, bin_pow, cmp_eq, cmp_ne, cmp_lt, cmp_le, cmp_gt, cmp_ge, cmp_is, cmp_isn, cmp_inL, cmp_inT, cmp_ninL, cmp_ninT, isNon_non, isNon_int, isNon_str, isNon_bl, isNon_tup, isNon_lst, ix_lst, ix_tup, ix_scr, sl_lst, sl_tup, seq_lst, seq_tup, seq_scr, seqL_lst, seqL_scr, bi_lenL, bi_lenT, bi_lenS, bi_listL, bi_listT, bi_tupL, bi_tupT, bi_intI, bi_intB, bi_max2, bi_min2, rngsD_1, rngsD_2, rngsD_3, lao_lst, lstAt_se, gpo_obj, lstAt_fe, setPl_s, spo_obj, setPl_f, partE_nil, partE_ne, intO_sh, lstD_lst, fldR_sh, fldR_obj, evO_fld, negR_int, evO_neg, iteR_true, iteR_false, evO_ite, chR_true, chR_false, evC_one, evC_two, bopR_tt, bopR_tf, bopR_ft, bopR_ff, evB_cs, sfR_obj, evS_setfld, evI_e, evS_seq, evS_ite, evS_for, evS_whl, evO_lc, kSeq_nx, kSeq_ret, kIf_true, kIf_false, kLcs_true, bnd_ok, bnd_exn, bnd_fail, opt_some, opt_none, optC_some, asB_ok, asB_exn, asI_ok, getS, setS, looks, frz, frzs, gives, takeA, backA, doNew, intsD, outsOf, eqD_int, kRun_nx, kRun_ret, kRun_exn, wipeF, backF, ne_eq, not_false_eq_true, forall_const, implies_true, reduceCtorEq, List.map_cons, List.map_nil, List.cons_append, List.nil_append, List.append_nil, List.replicate_succ, List.replicate_zero, Option.map_some, and_self, if_true, if_false, decide_true, decide_false, Bool.not_true, Bool.not_false, Bool.false_eq_true, Bool.or_true, Bool.true_or, Bool.and_true, Bool.true_and, Bool.or_false, Bool.false_or, asg_name, asg_tup, asg2_some, asgs_nil, asgs_cons, evO_gint, Nat.sub_self, Nat.reduceSub, shOrNone_none, shOrNone_sh, List.all_cons, List.all_nil, evO_isi, evO_isx, evO_cntT, evO_idxT, evO_kind, kindR_ok, kindR_exn, isi_int, isi_bl, isi_str, isi_non, isi_tup, isi_lst, eqD_bl, eqD_str, isa_int_TL, isa_int_L, isa_int_S, isa_int_B, isa_int_I, isa_int_T, isa_bool_TL, isa_bool_L, isa_bool_S, isa_bool_B, isa_bool_I, isa_bool_T, isa_str_TL, isa_str_L, isa_str_S, isa_str_B, isa_str_I, isa_str_T, isa_list_TL, isa_list_L, isa_list_S, isa_list_B, isa_list_I, isa_list_T, isa_tuple_TL, isa_tuple_L, isa_tuple_S, isa_tuple_B, isa_tuple_I, isa_tuple_T, isa_none_TL, isa_none_L, isa_none_S, isa_none_B, isa_none_I, isa_none_T, eqD_nil0, List.length_nil, Nat.zero_le, oldF_nil, oldO_sh, oldO_lst, old_int, old_str, old_bl, old_non, old_scr, old_tup, old_lst, olds_nil, olds_cons, killB_true, killB_false, killF_nil, yngO_sh, yngO_lst, yng_int, yng_str, yng_bl, yng_non, yng_scr, yng_tup, yng_lstT, yng_lstF, yngs_nil, yngs_cons, oldF_cons, killF_cons, Option.map_none, Option.bind_some, Option.bind_none, killO_eq, atI_0, atI_1, atI_2, atI_3, len1, len2, len3, len4, len5, len6, len7, le_big1, le_big2, le_big3, le_big4, le_big5, le_big6, le_big7, le_big8, le_big9, le_big10, le_big11, le_big12, h1, false_and])
    ms [] [some (.sh (intsL t ms)), some (.sh (.int last)), some (.sh (.int now)), none] ⟨_, rfl⟩ (by simpa using h)
  subst hC
  have e2 : eqD (.lst true (ms.filterMap fun m => if last < m ∧ m ≤ now then some (.int m) else none)) (.lst true []) = some (!hasR ms last now) := by
    rw [eqD_nil fun d hd => ?_]
    · congr 1
      unfold hasR
      rw [Bool.eq_iff_iff, List.isEmpty_iff, List.filterMap_eq_nil_iff]
      simp
    · obtain ⟨m, _, hm⟩ := List.mem_filterMap.mp hd
      split at hm
      · cases hm
        exact nb_int m
      · cases hm
  unfold F_has_reported intsL
  unfold intsL at e
  simp only [evO_e1, evO_e2, evO_e3, evO_e4, evO_e5, evO_e7, evO_e9, evO_e10, evO_e11, evO_e12, evO_e14, evO_e15, evO_e16, evO_e17, evO_e18, evO_e19, evO_e20, evO_e21, evPs_e1, evPs_e2, evB_e1, evI_rng, evI_e2, evI_e3, evS_e1, evS_e3, evS_e4, evS_e5, evS_e7, evS_e8, evS_e9, evS_e10, evS_e14, evS_poke, yngL_lst, lk_lst, lk_sh, look_val, look_at, opv_sh, opv_lst, opv_obj, opv_dic, opd_var, opd_ne, frzAt_eq, fza_sh, fza_lst, give_val, give_at, dcA_some, dcB_ok, dcB_exn, doCall_eq, bin_addI, bin_addL, bin_addT, bin_sub, bin_mulI, bin_mulL, bin_fdiv, bin_mod, bin_pow, cmp_eq, cmp_ne, cmp_lt, cmp_le, cmp_gt, cmp_ge, cmp_is, cmp_isn, cmp_inL, cmp_inT, cmp_ninL, cmp_ninT, isNon_non, isNon_int, isNon_str, isNon_bl, isNon_tup, isNon_lst, ix_lst, ix_tup, ix_scr, sl_lst, sl_tup, seq_lst, seq_tup, seq_scr, seqL_lst, seqL_scr, bi_lenL, bi_lenT, bi_lenS, bi_listL, bi_listT, bi_tupL, bi_tupT, bi_intI, bi_intB, bi_max2, bi_min2, rngsD_1, rngsD_2, rngsD_3, lao_lst, lstAt_se, gpo_obj, lstAt_fe, setPl_s, spo_obj, setPl_f, partE_nil, partE_ne, intO_sh, lstD_lst, fldR_sh, fldR_obj, evO_fld, negR_int, evO_neg, iteR_true, iteR_false, evO_ite, chR_true, chR_false, evC_one, evC_two, bopR_tt, bopR_tf, bopR_ft, bopR_ff, evB_cs, sfR_obj, evS_setfld, evI_e, evS_seq, evS_ite, evS_for, evS_whl, evO_lc, kSeq_nx, kSeq_ret, kIf_true, kIf_false, kLcs_true, bnd_ok, bnd_exn, bnd_fail, opt_some, opt_none, optC_some, asB_ok, asB_exn, asI_ok, getS, setS, looks, frz, frzs, gives, takeA, backA, doNew, intsD, outsOf, eqD_int, kRun_nx, kRun_ret, kRun_exn, wipeF, backF, ne_eq, not_false_eq_true, forall_const, implies_true, reduceCtorEq, List.map_cons, List.map_nil, List.cons_append, List.nil_append, List.append_nil, List.replicate_succ, List.replicate_zero, Option.map_some, and_self, if_true, if_false, decide_true, decide_false, Bool.not_true, Bool.not_false, Bool.false_eq_true, Bool.or_true, Bool.true_or, Bool.and_true, Bool.true_and, Bool.or_false, Bool.false_or, asg_name, asg_tup, asg2_some, asgs_nil, asgs_cons, evO_gint, Nat.sub_self, Nat.reduceSub, shOrNone_none, shOrNone_sh, List.all_cons, List.all_nil, evO_isi, evO_isx, evO_cntT, evO_idxT, evO_kind, kindR_ok, kindR_exn, isi_int, isi_bl, isi_str, isi_non, isi_tup, isi_lst, eqD_bl, eqD_str, isa_int_TL, isa_int_L, isa_int_S, isa_int_B, isa_int_I, isa_int_T, isa_bool_TL, isa_bool_L, isa_bool_S, isa_bool_B, isa_bool_I, isa_bool_T, isa_str_TL, isa_str_L, isa_str_S, isa_str_B, isa_str_I, isa_str_T, isa_list_TL, isa_list_L, isa_list_S, isa_list_B, isa_list_I, isa_list_T, isa_tuple_TL, isa_tuple_L, isa_tuple_S, isa_tuple_B, isa_tuple_I, isa_tuple_T, isa_none_TL, isa_none_L, isa_none_S, isa_none_B, isa_none_I, isa_none_T, eqD_nil0, List.length_nil, Nat.zero_le, oldF_nil, oldO_sh, oldO_lst, old_int, old_str, old_bl, old_non, old_scr, old_tup, old_lst, olds_nil, olds_cons, killB_true, killB_false, killF_nil, yngO_sh, yngO_lst, yng_int, yng_str, yng_bl, yng_non, yng_scr, yng_tup, yng_lstT, yng_lstF, yngs_nil, yngs_cons, oldF_cons, killF_cons, Option.map_none, Option.bind_some, Option.bind_none, killO_eq, atI_0, atI_1, atI_2, atI_3, len1, len2, len3, len4, len5, len6, len7, le_big1, le_big2, le_big3, le_big4, le_big5, le_big6, le_big7, le_big8, le_big9, le_big10, le_big11, le_big12, e, e2, List.all_cons, List.all_nil, Bool.not_not, List.length_nil, Nat.zero_le]
structure HasOk (cl : Cl) (i : Nat) : Prop where
  io : cl.io i = [false, false, false]
  run : ∀ (t : Bool) (ms : List Int) (last now : Int), ms.length ≤ big → cl.run i [.sh (intsL t ms), .sh (.int last), .sh (.int now)] = .ok (.sh (.bl (hasR ms last now))) []
/-! ### pats -/
abbrev Reps := List (Bool × List Int)
def repD (r : Bool × List Int) : D := intsL r.1 r.2
def repsD (t : Bool) (rs : Reps) : D := .lst t (rs.map repD)
structure RepsOk (rs : Reps) : Prop where
  len : rs.length ≤ big
  lens : ∀ r ∈ rs, r.2.length ≤ big
def allR (rs : Reps) (last now : Int) : Bool := rs.all fun r => hasR r.2 last now
def patsL (rs : Reps) : Int → List Int → List Int
  | _, [] => []
  | last, now :: r => if allR rs last now then now :: patsL rs now r else patsL rs last r
def nows (b e : Int) : List Int := (List.range (e / b).toNat).map fun (k : Nat) => b + (k : Int) * b
theorem rng_nows {b e : Int} (hb : 0 < b) (hb2 : b ≤ 1000) (he : -(2 ^ 39) < e) (he2 : e ≤ 1000000) : rngI b (e + 1) b = some ((nows b e).map .int) := by
  unfold rngI nows
  rw [if_pos]
  · rw [List.map_map, show (e + 1 - b + b - 1) = e by omega]
    rfl
  · simp only [Bool.and_eq_true, decide_eq_true_eq, lim40_eq]
    omega
theorem nows_len {b e : Int} (hb : 0 < b) (he2 : e ≤ 1000000) : (nows b e).length ≤ 1000000 := by
  unfold nows
  rw [List.length_map, List.length_range]
  by_cases h : 0 ≤ e
  · have : e / b ≤ e := Int.ediv_le_self b h
    omega
  · have : e / b ≤ 0 := by
      have := Int.ediv_neg_of_neg_of_pos (a := e) (b := b) (by omega) hb
      omega
    omega
theorem patsL_len (rs : Reps) : ∀ (l : List Int) (last : Int), (patsL rs last l).length ≤ l.length
  | [], _ => by simp [patsL]
  | a :: l, last => by
    rw [patsL]
    split
    · have := patsL_len rs l a
      simp
      omega
    · have := patsL_len rs l last
      simp
      omega
theorem pats_run (cl : Cl) (N i : Nat) (hl : HasOk cl i) (t : Bool) {b e : Int} {rs : Reps} (hr : RepsOk rs) (hb : 0 < b) (hb2 : b ≤ 1000) (he : -(2 ^ 39) < e) (he2 : e ≤ 1000000) :
    runF cl N (F_pats_of i) [.sh (.int b), .sh (repsD t rs), .sh (.int e)] = .ok (.sh (.lst true ((patsL rs 0 (nows b e)).map .int))) [] := by
  rw [runF_eq _ _ _ _ rfl]
  obtain ⟨ρ', e1, last, x, acc, h1, h2, h3⟩ := forL_map (step := kFor cl N false (.name 5) (F_pats_of_b1 i)) D.int
    (fun r ρ => ∃ (last : Int) (x : Option O) (acc : List Int), ρ = [some (.sh (.int b)), some (.sh (repsD t rs)), some (.sh (.int e)), some (.lst true (acc.map .int)), some (.sh (.int last)), x, none] ∧ acc ++ patsL rs last r = patsL rs 0 (nows b e) ∧ acc.length + r.length ≤ 1000000)
    (fun now r ρ ⟨last, x, acc, h1, h2, h3⟩ => by
      subst h1
      obtain ⟨ρ2, e2, z, hC⟩ := lcL_mapM (step := kLc cl F_pats_of_e1 (.name 6) (F_pats_of_g1 i) [6]) repD (fun q => if hasR q.2 last now then none else some (repD q))
        (fun ρ => ∃ z, ρ = [some (.sh (.int b)), some (.sh (repsD t rs)), some (.sh (.int e)), some (.lst true (acc.map .int)), some (.sh (.int last)), some (.sh (.int now)), z])
        rs [] [some (.sh (.int b)), some (.sh (repsD t rs)), some (.sh (.int e)), some (.lst true (acc.map .int)), some (.sh (.int last)), some (.sh (.int now)), none] (fun q hq ρ ⟨z, h⟩ => by
          subst h
          refine ⟨[some (.sh (.int b)), some (.sh (repsD t rs)), some (.sh (.int e)), some (.lst true (acc.map .int)), some (.sh (.int last)), some (.sh (.int now)), some (.sh (repD q))], ?_, _, rfl⟩
          unfold kLc F_pats_of_e1 F_pats_of_g1 repD
          by_cases h1 : hasR q.2 last now = true
          · simp only [evO_e1, evO_e2, evO_e3, evO_e4, evO_e5, evO_e7, evO_e9, evO_e10, evO_e11, evO_e12, evO_e14, evO_e15, evO_e16, evO_e17, evO_e18, evO_e19, evO_e20, evO_e21, evPs_e1, evPs_e2, evB_e1, evI_rng, evI_e2, evI_e3, evS_e1, evS_e3, evS_e4, evS_e5, evS_e7, evS_e8, evS_e9, evS_e10, evS_e14, evS_poke, yngL_lst, lk_lst, lk_sh, look_val, look_at, opv_sh, opv_lst, opv_obj, opv_dic, opd_var, opd_ne, frzAt_eq, fza_sh, fza_lst, give_val, give_at, dcA_some, dcB_ok, dcB_exn, doCall_eq, bin_addI, bin_addL, bin_addT, bin_sub, bin_mulI, bin_mulL, bin_fdiv, bin_mod, bin_pow, cmp_eq, cmp_ne, cmp_lt, cmp_le, cmp_gt, cmp_ge, cmp_is, cmp_isn, cmp_inL, cmp_inT, cmp_ninL, cmp_ninT, isNon_non, isNon_int, isNon_str, isNon_bl, isNon_tup, isNon_lst, ix_lst, ix_tup, ix_scr, sl_lst, sl_tup, seq_lst, seq_tup, seq_scr, seqL_lst, seqL_scr, bi_lenL, bi_lenT, bi_lenS, bi_listL, bi_listT, bi_tupL, bi_tupT, bi_intI, bi_intB, bi_max2, bi_min2, rngsD_1, rngsD_2, rngsD_3, lao_lst, lstAt_se, gpo_obj, lstAt_fe, setPl_s, spo_obj, setPl_f, partE_nil, partE_ne, intO_sh, lstD_lst, fldR_sh, fldR_obj, evO_fld, negR_int, evO_neg, iteR_true, iteR_false, evO_ite, chR_true, chR_false, evC_one, evC_two, bopR_tt, bopR_tf, bopR_ft, bopR_ff, evB_cs, sfR_obj, evS_setfld, evI_e, evS_seq, evS_ite, evS_for, evS_whl, evO_lc, kSeq_nx, kSeq_ret, kIf_true, kIf_false, kLcs_true, bnd_ok, bnd_exn, bnd_fail, opt_some, opt_none, optC_some, asB_ok, asB_exn, asI_ok, getS, setS, looks, frz, frzs, gives, takeA, backA, doNew, intsD, outsOf, eqD_int, kRun_nx, kRun_ret, kRun_exn, wipeF, backF, ne_eq, not_false_eq_true, forall_const, implies_true, reduceCtorEq, List.map_cons, List.map_nil, List.cons_append, List.nil_append, List.append_nil, List.replicate_succ, List.replicate_zero, Option.map_some, and_self, if_true, if_false, decide_true, decide_false, Bool.not_true, Bool.not_false, Bool.false_eq_true, Bool.or_true, Bool.true_or, Bool.and_true, Bool.true_and, Bool.or_false, Bool.false_or, asg_name, asg_tup, asg2_some, asgs_nil, asgs_cons, evO_gint, Nat.sub_self, Nat.reduceSub, shOrNone_none, shOrNone_sh, List.all_cons, List.all_nil, evO_isi, evO_isx, evO_cntT, evO_idxT, evO_kind, kindR_ok, kindR_exn, isi_int, isi_bl, isi_str, isi_non, isi_tup, isi_lst, eqD_bl, eqD_str, isa_int_TL, isa_int_L, isa_int_S, isa_int_B, isa_int_I, isa_int_T, isa_bool_TL, isa_bool_L, isa_bool_S, isa_bool_B, isa_bool_I, isa_bool_T, isa_str_TL, isa_str_L, isa_str_S, isa_str_B, isa_str_I, isa_str_T, isa_list_TL, isa_list_L, isa_list_S, isa_list_B, isa_list_I, isa_list_T, isa_tuple_TL, isa_tuple_L, isa_tuple_S, isa_tuple_B, isa_tuple_I, isa_tuple_T, isa_none_TL, isa_none_L, isa_none_S, isa_none_B, isa_none_I, isa_none_T, eqD_nil0, List.length_nil, Nat.zero_le, oldF_nil, oldO_sh, oldO_lst, old_int, old_str, old_bl, old_non, old_scr, old_tup, old_lst, olds_nil, olds_cons, killB_true, killB_false, killF_nil, yngO_sh, yngO_lst, yng_int, yng_str, yng_bl, yng_non, yng_scr, yng_tup, yng_lstT, yng_lstF, yngs_nil, yngs_cons, oldF_cons, killF_cons, Option.map_none, Option.bind_some, Option.bind_none, killO_eq, atI_0, atI_1, atI_2, atI_3, len1, len2, len3, len4, len5, len6, len7, le_big1, le_big2, le_big3, le_big4, le_big5, le_big6, le_big7, le_big8, le_big9, le_big10, le_big11, le_big12, hl.io, hl.run _ _ _ _ (hr.lens q hq), h1]
          · rw [Bool.not_eq_true] at h1
            simp only [evO_e1, evO_e2, evO_e3, evO_e4, evO_e5, evO_e7, evO_e9, evO_e10, evO_e11, evO_e12, evO_e14, evO_e15, evO_e16, evO_e17, evO_e18, evO_e19, evO_e20, evO_e21, evPs_e1, evPs_e2, evB_e1, evI_rng, evI_e2, evI_e3, evS_e1, evS_e3, evS_e4, evS_e5, evS_e7, evS_e8, evS_e9, evS_e10, evS_e14, evS_poke, yngL_lst, lk_lst, lk_sh, look_val, look_at, opv_sh, opv_lst, opv_obj, opv_dic, opd_var, opd_ne, frzAt_eq, fza_sh, fza_lst, give_val, give_at, dcA_some, dcB_ok, dcB_exn, doCall_eq, bin_addI, bin_addL, bin_addT, bin_sub, bin_mulI, bin_mulL, bin_fdiv, bin_mod, bin_pow, cmp_eq, cmp_ne, cmp_lt, cmp_le, cmp_gt, cmp_ge, cmp_is, cmp_isn, cmp_inL, cmp_inT, cmp_ninL, cmp_ninT, isNon_non, isNon_int, isNon_str, isNon_bl, isNon_tup, isNon_lst, ix_lst, ix_tup, ix_scr, sl_lst, sl_tup, seq_lst, seq_tup, seq_scr, seqL_lst, seqL_scr, bi_lenL, bi_lenT, bi_lenS, bi_listL, bi_listT, bi_tupL, bi_tupT, bi_intI, bi_intB, bi_max2, bi_min2, rngsD_1, rngsD_2, rngsD_3, lao_lst, lstAt_se, gpo_obj, lstAt_fe, setPl_s, spo_obj, setPl_f, partE_nil, partE_ne, intO_sh, lstD_lst, fldR_sh, fldR_obj, evO_fld, negR_int, evO_neg, iteR_true, iteR_false, evO_ite, chR_true, chR_false, evC_one, evC_two, bopR_tt, bopR_tf, bopR_ft, bopR_ff, evB_cs, sfR_obj, evS_setfld, evI_e, evS_seq, evS_ite, evS_for, evS_whl, evO_lc, kSeq_nx, kSeq_ret, kIf_true, kIf_false, kLcs_true, bnd_ok, bnd_exn, bnd_fail, opt_some, opt_none, optC_some, asB_ok, asB_exn, asI_ok, getS, setS, looks, frz, frzs, gives, takeA, backA, doNew, intsD, outsOf, eqD_int, kRun_nx, kRun_ret, kRun_exn, wipeF, backF, ne_eq, not_false_eq_true, forall_const, implies_true, reduceCtorEq, List.map_cons, List.map_nil, List.cons_append, List.nil_append, List.append_nil, List.replicate_succ, List.replicate_zero, Option.map_some, and_self, if_true, if_false, decide_true, decide_false, Bool.not_true, Bool.not_false, Bool.false_eq_true, Bool.or_true, Bool.true_or, Bool.and_true, Bool.true_and, Bool.or_false, Bool.false_or, asg_name, asg_tup, asg2_some, asgs_nil, asgs_cons, evO_gint, Nat.sub_self, Nat.reduceSub, shOrNone_none, shOrNone_sh, List.all_cons, List.all_nil, evO_isi, evO_isx, evO_cntT, evO_idxT, evO_kind, kindR_ok, kindR_exn, isi_int, isi_bl, isi_str, isi_non, isi_tup, isi_lst, eqD_bl, eqD_str, isa_int_TL, isa_int_L, isa_int_S, isa_int_B, isa_int_I, isa_int_T, isa_bool_TL, isa_bool_L, isa_bool_S, isa_bool_B, isa_bool_I, isa_bool_T, isa_str_TL, isa_str_L, isa_str_S, isa_str_B, isa_str_I, isa_str_T, isa_list_TL, isa_list_L, isa_list_S, isa_list_B, isa_list_I, isa_list_T, isa_tuple_TL, isa_tuple_L, isa_tuple_S, isa_tuple_B, isa_tuple_I, isa_tuple_T, isa_none_TL, isa_none_L, isa_none_S, isa_none_B, isa_none_I, isa_none_T, eqD_nil0, List.length_nil, Nat.zero_le, oldF_nil, oldO_sh, oldO_lst, old_int, old_str, old_bl, old_non, old_scr, old_tup, old_lst, olds_nil, olds_cons, killB_true, killB_false, killF_nil, yngO_sh, yngO_lst, yng_int, yng_str, yng_bl, yng_non, yng_scr, yng_tup, yng_lstT, yng_lstF, yngs_nil, yngs_cons, oldF_cons, killF_cons, Option.map_none, Option.bind_some, Option.bind_none, killO_eq, atI_0, atI_1, atI_2, atI_3, len1, len2, len3, len4, len5, len6, len7, le_big1, le_big2, le_big3, le_big4, le_big5, le_big6, le_big7, le_big8, le_big9, le_big10, le_big11, le_big12, hl.io, hl.run _ _ _ _ (hr.lens q hq), h1]) ⟨_, rfl⟩ (by simpa using hr.len)
      subst hC
      have e3 : eqD (.lst true (rs.filterMap fun q => if hasR q.2 last now then none else some (repD q))) (.lst true []) = some (allR rs last now) := by
        rw [eqD_nil fun d hd => ?_]
        · congr 1
          unfold allR
          rw [Bool.eq_iff_iff, List.isEmpty_iff, List.filterMap_eq_nil_iff, List.all_eq_true]
          constructor
          · intro h q hq
            have := h q hq
            split at this
            · assumption
            · cases this
          · intro h q hq
            rw [if_pos (h q hq)]
        · obtain ⟨m, _, hm⟩ := List.mem_filterMap.mp hd
          split at hm
          · cases hm
          · cases hm
            exact nb_intsL _ _
      rw [List.length_cons] at h3
      rw [patsL] at h2
      unfold kFor F_pats_of_b1
      by_cases ha : allR rs last now = true
      · rw [if_pos ha] at h2
        refine ⟨[some (.sh (.int b)), some (.sh (repsD t rs)), some (.sh (.int e)), some (.lst true ((acc ++ [now]).map .int)), some (.sh (.int now)), some (.sh (.int now)), none], ?_, now, _, acc ++ [now], rfl, by rw [List.append_assoc]; exact h2, by rw [List.length_append, List.length_singleton]; omega⟩
        unfold repsD
        unfold repsD at e2
        simp only [evO_e1, evO_e2, evO_e3, evO_e4, evO_e5, evO_e7, evO_e9, evO_e10, evO_e11, evO_e12, evO_e14, evO_e15, evO_e16, evO_e17, evO_e18, evO_e19, evO_e20, evO_e21, evPs_e1, evPs_e2, evB_e1, evI_rng, evI_e2, evI_e3, evS_e1, evS_e3, evS_e4, evS_e5, evS_e7, evS_e8, evS_e9, evS_e10, evS_e14, evS_poke, yngL_lst, lk_lst, lk_sh, look_val, look_at, opv_sh, opv_lst, opv_obj, opv_dic, opd_var, opd_ne, frzAt_eq, fza_sh, fza_lst, give_val, give_at, dcA_some, dcB_ok, dcB_exn, doCall_eq, bin_addI, bin_addL, bin_addT, bin_sub, bin_mulI, bin_mulL, bin_fdiv, bin_mod, bin_pow, cmp_eq, cmp_ne, cmp_lt, cmp_le, cmp_gt, cmp_ge, cmp_is, cmp_isn, cmp_inL, cmp_inT, cmp_ninL, cmp_ninT, isNon_non, isNon_int, isNon_str, isNon_bl, isNon_tup, isNon_lst, ix_lst, ix_tup, ix_scr, sl_lst, sl_tup, seq_lst, seq_tup, seq_scr, seqL_lst, seqL_scr, bi_lenL, bi_lenT, bi_lenS, bi_listL, bi_listT, bi_tupL, bi_tupT, bi_intI, bi_intB, bi_max2, bi_min2, rngsD_1, rngsD_2, rngsD_3, lao_lst, lstAt_se, gpo_obj, lstAt_fe, setPl_s, spo_obj, setPl_f, partE_nil, partE_ne, intO_sh, lstD_lst, fldR_sh, fldR_obj, evO_fld, negR_int, evO_neg, iteR_true, iteR_false, evO_ite, chR_true, chR_false, evC_one, evC_two, bopR_tt, bopR_tf, bopR_ft, bopR_ff, evB_cs, sfR_obj, evS_setfld, evI_e, evS_seq, evS_ite, evS_for, evS_whl, evO_lc, kSeq_nx, kSeq_ret, kIf_true, kIf_false, kLcs_true, bnd_ok, bnd_exn, bnd_fail, opt_some, opt_none, optC_some, asB_ok, asB_exn, asI_ok, getS, setS, looks, frz, frzs, gives, takeA, backA, doNew, intsD, outsOf, eqD_int, kRun_nx, kRun_ret, kRun_exn, wipeF, backF, ne_eq, not_false_eq_true, forall_const, implies_true, reduceCtorEq, List.map_cons, List.map_nil, List.cons_append, List.nil_append, List.append_nil, List.replicate_succ, List.replicate_zero, Option.map_some, and_self, if_true, if_false, decide_true, decide_false, Bool.not_true, Bool.not_false, Bool.false_eq_true, Bool.or_true, Bool.true_or, Bool.and_true, Bool.true_and, Bool.or_false, Bool.false_or, asg_name, asg_tup, asg2_some, asgs_nil, asgs_cons, evO_gint, Nat.sub_self, Nat.reduceSub, shOrNone_none, shOrNone_sh, List.all_cons, List.all_nil, evO_isi, evO_isx, evO_cntT, evO_idxT, evO_kind, kindR_ok, kindR_exn, isi_int, isi_bl, isi_str, isi_non, isi_tup, isi_lst, eqD_bl, eqD_str, isa_int_TL, isa_int_L, isa_int_S, isa_int_B, isa_int_I, isa_int_T, isa_bool_TL, isa_bool_L, isa_bool_S, isa_bool_B, isa_bool_I, isa_bool_T, isa_str_TL, isa_str_L, isa_str_S, isa_str_B, isa_str_I, isa_str_T, isa_list_TL, isa_list_L, isa_list_S, isa_list_B, isa_list_I, isa_list_T, isa_tuple_TL, isa_tuple_L, isa_tuple_S, isa_tuple_B, isa_tuple_I, isa_tuple_T, isa_none_TL, isa_none_L, isa_none_S, isa_none_B, isa_none_I, isa_none_T, eqD_nil0, List.length_nil, Nat.zero_le, oldF_nil, oldO_sh, oldO_lst, old_int, old_str, old_bl, old_non, old_scr, old_tup, old_lst, olds_nil, olds_cons, killB_true, killB_false, killF_nil, yngO_sh, yngO_lst, yng_int, yng_str, yng_bl, yng_non, yng_scr, yng_tup, yng_lstT, yng_lstF, yngs_nil, yngs_cons, oldF_cons, killF_cons, Option.map_none, Option.bind_some, Option.bind_none, killO_eq, atI_0, atI_1, atI_2, atI_3, len1, len2, len3, len4, len5, len6, len7, le_big1, le_big2, le_big3, le_big4, le_big5, le_big6, le_big7, le_big8, le_big9, le_big10, le_big11, le_big12, e2, e3, List.all_cons, List.all_nil, List.length_nil, Nat.zero_le, ha, List.length_map, show acc.length < big from by unfold big; omega, List.map_append]
      · rw [if_neg ha] at h2
        rw [Bool.not_eq_true] at ha
        refine ⟨[some (.sh (.int b)), some (.sh (repsD t rs)), some (.sh (.int e)), some (.lst true (acc.map .int)), some (.sh (.int last)), some (.sh (.int now)), none], ?_, last, _, acc, rfl, h2, by omega⟩
        unfold repsD
        unfold repsD at e2
        simp only [evO_e1, evO_e2, evO_e3, evO_e4, evO_e5, evO_e7, evO_e9, evO_e10, evO_e11, evO_e12, evO_e14, evO_e15, evO_e16, evO_e17, evO_e18, evO_e19, evO_e20, evO_e21, evPs_e1, evPs_e2, evB_e1, evI_rng, evI_e2, evI_e3, evS_e1, evS_e3, evS_e4, evS_e5, evS_e7, evS_e8, evS_e9, evS_e10, evS_e14, evS_poke, yngL_lst, lk_lst, lk_sh, look_val, look_at, opv_sh, opv_lst, opv_obj, opv_dic, opd_var, opd_ne, frzAt_eq, fza_sh, fza_lst, give_val, give_at, dcA_some, dcB_ok, dcB_exn, doCall_eq, bin_addI, bin_addL, bin_addT, bin_sub, bin_mulI, bin_mulL, bin_fdiv, bin_mod, bin_pow, cmp_eq, cmp_ne, cmp_lt, cmp_le, cmp_gt, cmp_ge, cmp_is, cmp_isn, cmp_inL, cmp_inT, cmp_ninL, cmp_ninT, isNon_non, isNon_int, isNon_str, isNon_bl, isNon_tup, isNon_lst, ix_lst, ix_tup, ix_scr, sl_lst, sl_tup, seq_lst, seq_tup, seq_scr, seqL_lst, seqL_scr, bi_lenL, bi_lenT, bi_lenS, bi_listL, bi_listT, bi_tupL, bi_tupT, bi_intI, bi_intB, bi_max2, bi_min2, rngsD_1, rngsD_2, rngsD_3, lao_lst, lstAt_se, gpo_obj, lstAt_fe, setPl_s, spo_obj, setPl_f, partE_nil, partE_ne, intO_sh, lstD_lst, fldR_sh, fldR_obj, evO_fld, negR_int, evO_neg, iteR_true, iteR_false, evO_ite, chR_true, chR_false, evC_one, evC_two, bopR_tt, bopR_tf, bopR_ft, bopR_ff, evB_cs, sfR_obj, evS_setfld, evI_e, evS_seq, evS_ite, evS_for, evS_whl, evO_lc, kSeq_nx, kSeq_ret, kIf_true, kIf_false, kLcs_true, bnd_ok, bnd_exn, bnd_fail, opt_some, opt_none, optC_some, asB_ok, asB_exn, asI_ok, getS, setS, looks, frz, frzs, gives, takeA, backA, doNew, intsD, outsOf, eqD_int, kRun_nx, kRun_ret, kRun_exn, wipeF, backF, ne_eq, not_false_eq_true, forall_const, implies_true, reduceCtorEq, List.map_cons, List.map_nil, List.cons_append, List.nil_append, List.append_nil, List.replicate_succ, List.replicate_zero, Option.map_some, and_self, if_true, if_false, decide_true, decide_false, Bool.not_true, Bool.not_false, Bool.false_eq_true, Bool.or_true, Bool.true_or, Bool.and_true, Bool.true_and, Bool.or_false, Bool.false_or, asg_name, asg_tup, asg2_some, asgs_nil, asgs_cons, evO_gint, Nat.sub_self, Nat.reduceSub, shOrNone_none, shOrNone_sh, List.all_cons, List.all_nil, evO_isi, evO_isx, evO_cntT, evO_idxT, evO_kind, kindR_ok, kindR_exn, isi_int, isi_bl, isi_str, isi_non, isi_tup, isi_lst, eqD_bl, eqD_str, isa_int_TL, isa_int_L, isa_int_S, isa_int_B, isa_int_I, isa_int_T, isa_bool_TL, isa_bool_L, isa_bool_S, isa_bool_B, isa_bool_I, isa_bool_T, isa_str_TL, isa_str_L, isa_str_S, isa_str_B, isa_str_I, isa_str_T, isa_list_TL, isa_list_L, isa_list_S, isa_list_B, isa_list_I, isa_list_T, isa_tuple_TL, isa_tuple_L, isa_tuple_S, isa_tuple_B, isa_tuple_I, isa_tuple_T, isa_none_TL, isa_none_L, isa_none_S, isa_none_B, isa_none_I, isa_none_T, eqD_nil0, List.length_nil, Nat.zero_le, oldF_nil, oldO_sh, oldO_lst, old_int, old_str, old_bl, old_non, old_scr, old_tup, old_lst, olds_nil, olds_cons, killB_true, killB_false, killF_nil, yngO_sh, yngO_lst, yng_int, yng_str, yng_bl, yng_non, yng_scr, yng_tup, yng_lstT, yng_lstF, yngs_nil, yngs_cons, oldF_cons, killF_cons, Option.map_none, Option.bind_some, Option.bind_none, killO_eq, atI_0, atI_1, atI_2, atI_3, len1, len2, len3, len4, len5, len6, len7, le_big1, le_big2, le_big3, le_big4, le_big5, le_big6, le_big7, le_big8, le_big9, le_big10, le_big11, le_big12, e2, e3, List.all_cons, List.all_nil, List.length_nil, Nat.zero_le, ha])
    (nows b e) [some (.sh (.int b)), some (.sh (repsD t rs)), some (.sh (.int e)), some (.lst true []), some (.sh (.int 0)), none, none] ⟨0, none, [], rfl, rfl, by simpa using nows_len hb he2⟩
  rw [patsL, List.append_nil] at h2
  subst h2 h1
  unfold F_pats_of
  simp only [evO_e1, evO_e2, evO_e3, evO_e4, evO_e5, evO_e7, evO_e9, evO_e10, evO_e11, evO_e12, evO_e14, evO_e15, evO_e16, evO_e17, evO_e18, evO_e19, evO_e20, evO_e21, evPs_e1, evPs_e2, evB_e1, evI_rng, evI_e2, evI_e3, evS_e1, evS_e3, evS_e4, evS_e5, evS_e7, evS_e8, evS_e9, evS_e10, evS_e14, evS_poke, yngL_lst, lk_lst, lk_sh, look_val, look_at, opv_sh, opv_lst, opv_obj, opv_dic, opd_var, opd_ne, frzAt_eq, fza_sh, fza_lst, give_val, give_at, dcA_some, dcB_ok, dcB_exn, doCall_eq, bin_addI, bin_addL, bin_addT, bin_sub, bin_mulI, bin_mulL, bin_fdiv, bin_mod, bin_pow, cmp_eq, cmp_ne, cmp_lt, cmp_le, cmp_gt, cmp_ge, cmp_is, cmp_isn, cmp_inL, cmp_inT, cmp_ninL, cmp_ninT, isNon_non, isNon_int, isNon_str, isNon_bl, isNon_tup, isNon_lst, ix_lst, ix_tup, ix_scr, sl_lst, sl_tup, seq_lst, seq_tup, seq_scr, seqL_lst, seqL_scr, bi_lenL, bi_lenT, bi_lenS, bi_listL, bi_listT, bi_tupL, bi_tupT, bi_intI, bi_intB, bi_max2, bi_min2, rngsD_1, rngsD_2, rngsD_3, lao_lst, lstAt_se, gpo_obj, lstAt_fe, setPl_s, spo_obj, setPl_f, partE_nil, partE_ne, intO_sh, lstD_lst, fldR_sh, fldR_obj, evO_fld, negR_int, evO_neg, iteR_true, iteR_false, evO_ite, chR_true, chR_false, evC_one, evC_two, bopR_tt, bopR_tf, bopR_ft, bopR_ff, evB_cs, sfR_obj, evS_setfld, evI_e, evS_seq, evS_ite, evS_for, evS_whl, evO_lc, kSeq_nx, kSeq_ret, kIf_true, kIf_false, kLcs_true, bnd_ok, bnd_exn, bnd_fail, opt_some, opt_none, optC_some, asB_ok, asB_exn, asI_ok, getS, setS, looks, frz, frzs, gives, takeA, backA, doNew, intsD, outsOf, eqD_int, kRun_nx, kRun_ret, kRun_exn, wipeF, backF, ne_eq, not_false_eq_true, forall_const, implies_true, reduceCtorEq, List.map_cons, List.map_nil, List.cons_append, List.nil_append, List.append_nil, List.replicate_succ, List.replicate_zero, Option.map_some, and_self, if_true, if_false, decide_true, decide_false, Bool.not_true, Bool.not_false, Bool.false_eq_true, Bool.or_true, Bool.true_or, Bool.and_true, Bool.true_and, Bool.or_false, Bool.false_or, asg_name, asg_tup, asg2_some, asgs_nil, asgs_cons, evO_gint, Nat.sub_self, Nat.reduceSub, shOrNone_none, shOrNone_sh, List.all_cons, List.all_nil, evO_isi, evO_isx, evO_cntT, evO_idxT, evO_kind, kindR_ok, kindR_exn, isi_int, isi_bl, isi_str, isi_non, isi_tup, isi_lst, eqD_bl, eqD_str, isa_int_TL, isa_int_L, isa_int_S, isa_int_B, isa_int_I, isa_int_T, isa_bool_TL, isa_bool_L, isa_bool_S, isa_bool_B, isa_bool_I, isa_bool_T, isa_str_TL, isa_str_L, isa_str_S, isa_str_B, isa_str_I, isa_str_T, isa_list_TL, isa_list_L, isa_list_S, isa_list_B, isa_list_I, isa_list_T, isa_tuple_TL, isa_tuple_L, isa_tuple_S, isa_tuple_B, isa_tuple_I, isa_tuple_T, isa_none_TL, isa_none_L, isa_none_S, isa_none_B, isa_none_I, isa_none_T, eqD_nil0, List.length_nil, Nat.zero_le, oldF_nil, oldO_sh, oldO_lst, old_int, old_str, old_bl, old_non, old_scr, old_tup, old_lst, olds_nil, olds_cons, killB_true, killB_false, killF_nil, yngO_sh, yngO_lst, yng_int, yng_str, yng_bl, yng_non, yng_scr, yng_tup, yng_lstT, yng_lstF, yngs_nil, yngs_cons, oldF_cons, killF_cons, Option.map_none, Option.bind_some, Option.bind_none, killO_eq, atI_0, atI_1, atI_2, atI_3, len1, len2, len3, len4, len5, len6, len7, le_big1, le_big2, le_big3, le_big4, le_big5, le_big6, le_big7, le_big8, le_big9, le_big10, le_big11, le_big12, e1, List.length_nil, Nat.zero_le, rng_nows hb hb2 he he2]
structure PatsOk (cl : Cl) (i : Nat) : Prop where
  io : cl.io i = [false, false, false]
  run : ∀ (t : Bool) (b e : Int) (rs : Reps), RepsOk rs → 0 < b → b ≤ 1000 → -(2 ^ 39) < e → e ≤ 1000000 → cl.run i [.sh (.int b), .sh (repsD t rs), .sh (.int e)] = .ok (.sh (.lst true ((patsL rs 0 (nows b e)).map .int))) []
structure FirstOk (cl : Cl) (i : Nat) : Prop where
  io : cl.io i = [false, false, false]
  run : ∀ (low high e : Int) (t : Bool) (ps : List Int), cl.run i [.sh (winD low high), .sh (.lst t (ps.map .int)), .sh (.int e)] = .ok (.sh (fbD low high e 0 ps)) []
structure NeedWin (cl : Cl) (i x : Nat) : Prop where
  io : cl.io i = [false]
  run : ∀ (low high : Int), cl.run i [.sh (winD low high)] = if winOk low high then .ok (.sh .non) [] else .exn ⟨x, none⟩ []
structure NeedBeat (cl : Cl) (i x : Nat) : Prop where
  io : cl.io i = [false]
  run : ∀ (b : Int), cl.run i [.sh (.int b)] = if 1 ≤ b ∧ b ≤ 60 then .ok (.sh .non) [] else .exn ⟨x, none⟩ []
theorem keeper_run (cl : Cl) (N i j x : Nat) (hp : PatsOk cl i) (hn : NeedBeat cl j x) (t : Bool) {b e : Int} {rs : Reps} (hr : RepsOk rs) (hb : 1 ≤ b ∧ b ≤ 60) (he : -(2 ^ 39) < e) (he2 : e ≤ 1000000) :
    runF cl N (F_keeper_pats i j) [.sh (.int b), .sh (repsD t rs), .sh (.int e)] = .ok (.sh (.lst true ((patsL rs 0 (nows b e)).map .int))) [] := by
  rw [runF_eq _ _ _ _ rfl]
  unfold F_keeper_pats
  simp only [evO_e1, evO_e2, evO_e3, evO_e4, evO_e5, evO_e7, evO_e9, evO_e10, evO_e11, evO_e12, evO_e14, evO_e15, evO_e16, evO_e17, evO_e18, evO_e19, evO_e20, evO_e21, evPs_e1, evPs_e2, evB_e1, evI_rng, evI_e2, evI_e3, evS_e1, evS_e3, evS_e4, evS_e5, evS_e7, evS_e8, evS_e9, evS_e10, evS_e14, evS_poke, yngL_lst, lk_lst, lk_sh, look_val, look_at, opv_sh, opv_lst, opv_obj, opv_dic, opd_var, opd_ne, frzAt_eq, fza_sh, fza_lst, give_val, give_at, dcA_some, dcB_ok, dcB_exn, doCall_eq, bin_addI, bin_addL, bin_addT, bin_sub, bin_mulI, bin_mulL, bin_fdiv, bin_mod, bin_pow, cmp_eq, cmp_ne, cmp_lt, cmp_le, cmp_gt, cmp_ge, cmp_is, cmp_isn, cmp_inL, cmp_inT, cmp_ninL, cmp_ninT, isNon_non, isNon_int, isNon_str, isNon_bl, isNon_tup, isNon_lst, ix_lst, ix_tup, ix_scr, sl_lst, sl_tup, seq_lst, seq_tup, seq_scr, seqL_lst, seqL_scr, bi_lenL, bi_lenT, bi_lenS, bi_listL, bi_listT, bi_tupL, bi_tupT, bi_intI, bi_intB, bi_max2, bi_min2, rngsD_1, rngsD_2, rngsD_3, lao_lst, lstAt_se, gpo_obj, lstAt_fe, setPl_s, spo_obj, setPl_f, partE_nil, partE_ne, intO_sh, lstD_lst, fldR_sh, fldR_obj, evO_fld, negR_int, evO_neg, iteR_true, iteR_false, evO_ite, chR_true, chR_false, evC_one, evC_two, bopR_tt, bopR_tf, bopR_ft, bopR_ff, evB_cs, sfR_obj, evS_setfld, evI_e, evS_seq, evS_ite, evS_for, evS_whl, evO_lc, kSeq_nx, kSeq_ret, kIf_true, kIf_false, kLcs_true, bnd_ok, bnd_exn, bnd_fail, opt_some, opt_none, optC_some, asB_ok, asB_exn, asI_ok, getS, setS, looks, frz, frzs, gives, takeA, backA, doNew, intsD, outsOf, eqD_int, kRun_nx, kRun_ret, kRun_exn, wipeF, backF, ne_eq, not_false_eq_true, forall_const, implies_true, reduceCtorEq, List.map_cons, List.map_nil, List.cons_append, List.nil_append, List.append_nil, List.replicate_succ, List.replicate_zero, Option.map_some, and_self, if_true, if_false, decide_true, decide_false, Bool.not_true, Bool.not_false, Bool.false_eq_true, Bool.or_true, Bool.true_or, Bool.and_true, Bool.true_and, Bool.or_false, Bool.false_or, asg_name, asg_tup, asg2_some, asgs_nil, asgs_cons, evO_gint, Nat.sub_self, Nat.reduceSub, shOrNone_none, shOrNone_sh, List.all_cons, List.all_nil, evO_isi, evO_isx, evO_cntT, evO_idxT, evO_kind, kindR_ok, kindR_exn, isi_int, isi_bl, isi_str, isi_non, isi_tup, isi_lst, eqD_bl, eqD_str, isa_int_TL, isa_int_L, isa_int_S, isa_int_B, isa_int_I, isa_int_T, isa_bool_TL, isa_bool_L, isa_bool_S, isa_bool_B, isa_bool_I, isa_bool_T, isa_str_TL, isa_str_L, isa_str_S, isa_str_B, isa_str_I, isa_str_T, isa_list_TL, isa_list_L, isa_list_S, isa_list_B, isa_list_I, isa_list_T, isa_tuple_TL, isa_tuple_L, isa_tuple_S, isa_tuple_B, isa_tuple_I, isa_tuple_T, isa_none_TL, isa_none_L, isa_none_S, isa_none_B, isa_none_I, isa_none_T, eqD_nil0, List.length_nil, Nat.zero_le, oldF_nil, oldO_sh, oldO_lst, old_int, old_str, old_bl, old_non, old_scr, old_tup, old_lst, olds_nil, olds_cons, killB_true, killB_false, killF_nil, yngO_sh, yngO_lst, yng_int, yng_str, yng_bl, yng_non, yng_scr, yng_tup, yng_lstT, yng_lstF, yngs_nil, yngs_cons, oldF_cons, killF_cons, Option.map_none, Option.bind_some, Option.bind_none, killO_eq, atI_0, atI_1, atI_2, atI_3, len1, len2, len3, len4, len5, len6, len7, le_big1, le_big2, le_big3, le_big4, le_big5, le_big6, le_big7, le_big8, le_big9, le_big10, le_big11, le_big12, hp.io, hp.run _ _ _ _ hr (show 0 < b by omega) (show b ≤ 1000 by omega) he he2, hn.io, hn.run, hb]
theorem found_run (cl : Cl) (N i j k l x y : Nat) (hp : PatsOk cl i) (hf : FirstOk cl j) (hn : NeedBeat cl k x) (hw : NeedWin cl l y) (t : Bool) {low high b e : Int} {rs : Reps} (hr : RepsOk rs) (hlh : winOk low high = true) (hb : 1 ≤ b ∧ b ≤ 60) (he : -(2 ^ 39) < e) (he2 : e ≤ 1000000) :
    runF cl N (F_found_at i j k l) [.sh (winD low high), .sh (.int b), .sh (repsD t rs), .sh (.int e)] = .ok (.sh (fbD low high e 0 (patsL rs 0 (nows b e)))) [] := by
  rw [runF_eq _ _ _ _ rfl]
  unfold F_found_at
  simp only [evO_e1, evO_e2, evO_e3, evO_e4, evO_e5, evO_e7, evO_e9, evO_e10, evO_e11, evO_e12, evO_e14, evO_e15, evO_e16, evO_e17, evO_e18, evO_e19, evO_e20, evO_e21, evPs_e1, evPs_e2, evB_e1, evI_rng, evI_e2, evI_e3, evS_e1, evS_e3, evS_e4, evS_e5, evS_e7, evS_e8, evS_e9, evS_e10, evS_e14, evS_poke, yngL_lst, lk_lst, lk_sh, look_val, look_at, opv_sh, opv_lst, opv_obj, opv_dic, opd_var, opd_ne, frzAt_eq, fza_sh, fza_lst, give_val, give_at, dcA_some, dcB_ok, dcB_exn, doCall_eq, bin_addI, bin_addL, bin_addT, bin_sub, bin_mulI, bin_mulL, bin_fdiv, bin_mod, bin_pow, cmp_eq, cmp_ne, cmp_lt, cmp_le, cmp_gt, cmp_ge, cmp_is, cmp_isn, cmp_inL, cmp_inT, cmp_ninL, cmp_ninT, isNon_non, isNon_int, isNon_str, isNon_bl, isNon_tup, isNon_lst, ix_lst, ix_tup, ix_scr, sl_lst, sl_tup, seq_lst, seq_tup, seq_scr, seqL_lst, seqL_scr, bi_lenL, bi_lenT, bi_lenS, bi_listL, bi_listT, bi_tupL, bi_tupT, bi_intI, bi_intB, bi_max2, bi_min2, rngsD_1, rngsD_2, rngsD_3, lao_lst, lstAt_se, gpo_obj, lstAt_fe, setPl_s, spo_obj, setPl_f, partE_nil, partE_ne, intO_sh, lstD_lst, fldR_sh, fldR_obj, evO_fld, negR_int, evO_neg, iteR_true, iteR_false, evO_ite, chR_true, chR_false, evC_one, evC_two, bopR_tt, bopR_tf, bopR_ft, bopR_ff, evB_cs, sfR_obj, evS_setfld, evI_e, evS_seq, evS_ite, evS_for, evS_whl, evO_lc, kSeq_nx, kSeq_ret, kIf_true, kIf_false, kLcs_true, bnd_ok, bnd_exn, bnd_fail, opt_some, opt_none, optC_some, asB_ok, asB_exn, asI_ok, getS, setS, looks, frz, frzs, gives, takeA, backA, doNew, intsD, outsOf, eqD_int, kRun_nx, kRun_ret, kRun_exn, wipeF, backF, ne_eq, not_false_eq_true, forall_const, implies_true, reduceCtorEq, List.map_cons, List.map_nil, List.cons_append, List.nil_append, List.append_nil, List.replicate_succ, List.replicate_zero, Option.map_some, and_self, if_true, if_false, decide_true, decide_false, Bool.not_true, Bool.not_false, Bool.false_eq_true, Bool.or_true, Bool.true_or, Bool.and_true, Bool.true_and, Bool.or_false, Bool.false_or, asg_name, asg_tup, asg2_some, asgs_nil, asgs_cons, evO_gint, Nat.sub_self, Nat.reduceSub, shOrNone_none, shOrNone_sh, List.all_cons, List.all_nil, evO_isi, evO_isx, evO_cntT, evO_idxT, evO_kind, kindR_ok, kindR_exn, isi_int, isi_bl, isi_str, isi_non, isi_tup, isi_lst, eqD_bl, eqD_str, isa_int_TL, isa_int_L, isa_int_S, isa_int_B, isa_int_I, isa_int_T, isa_bool_TL, isa_bool_L, isa_bool_S, isa_bool_B, isa_bool_I, isa_bool_T, isa_str_TL, isa_str_L, isa_str_S, isa_str_B, isa_str_I, isa_str_T, isa_list_TL, isa_list_L, isa_list_S, isa_list_B, isa_list_I, isa_list_T, isa_tuple_TL, isa_tuple_L, isa_tuple_S, isa_tuple_B, isa_tuple_I, isa_tuple_T, isa_none_TL, isa_none_L, isa_none_S, isa_none_B, isa_none_I, isa_none_T, eqD_nil0, List.length_nil, Nat.zero_le, oldF_nil, oldO_sh, oldO_lst, old_int, old_str, old_bl, old_non, old_scr, old_tup, old_lst, olds_nil, olds_cons, killB_true, killB_false, killF_nil, yngO_sh, yngO_lst, yng_int, yng_str, yng_bl, yng_non, yng_scr, yng_tup, yng_lstT, yng_lstF, yngs_nil, yngs_cons, oldF_cons, killF_cons, Option.map_none, Option.bind_some, Option.bind_none, killO_eq, atI_0, atI_1, atI_2, atI_3, len1, len2, len3, len4, len5, len6, len7, le_big1, le_big2, le_big3, le_big4, le_big5, le_big6, le_big7, le_big8, le_big9, le_big10, le_big11, le_big12, hp.io, hp.run _ _ _ _ hr (show 0 < b by omega) (show b ≤ 1000 by omega) he he2, hn.io, hn.run, hb, hw.io, hw.run, hlh, hf.io, hf.run]
end WD


/-! WD, part 20: drawn tasks and their reports. -/
namespace WD
open PySem PySem.Spec PyProof.Rows L2
/-- _law_tasks(_law_state, _law_most, _law_gap): 0=_law_state 1=_law_most 2=_law_gap 3=_law_found 4=_law_k 5=_law_least -/
def F__law_tasks_b1 (i__law_drawn : Nat) : WD.S := (.seq (.set 5 (.bin .add (.cint 1) (.call i__law_drawn (.cons (.var 0) (.cons (.var 2) .nil))))) (.seq (.app (.s 3) (.tup (.cons (.var 5) (.cons (.bin .add (.var 5) (.call i__law_drawn (.cons (.var 0) (.cons (.bin .add (.bin .sub (.var 2) (.var 5)) (.cint 1)) .nil)))) .nil)))) .skip))
def F__law_tasks (i__law_drawn : Nat) : WD.Fn := ⟨3, 6, [true, false, false], (.seq (.set 3 (.lst .nil)) (.seq (.for_ false (.name 4) (.rng (.cons (.bin .add (.cint 1) (.call i__law_drawn (.cons (.var 0) (.cons (.var 1) .nil)))) .nil)) (F__law_tasks_b1 i__law_drawn)) (.seq (.ret (.var 3)) .skip)))⟩
/-- _law_reports(_law_state, _law_tasks_here, _law_end): 0=_law_state 1=_law_tasks_here 2=_law_end 3=_law_found 4=_law_least 5=_law_most 6=_law_moments 7=_law_now -/
def F__law_reports_w1 : WD.E := (.cmp .le (.var 7) (.var 2))
def F__law_reports_b1 (i__law_drawn : Nat) : WD.S := (.seq (.app (.s 6) (.var 7)) (.seq (.set 7 (.bin .add (.bin .add (.var 7) (.var 4)) (.call i__law_drawn (.cons (.var 0) (.cons (.bin .add (.bin .sub (.var 5) (.var 4)) (.cint 1)) .nil))))) .skip))
def F__law_reports_b2 (i__law_drawn : Nat) : WD.S := (.seq (.set 6 (.lst .nil)) (.seq (.set 7 (.bin .add (.var 4) (.call i__law_drawn (.cons (.var 0) (.cons (.bin .add (.bin .sub (.var 5) (.var 4)) (.cint 1)) .nil))))) (.seq (.whl F__law_reports_w1 (F__law_reports_b1 i__law_drawn)) (.seq (.app (.s 3) (.var 6)) .skip))))
def F__law_reports (i__law_drawn : Nat) : WD.Fn := ⟨3, 8, [true, false, false], (.seq (.set 3 (.lst .nil)) (.seq (.for_ false (.tup (.cons (.name 4) (.cons (.name 5) .nil))) (.var 1) (F__law_reports_b2 i__law_drawn)) (.seq (.ret (.var 3)) .skip)))⟩
theorem rng_up (n : Int) (h : -1 < n) (h2 : n ≤ 1000000) : rngI 0 n 1 = some ((List.range n.toNat).map fun (k : Nat) => .int (k : Int)) := by
  unfold rngI
  rw [if_pos]
  · rw [show (n - 0 + 1 - 1) / 1 = n by omega]
    congr 2
    funext k
    congr 1
    omega
  · simp only [Bool.and_eq_true, decide_eq_true_eq, lim40_eq]
    omega
def taskD (q : Int × Int) : D := .tup [.int q.1, .int q.2]
structure TasksOk (gap : Int) (ts : List (Int × Int)) : Prop where
  ok : ∀ q ∈ ts, 1 ≤ q.1 ∧ q.1 ≤ q.2 ∧ q.2 ≤ gap
theorem tasks_run (cl : Cl) (N i : Nat) {ns : List Int} (dr : DrawOk ns cl i) {t : Bool} {ds : List D} {most gap : Int} (h : St ns (.lst t ds)) (h0 : 1 ≤ most) (h1 : most ≤ 1000) (g0 : 1 ≤ gap) (g1 : gap ≤ 1000) :
    ∃ (ts : List (Int × Int)) (t' : Bool) (ds' : List D), St ns (.lst t' ds') ∧ TasksOk gap ts ∧ 1 ≤ ts.length ∧ (ts.length : Int) ≤ most ∧ runF cl N (F__law_tasks i) [.lst t ds, .sh (.int most), .sh (.int gap)] = .ok (.sh (.lst true (ts.map taskD))) [.lst t' ds'] := by
  rw [runF_eq _ _ _ _ rfl]
  obtain ⟨n, t1, o1, s1, a1, b1, e1⟩ := dr.run _ _ most h (by omega) (by omega)
  obtain ⟨ρ', e2, t2, o2, ts, x, y, hρ, s2, hk, hl⟩ := forL_map (step := kFor cl N false (.name 4) (F__law_tasks_b1 i)) (fun k : Nat => D.int (k : Int))
    (fun r ρ => ∃ (t2 : Bool) (o2 : List D) (ts : List (Int × Int)) (x y : Option O), ρ = [some (.lst t2 o2), some (.sh (.int most)), some (.sh (.int gap)), some (.lst true (ts.map taskD)), x, y] ∧ St ns (.lst t2 o2) ∧ TasksOk gap ts ∧ ts.length + r.length = (1 + n).toNat)
    (fun k r ρ ⟨t2, o2, ts, x, y, hρ, s2, hk, hl⟩ => by
      subst hρ
      obtain ⟨v, t3, o3, s3, a3, b3, e3⟩ := dr.run _ _ gap s2 (by omega) (by omega)
      obtain ⟨w, t4, o4, s4, a4, b4, e4⟩ := dr.run _ _ (gap - (1 + v) + 1) s3 (by omega) (by omega)
      rw [List.length_cons] at hl
      refine ⟨[some (.lst t4 o4), some (.sh (.int most)), some (.sh (.int gap)), some (.lst true ((ts ++ [(1 + v, 1 + v + w)]).map taskD)), some (.sh (.int (k : Int))), some (.sh (.int (1 + v)))], ?_, t4, o4, ts ++ [(1 + v, 1 + v + w)], _, _, rfl, s4, ⟨fun q hq => ?_⟩, ?_⟩
      · unfold kFor F__law_tasks_b1
        simp only [evO_e1, evO_e2, evO_e3, evO_e4, evO_e5, evO_e7, evO_e9, evO_e10, evO_e11, evO_e12, evO_e14, evO_e15, evO_e16, evO_e17, evO_e18, evO_e19, evO_e20, evO_e21, evPs_e1, evPs_e2, evB_e1, evI_rng, evI_e2, evI_e3, evS_e1, evS_e3, evS_e4, evS_e5, evS_e7, evS_e8, evS_e9, evS_e10, evS_e14, evS_poke, yngL_lst, lk_lst, lk_sh, look_val, look_at, opv_sh, opv_lst, opv_obj, opv_dic, opd_var, opd_ne, frzAt_eq, fza_sh, fza_lst, give_val, give_at, dcA_some, dcB_ok, dcB_exn, doCall_eq, bin_addI, bin_addL, bin_addT, bin_sub, bin_mulI, bin_mulL, bin_fdiv, bin_mod, bin_pow, cmp_eq, cmp_ne, cmp_lt, cmp_le, cmp_gt, cmp_ge, cmp_is, cmp_isn, cmp_inL, cmp_inT, cmp_ninL, cmp_ninT, isNon_non, isNon_int, isNon_str, isNon_bl, isNon_tup, isNon_lst, ix_lst, ix_tup, ix_scr, sl_lst, sl_tup, seq_lst, seq_tup, seq_scr, seqL_lst, seqL_scr, bi_lenL, bi_lenT, bi_lenS, bi_listL, bi_listT, bi_tupL, bi_tupT, bi_intI, bi_intB, bi_max2, bi_min2, rngsD_1, rngsD_2, rngsD_3, lao_lst, lstAt_se, gpo_obj, lstAt_fe, setPl_s, spo_obj, setPl_f, partE_nil, partE_ne, intO_sh, lstD_lst, fldR_sh, fldR_obj, evO_fld, negR_int, evO_neg, iteR_true, iteR_false, evO_ite, chR_true, chR_false, evC_one, evC_two, bopR_tt, bopR_tf, bopR_ft, bopR_ff, evB_cs, sfR_obj, evS_setfld, evI_e, evS_seq, evS_ite, evS_for, evS_whl, evO_lc, kSeq_nx, kSeq_ret, kIf_true, kIf_false, kLcs_true, bnd_ok, bnd_exn, bnd_fail, opt_some, opt_none, optC_some, asB_ok, asB_exn, asI_ok, getS, setS, looks, frz, frzs, gives, takeA, backA, doNew, intsD, outsOf, eqD_int, kRun_nx, kRun_ret, kRun_exn, wipeF, backF, ne_eq, not_false_eq_true, forall_const, implies_true, reduceCtorEq, List.map_cons, List.map_nil, List.cons_append, List.nil_append, List.append_nil, List.replicate_succ, List.replicate_zero, Option.map_some, and_self, if_true, if_false, decide_true, decide_false, Bool.not_true, Bool.not_false, Bool.false_eq_true, Bool.or_true, Bool.true_or, Bool.and_true, Bool.true_and, Bool.or_false, Bool.false_or, asg_name, asg_tup, asg2_some, asgs_nil, asgs_cons, evO_gint, Nat.sub_self, Nat.reduceSub, shOrNone_none, shOrNone_sh, List.all_cons, List.all_nil, evO_isi, evO_isx, evO_cntT, evO_idxT, evO_kind, kindR_ok, kindR_exn, isi_int, isi_bl, isi_str, isi_non, isi_tup, isi_lst, eqD_bl, eqD_str, isa_int_TL, isa_int_L, isa_int_S, isa_int_B, isa_int_I, isa_int_T, isa_bool_TL, isa_bool_L, isa_bool_S, isa_bool_B, isa_bool_I, isa_bool_T, isa_str_TL, isa_str_L, isa_str_S, isa_str_B, isa_str_I, isa_str_T, isa_list_TL, isa_list_L, isa_list_S, isa_list_B, isa_list_I, isa_list_T, isa_tuple_TL, isa_tuple_L, isa_tuple_S, isa_tuple_B, isa_tuple_I, isa_tuple_T, isa_none_TL, isa_none_L, isa_none_S, isa_none_B, isa_none_I, isa_none_T, eqD_nil0, List.length_nil, Nat.zero_le, oldF_nil, oldO_sh, oldO_lst, old_int, old_str, old_bl, old_non, old_scr, old_tup, old_lst, olds_nil, olds_cons, killB_true, killB_false, killF_nil, yngO_sh, yngO_lst, yng_int, yng_str, yng_bl, yng_non, yng_scr, yng_tup, yng_lstT, yng_lstF, yngs_nil, yngs_cons, oldF_cons, killF_cons, Option.map_none, Option.bind_some, Option.bind_none, killO_eq, atI_0, atI_1, atI_2, atI_3, len1, len2, len3, len4, len5, len6, len7, le_big1, le_big2, le_big3, le_big4, le_big5, le_big6, le_big7, le_big8, le_big9, le_big10, le_big11, le_big12, dr.io, e3, e4, len2, show 2 ≤ big from by decide, List.length_map, show ts.length < big from by unfold big; omega, List.map_append, taskD]
      · rcases List.mem_append.mp hq with hq | hq
        · exact hk.ok q hq
        · rw [List.mem_singleton] at hq
          subst hq
          dsimp only
          omega
      · rw [List.length_append, List.length_singleton]
        omega)
    (List.range (1 + n).toNat) [some (.lst t1 o1), some (.sh (.int most)), some (.sh (.int gap)), some (.lst true []), none, none] ⟨t1, o1, [], none, none, rfl, s1, ⟨fun _ h => nomatch h⟩, by simp⟩
  subst hρ
  refine ⟨ts, t2, o2, s2, hk, by simp at hl; omega, by simp at hl; omega, ?_⟩
  unfold F__law_tasks
  simp only [evO_e1, evO_e2, evO_e3, evO_e4, evO_e5, evO_e7, evO_e9, evO_e10, evO_e11, evO_e12, evO_e14, evO_e15, evO_e16, evO_e17, evO_e18, evO_e19, evO_e20, evO_e21, evPs_e1, evPs_e2, evB_e1, evI_rng, evI_e2, evI_e3, evS_e1, evS_e3, evS_e4, evS_e5, evS_e7, evS_e8, evS_e9, evS_e10, evS_e14, evS_poke, yngL_lst, lk_lst, lk_sh, look_val, look_at, opv_sh, opv_lst, opv_obj, opv_dic, opd_var, opd_ne, frzAt_eq, fza_sh, fza_lst, give_val, give_at, dcA_some, dcB_ok, dcB_exn, doCall_eq, bin_addI, bin_addL, bin_addT, bin_sub, bin_mulI, bin_mulL, bin_fdiv, bin_mod, bin_pow, cmp_eq, cmp_ne, cmp_lt, cmp_le, cmp_gt, cmp_ge, cmp_is, cmp_isn, cmp_inL, cmp_inT, cmp_ninL, cmp_ninT, isNon_non, isNon_int, isNon_str, isNon_bl, isNon_tup, isNon_lst, ix_lst, ix_tup, ix_scr, sl_lst, sl_tup, seq_lst, seq_tup, seq_scr, seqL_lst, seqL_scr, bi_lenL, bi_lenT, bi_lenS, bi_listL, bi_listT, bi_tupL, bi_tupT, bi_intI, bi_intB, bi_max2, bi_min2, rngsD_1, rngsD_2, rngsD_3, lao_lst, lstAt_se, gpo_obj, lstAt_fe, setPl_s, spo_obj, setPl_f, partE_nil, partE_ne, intO_sh, lstD_lst, fldR_sh, fldR_obj, evO_fld, negR_int, evO_neg, iteR_true, iteR_false, evO_ite, chR_true, chR_false, evC_one, evC_two, bopR_tt, bopR_tf, bopR_ft, bopR_ff, evB_cs, sfR_obj, evS_setfld, evI_e, evS_seq, evS_ite, evS_for, evS_whl, evO_lc, kSeq_nx, kSeq_ret, kIf_true, kIf_false, kLcs_true, bnd_ok, bnd_exn, bnd_fail, opt_some, opt_none, optC_some, asB_ok, asB_exn, asI_ok, getS, setS, looks, frz, frzs, gives, takeA, backA, doNew, intsD, outsOf, eqD_int, kRun_nx, kRun_ret, kRun_exn, wipeF, backF, ne_eq, not_false_eq_true, forall_const, implies_true, reduceCtorEq, List.map_cons, List.map_nil, List.cons_append, List.nil_append, List.append_nil, List.replicate_succ, List.replicate_zero, Option.map_some, and_self, if_true, if_false, decide_true, decide_false, Bool.not_true, Bool.not_false, Bool.false_eq_true, Bool.or_true, Bool.true_or, Bool.and_true, Bool.true_and, Bool.or_false, Bool.false_or, asg_name, asg_tup, asg2_some, asgs_nil, asgs_cons, evO_gint, Nat.sub_self, Nat.reduceSub, shOrNone_none, shOrNone_sh, List.all_cons, List.all_nil, evO_isi, evO_isx, evO_cntT, evO_idxT, evO_kind, kindR_ok, kindR_exn, isi_int, isi_bl, isi_str, isi_non, isi_tup, isi_lst, eqD_bl, eqD_str, isa_int_TL, isa_int_L, isa_int_S, isa_int_B, isa_int_I, isa_int_T, isa_bool_TL, isa_bool_L, isa_bool_S, isa_bool_B, isa_bool_I, isa_bool_T, isa_str_TL, isa_str_L, isa_str_S, isa_str_B, isa_str_I, isa_str_T, isa_list_TL, isa_list_L, isa_list_S, isa_list_B, isa_list_I, isa_list_T, isa_tuple_TL, isa_tuple_L, isa_tuple_S, isa_tuple_B, isa_tuple_I, isa_tuple_T, isa_none_TL, isa_none_L, isa_none_S, isa_none_B, isa_none_I, isa_none_T, eqD_nil0, List.length_nil, Nat.zero_le, oldF_nil, oldO_sh, oldO_lst, old_int, old_str, old_bl, old_non, old_scr, old_tup, old_lst, olds_nil, olds_cons, killB_true, killB_false, killF_nil, yngO_sh, yngO_lst, yng_int, yng_str, yng_bl, yng_non, yng_scr, yng_tup, yng_lstT, yng_lstF, yngs_nil, yngs_cons, oldF_cons, killF_cons, Option.map_none, Option.bind_some, Option.bind_none, killO_eq, atI_0, atI_1, atI_2, atI_3, len1, len2, len3, len4, len5, len6, len7, le_big1, le_big2, le_big3, le_big4, le_big5, le_big6, le_big7, le_big8, le_big9, le_big10, le_big11, le_big12, dr.io, e1, rng_up (1 + n) (by omega) (by omega), e2, List.length_nil, Nat.zero_le]
/-- rising moments -/
structure Asc (e : Int) (ms : List Int) : Prop where
  up : ms.Pairwise (· < ·)
  pos : ∀ m ∈ ms, 1 ≤ m ∧ m ≤ e
theorem Asc.snoc {e m : Int} {ms : List Int} (h : Asc e ms) (h1 : ∀ x ∈ ms, x < m) (h2 : 1 ≤ m) (h3 : m ≤ e) : Asc e (ms ++ [m]) := by
  refine ⟨List.pairwise_append.mpr ⟨h.up, List.pairwise_singleton _ _, fun a ha b hb => ?_⟩, fun x hx => ?_⟩
  · rw [List.mem_singleton] at hb
    subst hb
    exact h1 a ha
  · rcases List.mem_append.mp hx with hx | hx
    · exact h.pos x hx
    · rw [List.mem_singleton] at hx
      subst hx
      exact ⟨h2, h3⟩
/-- one task's reports: each comes least..most behind the one ahead, and none is left out up to e -/
inductive InTime (least most e : Int) : Int → List Int → Prop
  | done {last : Int} : (∃ m, last + least ≤ m ∧ m ≤ last + most ∧ e < m) → InTime least most e last []
  | next {last m : Int} {r : List Int} : last + least ≤ m → m ≤ last + most → m ≤ e → InTime least most e m r → InTime least most e last (m :: r)
theorem reports_run (cl : Cl) (N i : Nat) {ns : List Int} (dr : DrawOk ns cl i) {t u : Bool} {ds : List D} {ts : List (Int × Int)} {gap e : Int} (h : St ns (.lst t ds)) (hts : TasksOk gap ts) (hg : gap ≤ 1000) (he : e ≤ 100000) (hN : e.toNat + 3 ≤ N) (hl : ts.length ≤ 1000) :
    ∃ (ms : List (List Int)) (t' : Bool) (ds' : List D), St ns (.lst t' ds') ∧ (∀ m ∈ ms, Asc e m) ∧ ms.length = ts.length ∧ runF cl N (F__law_reports i) [.lst t ds, .sh (.lst u (ts.map taskD)), .sh (.int e)] = .ok (.sh (.lst true (ms.map (intsL true)))) [.lst t' ds'] := by
  have whl : ∀ (n : Nat) (least most now : Int) (t1 : Bool) (o1 : List D) (found : List D) (acc : List Int), 1 ≤ least → least ≤ most → most ≤ gap → St ns (.lst t1 o1) → Asc e acc → (∀ x ∈ acc, x < now) → (acc.length : Int) + 1 ≤ now → e - now + 2 ≤ n → 1 ≤ n →
      ∃ (t2 : Bool) (o2 : List D) (acc2 : List Int) (now2 : Int), St ns (.lst t2 o2) ∧ Asc e acc2 ∧ whlL (evO cl F__law_reports_w1) (evS cl N (F__law_reports_b1 i)) n [some (.lst t1 o1), some (.sh (.lst u (ts.map taskD))), some (.sh (.int e)), some (.lst true found), some (.sh (.int least)), some (.sh (.int most)), some (.lst true (acc.map .int)), some (.sh (.int now))] =
        .ok .nx [some (.lst t2 o2), some (.sh (.lst u (ts.map taskD))), some (.sh (.int e)), some (.lst true found), some (.sh (.int least)), some (.sh (.int most)), some (.lst true (acc2.map .int)), some (.sh (.int now2))] := by
    intro n
    induction n with
    | zero => intros; omega
    | succ n ih =>
      intro least most now t1 o1 found acc h1 h2 h3 s1 ha hx hc hn _
      by_cases hne : now ≤ e
      · obtain ⟨v, t3, o3, s3, a3, b3, e3⟩ := dr.run _ _ (most - least + 1) s1 (by omega) (by omega)
        obtain ⟨t2, o2, acc2, now2, s2, A2, e2⟩ := ih least most (now + least + v) t3 o3 found (acc ++ [now]) h1 h2 h3 s3 (ha.snoc hx (by omega) hne) (fun x hx' => by
          rcases List.mem_append.mp hx' with h | h
          · have := hx x h
            omega
          · rw [List.mem_singleton] at h
            omega) (by rw [List.length_append, List.length_singleton]; omega) (by omega) (by omega)
        refine ⟨t2, o2, acc2, now2, s2, A2, ?_⟩
        rw [whlL]
        unfold F__law_reports_w1 F__law_reports_b1
        unfold F__law_reports_w1 F__law_reports_b1 at e2
        rw [List.map_append] at e2
        simp only [evO_e1, evO_e2, evO_e3, evO_e4, evO_e5, evO_e7, evO_e9, evO_e10, evO_e11, evO_e12, evO_e14, evO_e15, evO_e16, evO_e17, evO_e18, evO_e19, evO_e20, evO_e21, evPs_e1, evPs_e2, evB_e1, evI_rng, evI_e2, evI_e3, evS_e1, evS_e3, evS_e4, evS_e5, evS_e7, evS_e8, evS_e9, evS_e10, evS_e14, evS_poke, yngL_lst, lk_lst, lk_sh, look_val, look_at, opv_sh, opv_lst, opv_obj, opv_dic, opd_var, opd_ne, frzAt_eq, fza_sh, fza_lst, give_val, give_at, dcA_some, dcB_ok, dcB_exn, doCall_eq, bin_addI, bin_addL, bin_addT, bin_sub, bin_mulI, bin_mulL, bin_fdiv, bin_mod, bin_pow, cmp_eq, cmp_ne, cmp_lt, cmp_le, cmp_gt, cmp_ge, cmp_is, cmp_isn, cmp_inL, cmp_inT, cmp_ninL, cmp_ninT, isNon_non, isNon_int, isNon_str, isNon_bl, isNon_tup, isNon_lst, ix_lst, ix_tup, ix_scr, sl_lst, sl_tup, seq_lst, seq_tup, seq_scr, seqL_lst, seqL_scr, bi_lenL, bi_lenT, bi_lenS, bi_listL, bi_listT, bi_tupL, bi_tupT, bi_intI, bi_intB, bi_max2, bi_min2, rngsD_1, rngsD_2, rngsD_3, lao_lst, lstAt_se, gpo_obj, lstAt_fe, setPl_s, spo_obj, setPl_f, partE_nil, partE_ne, intO_sh, lstD_lst, fldR_sh, fldR_obj, evO_fld, negR_int, evO_neg, iteR_true, iteR_false, evO_ite, chR_true, chR_false, evC_one, evC_two, bopR_tt, bopR_tf, bopR_ft, bopR_ff, evB_cs, sfR_obj, evS_setfld, evI_e, evS_seq, evS_ite, evS_for, evS_whl, evO_lc, kSeq_nx, kSeq_ret, kIf_true, kIf_false, kLcs_true, bnd_ok, bnd_exn, bnd_fail, opt_some, opt_none, optC_some, asB_ok, asB_exn, asI_ok, getS, setS, looks, frz, frzs, gives, takeA, backA, doNew, intsD, outsOf, eqD_int, kRun_nx, kRun_ret, kRun_exn, wipeF, backF, ne_eq, not_false_eq_true, forall_const, implies_true, reduceCtorEq, List.map_cons, List.map_nil, List.cons_append, List.nil_append, List.append_nil, List.replicate_succ, List.replicate_zero, Option.map_some, and_self, if_true, if_false, decide_true, decide_false, Bool.not_true, Bool.not_false, Bool.false_eq_true, Bool.or_true, Bool.true_or, Bool.and_true, Bool.true_and, Bool.or_false, Bool.false_or, asg_name, asg_tup, asg2_some, asgs_nil, asgs_cons, evO_gint, Nat.sub_self, Nat.reduceSub, shOrNone_none, shOrNone_sh, List.all_cons, List.all_nil, evO_isi, evO_isx, evO_cntT, evO_idxT, evO_kind, kindR_ok, kindR_exn, isi_int, isi_bl, isi_str, isi_non, isi_tup, isi_lst, eqD_bl, eqD_str, isa_int_TL, isa_int_L, isa_int_S, isa_int_B, isa_int_I, isa_int_T, isa_bool_TL, isa_bool_L, isa_bool_S, isa_bool_B, isa_bool_I, isa_bool_T, isa_str_TL, isa_str_L, isa_str_S, isa_str_B, isa_str_I, isa_str_T, isa_list_TL, isa_list_L, isa_list_S, isa_list_B, isa_list_I, isa_list_T, isa_tuple_TL, isa_tuple_L, isa_tuple_S, isa_tuple_B, isa_tuple_I, isa_tuple_T, isa_none_TL, isa_none_L, isa_none_S, isa_none_B, isa_none_I, isa_none_T, eqD_nil0, List.length_nil, Nat.zero_le, oldF_nil, oldO_sh, oldO_lst, old_int, old_str, old_bl, old_non, old_scr, old_tup, old_lst, olds_nil, olds_cons, killB_true, killB_false, killF_nil, yngO_sh, yngO_lst, yng_int, yng_str, yng_bl, yng_non, yng_scr, yng_tup, yng_lstT, yng_lstF, yngs_nil, yngs_cons, oldF_cons, killF_cons, Option.map_none, Option.bind_some, Option.bind_none, killO_eq, atI_0, atI_1, atI_2, atI_3, len1, len2, len3, len4, len5, len6, len7, le_big1, le_big2, le_big3, le_big4, le_big5, le_big6, le_big7, le_big8, le_big9, le_big10, le_big11, le_big12, dr.io, hne, e3, List.length_map, show acc.length < big from by unfold big; omega]
        exact e2
      · refine ⟨t1, o1, acc, now, s1, ha, ?_⟩
        rw [whlL]
        unfold F__law_reports_w1
        simp only [evO_e1, evO_e2, evO_e3, evO_e4, evO_e5, evO_e7, evO_e9, evO_e10, evO_e11, evO_e12, evO_e14, evO_e15, evO_e16, evO_e17, evO_e18, evO_e19, evO_e20, evO_e21, evPs_e1, evPs_e2, evB_e1, evI_rng, evI_e2, evI_e3, evS_e1, evS_e3, evS_e4, evS_e5, evS_e7, evS_e8, evS_e9, evS_e10, evS_e14, evS_poke, yngL_lst, lk_lst, lk_sh, look_val, look_at, opv_sh, opv_lst, opv_obj, opv_dic, opd_var, opd_ne, frzAt_eq, fza_sh, fza_lst, give_val, give_at, dcA_some, dcB_ok, dcB_exn, doCall_eq, bin_addI, bin_addL, bin_addT, bin_sub, bin_mulI, bin_mulL, bin_fdiv, bin_mod, bin_pow, cmp_eq, cmp_ne, cmp_lt, cmp_le, cmp_gt, cmp_ge, cmp_is, cmp_isn, cmp_inL, cmp_inT, cmp_ninL, cmp_ninT, isNon_non, isNon_int, isNon_str, isNon_bl, isNon_tup, isNon_lst, ix_lst, ix_tup, ix_scr, sl_lst, sl_tup, seq_lst, seq_tup, seq_scr, seqL_lst, seqL_scr, bi_lenL, bi_lenT, bi_lenS, bi_listL, bi_listT, bi_tupL, bi_tupT, bi_intI, bi_intB, bi_max2, bi_min2, rngsD_1, rngsD_2, rngsD_3, lao_lst, lstAt_se, gpo_obj, lstAt_fe, setPl_s, spo_obj, setPl_f, partE_nil, partE_ne, intO_sh, lstD_lst, fldR_sh, fldR_obj, evO_fld, negR_int, evO_neg, iteR_true, iteR_false, evO_ite, chR_true, chR_false, evC_one, evC_two, bopR_tt, bopR_tf, bopR_ft, bopR_ff, evB_cs, sfR_obj, evS_setfld, evI_e, evS_seq, evS_ite, evS_for, evS_whl, evO_lc, kSeq_nx, kSeq_ret, kIf_true, kIf_false, kLcs_true, bnd_ok, bnd_exn, bnd_fail, opt_some, opt_none, optC_some, asB_ok, asB_exn, asI_ok, getS, setS, looks, frz, frzs, gives, takeA, backA, doNew, intsD, outsOf, eqD_int, kRun_nx, kRun_ret, kRun_exn, wipeF, backF, ne_eq, not_false_eq_true, forall_const, implies_true, reduceCtorEq, List.map_cons, List.map_nil, List.cons_append, List.nil_append, List.append_nil, List.replicate_succ, List.replicate_zero, Option.map_some, and_self, if_true, if_false, decide_true, decide_false, Bool.not_true, Bool.not_false, Bool.false_eq_true, Bool.or_true, Bool.true_or, Bool.and_true, Bool.true_and, Bool.or_false, Bool.false_or, asg_name, asg_tup, asg2_some, asgs_nil, asgs_cons, evO_gint, Nat.sub_self, Nat.reduceSub, shOrNone_none, shOrNone_sh, List.all_cons, List.all_nil, evO_isi, evO_isx, evO_cntT, evO_idxT, evO_kind, kindR_ok, kindR_exn, isi_int, isi_bl, isi_str, isi_non, isi_tup, isi_lst, eqD_bl, eqD_str, isa_int_TL, isa_int_L, isa_int_S, isa_int_B, isa_int_I, isa_int_T, isa_bool_TL, isa_bool_L, isa_bool_S, isa_bool_B, isa_bool_I, isa_bool_T, isa_str_TL, isa_str_L, isa_str_S, isa_str_B, isa_str_I, isa_str_T, isa_list_TL, isa_list_L, isa_list_S, isa_list_B, isa_list_I, isa_list_T, isa_tuple_TL, isa_tuple_L, isa_tuple_S, isa_tuple_B, isa_tuple_I, isa_tuple_T, isa_none_TL, isa_none_L, isa_none_S, isa_none_B, isa_none_I, isa_none_T, eqD_nil0, List.length_nil, Nat.zero_le, oldF_nil, oldO_sh, oldO_lst, old_int, old_str, old_bl, old_non, old_scr, old_tup, old_lst, olds_nil, olds_cons, killB_true, killB_false, killF_nil, yngO_sh, yngO_lst, yng_int, yng_str, yng_bl, yng_non, yng_scr, yng_tup, yng_lstT, yng_lstF, yngs_nil, yngs_cons, oldF_cons, killF_cons, Option.map_none, Option.bind_some, Option.bind_none, killO_eq, atI_0, atI_1, atI_2, atI_3, len1, len2, len3, len4, len5, len6, len7, le_big1, le_big2, le_big3, le_big4, le_big5, le_big6, le_big7, le_big8, le_big9, le_big10, le_big11, le_big12, hne]
  rw [runF_eq _ _ _ _ rfl]
  obtain ⟨ρ', e2, t2, o2, ms, x4, x5, x6, x7, hρ, s2, hk, hlm, _⟩ := forL_map (step := kFor cl N false (.tup (.cons (.name 4) (.cons (.name 5) .nil))) (F__law_reports_b2 i)) taskD
    (fun r ρ => ∃ (t2 : Bool) (o2 : List D) (ms : List (List Int)) (x4 x5 x6 x7 : Option O), ρ = [some (.lst t2 o2), some (.sh (.lst u (ts.map taskD))), some (.sh (.int e)), some (.lst true (ms.map (intsL true))), x4, x5, x6, x7] ∧ St ns (.lst t2 o2) ∧ (∀ m ∈ ms, Asc e m) ∧ ms.length + r.length = ts.length ∧ ∀ q ∈ r, 1 ≤ q.1 ∧ q.1 ≤ q.2 ∧ q.2 ≤ gap)
    (fun q r ρ ⟨t2, o2, ms, x4, x5, x6, x7, hρ, s2, hk, hlm, hq⟩ => by
      subst hρ
      have hq0 := hq q List.mem_cons_self
      obtain ⟨v, t3, o3, s3, a3, b3, e3⟩ := dr.run _ _ (q.2 - q.1 + 1) s2 (by omega) (by omega)
      obtain ⟨t4, o4, acc2, now2, s4, A4, e4⟩ := whl N q.1 q.2 (q.1 + v) t3 o3 (ms.map (intsL true)) [] hq0.1 hq0.2.1 hq0.2.2 s3 ⟨List.Pairwise.nil, fun _ h => nomatch h⟩ (fun _ h => nomatch h) (by simp; omega) (by omega) (by omega)
      rw [List.length_cons] at hlm
      refine ⟨[some (.lst t4 o4), some (.sh (.lst u (ts.map taskD))), some (.sh (.int e)), some (.lst true ((ms ++ [acc2]).map (intsL true))), some (.sh (.int q.1)), some (.sh (.int q.2)), some (.sh (intsL true acc2)), some (.sh (.int now2))], ?_, t4, o4, ms ++ [acc2], _, _, _, _, rfl, s4, fun m hm => ?_, ?_, fun q' hq' => hq q' (List.mem_cons_of_mem _ hq')⟩
      · unfold kFor F__law_reports_b2 taskD
        unfold taskD at e4
        rw [List.map_nil] at e4
        simp only [evO_e1, evO_e2, evO_e3, evO_e4, evO_e5, evO_e7, evO_e9, evO_e10, evO_e11, evO_e12, evO_e14, evO_e15, evO_e16, evO_e17, evO_e18, evO_e19, evO_e20, evO_e21, evPs_e1, evPs_e2, evB_e1, evI_rng, evI_e2, evI_e3, evS_e1, evS_e3, evS_e4, evS_e5, evS_e7, evS_e8, evS_e9, evS_e10, evS_e14, evS_poke, yngL_lst, lk_lst, lk_sh, look_val, look_at, opv_sh, opv_lst, opv_obj, opv_dic, opd_var, opd_ne, frzAt_eq, fza_sh, fza_lst, give_val, give_at, dcA_some, dcB_ok, dcB_exn, doCall_eq, bin_addI, bin_addL, bin_addT, bin_sub, bin_mulI, bin_mulL, bin_fdiv, bin_mod, bin_pow, cmp_eq, cmp_ne, cmp_lt, cmp_le, cmp_gt, cmp_ge, cmp_is, cmp_isn, cmp_inL, cmp_inT, cmp_ninL, cmp_ninT, isNon_non, isNon_int, isNon_str, isNon_bl, isNon_tup, isNon_lst, ix_lst, ix_tup, ix_scr, sl_lst, sl_tup, seq_lst, seq_tup, seq_scr, seqL_lst, seqL_scr, bi_lenL, bi_lenT, bi_lenS, bi_listL, bi_listT, bi_tupL, bi_tupT, bi_intI, bi_intB, bi_max2, bi_min2, rngsD_1, rngsD_2, rngsD_3, lao_lst, lstAt_se, gpo_obj, lstAt_fe, setPl_s, spo_obj, setPl_f, partE_nil, partE_ne, intO_sh, lstD_lst, fldR_sh, fldR_obj, evO_fld, negR_int, evO_neg, iteR_true, iteR_false, evO_ite, chR_true, chR_false, evC_one, evC_two, bopR_tt, bopR_tf, bopR_ft, bopR_ff, evB_cs, sfR_obj, evS_setfld, evI_e, evS_seq, evS_ite, evS_for, evS_whl, evO_lc, kSeq_nx, kSeq_ret, kIf_true, kIf_false, kLcs_true, bnd_ok, bnd_exn, bnd_fail, opt_some, opt_none, optC_some, asB_ok, asB_exn, asI_ok, getS, setS, looks, frz, frzs, gives, takeA, backA, doNew, intsD, outsOf, eqD_int, kRun_nx, kRun_ret, kRun_exn, wipeF, backF, ne_eq, not_false_eq_true, forall_const, implies_true, reduceCtorEq, List.map_cons, List.map_nil, List.cons_append, List.nil_append, List.append_nil, List.replicate_succ, List.replicate_zero, Option.map_some, and_self, if_true, if_false, decide_true, decide_false, Bool.not_true, Bool.not_false, Bool.false_eq_true, Bool.or_true, Bool.true_or, Bool.and_true, Bool.true_and, Bool.or_false, Bool.false_or, asg_name, asg_tup, asg2_some, asgs_nil, asgs_cons, evO_gint, Nat.sub_self, Nat.reduceSub, shOrNone_none, shOrNone_sh, List.all_cons, List.all_nil, evO_isi, evO_isx, evO_cntT, evO_idxT, evO_kind, kindR_ok, kindR_exn, isi_int, isi_bl, isi_str, isi_non, isi_tup, isi_lst, eqD_bl, eqD_str, isa_int_TL, isa_int_L, isa_int_S, isa_int_B, isa_int_I, isa_int_T, isa_bool_TL, isa_bool_L, isa_bool_S, isa_bool_B, isa_bool_I, isa_bool_T, isa_str_TL, isa_str_L, isa_str_S, isa_str_B, isa_str_I, isa_str_T, isa_list_TL, isa_list_L, isa_list_S, isa_list_B, isa_list_I, isa_list_T, isa_tuple_TL, isa_tuple_L, isa_tuple_S, isa_tuple_B, isa_tuple_I, isa_tuple_T, isa_none_TL, isa_none_L, isa_none_S, isa_none_B, isa_none_I, isa_none_T, eqD_nil0, List.length_nil, Nat.zero_le, oldF_nil, oldO_sh, oldO_lst, old_int, old_str, old_bl, old_non, old_scr, old_tup, old_lst, olds_nil, olds_cons, killB_true, killB_false, killF_nil, yngO_sh, yngO_lst, yng_int, yng_str, yng_bl, yng_non, yng_scr, yng_tup, yng_lstT, yng_lstF, yngs_nil, yngs_cons, oldF_cons, killF_cons, Option.map_none, Option.bind_some, Option.bind_none, killO_eq, atI_0, atI_1, atI_2, atI_3, len1, len2, len3, len4, len5, len6, len7, le_big1, le_big2, le_big3, le_big4, le_big5, le_big6, le_big7, le_big8, le_big9, le_big10, le_big11, le_big12, dr.io, e3, e4, List.length_nil, Nat.zero_le, List.length_map, show ms.length < big from by unfold big; omega, List.map_append, intsL]
      · rcases List.mem_append.mp hm with h | h
        · exact hk m h
        · rw [List.mem_singleton] at h
          subst h
          exact A4
      · rw [List.length_append, List.length_singleton]
        omega)
    ts [some (.lst t ds), some (.sh (.lst u (ts.map taskD))), some (.sh (.int e)), some (.lst true []), none, none, none, none] ⟨t, ds, [], none, none, none, none, rfl, h, fun _ h => (nomatch h), by simp, hts.ok⟩
  subst hρ
  refine ⟨ms, t2, o2, s2, hk, by simpa using hlm, ?_⟩
  unfold F__law_reports
  simp only [evO_e1, evO_e2, evO_e3, evO_e4, evO_e5, evO_e7, evO_e9, evO_e10, evO_e11, evO_e12, evO_e14, evO_e15, evO_e16, evO_e17, evO_e18, evO_e19, evO_e20, evO_e21, evPs_e1, evPs_e2, evB_e1, evI_rng, evI_e2, evI_e3, evS_e1, evS_e3, evS_e4, evS_e5, evS_e7, evS_e8, evS_e9, evS_e10, evS_e14, evS_poke, yngL_lst, lk_lst, lk_sh, look_val, look_at, opv_sh, opv_lst, opv_obj, opv_dic, opd_var, opd_ne, frzAt_eq, fza_sh, fza_lst, give_val, give_at, dcA_some, dcB_ok, dcB_exn, doCall_eq, bin_addI, bin_addL, bin_addT, bin_sub, bin_mulI, bin_mulL, bin_fdiv, bin_mod, bin_pow, cmp_eq, cmp_ne, cmp_lt, cmp_le, cmp_gt, cmp_ge, cmp_is, cmp_isn, cmp_inL, cmp_inT, cmp_ninL, cmp_ninT, isNon_non, isNon_int, isNon_str, isNon_bl, isNon_tup, isNon_lst, ix_lst, ix_tup, ix_scr, sl_lst, sl_tup, seq_lst, seq_tup, seq_scr, seqL_lst, seqL_scr, bi_lenL, bi_lenT, bi_lenS, bi_listL, bi_listT, bi_tupL, bi_tupT, bi_intI, bi_intB, bi_max2, bi_min2, rngsD_1, rngsD_2, rngsD_3, lao_lst, lstAt_se, gpo_obj, lstAt_fe, setPl_s, spo_obj, setPl_f, partE_nil, partE_ne, intO_sh, lstD_lst, fldR_sh, fldR_obj, evO_fld, negR_int, evO_neg, iteR_true, iteR_false, evO_ite, chR_true, chR_false, evC_one, evC_two, bopR_tt, bopR_tf, bopR_ft, bopR_ff, evB_cs, sfR_obj, evS_setfld, evI_e, evS_seq, evS_ite, evS_for, evS_whl, evO_lc, kSeq_nx, kSeq_ret, kIf_true, kIf_false, kLcs_true, bnd_ok, bnd_exn, bnd_fail, opt_some, opt_none, optC_some, asB_ok, asB_exn, asI_ok, getS, setS, looks, frz, frzs, gives, takeA, backA, doNew, intsD, outsOf, eqD_int, kRun_nx, kRun_ret, kRun_exn, wipeF, backF, ne_eq, not_false_eq_true, forall_const, implies_true, reduceCtorEq, List.map_cons, List.map_nil, List.cons_append, List.nil_append, List.append_nil, List.replicate_succ, List.replicate_zero, Option.map_some, and_self, if_true, if_false, decide_true, decide_false, Bool.not_true, Bool.not_false, Bool.false_eq_true, Bool.or_true, Bool.true_or, Bool.and_true, Bool.true_and, Bool.or_false, Bool.false_or, asg_name, asg_tup, asg2_some, asgs_nil, asgs_cons, evO_gint, Nat.sub_self, Nat.reduceSub, shOrNone_none, shOrNone_sh, List.all_cons, List.all_nil, evO_isi, evO_isx, evO_cntT, evO_idxT, evO_kind, kindR_ok, kindR_exn, isi_int, isi_bl, isi_str, isi_non, isi_tup, isi_lst, eqD_bl, eqD_str, isa_int_TL, isa_int_L, isa_int_S, isa_int_B, isa_int_I, isa_int_T, isa_bool_TL, isa_bool_L, isa_bool_S, isa_bool_B, isa_bool_I, isa_bool_T, isa_str_TL, isa_str_L, isa_str_S, isa_str_B, isa_str_I, isa_str_T, isa_list_TL, isa_list_L, isa_list_S, isa_list_B, isa_list_I, isa_list_T, isa_tuple_TL, isa_tuple_L, isa_tuple_S, isa_tuple_B, isa_tuple_I, isa_tuple_T, isa_none_TL, isa_none_L, isa_none_S, isa_none_B, isa_none_I, isa_none_T, eqD_nil0, List.length_nil, Nat.zero_le, oldF_nil, oldO_sh, oldO_lst, old_int, old_str, old_bl, old_non, old_scr, old_tup, old_lst, olds_nil, olds_cons, killB_true, killB_false, killF_nil, yngO_sh, yngO_lst, yng_int, yng_str, yng_bl, yng_non, yng_scr, yng_tup, yng_lstT, yng_lstF, yngs_nil, yngs_cons, oldF_cons, killF_cons, Option.map_none, Option.bind_some, Option.bind_none, killO_eq, atI_0, atI_1, atI_2, atI_3, len1, len2, len3, len4, len5, len6, len7, le_big1, le_big2, le_big3, le_big4, le_big5, le_big6, le_big7, le_big8, le_big9, le_big10, le_big11, le_big12, e2, List.length_nil, Nat.zero_le]
end WD


/-! WD, part 21: the mathematics of bites and pats. -/
namespace WD
open PySem PySem.Spec PyProof.Rows L2
/-- the first bite with no end: its moment, and whether it is late -/
def fbM (low high : Int) : Int → List Int → Int × Bool
  | last, [] => (last + high + 1, true)
  | last, p :: r => if last + high < p then (last + high + 1, true) else if p < last + low then (p, false) else fbM low high p r
def cutB (e : Int) (m : Int × Bool) : D := if m.1 ≤ e then .tup [.int m.1, .str (if m.2 then "late" else "early")] else .non
theorem late_cut (m e : Int) : lateD m e = cutB e (m, true) := rfl
theorem fbD_eq (low high e : Int) : ∀ (ps : List Int) (last : Int), (∀ p ∈ ps, p ≤ e) → fbD low high e last ps = cutB e (fbM low high last ps)
  | [], last, _ => rfl
  | p :: r, last, h => by
    have hp := h p List.mem_cons_self
    rw [fbD, fbM]
    by_cases h1 : last + high < p
    · rw [if_pos (.inl h1), if_pos h1, late_cut]
    · rw [if_neg (by omega), if_neg h1]
      by_cases h2 : p < last + low
      · rw [if_pos h2, if_pos h2]
        unfold cutB
        rw [if_pos hp]
        rfl
      · rw [if_neg h2, if_neg h2]
        exact fbD_eq low high e r p fun p hp => h p (List.mem_cons_of_mem _ hp)
theorem fbM_gt (low high e : Int) (hh : 0 ≤ high) : ∀ (ps : List Int) (last : Int), e ≤ last → (∀ p ∈ ps, e < p) → e < (fbM low high last ps).1
  | [], last, h, _ => by
    rw [fbM]
    dsimp only
    omega
  | p :: r, last, h, hp => by
    have := hp p List.mem_cons_self
    rw [fbM]
    split
    · dsimp only
      omega
    · split
      · exact this
      · exact fbM_gt low high e hh r p (by omega) fun q hq => hp q (List.mem_cons_of_mem _ hq)
theorem fbM_app (low high e : Int) (hh : 0 ≤ high) (T : List Int) (hT : ∀ p ∈ T, e < p) : ∀ (ps : List Int) (last : Int), cutB e (fbM low high last (ps ++ T)) = cutB e (fbM low high last ps)
  | [], last => by
    rw [List.nil_append]
    cases T with
    | nil => rfl
    | cons p r =>
      have hp := hT p List.mem_cons_self
      rw [fbM, fbM]
      split
      · rfl
      · rename_i h1
        have : cutB e (last + high + 1, true) = .non := by
          unfold cutB
          rw [if_neg]
          dsimp only
          omega
        rw [this]
        split
        · unfold cutB
          rw [if_neg]
          dsimp only
          omega
        · unfold cutB
          rw [if_neg]
          have := fbM_gt low high e hh r p (by omega) fun q hq => hT q (List.mem_cons_of_mem _ hq)
          omega
  | p :: r, last => by
    rw [List.cons_append, fbM, fbM]
    split
    · rfl
    · split
      · rfl
      · exact fbM_app low high e hh T hT r p
/-! ### pats -/
theorem patsL_mem (rs : Reps) : ∀ (l : List Int) (last x : Int), x ∈ patsL rs last l → x ∈ l
  | [], _, _, h => by simp [patsL] at h
  | a :: l, last, x, h => by
    rw [patsL] at h
    split at h
    · rcases List.mem_cons.mp h with rfl | h
      · exact List.mem_cons_self
      · exact List.mem_cons_of_mem _ (patsL_mem rs l _ x h)
    · exact List.mem_cons_of_mem _ (patsL_mem rs l _ x h)
theorem patsL_app (rs : Reps) (l2 : List Int) : ∀ (l1 : List Int) (last : Int), ∃ last', patsL rs last (l1 ++ l2) = patsL rs last l1 ++ patsL rs last' l2
  | [], last => ⟨last, by simp [patsL]⟩
  | a :: l1, last => by
    rw [List.cons_append, patsL, patsL]
    split
    · obtain ⟨l', h⟩ := patsL_app rs l2 l1 a
      exact ⟨l', by rw [h]; rfl⟩
    · exact patsL_app rs l2 l1 last
theorem nows_app {b e E : Int} (hb : 0 < b) (h : e ≤ E) : ∃ T, nows b E = nows b e ++ T ∧ ∀ x ∈ T, e < x := by
  unfold nows
  obtain ⟨k, hk⟩ : ∃ k, (E / b).toNat = (e / b).toNat + k := ⟨(E / b).toNat - (e / b).toNat, by
    have := Int.ediv_le_ediv hb h
    omega⟩
  rw [hk, List.range_add, List.map_append]
  refine ⟨_, rfl, fun x hx => ?_⟩
  obtain ⟨j, hj, rfl⟩ := List.mem_map.mp hx
  obtain ⟨i, _, rfl⟩ := List.mem_map.mp hj
  have h1 : e < (e / b + 1) * b := Int.lt_ediv_add_one_mul_self e hb
  have h2 : e / b + 1 ≤ ((((e / b).toNat + i : Nat) : Int) + 1) := by omega
  have h3 := Int.mul_le_mul_of_nonneg_right h2 (show 0 ≤ b by omega)
  have h4 : ((((e / b).toNat + i : Nat) : Int) + 1) * b = (((e / b).toNat + i : Nat) : Int) * b + 1 * b := Int.add_mul _ _ _
  omega
theorem nows_le {b e : Int} (hb : 0 < b) : ∀ x ∈ nows b e, x ≤ e := fun x hx => by
  unfold nows at hx
  obtain ⟨k, hk, rfl⟩ := List.mem_map.mp hx
  rw [List.mem_range] at hk
  have h2 : (k : Int) + 1 ≤ e / b := by omega
  have h3 := Int.mul_le_mul_of_nonneg_right h2 (show 0 ≤ b by omega)
  have h4 := Int.ediv_mul_le e (show b ≠ 0 by omega)
  rw [Int.add_mul] at h3
  omega
/-- what is found up to e is what is found with a later end, up to e -/
theorem found_cut (rs : Reps) {low high b e E : Int} (hh : 0 ≤ high) (hb : 0 < b) (h : e ≤ E) : fbD low high e 0 (patsL rs 0 (nows b e)) = cutB e (fbM low high 0 (patsL rs 0 (nows b E))) := by
  rw [fbD_eq _ _ _ _ _ fun p hp => nows_le hb p (patsL_mem _ _ _ _ hp)]
  obtain ⟨T, h1, h2⟩ := nows_app hb h
  obtain ⟨l', h3⟩ := patsL_app rs T (nows b e) 0
  rw [h1, h3, fbM_app low high e hh _ fun p hp => h2 p (patsL_mem _ _ _ _ hp)]
/-- one that hangs -/
def Hung (rs : Reps) (hung : Int) : Prop := ∃ q ∈ rs, ∀ m ∈ q.2, m ≤ hung
theorem Hung.none {rs : Reps} {hung : Int} (h : Hung rs hung) : ∀ (l : List Int) (last : Int), hung ≤ last → patsL rs last l = []
  | [], _, _ => rfl
  | a :: l, last, hl => by
    rw [patsL, if_neg, h.none l last hl]
    intro c
    obtain ⟨q, hq, hm⟩ := h
    have := List.all_eq_true.mp c q hq
    unfold hasR at this
    obtain ⟨m, h1, h2⟩ := List.any_eq_true.mp this
    simp only [Bool.and_eq_true, decide_eq_true_eq] at h2
    have := hm m h1
    omega
theorem Hung.once {rs : Reps} {hung : Int} (h : Hung rs hung) : ∀ (l : List Int) (last : Int), ((patsL rs last l).filter fun p => decide (hung < p)).length ≤ 1
  | [], _ => by simp [patsL]
  | a :: l, last => by
    rw [patsL]
    split
    · by_cases ha : hung < a
      · rw [h.none l a (by omega)]
        simp [ha]
      · rw [List.filter_cons, if_neg (by simpa using ha)]
        exact h.once l a
    · exact h.once l last
theorem Hung.bitten {rs : Reps} {hung low high : Int} (h : Hung rs hung) (hh : 0 ≤ high) (hlh : low ≤ high) : ∀ (l : List Int) (last : Int), last ≤ hung → (fbM low high last (patsL rs last l)).1 ≤ hung + 2 * high + 1
  | [], last, hl => by
    rw [patsL, fbM]
    dsimp only
    omega
  | a :: l, last, hl => by
    rw [patsL]
    split
    · rw [fbM]
      split
      · dsimp only
        omega
      · split
        · dsimp only
          omega
        · by_cases ha : hung < a
          · rw [h.none l a (by omega), fbM]
            dsimp only
            omega
          · exact h.bitten hh hlh l a (by omega)
    · exact h.bitten hh hlh l last hl
end WD


/-! WD, part 22: sameness, far numbers, bites moment by moment. -/
namespace WD
open PySem PySem.Spec PyProof.Rows L2
/-- _law_same(_law_found, _law_due): 0=_law_found 1=_law_due 2=_law_k -/
def F__law_same_e1 : WD.E := (.var 2)
def F__law_same_g1 (i__law_same : Nat) : WD.E := (.cons (.not (.call i__law_same (.cons (.ix (.var 0) (.var 2)) (.cons (.ix (.var 1) (.var 2)) .nil)))) .nil)
def F__law_same (i__law_same : Nat) : WD.Fn := ⟨2, 3, [false, false], (.seq (.ite (.isi (.var 1) true [.tuple, .list]) (.seq (.ite (.bop false (.cons (.not (.isi (.var 0) true [.tuple, .list])) (.cons (.cmp .ne (.isi (.var 0) false [.list]) (.isi (.var 1) false [.list])) .nil))) (.seq (.ret (.cbl false)) .skip) .skip) (.seq (.ite (.cmp .ne (.bi .len (.cons (.var 0) .nil)) (.bi .len (.cons (.var 1) .nil))) (.seq (.ret (.cbl false)) .skip) .skip) (.seq (.ret (.cmp .eq (.lc F__law_same_e1 (.name 2) (.rng (.cons (.bi .len (.cons (.var 1) .nil)) .nil)) (F__law_same_g1 i__law_same) [2]) (.lst .nil))) .skip))) .skip) (.seq (.ite (.cmp .«is» (.var 1) .cnon) (.seq (.ret (.cmp .«is» (.var 0) .cnon)) .skip) .skip) (.seq (.ite (.isi (.var 1) false [.str]) (.seq (.ret (.bop true (.cons (.isi (.var 0) false [.str]) (.cons (.cmp .eq (.var 0) (.var 1)) .nil)))) .skip) .skip) (.seq (.ite (.bop false (.cons (.isi (.var 1) false [.bool]) (.cons (.isi (.var 0) false [.bool]) .nil))) (.seq (.ret (.bop true (.cons (.isi (.var 1) false [.bool]) (.cons (.isi (.var 0) false [.bool]) (.cons (.cmp .eq (.var 0) (.var 1)) .nil))))) .skip) .skip) (.seq (.ret (.bop true (.cons (.isi (.var 0) false [.int]) (.cons (.cmp .eq (.var 0) (.var 1)) .nil)))) .skip)))))⟩
/-- _law_far(_law_state, _law_most): 0=_law_state 1=_law_most 2=_law_far_here -/
def F__law_far (i__law_drawn : Nat) : WD.Fn := ⟨2, 3, [true, false], (.seq (.set 2 (.ix (.lst (.cons (.cint 1) (.cons (.cint 20) (.cons (.bin .pow (.cint 10) (.cint 29)) .nil)))) (.call i__law_drawn (.cons (.var 0) (.cons (.cint 3) .nil))))) (.seq (.ret (.ix (.lst (.cons (.bin .sub (.bin .sub (.cint 0) (.cint 1)) (.call i__law_drawn (.cons (.var 0) (.cons (.var 2) .nil)))) (.cons (.bin .add (.bin .add (.var 1) (.cint 1)) (.call i__law_drawn (.cons (.var 0) (.cons (.var 2) .nil)))) .nil))) (.call i__law_drawn (.cons (.var 0) (.cons (.cint 2) .nil))))) .skip))⟩
/-- bitten_at(window, pats, end): 0=window 1=pats 2=end -/
def F_bitten_at (i_first_bite i_need_window : Nat) : WD.Fn := ⟨3, 3, [false, false, false], (.seq (.ex (.call i_need_window (.cons (.var 0) .nil))) (.seq (.ret (.call i_first_bite (.cons (.var 0) (.cons (.var 1) (.cons (.var 2) .nil))))) .skip))⟩
/-- _law_bite(_law_window_here, _law_pats_here, _law_end): 0=_law_window_here 1=_law_pats_here 2=_law_end 3=_law_last 4=_law_left 5=_law_now -/
def F__law_bite_w1 : WD.E := (.bop true (.cons (.cmp .ne (.var 4) (.lst .nil)) (.cons (.cmp .eq (.ix (.var 4) (.cint 0)) (.var 5)) .nil)))
def F__law_bite_b1 : WD.S := (.seq (.ite (.cmp .lt (.var 5) (.bin .add (.var 3) (.ix (.var 0) (.cint 0)))) (.seq (.ret (.tup (.cons (.var 5) (.cons (.cstr "early") .nil)))) .skip) .skip) (.seq (.set 3 (.var 5)) (.seq (.set 4 (.sl (.var 4) (.cint 1) .nil)) .skip)))
def F__law_bite_b2 : WD.S := (.seq (.ite (.cmp .eq (.var 5) (.bin .add (.bin .add (.var 3) (.ix (.var 0) (.cint 1))) (.cint 1))) (.seq (.ret (.tup (.cons (.var 5) (.cons (.cstr "late") .nil)))) .skip) .skip) (.seq (.whl F__law_bite_w1 F__law_bite_b1) .skip))
def F__law_bite : WD.Fn := ⟨3, 6, [false, false, false], (.seq (.set 3 (.cint 0)) (.seq (.set 4 (.bi .list (.cons (.var 1) .nil))) (.seq (.for_ false (.name 5) (.rng (.cons (.bin .add (.var 2) (.cint 1)) .nil)) F__law_bite_b2) (.seq (.ret .cnon) .skip))))⟩
/-- _law_pats(_law_state, _law_window_here): 0=_law_state 1=_law_window_here 2=_law_found 3=_law_last 4=_law_k 5=_law_more -/
def F__law_pats_b1 (i__law_drawn : Nat) : WD.S := (.seq (.set 5 (.bin .add (.ix (.var 1) (.cint 0)) (.call i__law_drawn (.cons (.var 0) (.cons (.bin .add (.bin .sub (.ix (.var 1) (.cint 1)) (.ix (.var 1) (.cint 0))) (.cint 1)) .nil))))) (.seq (.ite (.cmp .eq (.call i__law_drawn (.cons (.var 0) (.cons (.cint 8) .nil))) (.cint 7)) (.seq (.set 5 (.ix (.lst (.cons (.call i__law_drawn (.cons (.var 0) (.cons (.bin .add (.ix (.var 1) (.cint 1)) (.cint 4)) .nil))) (.cons (.bin .sub (.ix (.var 1) (.cint 0)) (.cint 1)) (.cons (.bin .add (.ix (.var 1) (.cint 1)) (.cint 1)) (.cons (.cint 0) .nil))))) (.call i__law_drawn (.cons (.var 0) (.cons (.cint 4) .nil))))) .skip) .skip) (.seq (.set 3 (.bin .add (.var 3) (.bi .max (.cons (.cint 0) (.cons (.var 5) .nil))))) (.seq (.app (.s 2) (.var 3)) .skip))))
def F__law_pats (i__law_drawn : Nat) : WD.Fn := ⟨2, 6, [true, false], (.seq (.set 2 (.lst .nil)) (.seq (.set 3 (.cint 0)) (.seq (.for_ false (.name 4) (.rng (.cons (.call i__law_drawn (.cons (.var 0) (.cons (.ix (.lst (.cons (.cint 9) (.cons (.cint 9) (.cons (.cint 9) (.cons (.cint 41) .nil))))) (.call i__law_drawn (.cons (.var 0) (.cons (.cint 4) .nil)))) .nil))) .nil)) (F__law_pats_b1 i__law_drawn)) (.seq (.ret (.var 2)) .skip))))⟩
mutual
/-- alike but for the lists' marks -/
inductive Like : D → D → Prop
  | non : Like .non .non
  | bl (b : Bool) : Like (.bl b) (.bl b)
  | int (i : Int) : Like (.int i) (.int i)
  | str (x : Str) : Like (.str x) (.str x)
  | tup {ds es : List D} : Likes ds es → Like (.tup ds) (.tup es)
  | lst {t u : Bool} {ds es : List D} : Likes ds es → Like (.lst t ds) (.lst u es)
inductive Likes : List D → List D → Prop
  | nil : Likes [] []
  | cons {d e : D} {ds es : List D} : Like d e → Likes ds es → Likes (d :: ds) (e :: es)
end
mutual
def dep : D → Nat
  | .tup ds => deps ds + 1
  | .lst _ ds => deps ds + 1
  | _ => 0
def deps : List D → Nat
  | [] => 0
  | d :: r => max (dep d) (deps r)
end
mutual
def wide : D → Bool
  | .tup ds => decide (ds.length ≤ 1000000) && wides ds
  | .lst _ ds => decide (ds.length ≤ 1000000) && wides ds
  | _ => true
def wides : List D → Bool
  | [] => true
  | d :: r => wide d && wides r
end
theorem Likes.len {ds es : List D} (h : Likes ds es) : ds.length = es.length := by
  induction es generalizing ds with
  | nil => cases h; rfl
  | cons e es ih =>
    cases h with
    | cons _ r => rw [List.length_cons, List.length_cons, ih r]
theorem Likes.get : ∀ {ds es : List D} (k : Nat) {e : D}, Likes ds es → es[k]? = some e → ∃ d, ds[k]? = some d ∧ Like d e
  | _, _, 0, _, .cons h _, q => by
    cases q
    exact ⟨_, rfl, h⟩
  | _, _, k + 1, _, .cons _ r, q => by
    obtain ⟨d, h1, h2⟩ := Likes.get k r (by simpa using q)
    exact ⟨d, by simpa using h1, h2⟩
  | _, _, _, _, .nil, q => by simp at q
theorem deps_mem : ∀ {es : List D} {e : D}, e ∈ es → dep e ≤ deps es
  | _ :: _, _, .head _ => by rw [deps]; omega
  | _ :: r, _, .tail _ h => by
    have := deps_mem h
    rw [deps]
    omega
theorem wides_mem : ∀ {es : List D} {e : D}, wides es = true → e ∈ es → wide e = true
  | _ :: _, _, h, .head _ => by
    rw [wides, Bool.and_eq_true] at h
    exact h.1
  | _ :: r, _, h, .tail _ m => by
    rw [wides, Bool.and_eq_true] at h
    exact wides_mem h.2 m
/-- the def, at any depth of calls -/
structure SameF (cl : Nat → Cl) (N i : Nat) : Prop where
  io : ∀ n, (cl n).io i = [false, false]
  run : ∀ n os, (cl (n + 1)).run i os = runF (cl n) N (F__law_same i) os
theorem same_rows {cl : Cl} {i : Nat} {ds es : List D} {A B : D} (hl : Likes ds es) (hz : es.length ≤ 1000000) (hA : ∀ (k : Nat) d, ds[k]? = some d → ixD A (.int (k : Int)) = some d) (hB : ∀ (k : Nat) d, es[k]? = some d → ixD B (.int (k : Int)) = some d) (hio : cl.io i = [false, false])
    (ih : ∀ d e, Like d e → e ∈ es → cl.run i [.sh d, .sh e] = .ok (.sh (.bl true)) []) :
    ∃ x, lcL (kLc cl F__law_same_e1 (.name 2) (F__law_same_g1 i) [2]) ((List.range es.length).map fun (k : Nat) => D.int (k : Int)) [] [some (.sh A), some (.sh B), none] = .ok [] [some (.sh A), some (.sh B), x] := by
  obtain ⟨ρ', e, x, hC⟩ := lcL_mapM (step := kLc cl F__law_same_e1 (.name 2) (F__law_same_g1 i) [2]) (fun (k : Nat) => D.int (k : Int)) (fun _ => none) (fun ρ => ∃ x, ρ = [some (.sh A), some (.sh B), x])
    (List.range es.length) [] [some (.sh A), some (.sh B), none] (fun k hk ρ ⟨x, h⟩ => by
      subst h
      rw [List.mem_range] at hk
      have h2 : es[k]? = some es[k] := List.getElem?_eq_getElem hk
      obtain ⟨d, h1, h3⟩ := hl.get k h2
      refine ⟨[some (.sh A), some (.sh B), some (.sh (.int (k : Int)))], ?_, _, rfl⟩
      unfold kLc F__law_same_e1 F__law_same_g1
      simp only [evO_e1, evO_e2, evO_e3, evO_e4, evO_e5, evO_e7, evO_e9, evO_e10, evO_e11, evO_e12, evO_e14, evO_e15, evO_e16, evO_e17, evO_e18, evO_e19, evO_e20, evO_e21, evPs_e1, evPs_e2, evB_e1, evI_rng, evI_e2, evI_e3, evS_e1, evS_e3, evS_e4, evS_e5, evS_e7, evS_e8, evS_e9, evS_e10, evS_e14, evS_poke, yngL_lst, lk_lst, lk_sh, look_val, look_at, opv_sh, opv_lst, opv_obj, opv_dic, opd_var, opd_ne, frzAt_eq, fza_sh, fza_lst, give_val, give_at, dcA_some, dcB_ok, dcB_exn, doCall_eq, bin_addI, bin_addL, bin_addT, bin_sub, bin_mulI, bin_mulL, bin_fdiv, bin_mod, bin_pow, cmp_eq, cmp_ne, cmp_lt, cmp_le, cmp_gt, cmp_ge, cmp_is, cmp_isn, cmp_inL, cmp_inT, cmp_ninL, cmp_ninT, isNon_non, isNon_int, isNon_str, isNon_bl, isNon_tup, isNon_lst, ix_lst, ix_tup, ix_scr, sl_lst, sl_tup, seq_lst, seq_tup, seq_scr, seqL_lst, seqL_scr, bi_lenL, bi_lenT, bi_lenS, bi_listL, bi_listT, bi_tupL, bi_tupT, bi_intI, bi_intB, bi_max2, bi_min2, rngsD_1, rngsD_2, rngsD_3, lao_lst, lstAt_se, gpo_obj, lstAt_fe, setPl_s, spo_obj, setPl_f, partE_nil, partE_ne, intO_sh, lstD_lst, fldR_sh, fldR_obj, evO_fld, negR_int, evO_neg, iteR_true, iteR_false, evO_ite, chR_true, chR_false, evC_one, evC_two, bopR_tt, bopR_tf, bopR_ft, bopR_ff, evB_cs, sfR_obj, evS_setfld, evI_e, evS_seq, evS_ite, evS_for, evS_whl, evO_lc, kSeq_nx, kSeq_ret, kIf_true, kIf_false, kLcs_true, bnd_ok, bnd_exn, bnd_fail, opt_some, opt_none, optC_some, asB_ok, asB_exn, asI_ok, getS, setS, looks, frz, frzs, gives, takeA, backA, doNew, intsD, outsOf, eqD_int, kRun_nx, kRun_ret, kRun_exn, wipeF, backF, ne_eq, not_false_eq_true, forall_const, implies_true, reduceCtorEq, List.map_cons, List.map_nil, List.cons_append, List.nil_append, List.append_nil, List.replicate_succ, List.replicate_zero, Option.map_some, and_self, if_true, if_false, decide_true, decide_false, Bool.not_true, Bool.not_false, Bool.false_eq_true, Bool.or_true, Bool.true_or, Bool.and_true, Bool.true_and, Bool.or_false, Bool.false_or, asg_name, asg_tup, asg2_some, asgs_nil, asgs_cons, evO_gint, Nat.sub_self, Nat.reduceSub, shOrNone_none, shOrNone_sh, List.all_cons, List.all_nil, evO_isi, evO_isx, evO_cntT, evO_idxT, evO_kind, kindR_ok, kindR_exn, isi_int, isi_bl, isi_str, isi_non, isi_tup, isi_lst, eqD_bl, eqD_str, isa_int_TL, isa_int_L, isa_int_S, isa_int_B, isa_int_I, isa_int_T, isa_bool_TL, isa_bool_L, isa_bool_S, isa_bool_B, isa_bool_I, isa_bool_T, isa_str_TL, isa_str_L, isa_str_S, isa_str_B, isa_str_I, isa_str_T, isa_list_TL, isa_list_L, isa_list_S, isa_list_B, isa_list_I, isa_list_T, isa_tuple_TL, isa_tuple_L, isa_tuple_S, isa_tuple_B, isa_tuple_I, isa_tuple_T, isa_none_TL, isa_none_L, isa_none_S, isa_none_B, isa_none_I, isa_none_T, eqD_nil0, List.length_nil, Nat.zero_le, oldF_nil, oldO_sh, oldO_lst, old_int, old_str, old_bl, old_non, old_scr, old_tup, old_lst, olds_nil, olds_cons, killB_true, killB_false, killF_nil, yngO_sh, yngO_lst, yng_int, yng_str, yng_bl, yng_non, yng_scr, yng_tup, yng_lstT, yng_lstF, yngs_nil, yngs_cons, oldF_cons, killF_cons, Option.map_none, Option.bind_some, Option.bind_none, killO_eq, atI_0, atI_1, atI_2, atI_3, len1, len2, len3, len4, len5, len6, len7, le_big1, le_big2, le_big3, le_big4, le_big5, le_big6, le_big7, le_big8, le_big9, le_big10, le_big11, le_big12, hio, hA k d h1, hB k _ h2, ih d es[k] h3 (List.mem_of_getElem? h2)]) ⟨_, rfl⟩ (by simp; unfold big; omega)
  subst hC
  refine ⟨x, ?_⟩
  rw [e]
  simp
theorem same_flat (cl : Cl) (N i : Nat) {d e : D} (h : Like d e) (hd : dep e = 0) : runF cl N (F__law_same i) [.sh d, .sh e] = .ok (.sh (.bl true)) [] := by
  rw [runF_eq _ _ _ _ rfl]
  unfold F__law_same
  cases h with
  | non => simp only [evO_e1, evO_e2, evO_e3, evO_e4, evO_e5, evO_e7, evO_e9, evO_e10, evO_e11, evO_e12, evO_e14, evO_e15, evO_e16, evO_e17, evO_e18, evO_e19, evO_e20, evO_e21, evPs_e1, evPs_e2, evB_e1, evI_rng, evI_e2, evI_e3, evS_e1, evS_e3, evS_e4, evS_e5, evS_e7, evS_e8, evS_e9, evS_e10, evS_e14, evS_poke, yngL_lst, lk_lst, lk_sh, look_val, look_at, opv_sh, opv_lst, opv_obj, opv_dic, opd_var, opd_ne, frzAt_eq, fza_sh, fza_lst, give_val, give_at, dcA_some, dcB_ok, dcB_exn, doCall_eq, bin_addI, bin_addL, bin_addT, bin_sub, bin_mulI, bin_mulL, bin_fdiv, bin_mod, bin_pow, cmp_eq, cmp_ne, cmp_lt, cmp_le, cmp_gt, cmp_ge, cmp_is, cmp_isn, cmp_inL, cmp_inT, cmp_ninL, cmp_ninT, isNon_non, isNon_int, isNon_str, isNon_bl, isNon_tup, isNon_lst, ix_lst, ix_tup, ix_scr, sl_lst, sl_tup, seq_lst, seq_tup, seq_scr, seqL_lst, seqL_scr, bi_lenL, bi_lenT, bi_lenS, bi_listL, bi_listT, bi_tupL, bi_tupT, bi_intI, bi_intB, bi_max2, bi_min2, rngsD_1, rngsD_2, rngsD_3, lao_lst, lstAt_se, gpo_obj, lstAt_fe, setPl_s, spo_obj, setPl_f, partE_nil, partE_ne, intO_sh, lstD_lst, fldR_sh, fldR_obj, evO_fld, negR_int, evO_neg, iteR_true, iteR_false, evO_ite, chR_true, chR_false, evC_one, evC_two, bopR_tt, bopR_tf, bopR_ft, bopR_ff, evB_cs, sfR_obj, evS_setfld, evI_e, evS_seq, evS_ite, evS_for, evS_whl, evO_lc, kSeq_nx, kSeq_ret, kIf_true, kIf_false, kLcs_true, bnd_ok, bnd_exn, bnd_fail, opt_some, opt_none, optC_some, asB_ok, asB_exn, asI_ok, getS, setS, looks, frz, frzs, gives, takeA, backA, doNew, intsD, outsOf, eqD_int, kRun_nx, kRun_ret, kRun_exn, wipeF, backF, ne_eq, not_false_eq_true, forall_const, implies_true, reduceCtorEq, List.map_cons, List.map_nil, List.cons_append, List.nil_append, List.append_nil, List.replicate_succ, List.replicate_zero, Option.map_some, and_self, if_true, if_false, decide_true, decide_false, Bool.not_true, Bool.not_false, Bool.false_eq_true, Bool.or_true, Bool.true_or, Bool.and_true, Bool.true_and, Bool.or_false, Bool.false_or, asg_name, asg_tup, asg2_some, asgs_nil, asgs_cons, evO_gint, Nat.sub_self, Nat.reduceSub, shOrNone_none, shOrNone_sh, List.all_cons, List.all_nil, evO_isi, evO_isx, evO_cntT, evO_idxT, evO_kind, kindR_ok, kindR_exn, isi_int, isi_bl, isi_str, isi_non, isi_tup, isi_lst, eqD_bl, eqD_str, isa_int_TL, isa_int_L, isa_int_S, isa_int_B, isa_int_I, isa_int_T, isa_bool_TL, isa_bool_L, isa_bool_S, isa_bool_B, isa_bool_I, isa_bool_T, isa_str_TL, isa_str_L, isa_str_S, isa_str_B, isa_str_I, isa_str_T, isa_list_TL, isa_list_L, isa_list_S, isa_list_B, isa_list_I, isa_list_T, isa_tuple_TL, isa_tuple_L, isa_tuple_S, isa_tuple_B, isa_tuple_I, isa_tuple_T, isa_none_TL, isa_none_L, isa_none_S, isa_none_B, isa_none_I, isa_none_T, eqD_nil0, List.length_nil, Nat.zero_le, oldF_nil, oldO_sh, oldO_lst, old_int, old_str, old_bl, old_non, old_scr, old_tup, old_lst, olds_nil, olds_cons, killB_true, killB_false, killF_nil, yngO_sh, yngO_lst, yng_int, yng_str, yng_bl, yng_non, yng_scr, yng_tup, yng_lstT, yng_lstF, yngs_nil, yngs_cons, oldF_cons, killF_cons, Option.map_none, Option.bind_some, Option.bind_none, killO_eq, atI_0, atI_1, atI_2, atI_3, len1, len2, len3, len4, len5, len6, len7, le_big1, le_big2, le_big3, le_big4, le_big5, le_big6, le_big7, le_big8, le_big9, le_big10, le_big11, le_big12, isNon_non]
  | bl b => simp only [evO_e1, evO_e2, evO_e3, evO_e4, evO_e5, evO_e7, evO_e9, evO_e10, evO_e11, evO_e12, evO_e14, evO_e15, evO_e16, evO_e17, evO_e18, evO_e19, evO_e20, evO_e21, evPs_e1, evPs_e2, evB_e1, evI_rng, evI_e2, evI_e3, evS_e1, evS_e3, evS_e4, evS_e5, evS_e7, evS_e8, evS_e9, evS_e10, evS_e14, evS_poke, yngL_lst, lk_lst, lk_sh, look_val, look_at, opv_sh, opv_lst, opv_obj, opv_dic, opd_var, opd_ne, frzAt_eq, fza_sh, fza_lst, give_val, give_at, dcA_some, dcB_ok, dcB_exn, doCall_eq, bin_addI, bin_addL, bin_addT, bin_sub, bin_mulI, bin_mulL, bin_fdiv, bin_mod, bin_pow, cmp_eq, cmp_ne, cmp_lt, cmp_le, cmp_gt, cmp_ge, cmp_is, cmp_isn, cmp_inL, cmp_inT, cmp_ninL, cmp_ninT, isNon_non, isNon_int, isNon_str, isNon_bl, isNon_tup, isNon_lst, ix_lst, ix_tup, ix_scr, sl_lst, sl_tup, seq_lst, seq_tup, seq_scr, seqL_lst, seqL_scr, bi_lenL, bi_lenT, bi_lenS, bi_listL, bi_listT, bi_tupL, bi_tupT, bi_intI, bi_intB, bi_max2, bi_min2, rngsD_1, rngsD_2, rngsD_3, lao_lst, lstAt_se, gpo_obj, lstAt_fe, setPl_s, spo_obj, setPl_f, partE_nil, partE_ne, intO_sh, lstD_lst, fldR_sh, fldR_obj, evO_fld, negR_int, evO_neg, iteR_true, iteR_false, evO_ite, chR_true, chR_false, evC_one, evC_two, bopR_tt, bopR_tf, bopR_ft, bopR_ff, evB_cs, sfR_obj, evS_setfld, evI_e, evS_seq, evS_ite, evS_for, evS_whl, evO_lc, kSeq_nx, kSeq_ret, kIf_true, kIf_false, kLcs_true, bnd_ok, bnd_exn, bnd_fail, opt_some, opt_none, optC_some, asB_ok, asB_exn, asI_ok, getS, setS, looks, frz, frzs, gives, takeA, backA, doNew, intsD, outsOf, eqD_int, kRun_nx, kRun_ret, kRun_exn, wipeF, backF, ne_eq, not_false_eq_true, forall_const, implies_true, reduceCtorEq, List.map_cons, List.map_nil, List.cons_append, List.nil_append, List.append_nil, List.replicate_succ, List.replicate_zero, Option.map_some, and_self, if_true, if_false, decide_true, decide_false, Bool.not_true, Bool.not_false, Bool.false_eq_true, Bool.or_true, Bool.true_or, Bool.and_true, Bool.true_and, Bool.or_false, Bool.false_or, asg_name, asg_tup, asg2_some, asgs_nil, asgs_cons, evO_gint, Nat.sub_self, Nat.reduceSub, shOrNone_none, shOrNone_sh, List.all_cons, List.all_nil, evO_isi, evO_isx, evO_cntT, evO_idxT, evO_kind, kindR_ok, kindR_exn, isi_int, isi_bl, isi_str, isi_non, isi_tup, isi_lst, eqD_bl, eqD_str, isa_int_TL, isa_int_L, isa_int_S, isa_int_B, isa_int_I, isa_int_T, isa_bool_TL, isa_bool_L, isa_bool_S, isa_bool_B, isa_bool_I, isa_bool_T, isa_str_TL, isa_str_L, isa_str_S, isa_str_B, isa_str_I, isa_str_T, isa_list_TL, isa_list_L, isa_list_S, isa_list_B, isa_list_I, isa_list_T, isa_tuple_TL, isa_tuple_L, isa_tuple_S, isa_tuple_B, isa_tuple_I, isa_tuple_T, isa_none_TL, isa_none_L, isa_none_S, isa_none_B, isa_none_I, isa_none_T, eqD_nil0, List.length_nil, Nat.zero_le, oldF_nil, oldO_sh, oldO_lst, old_int, old_str, old_bl, old_non, old_scr, old_tup, old_lst, olds_nil, olds_cons, killB_true, killB_false, killF_nil, yngO_sh, yngO_lst, yng_int, yng_str, yng_bl, yng_non, yng_scr, yng_tup, yng_lstT, yng_lstF, yngs_nil, yngs_cons, oldF_cons, killF_cons, Option.map_none, Option.bind_some, Option.bind_none, killO_eq, atI_0, atI_1, atI_2, atI_3, len1, len2, len3, len4, len5, len6, len7, le_big1, le_big2, le_big3, le_big4, le_big5, le_big6, le_big7, le_big8, le_big9, le_big10, le_big11, le_big12, isNon_bl]
  | int b => simp only [evO_e1, evO_e2, evO_e3, evO_e4, evO_e5, evO_e7, evO_e9, evO_e10, evO_e11, evO_e12, evO_e14, evO_e15, evO_e16, evO_e17, evO_e18, evO_e19, evO_e20, evO_e21, evPs_e1, evPs_e2, evB_e1, evI_rng, evI_e2, evI_e3, evS_e1, evS_e3, evS_e4, evS_e5, evS_e7, evS_e8, evS_e9, evS_e10, evS_e14, evS_poke, yngL_lst, lk_lst, lk_sh, look_val, look_at, opv_sh, opv_lst, opv_obj, opv_dic, opd_var, opd_ne, frzAt_eq, fza_sh, fza_lst, give_val, give_at, dcA_some, dcB_ok, dcB_exn, doCall_eq, bin_addI, bin_addL, bin_addT, bin_sub, bin_mulI, bin_mulL, bin_fdiv, bin_mod, bin_pow, cmp_eq, cmp_ne, cmp_lt, cmp_le, cmp_gt, cmp_ge, cmp_is, cmp_isn, cmp_inL, cmp_inT, cmp_ninL, cmp_ninT, isNon_non, isNon_int, isNon_str, isNon_bl, isNon_tup, isNon_lst, ix_lst, ix_tup, ix_scr, sl_lst, sl_tup, seq_lst, seq_tup, seq_scr, seqL_lst, seqL_scr, bi_lenL, bi_lenT, bi_lenS, bi_listL, bi_listT, bi_tupL, bi_tupT, bi_intI, bi_intB, bi_max2, bi_min2, rngsD_1, rngsD_2, rngsD_3, lao_lst, lstAt_se, gpo_obj, lstAt_fe, setPl_s, spo_obj, setPl_f, partE_nil, partE_ne, intO_sh, lstD_lst, fldR_sh, fldR_obj, evO_fld, negR_int, evO_neg, iteR_true, iteR_false, evO_ite, chR_true, chR_false, evC_one, evC_two, bopR_tt, bopR_tf, bopR_ft, bopR_ff, evB_cs, sfR_obj, evS_setfld, evI_e, evS_seq, evS_ite, evS_for, evS_whl, evO_lc, kSeq_nx, kSeq_ret, kIf_true, kIf_false, kLcs_true, bnd_ok, bnd_exn, bnd_fail, opt_some, opt_none, optC_some, asB_ok, asB_exn, asI_ok, getS, setS, looks, frz, frzs, gives, takeA, backA, doNew, intsD, outsOf, eqD_int, kRun_nx, kRun_ret, kRun_exn, wipeF, backF, ne_eq, not_false_eq_true, forall_const, implies_true, reduceCtorEq, List.map_cons, List.map_nil, List.cons_append, List.nil_append, List.append_nil, List.replicate_succ, List.replicate_zero, Option.map_some, and_self, if_true, if_false, decide_true, decide_false, Bool.not_true, Bool.not_false, Bool.false_eq_true, Bool.or_true, Bool.true_or, Bool.and_true, Bool.true_and, Bool.or_false, Bool.false_or, asg_name, asg_tup, asg2_some, asgs_nil, asgs_cons, evO_gint, Nat.sub_self, Nat.reduceSub, shOrNone_none, shOrNone_sh, List.all_cons, List.all_nil, evO_isi, evO_isx, evO_cntT, evO_idxT, evO_kind, kindR_ok, kindR_exn, isi_int, isi_bl, isi_str, isi_non, isi_tup, isi_lst, eqD_bl, eqD_str, isa_int_TL, isa_int_L, isa_int_S, isa_int_B, isa_int_I, isa_int_T, isa_bool_TL, isa_bool_L, isa_bool_S, isa_bool_B, isa_bool_I, isa_bool_T, isa_str_TL, isa_str_L, isa_str_S, isa_str_B, isa_str_I, isa_str_T, isa_list_TL, isa_list_L, isa_list_S, isa_list_B, isa_list_I, isa_list_T, isa_tuple_TL, isa_tuple_L, isa_tuple_S, isa_tuple_B, isa_tuple_I, isa_tuple_T, isa_none_TL, isa_none_L, isa_none_S, isa_none_B, isa_none_I, isa_none_T, eqD_nil0, List.length_nil, Nat.zero_le, oldF_nil, oldO_sh, oldO_lst, old_int, old_str, old_bl, old_non, old_scr, old_tup, old_lst, olds_nil, olds_cons, killB_true, killB_false, killF_nil, yngO_sh, yngO_lst, yng_int, yng_str, yng_bl, yng_non, yng_scr, yng_tup, yng_lstT, yng_lstF, yngs_nil, yngs_cons, oldF_cons, killF_cons, Option.map_none, Option.bind_some, Option.bind_none, killO_eq, atI_0, atI_1, atI_2, atI_3, len1, len2, len3, len4, len5, len6, len7, le_big1, le_big2, le_big3, le_big4, le_big5, le_big6, le_big7, le_big8, le_big9, le_big10, le_big11, le_big12, isNon_int]
  | str b => simp only [evO_e1, evO_e2, evO_e3, evO_e4, evO_e5, evO_e7, evO_e9, evO_e10, evO_e11, evO_e12, evO_e14, evO_e15, evO_e16, evO_e17, evO_e18, evO_e19, evO_e20, evO_e21, evPs_e1, evPs_e2, evB_e1, evI_rng, evI_e2, evI_e3, evS_e1, evS_e3, evS_e4, evS_e5, evS_e7, evS_e8, evS_e9, evS_e10, evS_e14, evS_poke, yngL_lst, lk_lst, lk_sh, look_val, look_at, opv_sh, opv_lst, opv_obj, opv_dic, opd_var, opd_ne, frzAt_eq, fza_sh, fza_lst, give_val, give_at, dcA_some, dcB_ok, dcB_exn, doCall_eq, bin_addI, bin_addL, bin_addT, bin_sub, bin_mulI, bin_mulL, bin_fdiv, bin_mod, bin_pow, cmp_eq, cmp_ne, cmp_lt, cmp_le, cmp_gt, cmp_ge, cmp_is, cmp_isn, cmp_inL, cmp_inT, cmp_ninL, cmp_ninT, isNon_non, isNon_int, isNon_str, isNon_bl, isNon_tup, isNon_lst, ix_lst, ix_tup, ix_scr, sl_lst, sl_tup, seq_lst, seq_tup, seq_scr, seqL_lst, seqL_scr, bi_lenL, bi_lenT, bi_lenS, bi_listL, bi_listT, bi_tupL, bi_tupT, bi_intI, bi_intB, bi_max2, bi_min2, rngsD_1, rngsD_2, rngsD_3, lao_lst, lstAt_se, gpo_obj, lstAt_fe, setPl_s, spo_obj, setPl_f, partE_nil, partE_ne, intO_sh, lstD_lst, fldR_sh, fldR_obj, evO_fld, negR_int, evO_neg, iteR_true, iteR_false, evO_ite, chR_true, chR_false, evC_one, evC_two, bopR_tt, bopR_tf, bopR_ft, bopR_ff, evB_cs, sfR_obj, evS_setfld, evI_e, evS_seq, evS_ite, evS_for, evS_whl, evO_lc, kSeq_nx, kSeq_ret, kIf_true, kIf_false, kLcs_true, bnd_ok, bnd_exn, bnd_fail, opt_some, opt_none, optC_some, asB_ok, asB_exn, asI_ok, getS, setS, looks, frz, frzs, gives, takeA, backA, doNew, intsD, outsOf, eqD_int, kRun_nx, kRun_ret, kRun_exn, wipeF, backF, ne_eq, not_false_eq_true, forall_const, implies_true, reduceCtorEq, List.map_cons, List.map_nil, List.cons_append, List.nil_append, List.append_nil, List.replicate_succ, List.replicate_zero, Option.map_some, and_self, if_true, if_false, decide_true, decide_false, Bool.not_true, Bool.not_false, Bool.false_eq_true, Bool.or_true, Bool.true_or, Bool.and_true, Bool.true_and, Bool.or_false, Bool.false_or, asg_name, asg_tup, asg2_some, asgs_nil, asgs_cons, evO_gint, Nat.sub_self, Nat.reduceSub, shOrNone_none, shOrNone_sh, List.all_cons, List.all_nil, evO_isi, evO_isx, evO_cntT, evO_idxT, evO_kind, kindR_ok, kindR_exn, isi_int, isi_bl, isi_str, isi_non, isi_tup, isi_lst, eqD_bl, eqD_str, isa_int_TL, isa_int_L, isa_int_S, isa_int_B, isa_int_I, isa_int_T, isa_bool_TL, isa_bool_L, isa_bool_S, isa_bool_B, isa_bool_I, isa_bool_T, isa_str_TL, isa_str_L, isa_str_S, isa_str_B, isa_str_I, isa_str_T, isa_list_TL, isa_list_L, isa_list_S, isa_list_B, isa_list_I, isa_list_T, isa_tuple_TL, isa_tuple_L, isa_tuple_S, isa_tuple_B, isa_tuple_I, isa_tuple_T, isa_none_TL, isa_none_L, isa_none_S, isa_none_B, isa_none_I, isa_none_T, eqD_nil0, List.length_nil, Nat.zero_le, oldF_nil, oldO_sh, oldO_lst, old_int, old_str, old_bl, old_non, old_scr, old_tup, old_lst, olds_nil, olds_cons, killB_true, killB_false, killF_nil, yngO_sh, yngO_lst, yng_int, yng_str, yng_bl, yng_non, yng_scr, yng_tup, yng_lstT, yng_lstF, yngs_nil, yngs_cons, oldF_cons, killF_cons, Option.map_none, Option.bind_some, Option.bind_none, killO_eq, atI_0, atI_1, atI_2, atI_3, len1, len2, len3, len4, len5, len6, len7, le_big1, le_big2, le_big3, le_big4, le_big5, le_big6, le_big7, le_big8, le_big9, le_big10, le_big11, le_big12, isNon_str]
  | tup _ => simp [dep] at hd
  | lst _ => simp [dep] at hd
theorem same_tup (cl : Cl) (N i : Nat) {ds es : List D} (hl : Likes ds es) (hz : es.length ≤ 1000000) (hio : cl.io i = [false, false]) (ih : ∀ d e, Like d e → e ∈ es → cl.run i [.sh d, .sh e] = .ok (.sh (.bl true)) []) :
    runF cl N (F__law_same i) [.sh (.tup ds), .sh (.tup es)] = .ok (.sh (.bl true)) [] := by
  obtain ⟨x, e1⟩ := same_rows (cl := cl) (i := i) (A := .tup ds) (B := .tup es) hl hz (fun k d h => by rw [ix_tup]; exact atI_nat h) (fun k d h => by rw [ix_tup]; exact atI_nat h) hio ih
  have e2 := rng_up (es.length : Int) (by omega) (by omega)
  rw [Int.toNat_natCast] at e2
  have e3 := hl.len
  generalize ((List.range es.length).map fun (k : Nat) => D.int (k : Int)) = items at e1 e2
  obtain ⟨n, hn⟩ : ∃ n : Int, (es.length : Int) = n := ⟨_, rfl⟩
  rw [hn] at e2
  rw [runF_eq _ _ _ _ rfl]
  unfold F__law_same
  simp only [evO_e1, evO_e2, evO_e3, evO_e4, evO_e5, evO_e7, evO_e9, evO_e10, evO_e11, evO_e12, evO_e14, evO_e15, evO_e16, evO_e17, evO_e18, evO_e19, evO_e20, evO_e21, evPs_e1, evPs_e2, evB_e1, evI_rng, evI_e2, evI_e3, evS_e1, evS_e3, evS_e4, evS_e5, evS_e7, evS_e8, evS_e9, evS_e10, evS_e14, evS_poke, yngL_lst, lk_lst, lk_sh, look_val, look_at, opv_sh, opv_lst, opv_obj, opv_dic, opd_var, opd_ne, frzAt_eq, fza_sh, fza_lst, give_val, give_at, dcA_some, dcB_ok, dcB_exn, doCall_eq, bin_addI, bin_addL, bin_addT, bin_sub, bin_mulI, bin_mulL, bin_fdiv, bin_mod, bin_pow, cmp_eq, cmp_ne, cmp_lt, cmp_le, cmp_gt, cmp_ge, cmp_is, cmp_isn, cmp_inL, cmp_inT, cmp_ninL, cmp_ninT, isNon_non, isNon_int, isNon_str, isNon_bl, isNon_tup, isNon_lst, ix_lst, ix_tup, ix_scr, sl_lst, sl_tup, seq_lst, seq_tup, seq_scr, seqL_lst, seqL_scr, bi_lenL, bi_lenT, bi_lenS, bi_listL, bi_listT, bi_tupL, bi_tupT, bi_intI, bi_intB, bi_max2, bi_min2, rngsD_1, rngsD_2, rngsD_3, lao_lst, lstAt_se, gpo_obj, lstAt_fe, setPl_s, spo_obj, setPl_f, partE_nil, partE_ne, intO_sh, lstD_lst, fldR_sh, fldR_obj, evO_fld, negR_int, evO_neg, iteR_true, iteR_false, evO_ite, chR_true, chR_false, evC_one, evC_two, bopR_tt, bopR_tf, bopR_ft, bopR_ff, evB_cs, sfR_obj, evS_setfld, evI_e, evS_seq, evS_ite, evS_for, evS_whl, evO_lc, kSeq_nx, kSeq_ret, kIf_true, kIf_false, kLcs_true, bnd_ok, bnd_exn, bnd_fail, opt_some, opt_none, optC_some, asB_ok, asB_exn, asI_ok, getS, setS, looks, frz, frzs, gives, takeA, backA, doNew, intsD, outsOf, eqD_int, kRun_nx, kRun_ret, kRun_exn, wipeF, backF, ne_eq, not_false_eq_true, forall_const, implies_true, reduceCtorEq, List.map_cons, List.map_nil, List.cons_append, List.nil_append, List.append_nil, List.replicate_succ, List.replicate_zero, Option.map_some, and_self, if_true, if_false, decide_true, decide_false, Bool.not_true, Bool.not_false, Bool.false_eq_true, Bool.or_true, Bool.true_or, Bool.and_true, Bool.true_and, Bool.or_false, Bool.false_or, asg_name, asg_tup, asg2_some, asgs_nil, asgs_cons, evO_gint, Nat.sub_self, Nat.reduceSub, shOrNone_none, shOrNone_sh, List.all_cons, List.all_nil, evO_isi, evO_isx, evO_cntT, evO_idxT, evO_kind, kindR_ok, kindR_exn, isi_int, isi_bl, isi_str, isi_non, isi_tup, isi_lst, eqD_bl, eqD_str, isa_int_TL, isa_int_L, isa_int_S, isa_int_B, isa_int_I, isa_int_T, isa_bool_TL, isa_bool_L, isa_bool_S, isa_bool_B, isa_bool_I, isa_bool_T, isa_str_TL, isa_str_L, isa_str_S, isa_str_B, isa_str_I, isa_str_T, isa_list_TL, isa_list_L, isa_list_S, isa_list_B, isa_list_I, isa_list_T, isa_tuple_TL, isa_tuple_L, isa_tuple_S, isa_tuple_B, isa_tuple_I, isa_tuple_T, isa_none_TL, isa_none_L, isa_none_S, isa_none_B, isa_none_I, isa_none_T, eqD_nil0, List.length_nil, Nat.zero_le, oldF_nil, oldO_sh, oldO_lst, old_int, old_str, old_bl, old_non, old_scr, old_tup, old_lst, olds_nil, olds_cons, killB_true, killB_false, killF_nil, yngO_sh, yngO_lst, yng_int, yng_str, yng_bl, yng_non, yng_scr, yng_tup, yng_lstT, yng_lstF, yngs_nil, yngs_cons, oldF_cons, killF_cons, Option.map_none, Option.bind_some, Option.bind_none, killO_eq, atI_0, atI_1, atI_2, atI_3, len1, len2, len3, len4, len5, len6, len7, le_big1, le_big2, le_big3, le_big4, le_big5, le_big6, le_big7, le_big8, le_big9, le_big10, le_big11, le_big12, e3, hn, e2, e1]
theorem same_lst (cl : Cl) (N i : Nat) {t u : Bool} {ds es : List D} (hl : Likes ds es) (hz : es.length ≤ 1000000) (hio : cl.io i = [false, false]) (ih : ∀ d e, Like d e → e ∈ es → cl.run i [.sh d, .sh e] = .ok (.sh (.bl true)) []) :
    runF cl N (F__law_same i) [.sh (.lst t ds), .sh (.lst u es)] = .ok (.sh (.bl true)) [] := by
  obtain ⟨x, e1⟩ := same_rows (cl := cl) (i := i) (A := .lst t ds) (B := .lst u es) hl hz (fun k d h => by rw [ix_lst]; exact atI_nat h) (fun k d h => by rw [ix_lst]; exact atI_nat h) hio ih
  have e2 := rng_up (es.length : Int) (by omega) (by omega)
  rw [Int.toNat_natCast] at e2
  have e3 := hl.len
  generalize ((List.range es.length).map fun (k : Nat) => D.int (k : Int)) = items at e1 e2
  obtain ⟨n, hn⟩ : ∃ n : Int, (es.length : Int) = n := ⟨_, rfl⟩
  rw [hn] at e2
  rw [runF_eq _ _ _ _ rfl]
  unfold F__law_same
  simp only [evO_e1, evO_e2, evO_e3, evO_e4, evO_e5, evO_e7, evO_e9, evO_e10, evO_e11, evO_e12, evO_e14, evO_e15, evO_e16, evO_e17, evO_e18, evO_e19, evO_e20, evO_e21, evPs_e1, evPs_e2, evB_e1, evI_rng, evI_e2, evI_e3, evS_e1, evS_e3, evS_e4, evS_e5, evS_e7, evS_e8, evS_e9, evS_e10, evS_e14, evS_poke, yngL_lst, lk_lst, lk_sh, look_val, look_at, opv_sh, opv_lst, opv_obj, opv_dic, opd_var, opd_ne, frzAt_eq, fza_sh, fza_lst, give_val, give_at, dcA_some, dcB_ok, dcB_exn, doCall_eq, bin_addI, bin_addL, bin_addT, bin_sub, bin_mulI, bin_mulL, bin_fdiv, bin_mod, bin_pow, cmp_eq, cmp_ne, cmp_lt, cmp_le, cmp_gt, cmp_ge, cmp_is, cmp_isn, cmp_inL, cmp_inT, cmp_ninL, cmp_ninT, isNon_non, isNon_int, isNon_str, isNon_bl, isNon_tup, isNon_lst, ix_lst, ix_tup, ix_scr, sl_lst, sl_tup, seq_lst, seq_tup, seq_scr, seqL_lst, seqL_scr, bi_lenL, bi_lenT, bi_lenS, bi_listL, bi_listT, bi_tupL, bi_tupT, bi_intI, bi_intB, bi_max2, bi_min2, rngsD_1, rngsD_2, rngsD_3, lao_lst, lstAt_se, gpo_obj, lstAt_fe, setPl_s, spo_obj, setPl_f, partE_nil, partE_ne, intO_sh, lstD_lst, fldR_sh, fldR_obj, evO_fld, negR_int, evO_neg, iteR_true, iteR_false, evO_ite, chR_true, chR_false, evC_one, evC_two, bopR_tt, bopR_tf, bopR_ft, bopR_ff, evB_cs, sfR_obj, evS_setfld, evI_e, evS_seq, evS_ite, evS_for, evS_whl, evO_lc, kSeq_nx, kSeq_ret, kIf_true, kIf_false, kLcs_true, bnd_ok, bnd_exn, bnd_fail, opt_some, opt_none, optC_some, asB_ok, asB_exn, asI_ok, getS, setS, looks, frz, frzs, gives, takeA, backA, doNew, intsD, outsOf, eqD_int, kRun_nx, kRun_ret, kRun_exn, wipeF, backF, ne_eq, not_false_eq_true, forall_const, implies_true, reduceCtorEq, List.map_cons, List.map_nil, List.cons_append, List.nil_append, List.append_nil, List.replicate_succ, List.replicate_zero, Option.map_some, and_self, if_true, if_false, decide_true, decide_false, Bool.not_true, Bool.not_false, Bool.false_eq_true, Bool.or_true, Bool.true_or, Bool.and_true, Bool.true_and, Bool.or_false, Bool.false_or, asg_name, asg_tup, asg2_some, asgs_nil, asgs_cons, evO_gint, Nat.sub_self, Nat.reduceSub, shOrNone_none, shOrNone_sh, List.all_cons, List.all_nil, evO_isi, evO_isx, evO_cntT, evO_idxT, evO_kind, kindR_ok, kindR_exn, isi_int, isi_bl, isi_str, isi_non, isi_tup, isi_lst, eqD_bl, eqD_str, isa_int_TL, isa_int_L, isa_int_S, isa_int_B, isa_int_I, isa_int_T, isa_bool_TL, isa_bool_L, isa_bool_S, isa_bool_B, isa_bool_I, isa_bool_T, isa_str_TL, isa_str_L, isa_str_S, isa_str_B, isa_str_I, isa_str_T, isa_list_TL, isa_list_L, isa_list_S, isa_list_B, isa_list_I, isa_list_T, isa_tuple_TL, isa_tuple_L, isa_tuple_S, isa_tuple_B, isa_tuple_I, isa_tuple_T, isa_none_TL, isa_none_L, isa_none_S, isa_none_B, isa_none_I, isa_none_T, eqD_nil0, List.length_nil, Nat.zero_le, oldF_nil, oldO_sh, oldO_lst, old_int, old_str, old_bl, old_non, old_scr, old_tup, old_lst, olds_nil, olds_cons, killB_true, killB_false, killF_nil, yngO_sh, yngO_lst, yng_int, yng_str, yng_bl, yng_non, yng_scr, yng_tup, yng_lstT, yng_lstF, yngs_nil, yngs_cons, oldF_cons, killF_cons, Option.map_none, Option.bind_some, Option.bind_none, killO_eq, atI_0, atI_1, atI_2, atI_3, len1, len2, len3, len4, len5, len6, len7, le_big1, le_big2, le_big3, le_big4, le_big5, le_big6, le_big7, le_big8, le_big9, le_big10, le_big11, le_big12, e3, hn, e2, e1]
theorem same_ok {cl : Nat → Cl} {N i : Nat} (S : SameF cl N i) : ∀ (k : Nat) (d e : D), Like d e → wide e = true → dep e ≤ k → (cl (k + 1)).run i [.sh d, .sh e] = .ok (.sh (.bl true)) [] := by
  intro k
  induction k with
  | zero =>
    intro d e h hw hd
    rw [S.run]
    exact same_flat _ _ _ h (by omega)
  | succ k ih =>
    intro d e h hw hd
    rw [S.run]
    by_cases h0 : dep e = 0
    · exact same_flat _ _ _ h h0
    · cases h with
      | non => simp [dep] at h0
      | bl b => simp [dep] at h0
      | int b => simp [dep] at h0
      | str b => simp [dep] at h0
      | tup hl =>
        rw [wide, Bool.and_eq_true, decide_eq_true_eq] at hw
        rw [dep] at hd
        exact same_tup _ _ _ hl hw.1 (S.io _) fun d e h m => ih d e h (wides_mem hw.2 m) (by have := deps_mem m; omega)
      | lst hl =>
        rw [wide, Bool.and_eq_true, decide_eq_true_eq] at hw
        rw [dep] at hd
        exact same_lst _ _ _ hl hw.1 (S.io _) fun d e h m => ih d e h (wides_mem hw.2 m) (by have := deps_mem m; omega)
/-! ### far numbers -/
theorem far_run (cl : Cl) (N i : Nat) {ns : List Int} (dr : DrawOk ns cl i) {t : Bool} {ds : List D} {most : Int} (h : St ns (.lst t ds)) : ∃ (v : Int) (t' : Bool) (ds' : List D), St ns (.lst t' ds') ∧ (v < 0 ∨ most < v) ∧ runF cl N (F__law_far i) [.lst t ds, .sh (.int most)] = .ok (.sh (.int v)) [.lst t' ds'] := by
  obtain ⟨x, t1, o1, s1, a1, b1, e1⟩ := dr.run _ _ 3 h (by omega) (by omega)
  obtain ⟨f, hf, hf2, hat⟩ : ∃ f : Int, 0 < f ∧ f < 2 ^ 128 ∧ atI [D.int 1, D.int 20, D.int 100000000000000000000000000000] x = some (.int f) := by
    have hx : x = 0 ∨ x = 1 ∨ x = 2 := by omega
    rcases hx with rfl | rfl | rfl
    · exact ⟨1, by omega, by omega, atI_0 _ _⟩
    · exact ⟨20, by omega, by omega, atI_1 _ _ _⟩
    · exact ⟨100000000000000000000000000000, by omega, by omega, atI_2 _ _ _ _⟩
  obtain ⟨y, t2, o2, s2, a2, b2, e2⟩ := dr.run _ _ f s1 hf hf2
  obtain ⟨z, t3, o3, s3, a3, b3, e3⟩ := dr.run _ _ f s2 hf hf2
  obtain ⟨w, t4, o4, s4, a4, b4, e4⟩ := dr.run _ _ 2 s3 (by omega) (by omega)
  rw [runF_eq _ _ _ _ rfl]
  unfold F__law_far
  have hw : w = 0 ∨ w = 1 := by omega
  rcases hw with rfl | rfl
  · refine ⟨0 - 1 - y, t4, o4, s4, by omega, ?_⟩
    simp only [evO_e1, evO_e2, evO_e3, evO_e4, evO_e5, evO_e7, evO_e9, evO_e10, evO_e11, evO_e12, evO_e14, evO_e15, evO_e16, evO_e17, evO_e18, evO_e19, evO_e20, evO_e21, evPs_e1, evPs_e2, evB_e1, evI_rng, evI_e2, evI_e3, evS_e1, evS_e3, evS_e4, evS_e5, evS_e7, evS_e8, evS_e9, evS_e10, evS_e14, evS_poke, yngL_lst, lk_lst, lk_sh, look_val, look_at, opv_sh, opv_lst, opv_obj, opv_dic, opd_var, opd_ne, frzAt_eq, fza_sh, fza_lst, give_val, give_at, dcA_some, dcB_ok, dcB_exn, doCall_eq, bin_addI, bin_addL, bin_addT, bin_sub, bin_mulI, bin_mulL, bin_fdiv, bin_mod, bin_pow, cmp_eq, cmp_ne, cmp_lt, cmp_le, cmp_gt, cmp_ge, cmp_is, cmp_isn, cmp_inL, cmp_inT, cmp_ninL, cmp_ninT, isNon_non, isNon_int, isNon_str, isNon_bl, isNon_tup, isNon_lst, ix_lst, ix_tup, ix_scr, sl_lst, sl_tup, seq_lst, seq_tup, seq_scr, seqL_lst, seqL_scr, bi_lenL, bi_lenT, bi_lenS, bi_listL, bi_listT, bi_tupL, bi_tupT, bi_intI, bi_intB, bi_max2, bi_min2, rngsD_1, rngsD_2, rngsD_3, lao_lst, lstAt_se, gpo_obj, lstAt_fe, setPl_s, spo_obj, setPl_f, partE_nil, partE_ne, intO_sh, lstD_lst, fldR_sh, fldR_obj, evO_fld, negR_int, evO_neg, iteR_true, iteR_false, evO_ite, chR_true, chR_false, evC_one, evC_two, bopR_tt, bopR_tf, bopR_ft, bopR_ff, evB_cs, sfR_obj, evS_setfld, evI_e, evS_seq, evS_ite, evS_for, evS_whl, evO_lc, kSeq_nx, kSeq_ret, kIf_true, kIf_false, kLcs_true, bnd_ok, bnd_exn, bnd_fail, opt_some, opt_none, optC_some, asB_ok, asB_exn, asI_ok, getS, setS, looks, frz, frzs, gives, takeA, backA, doNew, intsD, outsOf, eqD_int, kRun_nx, kRun_ret, kRun_exn, wipeF, backF, ne_eq, not_false_eq_true, forall_const, implies_true, reduceCtorEq, List.map_cons, List.map_nil, List.cons_append, List.nil_append, List.append_nil, List.replicate_succ, List.replicate_zero, Option.map_some, and_self, if_true, if_false, decide_true, decide_false, Bool.not_true, Bool.not_false, Bool.false_eq_true, Bool.or_true, Bool.true_or, Bool.and_true, Bool.true_and, Bool.or_false, Bool.false_or, asg_name, asg_tup, asg2_some, asgs_nil, asgs_cons, evO_gint, Nat.sub_self, Nat.reduceSub, shOrNone_none, shOrNone_sh, List.all_cons, List.all_nil, evO_isi, evO_isx, evO_cntT, evO_idxT, evO_kind, kindR_ok, kindR_exn, isi_int, isi_bl, isi_str, isi_non, isi_tup, isi_lst, eqD_bl, eqD_str, isa_int_TL, isa_int_L, isa_int_S, isa_int_B, isa_int_I, isa_int_T, isa_bool_TL, isa_bool_L, isa_bool_S, isa_bool_B, isa_bool_I, isa_bool_T, isa_str_TL, isa_str_L, isa_str_S, isa_str_B, isa_str_I, isa_str_T, isa_list_TL, isa_list_L, isa_list_S, isa_list_B, isa_list_I, isa_list_T, isa_tuple_TL, isa_tuple_L, isa_tuple_S, isa_tuple_B, isa_tuple_I, isa_tuple_T, isa_none_TL, isa_none_L, isa_none_S, isa_none_B, isa_none_I, isa_none_T, eqD_nil0, List.length_nil, Nat.zero_le, oldF_nil, oldO_sh, oldO_lst, old_int, old_str, old_bl, old_non, old_scr, old_tup, old_lst, olds_nil, olds_cons, killB_true, killB_false, killF_nil, yngO_sh, yngO_lst, yng_int, yng_str, yng_bl, yng_non, yng_scr, yng_tup, yng_lstT, yng_lstF, yngs_nil, yngs_cons, oldF_cons, killF_cons, Option.map_none, Option.bind_some, Option.bind_none, killO_eq, atI_0, atI_1, atI_2, atI_3, len1, len2, len3, len4, len5, len6, len7, le_big1, le_big2, le_big3, le_big4, le_big5, le_big6, le_big7, le_big8, le_big9, le_big10, le_big11, le_big12, dr.io, e1, e2, e3, e4, hat, atI_0, len3, len2, show 3 ≤ big from by decide, show 2 ≤ big from by decide, show (0 : Int) ≤ 29 ∧ (29 : Int) ≤ 1000 ∧ (10 : Int).natAbs < 1000000 from by decide, show ((10 : Int) ^ (29 : Int).toNat) = 100000000000000000000000000000 from by decide]
  · refine ⟨most + 1 + z, t4, o4, s4, by omega, ?_⟩
    simp only [evO_e1, evO_e2, evO_e3, evO_e4, evO_e5, evO_e7, evO_e9, evO_e10, evO_e11, evO_e12, evO_e14, evO_e15, evO_e16, evO_e17, evO_e18, evO_e19, evO_e20, evO_e21, evPs_e1, evPs_e2, evB_e1, evI_rng, evI_e2, evI_e3, evS_e1, evS_e3, evS_e4, evS_e5, evS_e7, evS_e8, evS_e9, evS_e10, evS_e14, evS_poke, yngL_lst, lk_lst, lk_sh, look_val, look_at, opv_sh, opv_lst, opv_obj, opv_dic, opd_var, opd_ne, frzAt_eq, fza_sh, fza_lst, give_val, give_at, dcA_some, dcB_ok, dcB_exn, doCall_eq, bin_addI, bin_addL, bin_addT, bin_sub, bin_mulI, bin_mulL, bin_fdiv, bin_mod, bin_pow, cmp_eq, cmp_ne, cmp_lt, cmp_le, cmp_gt, cmp_ge, cmp_is, cmp_isn, cmp_inL, cmp_inT, cmp_ninL, cmp_ninT, isNon_non, isNon_int, isNon_str, isNon_bl, isNon_tup, isNon_lst, ix_lst, ix_tup, ix_scr, sl_lst, sl_tup, seq_lst, seq_tup, seq_scr, seqL_lst, seqL_scr, bi_lenL, bi_lenT, bi_lenS, bi_listL, bi_listT, bi_tupL, bi_tupT, bi_intI, bi_intB, bi_max2, bi_min2, rngsD_1, rngsD_2, rngsD_3, lao_lst, lstAt_se, gpo_obj, lstAt_fe, setPl_s, spo_obj, setPl_f, partE_nil, partE_ne, intO_sh, lstD_lst, fldR_sh, fldR_obj, evO_fld, negR_int, evO_neg, iteR_true, iteR_false, evO_ite, chR_true, chR_false, evC_one, evC_two, bopR_tt, bopR_tf, bopR_ft, bopR_ff, evB_cs, sfR_obj, evS_setfld, evI_e, evS_seq, evS_ite, evS_for, evS_whl, evO_lc, kSeq_nx, kSeq_ret, kIf_true, kIf_false, kLcs_true, bnd_ok, bnd_exn, bnd_fail, opt_some, opt_none, optC_some, asB_ok, asB_exn, asI_ok, getS, setS, looks, frz, frzs, gives, takeA, backA, doNew, intsD, outsOf, eqD_int, kRun_nx, kRun_ret, kRun_exn, wipeF, backF, ne_eq, not_false_eq_true, forall_const, implies_true, reduceCtorEq, List.map_cons, List.map_nil, List.cons_append, List.nil_append, List.append_nil, List.replicate_succ, List.replicate_zero, Option.map_some, and_self, if_true, if_false, decide_true, decide_false, Bool.not_true, Bool.not_false, Bool.false_eq_true, Bool.or_true, Bool.true_or, Bool.and_true, Bool.true_and, Bool.or_false, Bool.false_or, asg_name, asg_tup, asg2_some, asgs_nil, asgs_cons, evO_gint, Nat.sub_self, Nat.reduceSub, shOrNone_none, shOrNone_sh, List.all_cons, List.all_nil, evO_isi, evO_isx, evO_cntT, evO_idxT, evO_kind, kindR_ok, kindR_exn, isi_int, isi_bl, isi_str, isi_non, isi_tup, isi_lst, eqD_bl, eqD_str, isa_int_TL, isa_int_L, isa_int_S, isa_int_B, isa_int_I, isa_int_T, isa_bool_TL, isa_bool_L, isa_bool_S, isa_bool_B, isa_bool_I, isa_bool_T, isa_str_TL, isa_str_L, isa_str_S, isa_str_B, isa_str_I, isa_str_T, isa_list_TL, isa_list_L, isa_list_S, isa_list_B, isa_list_I, isa_list_T, isa_tuple_TL, isa_tuple_L, isa_tuple_S, isa_tuple_B, isa_tuple_I, isa_tuple_T, isa_none_TL, isa_none_L, isa_none_S, isa_none_B, isa_none_I, isa_none_T, eqD_nil0, List.length_nil, Nat.zero_le, oldF_nil, oldO_sh, oldO_lst, old_int, old_str, old_bl, old_non, old_scr, old_tup, old_lst, olds_nil, olds_cons, killB_true, killB_false, killF_nil, yngO_sh, yngO_lst, yng_int, yng_str, yng_bl, yng_non, yng_scr, yng_tup, yng_lstT, yng_lstF, yngs_nil, yngs_cons, oldF_cons, killF_cons, Option.map_none, Option.bind_some, Option.bind_none, killO_eq, atI_0, atI_1, atI_2, atI_3, len1, len2, len3, len4, len5, len6, len7, le_big1, le_big2, le_big3, le_big4, le_big5, le_big6, le_big7, le_big8, le_big9, le_big10, le_big11, le_big12, dr.io, e1, e2, e3, e4, hat, atI_1, len3, len2, show 3 ≤ big from by decide, show 2 ≤ big from by decide, show (0 : Int) ≤ 29 ∧ (29 : Int) ≤ 1000 ∧ (10 : Int).natAbs < 1000000 from by decide, show ((10 : Int) ^ (29 : Int).toNat) = 100000000000000000000000000000 from by decide]
/-! ### bites, moment by moment -/
theorem bitten_run (cl : Cl) (N i j y : Nat) (hf : FirstOk cl i) (hw : NeedWin cl j y) (low high e : Int) (t : Bool) (ps : List Int) : runF cl N (F_bitten_at i j) [.sh (winD low high), .sh (.lst t (ps.map .int)), .sh (.int e)] =
    if winOk low high then .ok (.sh (fbD low high e 0 ps)) [] else .exn ⟨y, none⟩ [] := by
  rw [runF_eq _ _ _ _ rfl]
  unfold F_bitten_at
  cases h : winOk low high with
  | true => simp only [evO_e1, evO_e2, evO_e3, evO_e4, evO_e5, evO_e7, evO_e9, evO_e10, evO_e11, evO_e12, evO_e14, evO_e15, evO_e16, evO_e17, evO_e18, evO_e19, evO_e20, evO_e21, evPs_e1, evPs_e2, evB_e1, evI_rng, evI_e2, evI_e3, evS_e1, evS_e3, evS_e4, evS_e5, evS_e7, evS_e8, evS_e9, evS_e10, evS_e14, evS_poke, yngL_lst, lk_lst, lk_sh, look_val, look_at, opv_sh, opv_lst, opv_obj, opv_dic, opd_var, opd_ne, frzAt_eq, fza_sh, fza_lst, give_val, give_at, dcA_some, dcB_ok, dcB_exn, doCall_eq, bin_addI, bin_addL, bin_addT, bin_sub, bin_mulI, bin_mulL, bin_fdiv, bin_mod, bin_pow, cmp_eq, cmp_ne, cmp_lt, cmp_le, cmp_gt, cmp_ge, cmp_is, cmp_isn, cmp_inL, cmp_inT, cmp_ninL, cmp_ninT, isNon_non, isNon_int, isNon_str, isNon_bl, isNon_tup, isNon_lst, ix_lst, ix_tup, ix_scr, sl_lst, sl_tup, seq_lst, seq_tup, seq_scr, seqL_lst, seqL_scr, bi_lenL, bi_lenT, bi_lenS, bi_listL, bi_listT, bi_tupL, bi_tupT, bi_intI, bi_intB, bi_max2, bi_min2, rngsD_1, rngsD_2, rngsD_3, lao_lst, lstAt_se, gpo_obj, lstAt_fe, setPl_s, spo_obj, setPl_f, partE_nil, partE_ne, intO_sh, lstD_lst, fldR_sh, fldR_obj, evO_fld, negR_int, evO_neg, iteR_true, iteR_false, evO_ite, chR_true, chR_false, evC_one, evC_two, bopR_tt, bopR_tf, bopR_ft, bopR_ff, evB_cs, sfR_obj, evS_setfld, evI_e, evS_seq, evS_ite, evS_for, evS_whl, evO_lc, kSeq_nx, kSeq_ret, kIf_true, kIf_false, kLcs_true, bnd_ok, bnd_exn, bnd_fail, opt_some, opt_none, optC_some, asB_ok, asB_exn, asI_ok, getS, setS, looks, frz, frzs, gives, takeA, backA, doNew, intsD, outsOf, eqD_int, kRun_nx, kRun_ret, kRun_exn, wipeF, backF, ne_eq, not_false_eq_true, forall_const, implies_true, reduceCtorEq, List.map_cons, List.map_nil, List.cons_append, List.nil_append, List.append_nil, List.replicate_succ, List.replicate_zero, Option.map_some, and_self, if_true, if_false, decide_true, decide_false, Bool.not_true, Bool.not_false, Bool.false_eq_true, Bool.or_true, Bool.true_or, Bool.and_true, Bool.true_and, Bool.or_false, Bool.false_or, asg_name, asg_tup, asg2_some, asgs_nil, asgs_cons, evO_gint, Nat.sub_self, Nat.reduceSub, shOrNone_none, shOrNone_sh, List.all_cons, List.all_nil, evO_isi, evO_isx, evO_cntT, evO_idxT, evO_kind, kindR_ok, kindR_exn, isi_int, isi_bl, isi_str, isi_non, isi_tup, isi_lst, eqD_bl, eqD_str, isa_int_TL, isa_int_L, isa_int_S, isa_int_B, isa_int_I, isa_int_T, isa_bool_TL, isa_bool_L, isa_bool_S, isa_bool_B, isa_bool_I, isa_bool_T, isa_str_TL, isa_str_L, isa_str_S, isa_str_B, isa_str_I, isa_str_T, isa_list_TL, isa_list_L, isa_list_S, isa_list_B, isa_list_I, isa_list_T, isa_tuple_TL, isa_tuple_L, isa_tuple_S, isa_tuple_B, isa_tuple_I, isa_tuple_T, isa_none_TL, isa_none_L, isa_none_S, isa_none_B, isa_none_I, isa_none_T, eqD_nil0, List.length_nil, Nat.zero_le, oldF_nil, oldO_sh, oldO_lst, old_int, old_str, old_bl, old_non, old_scr, old_tup, old_lst, olds_nil, olds_cons, killB_true, killB_false, killF_nil, yngO_sh, yngO_lst, yng_int, yng_str, yng_bl, yng_non, yng_scr, yng_tup, yng_lstT, yng_lstF, yngs_nil, yngs_cons, oldF_cons, killF_cons, Option.map_none, Option.bind_some, Option.bind_none, killO_eq, atI_0, atI_1, atI_2, atI_3, len1, len2, len3, len4, len5, len6, len7, le_big1, le_big2, le_big3, le_big4, le_big5, le_big6, le_big7, le_big8, le_big9, le_big10, le_big11, le_big12, hw.io, hw.run, h, hf.io, hf.run]
  | false => simp only [evO_e1, evO_e2, evO_e3, evO_e4, evO_e5, evO_e7, evO_e9, evO_e10, evO_e11, evO_e12, evO_e14, evO_e15, evO_e16, evO_e17, evO_e18, evO_e19, evO_e20, evO_e21, evPs_e1, evPs_e2, evB_e1, evI_rng, evI_e2, evI_e3, evS_e1, evS_e3, evS_e4, evS_e5, evS_e7, evS_e8, evS_e9, evS_e10, evS_e14, evS_poke, yngL_lst, lk_lst, lk_sh, look_val, look_at, opv_sh, opv_lst, opv_obj, opv_dic, opd_var, opd_ne, frzAt_eq, fza_sh, fza_lst, give_val, give_at, dcA_some, dcB_ok, dcB_exn, doCall_eq, bin_addI, bin_addL, bin_addT, bin_sub, bin_mulI, bin_mulL, bin_fdiv, bin_mod, bin_pow, cmp_eq, cmp_ne, cmp_lt, cmp_le, cmp_gt, cmp_ge, cmp_is, cmp_isn, cmp_inL, cmp_inT, cmp_ninL, cmp_ninT, isNon_non, isNon_int, isNon_str, isNon_bl, isNon_tup, isNon_lst, ix_lst, ix_tup, ix_scr, sl_lst, sl_tup, seq_lst, seq_tup, seq_scr, seqL_lst, seqL_scr, bi_lenL, bi_lenT, bi_lenS, bi_listL, bi_listT, bi_tupL, bi_tupT, bi_intI, bi_intB, bi_max2, bi_min2, rngsD_1, rngsD_2, rngsD_3, lao_lst, lstAt_se, gpo_obj, lstAt_fe, setPl_s, spo_obj, setPl_f, partE_nil, partE_ne, intO_sh, lstD_lst, fldR_sh, fldR_obj, evO_fld, negR_int, evO_neg, iteR_true, iteR_false, evO_ite, chR_true, chR_false, evC_one, evC_two, bopR_tt, bopR_tf, bopR_ft, bopR_ff, evB_cs, sfR_obj, evS_setfld, evI_e, evS_seq, evS_ite, evS_for, evS_whl, evO_lc, kSeq_nx, kSeq_ret, kIf_true, kIf_false, kLcs_true, bnd_ok, bnd_exn, bnd_fail, opt_some, opt_none, optC_some, asB_ok, asB_exn, asI_ok, getS, setS, looks, frz, frzs, gives, takeA, backA, doNew, intsD, outsOf, eqD_int, kRun_nx, kRun_ret, kRun_exn, wipeF, backF, ne_eq, not_false_eq_true, forall_const, implies_true, reduceCtorEq, List.map_cons, List.map_nil, List.cons_append, List.nil_append, List.append_nil, List.replicate_succ, List.replicate_zero, Option.map_some, and_self, if_true, if_false, decide_true, decide_false, Bool.not_true, Bool.not_false, Bool.false_eq_true, Bool.or_true, Bool.true_or, Bool.and_true, Bool.true_and, Bool.or_false, Bool.false_or, asg_name, asg_tup, asg2_some, asgs_nil, asgs_cons, evO_gint, Nat.sub_self, Nat.reduceSub, shOrNone_none, shOrNone_sh, List.all_cons, List.all_nil, evO_isi, evO_isx, evO_cntT, evO_idxT, evO_kind, kindR_ok, kindR_exn, isi_int, isi_bl, isi_str, isi_non, isi_tup, isi_lst, eqD_bl, eqD_str, isa_int_TL, isa_int_L, isa_int_S, isa_int_B, isa_int_I, isa_int_T, isa_bool_TL, isa_bool_L, isa_bool_S, isa_bool_B, isa_bool_I, isa_bool_T, isa_str_TL, isa_str_L, isa_str_S, isa_str_B, isa_str_I, isa_str_T, isa_list_TL, isa_list_L, isa_list_S, isa_list_B, isa_list_I, isa_list_T, isa_tuple_TL, isa_tuple_L, isa_tuple_S, isa_tuple_B, isa_tuple_I, isa_tuple_T, isa_none_TL, isa_none_L, isa_none_S, isa_none_B, isa_none_I, isa_none_T, eqD_nil0, List.length_nil, Nat.zero_le, oldF_nil, oldO_sh, oldO_lst, old_int, old_str, old_bl, old_non, old_scr, old_tup, old_lst, olds_nil, olds_cons, killB_true, killB_false, killF_nil, yngO_sh, yngO_lst, yng_int, yng_str, yng_bl, yng_non, yng_scr, yng_tup, yng_lstT, yng_lstF, yngs_nil, yngs_cons, oldF_cons, killF_cons, Option.map_none, Option.bind_some, Option.bind_none, killO_eq, atI_0, atI_1, atI_2, atI_3, len1, len2, len3, len4, len5, len6, len7, le_big1, le_big2, le_big3, le_big4, le_big5, le_big6, le_big7, le_big8, le_big9, le_big10, le_big11, le_big12, hw.io, hw.run, h, hf.io, hf.run]
theorem cut_tail {α : Type} (x : α) (r : List α) : cutA (x :: r) (some 1) none = r := by
  unfold cutA
  rw [HT.sIx_none, show (1 : Int) = ((1 : Nat) : Int) from rfl, HT.sIx_nat]
  have : min 1 (x :: r).length = 1 := by simp
  rw [this]
  simp
theorem ints_nb (ps : List Int) : nbP (py (.lst true (ps.map D.int))) = true := nb_intsL true ps
theorem ne_nil_ints (t u : Bool) (ps : List Int) : eqD (.lst t (ps.map D.int)) (.lst u []) = some ps.isEmpty := by
  rw [eqD_nil fun d hd => ?_]
  · cases ps <;> rfl
  · obtain ⟨i, _, rfl⟩ := List.mem_map.mp hd
    exact nb_int i
theorem pw_le_tail {p : Int} {r : List Int} (h : (p :: r).Pairwise (· ≤ ·)) : r.Pairwise (· ≤ ·) ∧ ∀ q ∈ r, p ≤ q := ⟨(List.pairwise_cons.mp h).2, (List.pairwise_cons.mp h).1⟩
/-- the pats of one moment -/
theorem bite_whl (cl : Cl) (N : Nat) (low high e now : Int) (x1 : Option O) (hne : now ≤ e) : ∀ (n : Nat) (last : Int) (t : Bool) (left : List Int), left.length < n → left.Pairwise (· ≤ ·) → (∀ p ∈ left, now ≤ p) → last ≤ now → now ≤ last + high → 0 ≤ high →
    (∃ last' t' left', left'.Pairwise (· ≤ ·) ∧ (∀ p ∈ left', now + 1 ≤ p) ∧ last' ≤ now ∧ now ≤ last' + high ∧ left'.length ≤ left.length ∧ fbD low high e last' left' = fbD low high e last left ∧
      whlL (evO cl F__law_bite_w1) (evS cl N F__law_bite_b1) n [some (.sh (winD low high)), x1, some (.sh (.int e)), some (.sh (.int last)), some (.lst t (left.map .int)), some (.sh (.int now))] =
        .ok .nx [some (.sh (winD low high)), x1, some (.sh (.int e)), some (.sh (.int last')), some (.lst t' (left'.map .int)), some (.sh (.int now))]) ∨
    (∃ ρ', whlL (evO cl F__law_bite_w1) (evS cl N F__law_bite_b1) n [some (.sh (winD low high)), x1, some (.sh (.int e)), some (.sh (.int last)), some (.lst t (left.map .int)), some (.sh (.int now))] =
        .ok (.ret (.sh (fbD low high e last left))) ρ') := by
  intro n
  induction n with
  | zero =>
    intro last t left h
    omega
  | succ n ih =>
    intro last t left h1 h2 h3 h4 h5 h6
    cases left with
    | nil =>
      refine .inl ⟨last, t, [], h2, fun _ h => (nomatch h), h4, h5, Nat.le_refl _, rfl, whl_stop ?_⟩
      unfold F__law_bite_w1
      have := ne_nil_ints t true []
      rw [List.map_nil] at this
      simp only [evO_e1, evO_e2, evO_e3, evO_e4, evO_e5, evO_e7, evO_e9, evO_e10, evO_e11, evO_e12, evO_e14, evO_e15, evO_e16, evO_e17, evO_e18, evO_e19, evO_e20, evO_e21, evPs_e1, evPs_e2, evB_e1, evI_rng, evI_e2, evI_e3, evS_e1, evS_e3, evS_e4, evS_e5, evS_e7, evS_e8, evS_e9, evS_e10, evS_e14, evS_poke, yngL_lst, lk_lst, lk_sh, look_val, look_at, opv_sh, opv_lst, opv_obj, opv_dic, opd_var, opd_ne, frzAt_eq, fza_sh, fza_lst, give_val, give_at, dcA_some, dcB_ok, dcB_exn, doCall_eq, bin_addI, bin_addL, bin_addT, bin_sub, bin_mulI, bin_mulL, bin_fdiv, bin_mod, bin_pow, cmp_eq, cmp_ne, cmp_lt, cmp_le, cmp_gt, cmp_ge, cmp_is, cmp_isn, cmp_inL, cmp_inT, cmp_ninL, cmp_ninT, isNon_non, isNon_int, isNon_str, isNon_bl, isNon_tup, isNon_lst, ix_lst, ix_tup, ix_scr, sl_lst, sl_tup, seq_lst, seq_tup, seq_scr, seqL_lst, seqL_scr, bi_lenL, bi_lenT, bi_lenS, bi_listL, bi_listT, bi_tupL, bi_tupT, bi_intI, bi_intB, bi_max2, bi_min2, rngsD_1, rngsD_2, rngsD_3, lao_lst, lstAt_se, gpo_obj, lstAt_fe, setPl_s, spo_obj, setPl_f, partE_nil, partE_ne, intO_sh, lstD_lst, fldR_sh, fldR_obj, evO_fld, negR_int, evO_neg, iteR_true, iteR_false, evO_ite, chR_true, chR_false, evC_one, evC_two, bopR_tt, bopR_tf, bopR_ft, bopR_ff, evB_cs, sfR_obj, evS_setfld, evI_e, evS_seq, evS_ite, evS_for, evS_whl, evO_lc, kSeq_nx, kSeq_ret, kIf_true, kIf_false, kLcs_true, bnd_ok, bnd_exn, bnd_fail, opt_some, opt_none, optC_some, asB_ok, asB_exn, asI_ok, getS, setS, looks, frz, frzs, gives, takeA, backA, doNew, intsD, outsOf, eqD_int, kRun_nx, kRun_ret, kRun_exn, wipeF, backF, ne_eq, not_false_eq_true, forall_const, implies_true, reduceCtorEq, List.map_cons, List.map_nil, List.cons_append, List.nil_append, List.append_nil, List.replicate_succ, List.replicate_zero, Option.map_some, and_self, if_true, if_false, decide_true, decide_false, Bool.not_true, Bool.not_false, Bool.false_eq_true, Bool.or_true, Bool.true_or, Bool.and_true, Bool.true_and, Bool.or_false, Bool.false_or, asg_name, asg_tup, asg2_some, asgs_nil, asgs_cons, evO_gint, Nat.sub_self, Nat.reduceSub, shOrNone_none, shOrNone_sh, List.all_cons, List.all_nil, evO_isi, evO_isx, evO_cntT, evO_idxT, evO_kind, kindR_ok, kindR_exn, isi_int, isi_bl, isi_str, isi_non, isi_tup, isi_lst, eqD_bl, eqD_str, isa_int_TL, isa_int_L, isa_int_S, isa_int_B, isa_int_I, isa_int_T, isa_bool_TL, isa_bool_L, isa_bool_S, isa_bool_B, isa_bool_I, isa_bool_T, isa_str_TL, isa_str_L, isa_str_S, isa_str_B, isa_str_I, isa_str_T, isa_list_TL, isa_list_L, isa_list_S, isa_list_B, isa_list_I, isa_list_T, isa_tuple_TL, isa_tuple_L, isa_tuple_S, isa_tuple_B, isa_tuple_I, isa_tuple_T, isa_none_TL, isa_none_L, isa_none_S, isa_none_B, isa_none_I, isa_none_T, eqD_nil0, List.length_nil, Nat.zero_le, oldF_nil, oldO_sh, oldO_lst, old_int, old_str, old_bl, old_non, old_scr, old_tup, old_lst, olds_nil, olds_cons, killB_true, killB_false, killF_nil, yngO_sh, yngO_lst, yng_int, yng_str, yng_bl, yng_non, yng_scr, yng_tup, yng_lstT, yng_lstF, yngs_nil, yngs_cons, oldF_cons, killF_cons, Option.map_none, Option.bind_some, Option.bind_none, killO_eq, atI_0, atI_1, atI_2, atI_3, len1, len2, len3, len4, len5, len6, len7, le_big1, le_big2, le_big3, le_big4, le_big5, le_big6, le_big7, le_big8, le_big9, le_big10, le_big11, le_big12, this, List.isEmpty_nil]
    | cons p r =>
      have hne2 := ne_nil_ints t true (p :: r)
      rw [List.map_cons] at hne2
      obtain ⟨hr, hpr⟩ := pw_le_tail h2
      have hp := h3 p List.mem_cons_self
      by_cases hpn : p = now
      · subst hpn
        rw [fbD, if_neg (by omega)]
        have hc : evO cl F__law_bite_w1 [some (.sh (winD low high)), x1, some (.sh (.int e)), some (.sh (.int last)), some (.lst t ((p :: r).map .int)), some (.sh (.int p))] = .ok (.sh (.bl true)) [some (.sh (winD low high)), x1, some (.sh (.int e)), some (.sh (.int last)), some (.lst t ((p :: r).map .int)), some (.sh (.int p))] := by
          unfold F__law_bite_w1
          simp only [evO_e1, evO_e2, evO_e3, evO_e4, evO_e5, evO_e7, evO_e9, evO_e10, evO_e11, evO_e12, evO_e14, evO_e15, evO_e16, evO_e17, evO_e18, evO_e19, evO_e20, evO_e21, evPs_e1, evPs_e2, evB_e1, evI_rng, evI_e2, evI_e3, evS_e1, evS_e3, evS_e4, evS_e5, evS_e7, evS_e8, evS_e9, evS_e10, evS_e14, evS_poke, yngL_lst, lk_lst, lk_sh, look_val, look_at, opv_sh, opv_lst, opv_obj, opv_dic, opd_var, opd_ne, frzAt_eq, fza_sh, fza_lst, give_val, give_at, dcA_some, dcB_ok, dcB_exn, doCall_eq, bin_addI, bin_addL, bin_addT, bin_sub, bin_mulI, bin_mulL, bin_fdiv, bin_mod, bin_pow, cmp_eq, cmp_ne, cmp_lt, cmp_le, cmp_gt, cmp_ge, cmp_is, cmp_isn, cmp_inL, cmp_inT, cmp_ninL, cmp_ninT, isNon_non, isNon_int, isNon_str, isNon_bl, isNon_tup, isNon_lst, ix_lst, ix_tup, ix_scr, sl_lst, sl_tup, seq_lst, seq_tup, seq_scr, seqL_lst, seqL_scr, bi_lenL, bi_lenT, bi_lenS, bi_listL, bi_listT, bi_tupL, bi_tupT, bi_intI, bi_intB, bi_max2, bi_min2, rngsD_1, rngsD_2, rngsD_3, lao_lst, lstAt_se, gpo_obj, lstAt_fe, setPl_s, spo_obj, setPl_f, partE_nil, partE_ne, intO_sh, lstD_lst, fldR_sh, fldR_obj, evO_fld, negR_int, evO_neg, iteR_true, iteR_false, evO_ite, chR_true, chR_false, evC_one, evC_two, bopR_tt, bopR_tf, bopR_ft, bopR_ff, evB_cs, sfR_obj, evS_setfld, evI_e, evS_seq, evS_ite, evS_for, evS_whl, evO_lc, kSeq_nx, kSeq_ret, kIf_true, kIf_false, kLcs_true, bnd_ok, bnd_exn, bnd_fail, opt_some, opt_none, optC_some, asB_ok, asB_exn, asI_ok, getS, setS, looks, frz, frzs, gives, takeA, backA, doNew, intsD, outsOf, eqD_int, kRun_nx, kRun_ret, kRun_exn, wipeF, backF, ne_eq, not_false_eq_true, forall_const, implies_true, reduceCtorEq, List.map_cons, List.map_nil, List.cons_append, List.nil_append, List.append_nil, List.replicate_succ, List.replicate_zero, Option.map_some, and_self, if_true, if_false, decide_true, decide_false, Bool.not_true, Bool.not_false, Bool.false_eq_true, Bool.or_true, Bool.true_or, Bool.and_true, Bool.true_and, Bool.or_false, Bool.false_or, asg_name, asg_tup, asg2_some, asgs_nil, asgs_cons, evO_gint, Nat.sub_self, Nat.reduceSub, shOrNone_none, shOrNone_sh, List.all_cons, List.all_nil, evO_isi, evO_isx, evO_cntT, evO_idxT, evO_kind, kindR_ok, kindR_exn, isi_int, isi_bl, isi_str, isi_non, isi_tup, isi_lst, eqD_bl, eqD_str, isa_int_TL, isa_int_L, isa_int_S, isa_int_B, isa_int_I, isa_int_T, isa_bool_TL, isa_bool_L, isa_bool_S, isa_bool_B, isa_bool_I, isa_bool_T, isa_str_TL, isa_str_L, isa_str_S, isa_str_B, isa_str_I, isa_str_T, isa_list_TL, isa_list_L, isa_list_S, isa_list_B, isa_list_I, isa_list_T, isa_tuple_TL, isa_tuple_L, isa_tuple_S, isa_tuple_B, isa_tuple_I, isa_tuple_T, isa_none_TL, isa_none_L, isa_none_S, isa_none_B, isa_none_I, isa_none_T, eqD_nil0, List.length_nil, Nat.zero_le, oldF_nil, oldO_sh, oldO_lst, old_int, old_str, old_bl, old_non, old_scr, old_tup, old_lst, olds_nil, olds_cons, killB_true, killB_false, killF_nil, yngO_sh, yngO_lst, yng_int, yng_str, yng_bl, yng_non, yng_scr, yng_tup, yng_lstT, yng_lstF, yngs_nil, yngs_cons, oldF_cons, killF_cons, Option.map_none, Option.bind_some, Option.bind_none, killO_eq, atI_0, atI_1, atI_2, atI_3, len1, len2, len3, len4, len5, len6, len7, le_big1, le_big2, le_big3, le_big4, le_big5, le_big6, le_big7, le_big8, le_big9, le_big10, le_big11, le_big12, hne2, List.isEmpty_cons, atI_0]
        by_cases hlow : p < last + low
        · rw [if_pos hlow]
          refine .inr ⟨[some (.sh (winD low high)), x1, some (.sh (.int e)), some (.sh (.int last)), some (.lst t ((p :: r).map .int)), some (.sh (.int p))], whl_ret hc ?_⟩
          unfold F__law_bite_b1 winD
          simp only [evO_e1, evO_e2, evO_e3, evO_e4, evO_e5, evO_e7, evO_e9, evO_e10, evO_e11, evO_e12, evO_e14, evO_e15, evO_e16, evO_e17, evO_e18, evO_e19, evO_e20, evO_e21, evPs_e1, evPs_e2, evB_e1, evI_rng, evI_e2, evI_e3, evS_e1, evS_e3, evS_e4, evS_e5, evS_e7, evS_e8, evS_e9, evS_e10, evS_e14, evS_poke, yngL_lst, lk_lst, lk_sh, look_val, look_at, opv_sh, opv_lst, opv_obj, opv_dic, opd_var, opd_ne, frzAt_eq, fza_sh, fza_lst, give_val, give_at, dcA_some, dcB_ok, dcB_exn, doCall_eq, bin_addI, bin_addL, bin_addT, bin_sub, bin_mulI, bin_mulL, bin_fdiv, bin_mod, bin_pow, cmp_eq, cmp_ne, cmp_lt, cmp_le, cmp_gt, cmp_ge, cmp_is, cmp_isn, cmp_inL, cmp_inT, cmp_ninL, cmp_ninT, isNon_non, isNon_int, isNon_str, isNon_bl, isNon_tup, isNon_lst, ix_lst, ix_tup, ix_scr, sl_lst, sl_tup, seq_lst, seq_tup, seq_scr, seqL_lst, seqL_scr, bi_lenL, bi_lenT, bi_lenS, bi_listL, bi_listT, bi_tupL, bi_tupT, bi_intI, bi_intB, bi_max2, bi_min2, rngsD_1, rngsD_2, rngsD_3, lao_lst, lstAt_se, gpo_obj, lstAt_fe, setPl_s, spo_obj, setPl_f, partE_nil, partE_ne, intO_sh, lstD_lst, fldR_sh, fldR_obj, evO_fld, negR_int, evO_neg, iteR_true, iteR_false, evO_ite, chR_true, chR_false, evC_one, evC_two, bopR_tt, bopR_tf, bopR_ft, bopR_ff, evB_cs, sfR_obj, evS_setfld, evI_e, evS_seq, evS_ite, evS_for, evS_whl, evO_lc, kSeq_nx, kSeq_ret, kIf_true, kIf_false, kLcs_true, bnd_ok, bnd_exn, bnd_fail, opt_some, opt_none, optC_some, asB_ok, asB_exn, asI_ok, getS, setS, looks, frz, frzs, gives, takeA, backA, doNew, intsD, outsOf, eqD_int, kRun_nx, kRun_ret, kRun_exn, wipeF, backF, ne_eq, not_false_eq_true, forall_const, implies_true, reduceCtorEq, List.map_cons, List.map_nil, List.cons_append, List.nil_append, List.append_nil, List.replicate_succ, List.replicate_zero, Option.map_some, and_self, if_true, if_false, decide_true, decide_false, Bool.not_true, Bool.not_false, Bool.false_eq_true, Bool.or_true, Bool.true_or, Bool.and_true, Bool.true_and, Bool.or_false, Bool.false_or, asg_name, asg_tup, asg2_some, asgs_nil, asgs_cons, evO_gint, Nat.sub_self, Nat.reduceSub, shOrNone_none, shOrNone_sh, List.all_cons, List.all_nil, evO_isi, evO_isx, evO_cntT, evO_idxT, evO_kind, kindR_ok, kindR_exn, isi_int, isi_bl, isi_str, isi_non, isi_tup, isi_lst, eqD_bl, eqD_str, isa_int_TL, isa_int_L, isa_int_S, isa_int_B, isa_int_I, isa_int_T, isa_bool_TL, isa_bool_L, isa_bool_S, isa_bool_B, isa_bool_I, isa_bool_T, isa_str_TL, isa_str_L, isa_str_S, isa_str_B, isa_str_I, isa_str_T, isa_list_TL, isa_list_L, isa_list_S, isa_list_B, isa_list_I, isa_list_T, isa_tuple_TL, isa_tuple_L, isa_tuple_S, isa_tuple_B, isa_tuple_I, isa_tuple_T, isa_none_TL, isa_none_L, isa_none_S, isa_none_B, isa_none_I, isa_none_T, eqD_nil0, List.length_nil, Nat.zero_le, oldF_nil, oldO_sh, oldO_lst, old_int, old_str, old_bl, old_non, old_scr, old_tup, old_lst, olds_nil, olds_cons, killB_true, killB_false, killF_nil, yngO_sh, yngO_lst, yng_int, yng_str, yng_bl, yng_non, yng_scr, yng_tup, yng_lstT, yng_lstF, yngs_nil, yngs_cons, oldF_cons, killF_cons, Option.map_none, Option.bind_some, Option.bind_none, killO_eq, atI_0, atI_1, atI_2, atI_3, len1, len2, len3, len4, len5, len6, len7, le_big1, le_big2, le_big3, le_big4, le_big5, le_big6, le_big7, le_big8, le_big9, le_big10, le_big11, le_big12, atI_0, hlow, len2, show 2 ≤ big from by decide]
        · rw [if_neg hlow]
          have hb : evS cl N F__law_bite_b1 [some (.sh (winD low high)), x1, some (.sh (.int e)), some (.sh (.int last)), some (.lst t ((p :: r).map .int)), some (.sh (.int p))] = .ok .nx [some (.sh (winD low high)), x1, some (.sh (.int e)), some (.sh (.int p)), some (.lst true (r.map .int)), some (.sh (.int p))] := by
            unfold F__law_bite_b1 winD
            simp only [evO_e1, evO_e2, evO_e3, evO_e4, evO_e5, evO_e7, evO_e9, evO_e10, evO_e11, evO_e12, evO_e14, evO_e15, evO_e16, evO_e17, evO_e18, evO_e19, evO_e20, evO_e21, evPs_e1, evPs_e2, evB_e1, evI_rng, evI_e2, evI_e3, evS_e1, evS_e3, evS_e4, evS_e5, evS_e7, evS_e8, evS_e9, evS_e10, evS_e14, evS_poke, yngL_lst, lk_lst, lk_sh, look_val, look_at, opv_sh, opv_lst, opv_obj, opv_dic, opd_var, opd_ne, frzAt_eq, fza_sh, fza_lst, give_val, give_at, dcA_some, dcB_ok, dcB_exn, doCall_eq, bin_addI, bin_addL, bin_addT, bin_sub, bin_mulI, bin_mulL, bin_fdiv, bin_mod, bin_pow, cmp_eq, cmp_ne, cmp_lt, cmp_le, cmp_gt, cmp_ge, cmp_is, cmp_isn, cmp_inL, cmp_inT, cmp_ninL, cmp_ninT, isNon_non, isNon_int, isNon_str, isNon_bl, isNon_tup, isNon_lst, ix_lst, ix_tup, ix_scr, sl_lst, sl_tup, seq_lst, seq_tup, seq_scr, seqL_lst, seqL_scr, bi_lenL, bi_lenT, bi_lenS, bi_listL, bi_listT, bi_tupL, bi_tupT, bi_intI, bi_intB, bi_max2, bi_min2, rngsD_1, rngsD_2, rngsD_3, lao_lst, lstAt_se, gpo_obj, lstAt_fe, setPl_s, spo_obj, setPl_f, partE_nil, partE_ne, intO_sh, lstD_lst, fldR_sh, fldR_obj, evO_fld, negR_int, evO_neg, iteR_true, iteR_false, evO_ite, chR_true, chR_false, evC_one, evC_two, bopR_tt, bopR_tf, bopR_ft, bopR_ff, evB_cs, sfR_obj, evS_setfld, evI_e, evS_seq, evS_ite, evS_for, evS_whl, evO_lc, kSeq_nx, kSeq_ret, kIf_true, kIf_false, kLcs_true, bnd_ok, bnd_exn, bnd_fail, opt_some, opt_none, optC_some, asB_ok, asB_exn, asI_ok, getS, setS, looks, frz, frzs, gives, takeA, backA, doNew, intsD, outsOf, eqD_int, kRun_nx, kRun_ret, kRun_exn, wipeF, backF, ne_eq, not_false_eq_true, forall_const, implies_true, reduceCtorEq, List.map_cons, List.map_nil, List.cons_append, List.nil_append, List.append_nil, List.replicate_succ, List.replicate_zero, Option.map_some, and_self, if_true, if_false, decide_true, decide_false, Bool.not_true, Bool.not_false, Bool.false_eq_true, Bool.or_true, Bool.true_or, Bool.and_true, Bool.true_and, Bool.or_false, Bool.false_or, asg_name, asg_tup, asg2_some, asgs_nil, asgs_cons, evO_gint, Nat.sub_self, Nat.reduceSub, shOrNone_none, shOrNone_sh, List.all_cons, List.all_nil, evO_isi, evO_isx, evO_cntT, evO_idxT, evO_kind, kindR_ok, kindR_exn, isi_int, isi_bl, isi_str, isi_non, isi_tup, isi_lst, eqD_bl, eqD_str, isa_int_TL, isa_int_L, isa_int_S, isa_int_B, isa_int_I, isa_int_T, isa_bool_TL, isa_bool_L, isa_bool_S, isa_bool_B, isa_bool_I, isa_bool_T, isa_str_TL, isa_str_L, isa_str_S, isa_str_B, isa_str_I, isa_str_T, isa_list_TL, isa_list_L, isa_list_S, isa_list_B, isa_list_I, isa_list_T, isa_tuple_TL, isa_tuple_L, isa_tuple_S, isa_tuple_B, isa_tuple_I, isa_tuple_T, isa_none_TL, isa_none_L, isa_none_S, isa_none_B, isa_none_I, isa_none_T, eqD_nil0, List.length_nil, Nat.zero_le, oldF_nil, oldO_sh, oldO_lst, old_int, old_str, old_bl, old_non, old_scr, old_tup, old_lst, olds_nil, olds_cons, killB_true, killB_false, killF_nil, yngO_sh, yngO_lst, yng_int, yng_str, yng_bl, yng_non, yng_scr, yng_tup, yng_lstT, yng_lstF, yngs_nil, yngs_cons, oldF_cons, killF_cons, Option.map_none, Option.bind_some, Option.bind_none, killO_eq, atI_0, atI_1, atI_2, atI_3, len1, len2, len3, len4, len5, len6, len7, le_big1, le_big2, le_big3, le_big4, le_big5, le_big6, le_big7, le_big8, le_big9, le_big10, le_big11, le_big12, atI_0, hlow, cut_tail]
          rcases ih p true r (by rw [List.length_cons] at h1; omega) hr (fun q hq => hpr q hq) (by omega) (by omega) h6 with ⟨last', t', left', q1, q2, q3, q4, q5, q6, q7⟩ | ⟨ρ', h⟩
          · exact .inl ⟨last', t', left', q1, q2, q3, q4, by rw [List.length_cons]; omega, q6, (whl_step hc hb).trans q7⟩
          · exact .inr ⟨ρ', (whl_step hc hb).trans h⟩
      · refine .inl ⟨last, t, p :: r, h2, fun q hq => ?_, h4, h5, Nat.le_refl _, rfl, whl_stop ?_⟩
        · rcases List.mem_cons.mp hq with rfl | hq
          · omega
          · have := hpr q hq
            omega
        · unfold F__law_bite_w1
          simp only [evO_e1, evO_e2, evO_e3, evO_e4, evO_e5, evO_e7, evO_e9, evO_e10, evO_e11, evO_e12, evO_e14, evO_e15, evO_e16, evO_e17, evO_e18, evO_e19, evO_e20, evO_e21, evPs_e1, evPs_e2, evB_e1, evI_rng, evI_e2, evI_e3, evS_e1, evS_e3, evS_e4, evS_e5, evS_e7, evS_e8, evS_e9, evS_e10, evS_e14, evS_poke, yngL_lst, lk_lst, lk_sh, look_val, look_at, opv_sh, opv_lst, opv_obj, opv_dic, opd_var, opd_ne, frzAt_eq, fza_sh, fza_lst, give_val, give_at, dcA_some, dcB_ok, dcB_exn, doCall_eq, bin_addI, bin_addL, bin_addT, bin_sub, bin_mulI, bin_mulL, bin_fdiv, bin_mod, bin_pow, cmp_eq, cmp_ne, cmp_lt, cmp_le, cmp_gt, cmp_ge, cmp_is, cmp_isn, cmp_inL, cmp_inT, cmp_ninL, cmp_ninT, isNon_non, isNon_int, isNon_str, isNon_bl, isNon_tup, isNon_lst, ix_lst, ix_tup, ix_scr, sl_lst, sl_tup, seq_lst, seq_tup, seq_scr, seqL_lst, seqL_scr, bi_lenL, bi_lenT, bi_lenS, bi_listL, bi_listT, bi_tupL, bi_tupT, bi_intI, bi_intB, bi_max2, bi_min2, rngsD_1, rngsD_2, rngsD_3, lao_lst, lstAt_se, gpo_obj, lstAt_fe, setPl_s, spo_obj, setPl_f, partE_nil, partE_ne, intO_sh, lstD_lst, fldR_sh, fldR_obj, evO_fld, negR_int, evO_neg, iteR_true, iteR_false, evO_ite, chR_true, chR_false, evC_one, evC_two, bopR_tt, bopR_tf, bopR_ft, bopR_ff, evB_cs, sfR_obj, evS_setfld, evI_e, evS_seq, evS_ite, evS_for, evS_whl, evO_lc, kSeq_nx, kSeq_ret, kIf_true, kIf_false, kLcs_true, bnd_ok, bnd_exn, bnd_fail, opt_some, opt_none, optC_some, asB_ok, asB_exn, asI_ok, getS, setS, looks, frz, frzs, gives, takeA, backA, doNew, intsD, outsOf, eqD_int, kRun_nx, kRun_ret, kRun_exn, wipeF, backF, ne_eq, not_false_eq_true, forall_const, implies_true, reduceCtorEq, List.map_cons, List.map_nil, List.cons_append, List.nil_append, List.append_nil, List.replicate_succ, List.replicate_zero, Option.map_some, and_self, if_true, if_false, decide_true, decide_false, Bool.not_true, Bool.not_false, Bool.false_eq_true, Bool.or_true, Bool.true_or, Bool.and_true, Bool.true_and, Bool.or_false, Bool.false_or, asg_name, asg_tup, asg2_some, asgs_nil, asgs_cons, evO_gint, Nat.sub_self, Nat.reduceSub, shOrNone_none, shOrNone_sh, List.all_cons, List.all_nil, evO_isi, evO_isx, evO_cntT, evO_idxT, evO_kind, kindR_ok, kindR_exn, isi_int, isi_bl, isi_str, isi_non, isi_tup, isi_lst, eqD_bl, eqD_str, isa_int_TL, isa_int_L, isa_int_S, isa_int_B, isa_int_I, isa_int_T, isa_bool_TL, isa_bool_L, isa_bool_S, isa_bool_B, isa_bool_I, isa_bool_T, isa_str_TL, isa_str_L, isa_str_S, isa_str_B, isa_str_I, isa_str_T, isa_list_TL, isa_list_L, isa_list_S, isa_list_B, isa_list_I, isa_list_T, isa_tuple_TL, isa_tuple_L, isa_tuple_S, isa_tuple_B, isa_tuple_I, isa_tuple_T, isa_none_TL, isa_none_L, isa_none_S, isa_none_B, isa_none_I, isa_none_T, eqD_nil0, List.length_nil, Nat.zero_le, oldF_nil, oldO_sh, oldO_lst, old_int, old_str, old_bl, old_non, old_scr, old_tup, old_lst, olds_nil, olds_cons, killB_true, killB_false, killF_nil, yngO_sh, yngO_lst, yng_int, yng_str, yng_bl, yng_non, yng_scr, yng_tup, yng_lstT, yng_lstF, yngs_nil, yngs_cons, oldF_cons, killF_cons, Option.map_none, Option.bind_some, Option.bind_none, killO_eq, atI_0, atI_1, atI_2, atI_3, len1, len2, len3, len4, len5, len6, len7, le_big1, le_big2, le_big3, le_big4, le_big5, le_big6, le_big7, le_big8, le_big9, le_big10, le_big11, le_big12, hne2, List.isEmpty_cons, atI_0, hpn]
theorem fbD_none {low high e last : Int} {left : List Int} (h1 : ∀ p ∈ left, e < p) (h2 : e < last + high + 1) : fbD low high e last left = .non := by
  have hl : lateD (last + high + 1) e = .non := by
    unfold lateD
    rw [if_neg (by omega)]
  cases left with
  | nil => exact hl
  | cons p r => rw [fbD, if_pos (.inr (h1 p List.mem_cons_self)), hl]
theorem bite_run (cl : Cl) (N : Nat) (low high e : Int) (t : Bool) (ps : List Int) (hh : 0 ≤ high) (he : -1 ≤ e) (he2 : e < 1000000) (hps : ps.Pairwise (· ≤ ·)) (h0 : ∀ p ∈ ps, 0 ≤ p) (hN : ps.length < N) :
    runF cl N F__law_bite [.sh (winD low high), .sh (.lst t (ps.map .int)), .sh (.int e)] = .ok (.sh (fbD low high e 0 ps)) [] := by
  rw [runF_eq _ _ _ _ rfl]
  obtain ⟨fl, ρ', e1, hQ⟩ := forL_ret (step := kFor cl N false (.name 5) F__law_bite_b2) (fun k : Nat => D.int (k : Int))
    (fun r ρ => ∃ (last : Int) (t' : Bool) (left : List Int) (x : Option O) (now : Nat), ρ = [some (.sh (winD low high)), some (.sh (.lst t (ps.map .int))), some (.sh (.int e)), some (.sh (.int last)), some (.lst t' (left.map .int)), x] ∧ r = List.range' now (e + 1 - now).toNat ∧ (now : Int) ≤ e + 1 ∧
      left.Pairwise (· ≤ ·) ∧ (∀ p ∈ left, (now : Int) ≤ p) ∧ last ≤ now ∧ (now : Int) ≤ last + high + 1 ∧ left.length ≤ ps.length ∧ fbD low high e last left = fbD low high e 0 ps)
    (fun fl ρ => (fl = .nx ∧ (∃ y0 y1 y2 y3 y4 y5, ρ = [some (.sh y0), some (.sh y1), some (.sh y2), y3, y4, y5]) ∧ fbD low high e 0 ps = .non) ∨ fl = .ret (.sh (fbD low high e 0 ps)))
    (fun ρ ⟨last, t', left, x, now, h1, h2, h3, h4, h5, h6, h7, h8, h9⟩ => by
      subst h1
      have hz : (e + 1 - now).toNat = 0 := by
        have := congrArg List.length h2
        simpa using this.symm
      refine .inl ⟨rfl, ⟨_, _, _, _, _, _, rfl⟩, ?_⟩
      rw [← h9]
      exact fbD_none (fun p hp => by have := h5 p hp; omega) (by omega))
    (fun k r ρ ⟨last, t', left, x, now, h1, h2, h3, h4, h5, h6, h7, h8, h9⟩ => by
      subst h1
      have hpos : 0 < (e + 1 - now).toNat := by
        have := congrArg List.length h2
        simp at this
        omega
      obtain ⟨m, hm⟩ : ∃ m, (e + 1 - now).toNat = m + 1 := ⟨(e + 1 - now).toNat - 1, by omega⟩
      rw [hm, List.range'_succ, List.cons.injEq] at h2
      obtain ⟨rfl, h2⟩ := h2
      by_cases hl : (k : Int) = last + high + 1
      · refine .inr ⟨.sh (fbD low high e 0 ps), [some (.sh (winD low high)), some (.sh (.lst t (ps.map .int))), some (.sh (.int e)), some (.sh (.int last)), some (.lst t' (left.map .int)), some (.sh (.int k))], ?_, .inr rfl⟩
        have hd : fbD low high e last left = .tup [.int k, .str "late"] := by
          have hld : lateD (last + high + 1) e = .tup [.int k, .str "late"] := by
            unfold lateD
            rw [if_pos (by omega), hl]
          cases left with
          | nil => exact hld
          | cons p r =>
            have hc : last + high < p := by
              have := h5 p List.mem_cons_self
              omega
            rw [fbD, if_pos (.inl hc)]
            exact hld
        rw [← h9, hd]
        unfold kFor F__law_bite_b2 winD
        simp only [evO_e1, evO_e2, evO_e3, evO_e4, evO_e5, evO_e7, evO_e9, evO_e10, evO_e11, evO_e12, evO_e14, evO_e15, evO_e16, evO_e17, evO_e18, evO_e19, evO_e20, evO_e21, evPs_e1, evPs_e2, evB_e1, evI_rng, evI_e2, evI_e3, evS_e1, evS_e3, evS_e4, evS_e5, evS_e7, evS_e8, evS_e9, evS_e10, evS_e14, evS_poke, yngL_lst, lk_lst, lk_sh, look_val, look_at, opv_sh, opv_lst, opv_obj, opv_dic, opd_var, opd_ne, frzAt_eq, fza_sh, fza_lst, give_val, give_at, dcA_some, dcB_ok, dcB_exn, doCall_eq, bin_addI, bin_addL, bin_addT, bin_sub, bin_mulI, bin_mulL, bin_fdiv, bin_mod, bin_pow, cmp_eq, cmp_ne, cmp_lt, cmp_le, cmp_gt, cmp_ge, cmp_is, cmp_isn, cmp_inL, cmp_inT, cmp_ninL, cmp_ninT, isNon_non, isNon_int, isNon_str, isNon_bl, isNon_tup, isNon_lst, ix_lst, ix_tup, ix_scr, sl_lst, sl_tup, seq_lst, seq_tup, seq_scr, seqL_lst, seqL_scr, bi_lenL, bi_lenT, bi_lenS, bi_listL, bi_listT, bi_tupL, bi_tupT, bi_intI, bi_intB, bi_max2, bi_min2, rngsD_1, rngsD_2, rngsD_3, lao_lst, lstAt_se, gpo_obj, lstAt_fe, setPl_s, spo_obj, setPl_f, partE_nil, partE_ne, intO_sh, lstD_lst, fldR_sh, fldR_obj, evO_fld, negR_int, evO_neg, iteR_true, iteR_false, evO_ite, chR_true, chR_false, evC_one, evC_two, bopR_tt, bopR_tf, bopR_ft, bopR_ff, evB_cs, sfR_obj, evS_setfld, evI_e, evS_seq, evS_ite, evS_for, evS_whl, evO_lc, kSeq_nx, kSeq_ret, kIf_true, kIf_false, kLcs_true, bnd_ok, bnd_exn, bnd_fail, opt_some, opt_none, optC_some, asB_ok, asB_exn, asI_ok, getS, setS, looks, frz, frzs, gives, takeA, backA, doNew, intsD, outsOf, eqD_int, kRun_nx, kRun_ret, kRun_exn, wipeF, backF, ne_eq, not_false_eq_true, forall_const, implies_true, reduceCtorEq, List.map_cons, List.map_nil, List.cons_append, List.nil_append, List.append_nil, List.replicate_succ, List.replicate_zero, Option.map_some, and_self, if_true, if_false, decide_true, decide_false, Bool.not_true, Bool.not_false, Bool.false_eq_true, Bool.or_true, Bool.true_or, Bool.and_true, Bool.true_and, Bool.or_false, Bool.false_or, asg_name, asg_tup, asg2_some, asgs_nil, asgs_cons, evO_gint, Nat.sub_self, Nat.reduceSub, shOrNone_none, shOrNone_sh, List.all_cons, List.all_nil, evO_isi, evO_isx, evO_cntT, evO_idxT, evO_kind, kindR_ok, kindR_exn, isi_int, isi_bl, isi_str, isi_non, isi_tup, isi_lst, eqD_bl, eqD_str, isa_int_TL, isa_int_L, isa_int_S, isa_int_B, isa_int_I, isa_int_T, isa_bool_TL, isa_bool_L, isa_bool_S, isa_bool_B, isa_bool_I, isa_bool_T, isa_str_TL, isa_str_L, isa_str_S, isa_str_B, isa_str_I, isa_str_T, isa_list_TL, isa_list_L, isa_list_S, isa_list_B, isa_list_I, isa_list_T, isa_tuple_TL, isa_tuple_L, isa_tuple_S, isa_tuple_B, isa_tuple_I, isa_tuple_T, isa_none_TL, isa_none_L, isa_none_S, isa_none_B, isa_none_I, isa_none_T, eqD_nil0, List.length_nil, Nat.zero_le, oldF_nil, oldO_sh, oldO_lst, old_int, old_str, old_bl, old_non, old_scr, old_tup, old_lst, olds_nil, olds_cons, killB_true, killB_false, killF_nil, yngO_sh, yngO_lst, yng_int, yng_str, yng_bl, yng_non, yng_scr, yng_tup, yng_lstT, yng_lstF, yngs_nil, yngs_cons, oldF_cons, killF_cons, Option.map_none, Option.bind_some, Option.bind_none, killO_eq, atI_0, atI_1, atI_2, atI_3, len1, len2, len3, len4, len5, len6, len7, le_big1, le_big2, le_big3, le_big4, le_big5, le_big6, le_big7, le_big8, le_big9, le_big10, le_big11, le_big12, atI_1, hl, len2, show 2 ≤ big from by decide]
      · rcases bite_whl cl N low high e k (some (.sh (.lst t (ps.map .int)))) (by omega) N last t' left (by omega) h4 h5 h6 (by omega) hh with ⟨last', t2, left', q1, q2, q3, q4, q5, q6, q7⟩ | ⟨ρ', q⟩
        · refine .inl ⟨[some (.sh (winD low high)), some (.sh (.lst t (ps.map .int))), some (.sh (.int e)), some (.sh (.int last')), some (.lst t2 (left'.map .int)), some (.sh (.int k))], ?_, last', t2, left', some (.sh (.int k)), k + 1, rfl, by rw [h2]; congr 1; omega, by omega, q1, fun p hp => by have := q2 p hp; omega, by omega, by omega, by omega, q6.trans h9⟩
          unfold kFor F__law_bite_b2
          unfold winD at q7 ⊢
          simp only [evO_e1, evO_e2, evO_e3, evO_e4, evO_e5, evO_e7, evO_e9, evO_e10, evO_e11, evO_e12, evO_e14, evO_e15, evO_e16, evO_e17, evO_e18, evO_e19, evO_e20, evO_e21, evPs_e1, evPs_e2, evB_e1, evI_rng, evI_e2, evI_e3, evS_e1, evS_e3, evS_e4, evS_e5, evS_e7, evS_e8, evS_e9, evS_e10, evS_e14, evS_poke, yngL_lst, lk_lst, lk_sh, look_val, look_at, opv_sh, opv_lst, opv_obj, opv_dic, opd_var, opd_ne, frzAt_eq, fza_sh, fza_lst, give_val, give_at, dcA_some, dcB_ok, dcB_exn, doCall_eq, bin_addI, bin_addL, bin_addT, bin_sub, bin_mulI, bin_mulL, bin_fdiv, bin_mod, bin_pow, cmp_eq, cmp_ne, cmp_lt, cmp_le, cmp_gt, cmp_ge, cmp_is, cmp_isn, cmp_inL, cmp_inT, cmp_ninL, cmp_ninT, isNon_non, isNon_int, isNon_str, isNon_bl, isNon_tup, isNon_lst, ix_lst, ix_tup, ix_scr, sl_lst, sl_tup, seq_lst, seq_tup, seq_scr, seqL_lst, seqL_scr, bi_lenL, bi_lenT, bi_lenS, bi_listL, bi_listT, bi_tupL, bi_tupT, bi_intI, bi_intB, bi_max2, bi_min2, rngsD_1, rngsD_2, rngsD_3, lao_lst, lstAt_se, gpo_obj, lstAt_fe, setPl_s, spo_obj, setPl_f, partE_nil, partE_ne, intO_sh, lstD_lst, fldR_sh, fldR_obj, evO_fld, negR_int, evO_neg, iteR_true, iteR_false, evO_ite, chR_true, chR_false, evC_one, evC_two, bopR_tt, bopR_tf, bopR_ft, bopR_ff, evB_cs, sfR_obj, evS_setfld, evI_e, evS_seq, evS_ite, evS_for, evS_whl, evO_lc, kSeq_nx, kSeq_ret, kIf_true, kIf_false, kLcs_true, bnd_ok, bnd_exn, bnd_fail, opt_some, opt_none, optC_some, asB_ok, asB_exn, asI_ok, getS, setS, looks, frz, frzs, gives, takeA, backA, doNew, intsD, outsOf, eqD_int, kRun_nx, kRun_ret, kRun_exn, wipeF, backF, ne_eq, not_false_eq_true, forall_const, implies_true, reduceCtorEq, List.map_cons, List.map_nil, List.cons_append, List.nil_append, List.append_nil, List.replicate_succ, List.replicate_zero, Option.map_some, and_self, if_true, if_false, decide_true, decide_false, Bool.not_true, Bool.not_false, Bool.false_eq_true, Bool.or_true, Bool.true_or, Bool.and_true, Bool.true_and, Bool.or_false, Bool.false_or, asg_name, asg_tup, asg2_some, asgs_nil, asgs_cons, evO_gint, Nat.sub_self, Nat.reduceSub, shOrNone_none, shOrNone_sh, List.all_cons, List.all_nil, evO_isi, evO_isx, evO_cntT, evO_idxT, evO_kind, kindR_ok, kindR_exn, isi_int, isi_bl, isi_str, isi_non, isi_tup, isi_lst, eqD_bl, eqD_str, isa_int_TL, isa_int_L, isa_int_S, isa_int_B, isa_int_I, isa_int_T, isa_bool_TL, isa_bool_L, isa_bool_S, isa_bool_B, isa_bool_I, isa_bool_T, isa_str_TL, isa_str_L, isa_str_S, isa_str_B, isa_str_I, isa_str_T, isa_list_TL, isa_list_L, isa_list_S, isa_list_B, isa_list_I, isa_list_T, isa_tuple_TL, isa_tuple_L, isa_tuple_S, isa_tuple_B, isa_tuple_I, isa_tuple_T, isa_none_TL, isa_none_L, isa_none_S, isa_none_B, isa_none_I, isa_none_T, eqD_nil0, List.length_nil, Nat.zero_le, oldF_nil, oldO_sh, oldO_lst, old_int, old_str, old_bl, old_non, old_scr, old_tup, old_lst, olds_nil, olds_cons, killB_true, killB_false, killF_nil, yngO_sh, yngO_lst, yng_int, yng_str, yng_bl, yng_non, yng_scr, yng_tup, yng_lstT, yng_lstF, yngs_nil, yngs_cons, oldF_cons, killF_cons, Option.map_none, Option.bind_some, Option.bind_none, killO_eq, atI_0, atI_1, atI_2, atI_3, len1, len2, len3, len4, len5, len6, len7, le_big1, le_big2, le_big3, le_big4, le_big5, le_big6, le_big7, le_big8, le_big9, le_big10, le_big11, le_big12, atI_1, hl, q7]
        · refine .inr ⟨.sh (fbD low high e 0 ps), ρ', ?_, .inr rfl⟩
          rw [← h9]
          unfold kFor F__law_bite_b2
          unfold winD at q ⊢
          simp only [evO_e1, evO_e2, evO_e3, evO_e4, evO_e5, evO_e7, evO_e9, evO_e10, evO_e11, evO_e12, evO_e14, evO_e15, evO_e16, evO_e17, evO_e18, evO_e19, evO_e20, evO_e21, evPs_e1, evPs_e2, evB_e1, evI_rng, evI_e2, evI_e3, evS_e1, evS_e3, evS_e4, evS_e5, evS_e7, evS_e8, evS_e9, evS_e10, evS_e14, evS_poke, yngL_lst, lk_lst, lk_sh, look_val, look_at, opv_sh, opv_lst, opv_obj, opv_dic, opd_var, opd_ne, frzAt_eq, fza_sh, fza_lst, give_val, give_at, dcA_some, dcB_ok, dcB_exn, doCall_eq, bin_addI, bin_addL, bin_addT, bin_sub, bin_mulI, bin_mulL, bin_fdiv, bin_mod, bin_pow, cmp_eq, cmp_ne, cmp_lt, cmp_le, cmp_gt, cmp_ge, cmp_is, cmp_isn, cmp_inL, cmp_inT, cmp_ninL, cmp_ninT, isNon_non, isNon_int, isNon_str, isNon_bl, isNon_tup, isNon_lst, ix_lst, ix_tup, ix_scr, sl_lst, sl_tup, seq_lst, seq_tup, seq_scr, seqL_lst, seqL_scr, bi_lenL, bi_lenT, bi_lenS, bi_listL, bi_listT, bi_tupL, bi_tupT, bi_intI, bi_intB, bi_max2, bi_min2, rngsD_1, rngsD_2, rngsD_3, lao_lst, lstAt_se, gpo_obj, lstAt_fe, setPl_s, spo_obj, setPl_f, partE_nil, partE_ne, intO_sh, lstD_lst, fldR_sh, fldR_obj, evO_fld, negR_int, evO_neg, iteR_true, iteR_false, evO_ite, chR_true, chR_false, evC_one, evC_two, bopR_tt, bopR_tf, bopR_ft, bopR_ff, evB_cs, sfR_obj, evS_setfld, evI_e, evS_seq, evS_ite, evS_for, evS_whl, evO_lc, kSeq_nx, kSeq_ret, kIf_true, kIf_false, kLcs_true, bnd_ok, bnd_exn, bnd_fail, opt_some, opt_none, optC_some, asB_ok, asB_exn, asI_ok, getS, setS, looks, frz, frzs, gives, takeA, backA, doNew, intsD, outsOf, eqD_int, kRun_nx, kRun_ret, kRun_exn, wipeF, backF, ne_eq, not_false_eq_true, forall_const, implies_true, reduceCtorEq, List.map_cons, List.map_nil, List.cons_append, List.nil_append, List.append_nil, List.replicate_succ, List.replicate_zero, Option.map_some, and_self, if_true, if_false, decide_true, decide_false, Bool.not_true, Bool.not_false, Bool.false_eq_true, Bool.or_true, Bool.true_or, Bool.and_true, Bool.true_and, Bool.or_false, Bool.false_or, asg_name, asg_tup, asg2_some, asgs_nil, asgs_cons, evO_gint, Nat.sub_self, Nat.reduceSub, shOrNone_none, shOrNone_sh, List.all_cons, List.all_nil, evO_isi, evO_isx, evO_cntT, evO_idxT, evO_kind, kindR_ok, kindR_exn, isi_int, isi_bl, isi_str, isi_non, isi_tup, isi_lst, eqD_bl, eqD_str, isa_int_TL, isa_int_L, isa_int_S, isa_int_B, isa_int_I, isa_int_T, isa_bool_TL, isa_bool_L, isa_bool_S, isa_bool_B, isa_bool_I, isa_bool_T, isa_str_TL, isa_str_L, isa_str_S, isa_str_B, isa_str_I, isa_str_T, isa_list_TL, isa_list_L, isa_list_S, isa_list_B, isa_list_I, isa_list_T, isa_tuple_TL, isa_tuple_L, isa_tuple_S, isa_tuple_B, isa_tuple_I, isa_tuple_T, isa_none_TL, isa_none_L, isa_none_S, isa_none_B, isa_none_I, isa_none_T, eqD_nil0, List.length_nil, Nat.zero_le, oldF_nil, oldO_sh, oldO_lst, old_int, old_str, old_bl, old_non, old_scr, old_tup, old_lst, olds_nil, olds_cons, killB_true, killB_false, killF_nil, yngO_sh, yngO_lst, yng_int, yng_str, yng_bl, yng_non, yng_scr, yng_tup, yng_lstT, yng_lstF, yngs_nil, yngs_cons, oldF_cons, killF_cons, Option.map_none, Option.bind_some, Option.bind_none, killO_eq, atI_0, atI_1, atI_2, atI_3, len1, len2, len3, len4, len5, len6, len7, le_big1, le_big2, le_big3, le_big4, le_big5, le_big6, le_big7, le_big8, le_big9, le_big10, le_big11, le_big12, atI_1, hl, q])
    (List.range (e + 1).toNat) [some (.sh (winD low high)), some (.sh (.lst t (ps.map .int))), some (.sh (.int e)), some (.sh (.int 0)), some (.lst true (ps.map .int)), none] ⟨0, true, ps, none, 0, rfl, by rw [List.range_eq_range']; congr 1; simp, by omega, hps, fun p hp => h0 p hp, by omega, by omega, Nat.le_refl _, rfl⟩
  unfold F__law_bite
  rcases hQ with ⟨rfl, ⟨y0, y1, y2, y3, y4, y5, rfl⟩, h⟩ | rfl
  · simp only [evO_e1, evO_e2, evO_e3, evO_e4, evO_e5, evO_e7, evO_e9, evO_e10, evO_e11, evO_e12, evO_e14, evO_e15, evO_e16, evO_e17, evO_e18, evO_e19, evO_e20, evO_e21, evPs_e1, evPs_e2, evB_e1, evI_rng, evI_e2, evI_e3, evS_e1, evS_e3, evS_e4, evS_e5, evS_e7, evS_e8, evS_e9, evS_e10, evS_e14, evS_poke, yngL_lst, lk_lst, lk_sh, look_val, look_at, opv_sh, opv_lst, opv_obj, opv_dic, opd_var, opd_ne, frzAt_eq, fza_sh, fza_lst, give_val, give_at, dcA_some, dcB_ok, dcB_exn, doCall_eq, bin_addI, bin_addL, bin_addT, bin_sub, bin_mulI, bin_mulL, bin_fdiv, bin_mod, bin_pow, cmp_eq, cmp_ne, cmp_lt, cmp_le, cmp_gt, cmp_ge, cmp_is, cmp_isn, cmp_inL, cmp_inT, cmp_ninL, cmp_ninT, isNon_non, isNon_int, isNon_str, isNon_bl, isNon_tup, isNon_lst, ix_lst, ix_tup, ix_scr, sl_lst, sl_tup, seq_lst, seq_tup, seq_scr, seqL_lst, seqL_scr, bi_lenL, bi_lenT, bi_lenS, bi_listL, bi_listT, bi_tupL, bi_tupT, bi_intI, bi_intB, bi_max2, bi_min2, rngsD_1, rngsD_2, rngsD_3, lao_lst, lstAt_se, gpo_obj, lstAt_fe, setPl_s, spo_obj, setPl_f, partE_nil, partE_ne, intO_sh, lstD_lst, fldR_sh, fldR_obj, evO_fld, negR_int, evO_neg, iteR_true, iteR_false, evO_ite, chR_true, chR_false, evC_one, evC_two, bopR_tt, bopR_tf, bopR_ft, bopR_ff, evB_cs, sfR_obj, evS_setfld, evI_e, evS_seq, evS_ite, evS_for, evS_whl, evO_lc, kSeq_nx, kSeq_ret, kIf_true, kIf_false, kLcs_true, bnd_ok, bnd_exn, bnd_fail, opt_some, opt_none, optC_some, asB_ok, asB_exn, asI_ok, getS, setS, looks, frz, frzs, gives, takeA, backA, doNew, intsD, outsOf, eqD_int, kRun_nx, kRun_ret, kRun_exn, wipeF, backF, ne_eq, not_false_eq_true, forall_const, implies_true, reduceCtorEq, List.map_cons, List.map_nil, List.cons_append, List.nil_append, List.append_nil, List.replicate_succ, List.replicate_zero, Option.map_some, and_self, if_true, if_false, decide_true, decide_false, Bool.not_true, Bool.not_false, Bool.false_eq_true, Bool.or_true, Bool.true_or, Bool.and_true, Bool.true_and, Bool.or_false, Bool.false_or, asg_name, asg_tup, asg2_some, asgs_nil, asgs_cons, evO_gint, Nat.sub_self, Nat.reduceSub, shOrNone_none, shOrNone_sh, List.all_cons, List.all_nil, evO_isi, evO_isx, evO_cntT, evO_idxT, evO_kind, kindR_ok, kindR_exn, isi_int, isi_bl, isi_str, isi_non, isi_tup, isi_lst, eqD_bl, eqD_str, isa_int_TL, isa_int_L, isa_int_S, isa_int_B, isa_int_I, isa_int_T, isa_bool_TL, isa_bool_L, isa_bool_S, isa_bool_B, isa_bool_I, isa_bool_T, isa_str_TL, isa_str_L, isa_str_S, isa_str_B, isa_str_I, isa_str_T, isa_list_TL, isa_list_L, isa_list_S, isa_list_B, isa_list_I, isa_list_T, isa_tuple_TL, isa_tuple_L, isa_tuple_S, isa_tuple_B, isa_tuple_I, isa_tuple_T, isa_none_TL, isa_none_L, isa_none_S, isa_none_B, isa_none_I, isa_none_T, eqD_nil0, List.length_nil, Nat.zero_le, oldF_nil, oldO_sh, oldO_lst, old_int, old_str, old_bl, old_non, old_scr, old_tup, old_lst, olds_nil, olds_cons, killB_true, killB_false, killF_nil, yngO_sh, yngO_lst, yng_int, yng_str, yng_bl, yng_non, yng_scr, yng_tup, yng_lstT, yng_lstF, yngs_nil, yngs_cons, oldF_cons, killF_cons, Option.map_none, Option.bind_some, Option.bind_none, killO_eq, atI_0, atI_1, atI_2, atI_3, len1, len2, len3, len4, len5, len6, len7, le_big1, le_big2, le_big3, le_big4, le_big5, le_big6, le_big7, le_big8, le_big9, le_big10, le_big11, le_big12, rng_up (e + 1) (by omega) (by omega), e1, h]
  · simp only [evO_e1, evO_e2, evO_e3, evO_e4, evO_e5, evO_e7, evO_e9, evO_e10, evO_e11, evO_e12, evO_e14, evO_e15, evO_e16, evO_e17, evO_e18, evO_e19, evO_e20, evO_e21, evPs_e1, evPs_e2, evB_e1, evI_rng, evI_e2, evI_e3, evS_e1, evS_e3, evS_e4, evS_e5, evS_e7, evS_e8, evS_e9, evS_e10, evS_e14, evS_poke, yngL_lst, lk_lst, lk_sh, look_val, look_at, opv_sh, opv_lst, opv_obj, opv_dic, opd_var, opd_ne, frzAt_eq, fza_sh, fza_lst, give_val, give_at, dcA_some, dcB_ok, dcB_exn, doCall_eq, bin_addI, bin_addL, bin_addT, bin_sub, bin_mulI, bin_mulL, bin_fdiv, bin_mod, bin_pow, cmp_eq, cmp_ne, cmp_lt, cmp_le, cmp_gt, cmp_ge, cmp_is, cmp_isn, cmp_inL, cmp_inT, cmp_ninL, cmp_ninT, isNon_non, isNon_int, isNon_str, isNon_bl, isNon_tup, isNon_lst, ix_lst, ix_tup, ix_scr, sl_lst, sl_tup, seq_lst, seq_tup, seq_scr, seqL_lst, seqL_scr, bi_lenL, bi_lenT, bi_lenS, bi_listL, bi_listT, bi_tupL, bi_tupT, bi_intI, bi_intB, bi_max2, bi_min2, rngsD_1, rngsD_2, rngsD_3, lao_lst, lstAt_se, gpo_obj, lstAt_fe, setPl_s, spo_obj, setPl_f, partE_nil, partE_ne, intO_sh, lstD_lst, fldR_sh, fldR_obj, evO_fld, negR_int, evO_neg, iteR_true, iteR_false, evO_ite, chR_true, chR_false, evC_one, evC_two, bopR_tt, bopR_tf, bopR_ft, bopR_ff, evB_cs, sfR_obj, evS_setfld, evI_e, evS_seq, evS_ite, evS_for, evS_whl, evO_lc, kSeq_nx, kSeq_ret, kIf_true, kIf_false, kLcs_true, bnd_ok, bnd_exn, bnd_fail, opt_some, opt_none, optC_some, asB_ok, asB_exn, asI_ok, getS, setS, looks, frz, frzs, gives, takeA, backA, doNew, intsD, outsOf, eqD_int, kRun_nx, kRun_ret, kRun_exn, wipeF, backF, ne_eq, not_false_eq_true, forall_const, implies_true, reduceCtorEq, List.map_cons, List.map_nil, List.cons_append, List.nil_append, List.append_nil, List.replicate_succ, List.replicate_zero, Option.map_some, and_self, if_true, if_false, decide_true, decide_false, Bool.not_true, Bool.not_false, Bool.false_eq_true, Bool.or_true, Bool.true_or, Bool.and_true, Bool.true_and, Bool.or_false, Bool.false_or, asg_name, asg_tup, asg2_some, asgs_nil, asgs_cons, evO_gint, Nat.sub_self, Nat.reduceSub, shOrNone_none, shOrNone_sh, List.all_cons, List.all_nil, evO_isi, evO_isx, evO_cntT, evO_idxT, evO_kind, kindR_ok, kindR_exn, isi_int, isi_bl, isi_str, isi_non, isi_tup, isi_lst, eqD_bl, eqD_str, isa_int_TL, isa_int_L, isa_int_S, isa_int_B, isa_int_I, isa_int_T, isa_bool_TL, isa_bool_L, isa_bool_S, isa_bool_B, isa_bool_I, isa_bool_T, isa_str_TL, isa_str_L, isa_str_S, isa_str_B, isa_str_I, isa_str_T, isa_list_TL, isa_list_L, isa_list_S, isa_list_B, isa_list_I, isa_list_T, isa_tuple_TL, isa_tuple_L, isa_tuple_S, isa_tuple_B, isa_tuple_I, isa_tuple_T, isa_none_TL, isa_none_L, isa_none_S, isa_none_B, isa_none_I, isa_none_T, eqD_nil0, List.length_nil, Nat.zero_le, oldF_nil, oldO_sh, oldO_lst, old_int, old_str, old_bl, old_non, old_scr, old_tup, old_lst, olds_nil, olds_cons, killB_true, killB_false, killF_nil, yngO_sh, yngO_lst, yng_int, yng_str, yng_bl, yng_non, yng_scr, yng_tup, yng_lstT, yng_lstF, yngs_nil, yngs_cons, oldF_cons, killF_cons, Option.map_none, Option.bind_some, Option.bind_none, killO_eq, atI_0, atI_1, atI_2, atI_3, len1, len2, len3, len4, len5, len6, len7, le_big1, le_big2, le_big3, le_big4, le_big5, le_big6, le_big7, le_big8, le_big9, le_big10, le_big11, le_big12, rng_up (e + 1) (by omega) (by omega), e1]
/-! ### drawn pats -/
theorem pats_drawn (cl : Cl) (N i : Nat) {ns : List Int} (dr : DrawOk ns cl i) {t : Bool} {ds : List D} {low high : Int} (h : St ns (.lst t ds)) (h0 : 0 ≤ low) (h1 : low ≤ high) (h2 : high ≤ 1000) :
    ∃ (ps : List Int) (t' : Bool) (ds' : List D), St ns (.lst t' ds') ∧ ps.Pairwise (· ≤ ·) ∧ (∀ p ∈ ps, 0 ≤ p ∧ p ≤ 50000) ∧ ps.length ≤ 41 ∧ runF cl N (F__law_pats i) [.lst t ds, .sh (winD low high)] = .ok (.sh (.lst true (ps.map .int))) [.lst t' ds'] := by
  rw [runF_eq _ _ _ _ rfl]
  obtain ⟨x, t1, o1, s1, a1, b1, e1⟩ := dr.run _ _ 4 h (by omega) (by omega)
  obtain ⟨f, hf, hf2, hat⟩ : ∃ f : Int, 0 < f ∧ f ≤ 41 ∧ atI [D.int 9, D.int 9, D.int 9, D.int 41] x = some (.int f) := by
    have hx : x = 0 ∨ x = 1 ∨ x = 2 ∨ x = 3 := by omega
    rcases hx with rfl | rfl | rfl | rfl
    · exact ⟨9, by omega, by omega, atI_0 _ _⟩
    · exact ⟨9, by omega, by omega, atI_1 _ _ _⟩
    · exact ⟨9, by omega, by omega, atI_2 _ _ _ _⟩
    · exact ⟨41, by omega, by omega, atI_3 _ _ _ _ _⟩
  obtain ⟨n, t2, o2, s2, a2, b2, e2⟩ := dr.run _ _ f s1 hf (by omega)
  obtain ⟨ρ', e3, t3, o3, ps, last, x4, x5, hρ, s3, hp, hm, hl⟩ := forL_map (step := kFor cl N false (.name 4) (F__law_pats_b1 i)) (fun k : Nat => D.int (k : Int))
    (fun r ρ => ∃ (t3 : Bool) (o3 : List D) (ps : List Int) (last : Int) (x4 x5 : Option O), ρ = [some (.lst t3 o3), some (.sh (winD low high)), some (.lst true (ps.map .int)), some (.sh (.int last)), x4, x5] ∧ St ns (.lst t3 o3) ∧ ps.Pairwise (· ≤ ·) ∧ (∀ p ∈ ps, 0 ≤ p ∧ p ≤ last) ∧ 0 ≤ last ∧ last ≤ 1003 * (ps.length : Int) ∧ ps.length + r.length ≤ 41)
    (fun k r ρ ⟨t3, o3, ps, last, x4, x5, hρ, s3, hp, hm, hl0, hl, hc⟩ => by
      subst hρ
      rw [List.length_cons] at hc
      obtain ⟨v, t4, o4, s4, a4, b4, e4⟩ := dr.run _ _ (high - low + 1) s3 (by omega) (by omega)
      obtain ⟨w, t5, o5, s5, a5, b5, e5⟩ := dr.run _ _ 8 s4 (by omega) (by omega)
      have fin : ∀ (more : Int) (t6 : Bool) (o6 : List D), St ns (.lst t6 o6) → more ≤ 1003 → kFor cl N false (.name 4) (F__law_pats_b1 i) (.int (k : Int)) [some (.lst t3 o3), some (.sh (winD low high)), some (.lst true (ps.map .int)), some (.sh (.int last)), x4, x5] =
          .ok .nx [some (.lst t6 o6), some (.sh (winD low high)), some (.lst true ((ps ++ [last + (if more > 0 then more else 0)]).map .int)), some (.sh (.int (last + (if more > 0 then more else 0)))), some (.sh (.int k)), some (.sh (.int more))] →
          ∃ ρ', kFor cl N false (.name 4) (F__law_pats_b1 i) (.int (k : Int)) [some (.lst t3 o3), some (.sh (winD low high)), some (.lst true (ps.map .int)), some (.sh (.int last)), x4, x5] = .ok .nx ρ' ∧
            ∃ (t3 : Bool) (o3 : List D) (ps : List Int) (last : Int) (x4 x5 : Option O), ρ' = [some (.lst t3 o3), some (.sh (winD low high)), some (.lst true (ps.map .int)), some (.sh (.int last)), x4, x5] ∧ St ns (.lst t3 o3) ∧ ps.Pairwise (· ≤ ·) ∧ (∀ p ∈ ps, 0 ≤ p ∧ p ≤ last) ∧ 0 ≤ last ∧ last ≤ 1003 * (ps.length : Int) ∧ ps.length + r.length ≤ 41 := fun more t6 o6 s6 hmore e => by
        obtain ⟨m, hm'⟩ : ∃ m, m = (if more > 0 then more else 0) := ⟨_, rfl⟩
        have hm0 : 0 ≤ m ∧ m ≤ 1003 := by
          rw [hm']
          split <;> omega
        rw [← hm'] at e
        refine ⟨_, e, t6, o6, ps ++ [last + m], last + m, _, _, rfl, s6, ?_, fun p hp' => ?_, by omega, by rw [List.length_append, List.length_singleton]; omega, by rw [List.length_append, List.length_singleton]; omega⟩
        · refine List.pairwise_append.mpr ⟨hp, List.pairwise_singleton _ _, fun a ha b hb => ?_⟩
          rw [List.mem_singleton] at hb
          have := hm a ha
          omega
        · rcases List.mem_append.mp hp' with h | h
          · have := hm p h
            omega
          · rw [List.mem_singleton] at h
            omega
      have hz : ps.length < big := by unfold big; omega
      by_cases hw : w = 7
      · subst hw
        obtain ⟨u, t6, o6, s6, a6, b6, e6⟩ := dr.run _ _ (high + 4) s5 (by omega) (by omega)
        obtain ⟨z, t7, o7, s7, a7, b7, e7⟩ := dr.run _ _ 4 s6 (by omega) (by omega)
        obtain ⟨more, hmore, hat2⟩ : ∃ more : Int, more ≤ 1003 ∧ atI [D.int u, D.int (low - 1), D.int (high + 1), D.int 0] z = some (.int more) := by
          have hx : z = 0 ∨ z = 1 ∨ z = 2 ∨ z = 3 := by omega
          rcases hx with rfl | rfl | rfl | rfl
          · exact ⟨u, by omega, atI_0 _ _⟩
          · exact ⟨low - 1, by omega, atI_1 _ _ _⟩
          · exact ⟨high + 1, by omega, atI_2 _ _ _ _⟩
          · exact ⟨0, by omega, atI_3 _ _ _ _ _⟩
        refine fin more t7 o7 s7 hmore ?_
        unfold kFor F__law_pats_b1 winD
        simp only [evO_e1, evO_e2, evO_e3, evO_e4, evO_e5, evO_e7, evO_e9, evO_e10, evO_e11, evO_e12, evO_e14, evO_e15, evO_e16, evO_e17, evO_e18, evO_e19, evO_e20, evO_e21, evPs_e1, evPs_e2, evB_e1, evI_rng, evI_e2, evI_e3, evS_e1, evS_e3, evS_e4, evS_e5, evS_e7, evS_e8, evS_e9, evS_e10, evS_e14, evS_poke, yngL_lst, lk_lst, lk_sh, look_val, look_at, opv_sh, opv_lst, opv_obj, opv_dic, opd_var, opd_ne, frzAt_eq, fza_sh, fza_lst, give_val, give_at, dcA_some, dcB_ok, dcB_exn, doCall_eq, bin_addI, bin_addL, bin_addT, bin_sub, bin_mulI, bin_mulL, bin_fdiv, bin_mod, bin_pow, cmp_eq, cmp_ne, cmp_lt, cmp_le, cmp_gt, cmp_ge, cmp_is, cmp_isn, cmp_inL, cmp_inT, cmp_ninL, cmp_ninT, isNon_non, isNon_int, isNon_str, isNon_bl, isNon_tup, isNon_lst, ix_lst, ix_tup, ix_scr, sl_lst, sl_tup, seq_lst, seq_tup, seq_scr, seqL_lst, seqL_scr, bi_lenL, bi_lenT, bi_lenS, bi_listL, bi_listT, bi_tupL, bi_tupT, bi_intI, bi_intB, bi_max2, bi_min2, rngsD_1, rngsD_2, rngsD_3, lao_lst, lstAt_se, gpo_obj, lstAt_fe, setPl_s, spo_obj, setPl_f, partE_nil, partE_ne, intO_sh, lstD_lst, fldR_sh, fldR_obj, evO_fld, negR_int, evO_neg, iteR_true, iteR_false, evO_ite, chR_true, chR_false, evC_one, evC_two, bopR_tt, bopR_tf, bopR_ft, bopR_ff, evB_cs, sfR_obj, evS_setfld, evI_e, evS_seq, evS_ite, evS_for, evS_whl, evO_lc, kSeq_nx, kSeq_ret, kIf_true, kIf_false, kLcs_true, bnd_ok, bnd_exn, bnd_fail, opt_some, opt_none, optC_some, asB_ok, asB_exn, asI_ok, getS, setS, looks, frz, frzs, gives, takeA, backA, doNew, intsD, outsOf, eqD_int, kRun_nx, kRun_ret, kRun_exn, wipeF, backF, ne_eq, not_false_eq_true, forall_const, implies_true, reduceCtorEq, List.map_cons, List.map_nil, List.cons_append, List.nil_append, List.append_nil, List.replicate_succ, List.replicate_zero, Option.map_some, and_self, if_true, if_false, decide_true, decide_false, Bool.not_true, Bool.not_false, Bool.false_eq_true, Bool.or_true, Bool.true_or, Bool.and_true, Bool.true_and, Bool.or_false, Bool.false_or, asg_name, asg_tup, asg2_some, asgs_nil, asgs_cons, evO_gint, Nat.sub_self, Nat.reduceSub, shOrNone_none, shOrNone_sh, List.all_cons, List.all_nil, evO_isi, evO_isx, evO_cntT, evO_idxT, evO_kind, kindR_ok, kindR_exn, isi_int, isi_bl, isi_str, isi_non, isi_tup, isi_lst, eqD_bl, eqD_str, isa_int_TL, isa_int_L, isa_int_S, isa_int_B, isa_int_I, isa_int_T, isa_bool_TL, isa_bool_L, isa_bool_S, isa_bool_B, isa_bool_I, isa_bool_T, isa_str_TL, isa_str_L, isa_str_S, isa_str_B, isa_str_I, isa_str_T, isa_list_TL, isa_list_L, isa_list_S, isa_list_B, isa_list_I, isa_list_T, isa_tuple_TL, isa_tuple_L, isa_tuple_S, isa_tuple_B, isa_tuple_I, isa_tuple_T, isa_none_TL, isa_none_L, isa_none_S, isa_none_B, isa_none_I, isa_none_T, eqD_nil0, List.length_nil, Nat.zero_le, oldF_nil, oldO_sh, oldO_lst, old_int, old_str, old_bl, old_non, old_scr, old_tup, old_lst, olds_nil, olds_cons, killB_true, killB_false, killF_nil, yngO_sh, yngO_lst, yng_int, yng_str, yng_bl, yng_non, yng_scr, yng_tup, yng_lstT, yng_lstF, yngs_nil, yngs_cons, oldF_cons, killF_cons, Option.map_none, Option.bind_some, Option.bind_none, killO_eq, atI_0, atI_1, atI_2, atI_3, len1, len2, len3, len4, len5, len6, len7, le_big1, le_big2, le_big3, le_big4, le_big5, le_big6, le_big7, le_big8, le_big9, le_big10, le_big11, le_big12, dr.io, atI_0, atI_1, e4, e5, e6, e7, hat2, len4, show 4 ≤ big from by decide, List.length_map, hz, List.map_append]
      · refine fin (low + v) t5 o5 s5 (by omega) ?_
        unfold kFor F__law_pats_b1 winD
        simp only [evO_e1, evO_e2, evO_e3, evO_e4, evO_e5, evO_e7, evO_e9, evO_e10, evO_e11, evO_e12, evO_e14, evO_e15, evO_e16, evO_e17, evO_e18, evO_e19, evO_e20, evO_e21, evPs_e1, evPs_e2, evB_e1, evI_rng, evI_e2, evI_e3, evS_e1, evS_e3, evS_e4, evS_e5, evS_e7, evS_e8, evS_e9, evS_e10, evS_e14, evS_poke, yngL_lst, lk_lst, lk_sh, look_val, look_at, opv_sh, opv_lst, opv_obj, opv_dic, opd_var, opd_ne, frzAt_eq, fza_sh, fza_lst, give_val, give_at, dcA_some, dcB_ok, dcB_exn, doCall_eq, bin_addI, bin_addL, bin_addT, bin_sub, bin_mulI, bin_mulL, bin_fdiv, bin_mod, bin_pow, cmp_eq, cmp_ne, cmp_lt, cmp_le, cmp_gt, cmp_ge, cmp_is, cmp_isn, cmp_inL, cmp_inT, cmp_ninL, cmp_ninT, isNon_non, isNon_int, isNon_str, isNon_bl, isNon_tup, isNon_lst, ix_lst, ix_tup, ix_scr, sl_lst, sl_tup, seq_lst, seq_tup, seq_scr, seqL_lst, seqL_scr, bi_lenL, bi_lenT, bi_lenS, bi_listL, bi_listT, bi_tupL, bi_tupT, bi_intI, bi_intB, bi_max2, bi_min2, rngsD_1, rngsD_2, rngsD_3, lao_lst, lstAt_se, gpo_obj, lstAt_fe, setPl_s, spo_obj, setPl_f, partE_nil, partE_ne, intO_sh, lstD_lst, fldR_sh, fldR_obj, evO_fld, negR_int, evO_neg, iteR_true, iteR_false, evO_ite, chR_true, chR_false, evC_one, evC_two, bopR_tt, bopR_tf, bopR_ft, bopR_ff, evB_cs, sfR_obj, evS_setfld, evI_e, evS_seq, evS_ite, evS_for, evS_whl, evO_lc, kSeq_nx, kSeq_ret, kIf_true, kIf_false, kLcs_true, bnd_ok, bnd_exn, bnd_fail, opt_some, opt_none, optC_some, asB_ok, asB_exn, asI_ok, getS, setS, looks, frz, frzs, gives, takeA, backA, doNew, intsD, outsOf, eqD_int, kRun_nx, kRun_ret, kRun_exn, wipeF, backF, ne_eq, not_false_eq_true, forall_const, implies_true, reduceCtorEq, List.map_cons, List.map_nil, List.cons_append, List.nil_append, List.append_nil, List.replicate_succ, List.replicate_zero, Option.map_some, and_self, if_true, if_false, decide_true, decide_false, Bool.not_true, Bool.not_false, Bool.false_eq_true, Bool.or_true, Bool.true_or, Bool.and_true, Bool.true_and, Bool.or_false, Bool.false_or, asg_name, asg_tup, asg2_some, asgs_nil, asgs_cons, evO_gint, Nat.sub_self, Nat.reduceSub, shOrNone_none, shOrNone_sh, List.all_cons, List.all_nil, evO_isi, evO_isx, evO_cntT, evO_idxT, evO_kind, kindR_ok, kindR_exn, isi_int, isi_bl, isi_str, isi_non, isi_tup, isi_lst, eqD_bl, eqD_str, isa_int_TL, isa_int_L, isa_int_S, isa_int_B, isa_int_I, isa_int_T, isa_bool_TL, isa_bool_L, isa_bool_S, isa_bool_B, isa_bool_I, isa_bool_T, isa_str_TL, isa_str_L, isa_str_S, isa_str_B, isa_str_I, isa_str_T, isa_list_TL, isa_list_L, isa_list_S, isa_list_B, isa_list_I, isa_list_T, isa_tuple_TL, isa_tuple_L, isa_tuple_S, isa_tuple_B, isa_tuple_I, isa_tuple_T, isa_none_TL, isa_none_L, isa_none_S, isa_none_B, isa_none_I, isa_none_T, eqD_nil0, List.length_nil, Nat.zero_le, oldF_nil, oldO_sh, oldO_lst, old_int, old_str, old_bl, old_non, old_scr, old_tup, old_lst, olds_nil, olds_cons, killB_true, killB_false, killF_nil, yngO_sh, yngO_lst, yng_int, yng_str, yng_bl, yng_non, yng_scr, yng_tup, yng_lstT, yng_lstF, yngs_nil, yngs_cons, oldF_cons, killF_cons, Option.map_none, Option.bind_some, Option.bind_none, killO_eq, atI_0, atI_1, atI_2, atI_3, len1, len2, len3, len4, len5, len6, len7, le_big1, le_big2, le_big3, le_big4, le_big5, le_big6, le_big7, le_big8, le_big9, le_big10, le_big11, le_big12, dr.io, atI_0, atI_1, e4, e5, hw, List.length_map, hz, List.map_append])
    (List.range n.toNat) [some (.lst t2 o2), some (.sh (winD low high)), some (.lst true []), some (.sh (.int 0)), none, none] ⟨t2, o2, [], 0, none, none, rfl, s2, List.Pairwise.nil, fun _ h => (nomatch h), by omega, by simp, by simp; omega⟩
  subst hρ
  refine ⟨ps, t3, o3, s3, hp, fun p hp' => ?_, by simpa using hl.2.2, ?_⟩
  · have := hm p hp'
    have h5 := hl.2.2
    simp at h5
    omega
  · unfold F__law_pats
    simp only [evO_e1, evO_e2, evO_e3, evO_e4, evO_e5, evO_e7, evO_e9, evO_e10, evO_e11, evO_e12, evO_e14, evO_e15, evO_e16, evO_e17, evO_e18, evO_e19, evO_e20, evO_e21, evPs_e1, evPs_e2, evB_e1, evI_rng, evI_e2, evI_e3, evS_e1, evS_e3, evS_e4, evS_e5, evS_e7, evS_e8, evS_e9, evS_e10, evS_e14, evS_poke, yngL_lst, lk_lst, lk_sh, look_val, look_at, opv_sh, opv_lst, opv_obj, opv_dic, opd_var, opd_ne, frzAt_eq, fza_sh, fza_lst, give_val, give_at, dcA_some, dcB_ok, dcB_exn, doCall_eq, bin_addI, bin_addL, bin_addT, bin_sub, bin_mulI, bin_mulL, bin_fdiv, bin_mod, bin_pow, cmp_eq, cmp_ne, cmp_lt, cmp_le, cmp_gt, cmp_ge, cmp_is, cmp_isn, cmp_inL, cmp_inT, cmp_ninL, cmp_ninT, isNon_non, isNon_int, isNon_str, isNon_bl, isNon_tup, isNon_lst, ix_lst, ix_tup, ix_scr, sl_lst, sl_tup, seq_lst, seq_tup, seq_scr, seqL_lst, seqL_scr, bi_lenL, bi_lenT, bi_lenS, bi_listL, bi_listT, bi_tupL, bi_tupT, bi_intI, bi_intB, bi_max2, bi_min2, rngsD_1, rngsD_2, rngsD_3, lao_lst, lstAt_se, gpo_obj, lstAt_fe, setPl_s, spo_obj, setPl_f, partE_nil, partE_ne, intO_sh, lstD_lst, fldR_sh, fldR_obj, evO_fld, negR_int, evO_neg, iteR_true, iteR_false, evO_ite, chR_true, chR_false, evC_one, evC_two, bopR_tt, bopR_tf, bopR_ft, bopR_ff, evB_cs, sfR_obj, evS_setfld, evI_e, evS_seq, evS_ite, evS_for, evS_whl, evO_lc, kSeq_nx, kSeq_ret, kIf_true, kIf_false, kLcs_true, bnd_ok, bnd_exn, bnd_fail, opt_some, opt_none, optC_some, asB_ok, asB_exn, asI_ok, getS, setS, looks, frz, frzs, gives, takeA, backA, doNew, intsD, outsOf, eqD_int, kRun_nx, kRun_ret, kRun_exn, wipeF, backF, ne_eq, not_false_eq_true, forall_const, implies_true, reduceCtorEq, List.map_cons, List.map_nil, List.cons_append, List.nil_append, List.append_nil, List.replicate_succ, List.replicate_zero, Option.map_some, and_self, if_true, if_false, decide_true, decide_false, Bool.not_true, Bool.not_false, Bool.false_eq_true, Bool.or_true, Bool.true_or, Bool.and_true, Bool.true_and, Bool.or_false, Bool.false_or, asg_name, asg_tup, asg2_some, asgs_nil, asgs_cons, evO_gint, Nat.sub_self, Nat.reduceSub, shOrNone_none, shOrNone_sh, List.all_cons, List.all_nil, evO_isi, evO_isx, evO_cntT, evO_idxT, evO_kind, kindR_ok, kindR_exn, isi_int, isi_bl, isi_str, isi_non, isi_tup, isi_lst, eqD_bl, eqD_str, isa_int_TL, isa_int_L, isa_int_S, isa_int_B, isa_int_I, isa_int_T, isa_bool_TL, isa_bool_L, isa_bool_S, isa_bool_B, isa_bool_I, isa_bool_T, isa_str_TL, isa_str_L, isa_str_S, isa_str_B, isa_str_I, isa_str_T, isa_list_TL, isa_list_L, isa_list_S, isa_list_B, isa_list_I, isa_list_T, isa_tuple_TL, isa_tuple_L, isa_tuple_S, isa_tuple_B, isa_tuple_I, isa_tuple_T, isa_none_TL, isa_none_L, isa_none_S, isa_none_B, isa_none_I, isa_none_T, eqD_nil0, List.length_nil, Nat.zero_le, oldF_nil, oldO_sh, oldO_lst, old_int, old_str, old_bl, old_non, old_scr, old_tup, old_lst, olds_nil, olds_cons, killB_true, killB_false, killF_nil, yngO_sh, yngO_lst, yng_int, yng_str, yng_bl, yng_non, yng_scr, yng_tup, yng_lstT, yng_lstF, yngs_nil, yngs_cons, oldF_cons, killF_cons, Option.map_none, Option.bind_some, Option.bind_none, killO_eq, atI_0, atI_1, atI_2, atI_3, len1, len2, len3, len4, len5, len6, len7, le_big1, le_big2, le_big3, le_big4, le_big5, le_big6, le_big7, le_big8, le_big9, le_big10, le_big11, le_big12, dr.io, e1, hat, e2, rng_up n (by omega) (by omega), e3, len4, show 4 ≤ big from by decide, List.length_nil, Nat.zero_le]
/-! ### small words -/
theorem cut_take {α : Type} (xs : List α) {k : Int} (h0 : 0 ≤ k) (h : k ≤ xs.length) : cutA xs none (some k) = xs.take k.toNat := by
  obtain ⟨n, rfl⟩ := Int.eq_ofNat_of_zero_le h0
  unfold cutA
  rw [HT.sIx_none, HT.sIx_nat]
  show List.take (min n xs.length - 0) (List.drop 0 xs) = List.take n xs
  rw [List.drop_zero, show min n xs.length - 0 = n by omega]
theorem cut_drop {α : Type} (xs : List α) {k : Int} (h0 : 0 ≤ k) (h : k ≤ xs.length) : cutA xs (some k) none = xs.drop k.toNat := by
  obtain ⟨n, rfl⟩ := Int.eq_ofNat_of_zero_le h0
  unfold cutA
  rw [HT.sIx_none, HT.sIx_nat, show min n xs.length = n by omega]
  exact List.take_of_length_le (by rw [List.length_drop]; exact Nat.le_refl _)
def lastOf (ms : List Int) : Int := (0 :: ms).getLast (List.cons_ne_nil _ _)
theorem at_last (ms : List Int) : atI (D.int 0 :: ms.map D.int) (-1) = some (.int (lastOf ms)) := by
  have : D.int 0 :: ms.map D.int = ((0 :: ms).dropLast).map D.int ++ [D.int (lastOf ms)] := by
    rw [show D.int 0 :: ms.map D.int = (0 :: ms).map D.int from rfl]
    unfold lastOf
    rw [← List.map_singleton (f := D.int), ← List.map_append, List.dropLast_concat_getLast]
  rw [this]
  exact atI_last _ _
theorem last_le {e : Int} {ms : List Int} (A : Asc e ms) : 0 ≤ lastOf ms ∧ ∀ m ∈ ms, m ≤ lastOf ms := by
  unfold lastOf
  constructor
  · cases ms with
    | nil => simp
    | cons a r =>
      have := A.pos ((0 :: a :: r).getLast (List.cons_ne_nil _ _)) (by rw [List.getLast_cons (List.cons_ne_nil _ _)]; exact List.getLast_mem _)
      omega
  · intro m hm
    cases ms with
    | nil => cases hm
    | cons a r =>
      rw [List.getLast_cons (List.cons_ne_nil _ _)]
      by_cases hl : m = (a :: r).getLast (List.cons_ne_nil _ _)
      · omega
      · have h2 : a :: r = (a :: r).dropLast ++ [(a :: r).getLast (List.cons_ne_nil _ _)] := (List.dropLast_concat_getLast _).symm
        have h3 := A.up
        rw [h2] at h3 hm
        rcases List.mem_append.mp hm with h | h
        · have := (List.pairwise_append.mp h3).2.2 m h _ (List.mem_singleton_self _)
          omega
        · rw [List.mem_singleton] at h
          exact absurd h hl
theorem last_mem {ms : List Int} {b : Int} (h : ∀ m ∈ ms, m ≤ b) (hb : 0 ≤ b) : lastOf ms ≤ b := by
  unfold lastOf
  cases ms with
  | nil => simpa using hb
  | cons a r =>
    rw [List.getLast_cons (List.cons_ne_nil _ _)]
    exact h _ (List.getLast_mem _)
def tt (ms : List (List Int)) : Reps := ms.map fun m => (true, m)
theorem repD_tt (ms : List (List Int)) : (tt ms).map repD = ms.map (intsL true) := by
  unfold tt
  rw [List.map_map]
  rfl
theorem eqD_refl {d : D} (h : nbP (py d) = true) (hd : (py d).depth ≤ 32) : eqD d d = some true := by
  rw [eqD_of (p := True) h h (.inl hd) (by simp)]
  rfl
theorem nows_pos {b e : Int} (hb : 0 < b) : ∀ x ∈ nows b e, 0 < x := fun x hx => by
  unfold nows at hx
  obtain ⟨k, hk, rfl⟩ := List.mem_map.mp hx
  have := Int.mul_nonneg (Int.natCast_nonneg k) (show 0 ≤ b by omega)
  omega
theorem asc_len {e : Int} : ∀ {ms : List Int} {a : Int}, (∀ m ∈ ms, a < m ∧ m ≤ e) → ms.Pairwise (· < ·) → (ms.length : Int) ≤ max 0 (e - a)
  | [], _, _, _ => by simp; omega
  | m :: r, a, h, hp => by
    have h1 := h m List.mem_cons_self
    have hp2 := List.pairwise_cons.mp hp
    have := asc_len (e := e) (ms := r) (a := m) (fun x hx => ⟨hp2.1 x hx, (h x (List.mem_cons_of_mem _ hx)).2⟩) hp2.2
    rw [List.length_cons]
    omega
theorem asc_len2 {e : Int} {ms : List Int} (A : Asc e ms) (h : e ≤ 100000) : ms.length ≤ 1000000 := by
  have := asc_len (e := e) (a := 0) (fun m hm => ⟨by have := A.pos m hm; omega, (A.pos m hm).2⟩) A.up
  omega
theorem tt_ok {ms : List (List Int)} (h : ms.length ≤ 1000) (hl : ∀ m ∈ ms, m.length ≤ 1000000) : RepsOk (tt ms) := ⟨by unfold tt big; rw [List.length_map]; omega, fun r hr => by
  obtain ⟨m, hm, rfl⟩ := List.mem_map.mp hr
  have := hl m hm
  unfold big
  dsimp only
  omega⟩

theorem pick4 {a b c d x : Int} (P : Int → Prop) (h0 : 0 ≤ x) (h1 : x < 4) (pa : P a) (pb : P b) (pc : P c) (pd : P d) : ∃ v, P v ∧ atI [D.int a, D.int b, D.int c, D.int d] x = some (.int v) := by
  have hx : x = 0 ∨ x = 1 ∨ x = 2 ∨ x = 3 := by omega
  rcases hx with rfl | rfl | rfl | rfl
  · exact ⟨a, pa, atI_0 _ _⟩
  · exact ⟨b, pb, atI_1 _ _ _⟩
  · exact ⟨c, pc, atI_2 _ _ _ _⟩
  · exact ⟨d, pd, atI_3 _ _ _ _ _⟩
theorem pick3 {a b c x : Int} (P : Int → Prop) (h0 : 0 ≤ x) (h1 : x < 3) (pa : P a) (pb : P b) (pc : P c) : ∃ v, P v ∧ atI [D.int a, D.int b, D.int c] x = some (.int v) := by
  have hx : x = 0 ∨ x = 1 ∨ x = 2 := by omega
  rcases hx with rfl | rfl | rfl
  · exact ⟨a, pa, atI_0 _ _⟩
  · exact ⟨b, pb, atI_1 _ _ _⟩
  · exact ⟨c, pc, atI_2 _ _ _ _⟩
theorem pick2 {a b x : Int} (P : Int → Prop) (h0 : 0 ≤ x) (h1 : x < 2) (pa : P a) (pb : P b) : ∃ v, P v ∧ atI [D.int a, D.int b] x = some (.int v) := by
  have hx : x = 0 ∨ x = 1 := by omega
  rcases hx with rfl | rfl
  · exact ⟨a, pa, atI_0 _ _⟩
  · exact ⟨b, pb, atI_1 _ _ _⟩
theorem pick3D {a b c : D} {x : Int} (P : D → Prop) (h0 : 0 ≤ x) (h1 : x < 3) (pa : P a) (pb : P b) (pc : P c) : ∃ v, P v ∧ atI [a, b, c] x = some v := by
  have hx : x = 0 ∨ x = 1 ∨ x = 2 := by omega
  rcases hx with rfl | rfl | rfl
  · exact ⟨a, pa, atI_0 _ _⟩
  · exact ⟨b, pb, atI_1 _ _ _⟩
  · exact ⟨c, pc, atI_2 _ _ _ _⟩
/-- what a bite's data is like to -/
theorem like_refl_fb (low high e last : Int) (ps : List Int) : Like (fbD low high e last ps) (fbD low high e last ps) ∧ wide (fbD low high e last ps) = true ∧ dep (fbD low high e last ps) ≤ 1 := by
  have hl : ∀ m e, Like (lateD m e) (lateD m e) ∧ wide (lateD m e) = true ∧ dep (lateD m e) ≤ 1 := fun m e => by
    unfold lateD
    split
    · exact ⟨.tup (.cons (.int _) (.cons (.str _) .nil)), by simp [wide, wides], by simp [dep, deps]⟩
    · exact ⟨.non, by simp [wide], by simp [dep]⟩
  induction ps generalizing last with
  | nil => exact hl _ _
  | cons p r ih =>
    rw [fbD]
    split
    · exact hl _ _
    · split
      · exact ⟨.tup (.cons (.int _) (.cons (.str _) .nil)), by simp [wide, wides], by simp [dep, deps]⟩
      · exact ih p
theorem same_ints (t u : Bool) (ps : List Int) : eqD (intsL t ps) (intsL u ps) = some true := by
  rw [eqD_of (p := True) (nb_intsL t ps) (nb_intsL u ps) (.inl ?_) (by unfold intsL; simp)]
  · rfl
  · unfold intsL
    rw [py_list, pys_map, List.map_map]
    have : PyData.depthAll (ps.map (py ∘ D.int)) = 0 := by
      induction ps with
      | nil => rfl
      | cons a r ih => simp [PyData.depthAll, PyData.depth, ih]
    simp only [PyData.depth, this]
    omega
end WD


/-! WD, part 23: keepers, moment by moment. -/
namespace WD
open PySem PySem.Spec PyProof.Rows L2
/-- _law_keeper(_law_beat, _law_reports_here, _law_end): 0=_law_beat 1=_law_reports_here 2=_law_end 3=_law_found 4=_law_told 5=_law_now 6=_law_moments 7=_law_k -/
def F__law_keeper_e1 : WD.E := (.cbl false)
def F__law_keeper_g1 : WD.E := .nil
def F__law_keeper_e2 : WD.E := (.bop false (.cons (.ix (.var 4) (.var 7)) (.cons (.cmp .«in» (.var 5) (.ix (.var 1) (.var 7))) .nil)))
def F__law_keeper_g2 : WD.E := .nil
def F__law_keeper_b1 : WD.S := (.seq (.set 4 (.lc F__law_keeper_e2 (.name 7) (.rng (.cons (.bi .len (.cons (.var 1) .nil)) .nil)) F__law_keeper_g2 [7])) (.seq (.ite (.bop true (.cons (.cmp .eq (.bin .mod (.var 5) (.var 0)) (.cint 0)) (.cons (.cmp .nin (.cbl false) (.var 4)) .nil))) (.seq (.app (.s 3) (.var 5)) (.seq (.set 4 (.lc F__law_keeper_e1 (.name 6) (.var 1) F__law_keeper_g1 [6])) .skip)) .skip) .skip))
def F__law_keeper_e3 : WD.E := (.cbl false)
def F__law_keeper_g3 : WD.E := .nil
def F__law_keeper : WD.Fn := ⟨3, 8, [false, false, false], (.seq (.set 3 (.lst .nil)) (.seq (.set 4 (.lc F__law_keeper_e3 (.name 6) (.var 1) F__law_keeper_g3 [6])) (.seq (.for_ false (.name 5) (.rng (.cons (.cint 1) (.cons (.bin .add (.var 2) (.cint 1)) .nil))) F__law_keeper_b1) (.seq (.ret (.var 3)) .skip))))⟩
/-! ### in -/
theorem flat_ints (ms : List Int) : (ms.map D.int).all flatD = true := by
  rw [List.all_map, List.all_eq_true]
  intro x _
  rfl
theorem inD_ints (i : Int) (ms : List Int) : inD (.int i) (ms.map .int) = some (decide (i ∈ ms)) := by
  unfold inD
  rw [show (flatD (.int i) && (ms.map D.int).all flatD) = true from by rw [flat_ints]; rfl, if_pos rfl]
  congr 1
  unfold inV
  induction ms with
  | nil => simp
  | cons a r ih =>
    rw [List.map_cons, List.map_cons, List.any_cons, ih]
    show (a == i || _) = _
    by_cases h : a = i
    · subst h
      simp
    · have h2 : ¬ i = a := fun z => h z.symm
      simp [h, h2]
theorem inD_bls (b : Bool) (bs : List Bool) : inD (.bl b) (bs.map .bl) = some (decide (b ∈ bs)) := by
  unfold inD
  have hf : (bs.map D.bl).all flatD = true := by
    rw [List.all_map, List.all_eq_true]
    intro x _
    rfl
  rw [show (flatD (.bl b) && (bs.map D.bl).all flatD) = true from by rw [hf]; rfl, if_pos rfl]
  congr 1
  unfold inV
  induction bs with
  | nil => simp
  | cons a r ih =>
    have hf : (r.map D.bl).all flatD = true := by
      rw [List.all_map, List.all_eq_true]
      intro x _
      rfl
    rw [List.map_cons, List.map_cons, List.any_cons, ih hf]
    show (a == b || _) = _
    cases a <;> cases b <;> simp
/-! ### the keeper's moments -/
def keepL (rs : Reps) (b : Int) : Int → List Int → List Int
  | _, [] => []
  | last, now :: r => if now % b = 0 ∧ allR rs last now then now :: keepL rs b now r else keepL rs b last r
theorem keepL_eq (rs : Reps) (b : Int) : ∀ (l : List Int) (last : Int), keepL rs b last l = patsL rs last (l.filter fun x => decide (x % b = 0))
  | [], _ => rfl
  | a :: l, last => by
    rw [keepL, List.filter_cons]
    by_cases h : a % b = 0
    · rw [if_pos (decide_eq_true h), patsL]
      by_cases h2 : allR rs last a = true
      · rw [if_pos ⟨h, h2⟩, if_pos h2, keepL_eq rs b l a]
      · rw [if_neg fun z => h2 z.2, if_neg h2, keepL_eq rs b l last]
    · rw [if_neg fun z => h z.1, if_neg (by simpa using h), keepL_eq rs b l last]
def upTo (e : Int) : List Int := (List.range e.toNat).map fun (k : Nat) => 1 + (k : Int)
theorem nows_filter {b : Int} (hb : 0 < b) : ∀ (n : Nat), nows b n = (upTo n).filter fun x => decide (x % b = 0)
  | 0 => by
    unfold nows upTo
    simp
  | n + 1 => by
    have ih := nows_filter hb n
    have e1 : upTo ((n + 1 : Nat) : Int) = upTo n ++ [1 + (n : Int)] := by
      unfold upTo
      rw [Int.toNat_natCast, Int.toNat_natCast, List.range_succ, List.map_append]
      rfl
    rw [e1, List.filter_append, ← ih]
    have hd : ((n + 1 : Nat) : Int) / b = (n : Int) / b + if (1 + (n : Int)) % b = 0 then 1 else 0 := by
      have h1 := Int.mul_ediv_add_emod (n : Int) b
      have h2 := Int.emod_nonneg (n : Int) (show b ≠ 0 by omega)
      have h3 := Int.emod_lt_of_pos (n : Int) hb
      have hc : (((n + 1 : Nat) : Int)) = ((n : Int) % b + 1) + b * ((n : Int) / b) := by omega
      have hc2 : (1 + (n : Int)) = ((n : Int) % b + 1) + b * ((n : Int) / b) := by omega
      rw [hc2, hc, Int.add_mul_ediv_left _ _ (by omega), Int.add_mul_emod_self_left]
      by_cases hz : (n : Int) % b + 1 = b
      · rw [hz, Int.emod_self, if_pos rfl, Int.ediv_self (by omega)]
        omega
      · have q1 : ((n : Int) % b + 1) % b = (n : Int) % b + 1 := Int.emod_eq_of_lt (by omega) (by omega)
        have q2 : ((n : Int) % b + 1) / b = 0 := Int.ediv_eq_zero_of_lt (by omega) (by omega)
        rw [q1, q2, if_neg (by omega)]
        omega
    have hq : 0 ≤ (n : Int) / b := Int.ediv_nonneg (by omega) (by omega)
    unfold nows
    rw [hd]
    by_cases hz : (1 + (n : Int)) % b = 0
    · rw [if_pos hz]
      rw [show ((n : Int) / b + 1).toNat = ((n : Int) / b).toNat + 1 by omega, List.range_succ, List.map_append]
      congr 1
      rw [List.filter_cons, if_pos (decide_eq_true hz), List.filter_nil, List.map_singleton]
      congr 1
      have h1 := Int.mul_ediv_add_emod (1 + (n : Int)) b
      rw [hz] at h1
      have h5 : (1 + (n : Int)) / b = (n : Int) / b + 1 := by
        have := hd
        rw [if_pos hz] at this
        rw [← this]
        congr 1
        omega
      rw [h5] at h1
      rw [Int.toNat_of_nonneg hq, Int.mul_comm]
      have h6 : b * ((n : Int) / b + 1) = b * ((n : Int) / b) + b := by rw [Int.mul_add, Int.mul_one]
      omega
    · rw [if_neg hz, Int.add_zero, List.filter_cons, if_neg (by simpa using hz), List.filter_nil, List.append_nil]
theorem nows_up {b e : Int} (hb : 0 < b) (he : 0 ≤ e) : nows b e = (upTo e).filter fun x => decide (x % b = 0) := by
  obtain ⟨n, rfl⟩ := Int.eq_ofNat_of_zero_le he
  exact nows_filter hb n
theorem rng_upTo (e : Int) (h0 : 0 ≤ e) (h : e ≤ 1000000) : rngI 1 (e + 1) 1 = some ((upTo e).map .int) := by
  unfold rngI upTo
  rw [if_pos]
  · rw [List.map_map, show (e + 1 - 1 + 1 - 1) / 1 = e by omega]
    congr 2
    funext k
    show D.int (1 + (k : Int) * 1) = D.int (1 + (k : Int))
    congr 1
    omega
  · simp only [Bool.and_eq_true, decide_eq_true_eq, lim40_eq]
    omega
/-- who has told since last, up to a moment -/
def toldL (rs : Reps) (last now : Int) : List Bool := rs.map fun r => hasR r.2 last now
theorem told_none (rs : Reps) (last : Int) : toldL rs last last = rs.map fun _ => false := by
  unfold toldL
  refine List.map_congr_left fun r _ => ?_
  unfold hasR
  rw [List.any_eq_false]
  intro m _
  simp only [Bool.and_eq_true, decide_eq_true_eq]
  omega
theorem told_next (ms : List Int) {last now : Int} (h : last ≤ now) : (hasR ms last now || decide (now + 1 ∈ ms)) = hasR ms last (now + 1) := by
  unfold hasR
  rw [Bool.eq_iff_iff]
  simp only [Bool.or_eq_true, List.any_eq_true, Bool.and_eq_true, decide_eq_true_eq]
  constructor
  · rintro (⟨m, h1, h2, h3⟩ | h1)
    · exact ⟨m, h1, h2, by omega⟩
    · exact ⟨_, h1, by omega, by omega⟩
  · rintro ⟨m, h1, h2, h3⟩
    by_cases hm : m = now + 1
    · subst hm
      exact .inr h1
    · exact .inl ⟨m, h1, h2, by omega⟩
theorem told_all (rs : Reps) (last now : Int) : (!decide (false ∈ toldL rs last now)) = allR rs last now := by
  unfold toldL allR
  rw [Bool.eq_iff_iff]
  simp only [Bool.not_eq_true', decide_eq_false_iff_not, List.mem_map, not_exists, not_and, List.all_eq_true]
  constructor
  · intro h r hr
    have := h r hr
    simpa using this
  · intro h r hr
    rw [h r hr]
    simp
def conL : Int → Nat → List Int
  | _, 0 => []
  | m, n + 1 => (m + 1) :: conL (m + 1) n
theorem conL_range : ∀ (n s : Nat), (List.range' s n).map (fun (k : Nat) => 1 + (k : Int)) = conL s n
  | 0, _ => rfl
  | n + 1, s => by
    rw [List.range'_succ, List.map_cons, conL, conL_range n (s + 1)]
    congr 1
    · omega
theorem upTo_con (e : Int) : upTo e = conL 0 e.toNat := by
  unfold upTo
  rw [List.range_eq_range']
  exact conL_range _ 0
theorem conL_len : ∀ (n : Nat) (m : Int), (conL m n).length = n
  | 0, _ => rfl
  | n + 1, m => congrArg Nat.succ (conL_len n (m + 1))
theorem told0 (cl : Cl) {rs : Reps} (hr : rs.length ≤ big) (last : Int) (x0 x1 x2 x3 x4 x5 x7 : Option O) :
    ∃ y, lcL (kLc cl (.cbl false) (.name 6) .nil [6]) (rs.map repD) [] [x0, x1, x2, x3, x4, x5, none, x7] = .ok ((toldL rs last last).map .bl) [x0, x1, x2, x3, x4, x5, y, x7] := by
  obtain ⟨ρ', e, y, hC⟩ := lcL_map (step := kLc cl (.cbl false) (.name 6) .nil [6]) repD (fun _ => some (.bl false)) (fun ρ => ∃ y, ρ = [x0, x1, x2, x3, x4, x5, y, x7]) (fun q ρ ⟨y, h⟩ => by
    subst h
    refine ⟨[x0, x1, x2, x3, x4, x5, some (.sh (repD q)), x7], ?_, _, rfl⟩
    unfold kLc
    simp only [evO_e1, evO_e2, evO_e3, evO_e4, evO_e5, evO_e7, evO_e9, evO_e10, evO_e11, evO_e12, evO_e14, evO_e15, evO_e16, evO_e17, evO_e18, evO_e19, evO_e20, evO_e21, evPs_e1, evPs_e2, evB_e1, evI_rng, evI_e2, evI_e3, evS_e1, evS_e3, evS_e4, evS_e5, evS_e7, evS_e8, evS_e9, evS_e10, evS_e14, evS_poke, yngL_lst, lk_lst, lk_sh, look_val, look_at, opv_sh, opv_lst, opv_obj, opv_dic, opd_var, opd_ne, frzAt_eq, fza_sh, fza_lst, give_val, give_at, dcA_some, dcB_ok, dcB_exn, doCall_eq, bin_addI, bin_addL, bin_addT, bin_sub, bin_mulI, bin_mulL, bin_fdiv, bin_mod, bin_pow, cmp_eq, cmp_ne, cmp_lt, cmp_le, cmp_gt, cmp_ge, cmp_is, cmp_isn, cmp_inL, cmp_inT, cmp_ninL, cmp_ninT, isNon_non, isNon_int, isNon_str, isNon_bl, isNon_tup, isNon_lst, ix_lst, ix_tup, ix_scr, sl_lst, sl_tup, seq_lst, seq_tup, seq_scr, seqL_lst, seqL_scr, bi_lenL, bi_lenT, bi_lenS, bi_listL, bi_listT, bi_tupL, bi_tupT, bi_intI, bi_intB, bi_max2, bi_min2, rngsD_1, rngsD_2, rngsD_3, lao_lst, lstAt_se, gpo_obj, lstAt_fe, setPl_s, spo_obj, setPl_f, partE_nil, partE_ne, intO_sh, lstD_lst, fldR_sh, fldR_obj, evO_fld, negR_int, evO_neg, iteR_true, iteR_false, evO_ite, chR_true, chR_false, evC_one, evC_two, bopR_tt, bopR_tf, bopR_ft, bopR_ff, evB_cs, sfR_obj, evS_setfld, evI_e, evS_seq, evS_ite, evS_for, evS_whl, evO_lc, kSeq_nx, kSeq_ret, kIf_true, kIf_false, kLcs_true, bnd_ok, bnd_exn, bnd_fail, opt_some, opt_none, optC_some, asB_ok, asB_exn, asI_ok, getS, setS, looks, frz, frzs, gives, takeA, backA, doNew, intsD, outsOf, eqD_int, kRun_nx, kRun_ret, kRun_exn, wipeF, backF, ne_eq, not_false_eq_true, forall_const, implies_true, reduceCtorEq, List.map_cons, List.map_nil, List.cons_append, List.nil_append, List.append_nil, List.replicate_succ, List.replicate_zero, Option.map_some, and_self, if_true, if_false, decide_true, decide_false, Bool.not_true, Bool.not_false, Bool.false_eq_true, Bool.or_true, Bool.true_or, Bool.and_true, Bool.true_and, Bool.or_false, Bool.false_or, asg_name, asg_tup, asg2_some, asgs_nil, asgs_cons, evO_gint, Nat.sub_self, Nat.reduceSub, shOrNone_none, shOrNone_sh, List.all_cons, List.all_nil, evO_isi, evO_isx, evO_cntT, evO_idxT, evO_kind, kindR_ok, kindR_exn, isi_int, isi_bl, isi_str, isi_non, isi_tup, isi_lst, eqD_bl, eqD_str, isa_int_TL, isa_int_L, isa_int_S, isa_int_B, isa_int_I, isa_int_T, isa_bool_TL, isa_bool_L, isa_bool_S, isa_bool_B, isa_bool_I, isa_bool_T, isa_str_TL, isa_str_L, isa_str_S, isa_str_B, isa_str_I, isa_str_T, isa_list_TL, isa_list_L, isa_list_S, isa_list_B, isa_list_I, isa_list_T, isa_tuple_TL, isa_tuple_L, isa_tuple_S, isa_tuple_B, isa_tuple_I, isa_tuple_T, isa_none_TL, isa_none_L, isa_none_S, isa_none_B, isa_none_I, isa_none_T, eqD_nil0, List.length_nil, Nat.zero_le, oldF_nil, oldO_sh, oldO_lst, old_int, old_str, old_bl, old_non, old_scr, old_tup, old_lst, olds_nil, olds_cons, killB_true, killB_false, killF_nil, yngO_sh, yngO_lst, yng_int, yng_str, yng_bl, yng_non, yng_scr, yng_tup, yng_lstT, yng_lstF, yngs_nil, yngs_cons, oldF_cons, killF_cons, Option.map_none, Option.bind_some, Option.bind_none, killO_eq, atI_0, atI_1, atI_2, atI_3, len1, len2, len3, len4, len5, len6, len7, le_big1, le_big2, le_big3, le_big4, le_big5, le_big6, le_big7, le_big8, le_big9, le_big10, le_big11, le_big12]) rs [] [x0, x1, x2, x3, x4, x5, none, x7] ⟨_, rfl⟩ (by simpa using hr)
  subst hC
  refine ⟨y, ?_⟩
  rw [e, told_none]
  congr 1
  rw [List.map_map, List.nil_append]
  clear e hr
  induction rs with
  | nil => rfl
  | cons a r ih => simp [ih]
theorem told1 (cl : Cl) {rs : Reps} (hr : RepsOk rs) (t : Bool) {last m : Int} (h : last ≤ m) (x0 x2 x3 : Option O) :
    ∃ y, lcL (kLc cl F__law_keeper_e2 (.name 7) F__law_keeper_g2 [7]) ((List.range rs.length).map fun (k : Nat) => D.int (k : Int)) [] [x0, some (.sh (repsD t rs)), x2, x3, some (.lst true ((toldL rs last m).map .bl)), some (.sh (.int (m + 1))), none, none] =
      .ok ((toldL rs last (m + 1)).map .bl) [x0, some (.sh (repsD t rs)), x2, x3, some (.lst true ((toldL rs last m).map .bl)), some (.sh (.int (m + 1))), none, y] := by
  obtain ⟨ρ', e, y, hC⟩ := lcL_mapM (step := kLc cl F__law_keeper_e2 (.name 7) F__law_keeper_g2 [7]) (fun (k : Nat) => D.int (k : Int)) (fun k => some (.bl ((toldL rs last (m + 1)).getD k false)))
    (fun ρ => ∃ y, ρ = [x0, some (.sh (repsD t rs)), x2, x3, some (.lst true ((toldL rs last m).map .bl)), some (.sh (.int (m + 1))), none, y])
    (List.range rs.length) [] [x0, some (.sh (repsD t rs)), x2, x3, some (.lst true ((toldL rs last m).map .bl)), some (.sh (.int (m + 1))), none, none] (fun k hk ρ ⟨y, h'⟩ => by
      subst h'
      rw [List.mem_range] at hk
      have h2 : rs[k]? = some rs[k] := List.getElem?_eq_getElem hk
      have a1 : atI ((toldL rs last m).map D.bl) (k : Int) = some (.bl (hasR rs[k].2 last m)) := atI_nat (by unfold toldL; rw [List.map_map, List.getElem?_map, h2]; rfl)
      have a2 : atI (rs.map repD) (k : Int) = some (.lst rs[k].1 (rs[k].2.map .int)) := atI_nat (by rw [List.getElem?_map, h2]; rfl)
      have a3 : (toldL rs last (m + 1)).getD k false = hasR rs[k].2 last (m + 1) := by
        unfold toldL
        rw [List.getD_eq_getElem?_getD, List.getElem?_map, h2]
        rfl
      refine ⟨[x0, some (.sh (repsD t rs)), x2, x3, some (.lst true ((toldL rs last m).map .bl)), some (.sh (.int (m + 1))), none, some (.sh (.int k))], ?_, _, rfl⟩
      rw [a3, ← told_next _ h]
      unfold kLc F__law_keeper_e2 F__law_keeper_g2 repsD
      have a4 := inD_ints (m + 1) rs[k].2
      cases hb : hasR rs[k].2 last m with
      | true =>
        rw [hb] at a1
        simp only [evO_e1, evO_e2, evO_e3, evO_e4, evO_e5, evO_e7, evO_e9, evO_e10, evO_e11, evO_e12, evO_e14, evO_e15, evO_e16, evO_e17, evO_e18, evO_e19, evO_e20, evO_e21, evPs_e1, evPs_e2, evB_e1, evI_rng, evI_e2, evI_e3, evS_e1, evS_e3, evS_e4, evS_e5, evS_e7, evS_e8, evS_e9, evS_e10, evS_e14, evS_poke, yngL_lst, lk_lst, lk_sh, look_val, look_at, opv_sh, opv_lst, opv_obj, opv_dic, opd_var, opd_ne, frzAt_eq, fza_sh, fza_lst, give_val, give_at, dcA_some, dcB_ok, dcB_exn, doCall_eq, bin_addI, bin_addL, bin_addT, bin_sub, bin_mulI, bin_mulL, bin_fdiv, bin_mod, bin_pow, cmp_eq, cmp_ne, cmp_lt, cmp_le, cmp_gt, cmp_ge, cmp_is, cmp_isn, cmp_inL, cmp_inT, cmp_ninL, cmp_ninT, isNon_non, isNon_int, isNon_str, isNon_bl, isNon_tup, isNon_lst, ix_lst, ix_tup, ix_scr, sl_lst, sl_tup, seq_lst, seq_tup, seq_scr, seqL_lst, seqL_scr, bi_lenL, bi_lenT, bi_lenS, bi_listL, bi_listT, bi_tupL, bi_tupT, bi_intI, bi_intB, bi_max2, bi_min2, rngsD_1, rngsD_2, rngsD_3, lao_lst, lstAt_se, gpo_obj, lstAt_fe, setPl_s, spo_obj, setPl_f, partE_nil, partE_ne, intO_sh, lstD_lst, fldR_sh, fldR_obj, evO_fld, negR_int, evO_neg, iteR_true, iteR_false, evO_ite, chR_true, chR_false, evC_one, evC_two, bopR_tt, bopR_tf, bopR_ft, bopR_ff, evB_cs, sfR_obj, evS_setfld, evI_e, evS_seq, evS_ite, evS_for, evS_whl, evO_lc, kSeq_nx, kSeq_ret, kIf_true, kIf_false, kLcs_true, bnd_ok, bnd_exn, bnd_fail, opt_some, opt_none, optC_some, asB_ok, asB_exn, asI_ok, getS, setS, looks, frz, frzs, gives, takeA, backA, doNew, intsD, outsOf, eqD_int, kRun_nx, kRun_ret, kRun_exn, wipeF, backF, ne_eq, not_false_eq_true, forall_const, implies_true, reduceCtorEq, List.map_cons, List.map_nil, List.cons_append, List.nil_append, List.append_nil, List.replicate_succ, List.replicate_zero, Option.map_some, and_self, if_true, if_false, decide_true, decide_false, Bool.not_true, Bool.not_false, Bool.false_eq_true, Bool.or_true, Bool.true_or, Bool.and_true, Bool.true_and, Bool.or_false, Bool.false_or, asg_name, asg_tup, asg2_some, asgs_nil, asgs_cons, evO_gint, Nat.sub_self, Nat.reduceSub, shOrNone_none, shOrNone_sh, List.all_cons, List.all_nil, evO_isi, evO_isx, evO_cntT, evO_idxT, evO_kind, kindR_ok, kindR_exn, isi_int, isi_bl, isi_str, isi_non, isi_tup, isi_lst, eqD_bl, eqD_str, isa_int_TL, isa_int_L, isa_int_S, isa_int_B, isa_int_I, isa_int_T, isa_bool_TL, isa_bool_L, isa_bool_S, isa_bool_B, isa_bool_I, isa_bool_T, isa_str_TL, isa_str_L, isa_str_S, isa_str_B, isa_str_I, isa_str_T, isa_list_TL, isa_list_L, isa_list_S, isa_list_B, isa_list_I, isa_list_T, isa_tuple_TL, isa_tuple_L, isa_tuple_S, isa_tuple_B, isa_tuple_I, isa_tuple_T, isa_none_TL, isa_none_L, isa_none_S, isa_none_B, isa_none_I, isa_none_T, eqD_nil0, List.length_nil, Nat.zero_le, oldF_nil, oldO_sh, oldO_lst, old_int, old_str, old_bl, old_non, old_scr, old_tup, old_lst, olds_nil, olds_cons, killB_true, killB_false, killF_nil, yngO_sh, yngO_lst, yng_int, yng_str, yng_bl, yng_non, yng_scr, yng_tup, yng_lstT, yng_lstF, yngs_nil, yngs_cons, oldF_cons, killF_cons, Option.map_none, Option.bind_some, Option.bind_none, killO_eq, atI_0, atI_1, atI_2, atI_3, len1, len2, len3, len4, len5, len6, len7, le_big1, le_big2, le_big3, le_big4, le_big5, le_big6, le_big7, le_big8, le_big9, le_big10, le_big11, le_big12, a1, a2]
      | false =>
        rw [hb] at a1
        by_cases hm : m + 1 ∈ rs[k].2
        · simp only [evO_e1, evO_e2, evO_e3, evO_e4, evO_e5, evO_e7, evO_e9, evO_e10, evO_e11, evO_e12, evO_e14, evO_e15, evO_e16, evO_e17, evO_e18, evO_e19, evO_e20, evO_e21, evPs_e1, evPs_e2, evB_e1, evI_rng, evI_e2, evI_e3, evS_e1, evS_e3, evS_e4, evS_e5, evS_e7, evS_e8, evS_e9, evS_e10, evS_e14, evS_poke, yngL_lst, lk_lst, lk_sh, look_val, look_at, opv_sh, opv_lst, opv_obj, opv_dic, opd_var, opd_ne, frzAt_eq, fza_sh, fza_lst, give_val, give_at, dcA_some, dcB_ok, dcB_exn, doCall_eq, bin_addI, bin_addL, bin_addT, bin_sub, bin_mulI, bin_mulL, bin_fdiv, bin_mod, bin_pow, cmp_eq, cmp_ne, cmp_lt, cmp_le, cmp_gt, cmp_ge, cmp_is, cmp_isn, cmp_inL, cmp_inT, cmp_ninL, cmp_ninT, isNon_non, isNon_int, isNon_str, isNon_bl, isNon_tup, isNon_lst, ix_lst, ix_tup, ix_scr, sl_lst, sl_tup, seq_lst, seq_tup, seq_scr, seqL_lst, seqL_scr, bi_lenL, bi_lenT, bi_lenS, bi_listL, bi_listT, bi_tupL, bi_tupT, bi_intI, bi_intB, bi_max2, bi_min2, rngsD_1, rngsD_2, rngsD_3, lao_lst, lstAt_se, gpo_obj, lstAt_fe, setPl_s, spo_obj, setPl_f, partE_nil, partE_ne, intO_sh, lstD_lst, fldR_sh, fldR_obj, evO_fld, negR_int, evO_neg, iteR_true, iteR_false, evO_ite, chR_true, chR_false, evC_one, evC_two, bopR_tt, bopR_tf, bopR_ft, bopR_ff, evB_cs, sfR_obj, evS_setfld, evI_e, evS_seq, evS_ite, evS_for, evS_whl, evO_lc, kSeq_nx, kSeq_ret, kIf_true, kIf_false, kLcs_true, bnd_ok, bnd_exn, bnd_fail, opt_some, opt_none, optC_some, asB_ok, asB_exn, asI_ok, getS, setS, looks, frz, frzs, gives, takeA, backA, doNew, intsD, outsOf, eqD_int, kRun_nx, kRun_ret, kRun_exn, wipeF, backF, ne_eq, not_false_eq_true, forall_const, implies_true, reduceCtorEq, List.map_cons, List.map_nil, List.cons_append, List.nil_append, List.append_nil, List.replicate_succ, List.replicate_zero, Option.map_some, and_self, if_true, if_false, decide_true, decide_false, Bool.not_true, Bool.not_false, Bool.false_eq_true, Bool.or_true, Bool.true_or, Bool.and_true, Bool.true_and, Bool.or_false, Bool.false_or, asg_name, asg_tup, asg2_some, asgs_nil, asgs_cons, evO_gint, Nat.sub_self, Nat.reduceSub, shOrNone_none, shOrNone_sh, List.all_cons, List.all_nil, evO_isi, evO_isx, evO_cntT, evO_idxT, evO_kind, kindR_ok, kindR_exn, isi_int, isi_bl, isi_str, isi_non, isi_tup, isi_lst, eqD_bl, eqD_str, isa_int_TL, isa_int_L, isa_int_S, isa_int_B, isa_int_I, isa_int_T, isa_bool_TL, isa_bool_L, isa_bool_S, isa_bool_B, isa_bool_I, isa_bool_T, isa_str_TL, isa_str_L, isa_str_S, isa_str_B, isa_str_I, isa_str_T, isa_list_TL, isa_list_L, isa_list_S, isa_list_B, isa_list_I, isa_list_T, isa_tuple_TL, isa_tuple_L, isa_tuple_S, isa_tuple_B, isa_tuple_I, isa_tuple_T, isa_none_TL, isa_none_L, isa_none_S, isa_none_B, isa_none_I, isa_none_T, eqD_nil0, List.length_nil, Nat.zero_le, oldF_nil, oldO_sh, oldO_lst, old_int, old_str, old_bl, old_non, old_scr, old_tup, old_lst, olds_nil, olds_cons, killB_true, killB_false, killF_nil, yngO_sh, yngO_lst, yng_int, yng_str, yng_bl, yng_non, yng_scr, yng_tup, yng_lstT, yng_lstF, yngs_nil, yngs_cons, oldF_cons, killF_cons, Option.map_none, Option.bind_some, Option.bind_none, killO_eq, atI_0, atI_1, atI_2, atI_3, len1, len2, len3, len4, len5, len6, len7, le_big1, le_big2, le_big3, le_big4, le_big5, le_big6, le_big7, le_big8, le_big9, le_big10, le_big11, le_big12, a1, a2, a4, hm]
        · simp only [evO_e1, evO_e2, evO_e3, evO_e4, evO_e5, evO_e7, evO_e9, evO_e10, evO_e11, evO_e12, evO_e14, evO_e15, evO_e16, evO_e17, evO_e18, evO_e19, evO_e20, evO_e21, evPs_e1, evPs_e2, evB_e1, evI_rng, evI_e2, evI_e3, evS_e1, evS_e3, evS_e4, evS_e5, evS_e7, evS_e8, evS_e9, evS_e10, evS_e14, evS_poke, yngL_lst, lk_lst, lk_sh, look_val, look_at, opv_sh, opv_lst, opv_obj, opv_dic, opd_var, opd_ne, frzAt_eq, fza_sh, fza_lst, give_val, give_at, dcA_some, dcB_ok, dcB_exn, doCall_eq, bin_addI, bin_addL, bin_addT, bin_sub, bin_mulI, bin_mulL, bin_fdiv, bin_mod, bin_pow, cmp_eq, cmp_ne, cmp_lt, cmp_le, cmp_gt, cmp_ge, cmp_is, cmp_isn, cmp_inL, cmp_inT, cmp_ninL, cmp_ninT, isNon_non, isNon_int, isNon_str, isNon_bl, isNon_tup, isNon_lst, ix_lst, ix_tup, ix_scr, sl_lst, sl_tup, seq_lst, seq_tup, seq_scr, seqL_lst, seqL_scr, bi_lenL, bi_lenT, bi_lenS, bi_listL, bi_listT, bi_tupL, bi_tupT, bi_intI, bi_intB, bi_max2, bi_min2, rngsD_1, rngsD_2, rngsD_3, lao_lst, lstAt_se, gpo_obj, lstAt_fe, setPl_s, spo_obj, setPl_f, partE_nil, partE_ne, intO_sh, lstD_lst, fldR_sh, fldR_obj, evO_fld, negR_int, evO_neg, iteR_true, iteR_false, evO_ite, chR_true, chR_false, evC_one, evC_two, bopR_tt, bopR_tf, bopR_ft, bopR_ff, evB_cs, sfR_obj, evS_setfld, evI_e, evS_seq, evS_ite, evS_for, evS_whl, evO_lc, kSeq_nx, kSeq_ret, kIf_true, kIf_false, kLcs_true, bnd_ok, bnd_exn, bnd_fail, opt_some, opt_none, optC_some, asB_ok, asB_exn, asI_ok, getS, setS, looks, frz, frzs, gives, takeA, backA, doNew, intsD, outsOf, eqD_int, kRun_nx, kRun_ret, kRun_exn, wipeF, backF, ne_eq, not_false_eq_true, forall_const, implies_true, reduceCtorEq, List.map_cons, List.map_nil, List.cons_append, List.nil_append, List.append_nil, List.replicate_succ, List.replicate_zero, Option.map_some, and_self, if_true, if_false, decide_true, decide_false, Bool.not_true, Bool.not_false, Bool.false_eq_true, Bool.or_true, Bool.true_or, Bool.and_true, Bool.true_and, Bool.or_false, Bool.false_or, asg_name, asg_tup, asg2_some, asgs_nil, asgs_cons, evO_gint, Nat.sub_self, Nat.reduceSub, shOrNone_none, shOrNone_sh, List.all_cons, List.all_nil, evO_isi, evO_isx, evO_cntT, evO_idxT, evO_kind, kindR_ok, kindR_exn, isi_int, isi_bl, isi_str, isi_non, isi_tup, isi_lst, eqD_bl, eqD_str, isa_int_TL, isa_int_L, isa_int_S, isa_int_B, isa_int_I, isa_int_T, isa_bool_TL, isa_bool_L, isa_bool_S, isa_bool_B, isa_bool_I, isa_bool_T, isa_str_TL, isa_str_L, isa_str_S, isa_str_B, isa_str_I, isa_str_T, isa_list_TL, isa_list_L, isa_list_S, isa_list_B, isa_list_I, isa_list_T, isa_tuple_TL, isa_tuple_L, isa_tuple_S, isa_tuple_B, isa_tuple_I, isa_tuple_T, isa_none_TL, isa_none_L, isa_none_S, isa_none_B, isa_none_I, isa_none_T, eqD_nil0, List.length_nil, Nat.zero_le, oldF_nil, oldO_sh, oldO_lst, old_int, old_str, old_bl, old_non, old_scr, old_tup, old_lst, olds_nil, olds_cons, killB_true, killB_false, killF_nil, yngO_sh, yngO_lst, yng_int, yng_str, yng_bl, yng_non, yng_scr, yng_tup, yng_lstT, yng_lstF, yngs_nil, yngs_cons, oldF_cons, killF_cons, Option.map_none, Option.bind_some, Option.bind_none, killO_eq, atI_0, atI_1, atI_2, atI_3, len1, len2, len3, len4, len5, len6, len7, le_big1, le_big2, le_big3, le_big4, le_big5, le_big6, le_big7, le_big8, le_big9, le_big10, le_big11, le_big12, a1, a2, a4, hm]) ⟨_, rfl⟩ (by simpa using hr.len)
  subst hC
  refine ⟨y, ?_⟩
  rw [e, List.nil_append]
  congr 1
  have hl : (toldL rs last (m + 1)).length = rs.length := by
    unfold toldL
    rw [List.length_map]
  rw [show (List.range rs.length).filterMap (fun k => some (D.bl ((toldL rs last (m + 1)).getD k false))) = (List.range rs.length).map (fun k => D.bl ((toldL rs last (m + 1)).getD k false)) from by rw [← List.filterMap_eq_map]; rfl]
  refine List.ext_getElem? fun i => ?_
  rw [List.getElem?_map, List.getElem?_map]
  by_cases hi : i < rs.length
  · rw [List.getElem?_range hi, List.getElem?_eq_getElem (by omega)]
    simp [List.getD_eq_getElem?_getD, List.getElem?_eq_getElem (show i < (toldL rs last (m + 1)).length by omega)]
  · rw [List.getElem?_eq_none (by simp; omega), List.getElem?_eq_none (by omega)]
    rfl
theorem law_keeper_run (cl : Cl) (N : Nat) {b e : Int} {rs : Reps} (t : Bool) (hr : RepsOk rs) (hrl : rs.length ≤ 1000000) (hb : 0 < b) (h0 : 0 ≤ e) (he : e ≤ 1000000) :
    runF cl N F__law_keeper [.sh (.int b), .sh (repsD t rs), .sh (.int e)] = .ok (.sh (.lst true ((patsL rs 0 (nows b e)).map .int))) [] := by
  rw [nows_up hb h0, ← keepL_eq]
  rw [runF_eq _ _ _ _ rfl]
  obtain ⟨y0, t0⟩ := told0 cl hr.len 0 (some (.sh (.int b))) (some (.sh (repsD t rs))) (some (.sh (.int e))) (some (.lst true [])) none none none
  have hlr : (rs.map repD).length = rs.length := by rw [List.length_map]
  have hrg := rng_up ((rs.map repD).length : Int) (by omega) (by omega)
  rw [Int.toNat_natCast, hlr] at hrg
  obtain ⟨ρ', e1, last, m, k, acc, x5, hk, hlm, hρ, hacc, hlen⟩ := forL_map (step := kFor cl N false (.name 5) F__law_keeper_b1) D.int
    (fun r ρ => ∃ (last m : Int) (k : Nat) (acc : List Int) (x5 : Option O), r = conL m k ∧ last ≤ m ∧ ρ = [some (.sh (.int b)), some (.sh (repsD t rs)), some (.sh (.int e)), some (.lst true (acc.map .int)), some (.lst true ((toldL rs last m).map .bl)), x5, none, none] ∧
      acc ++ keepL rs b last r = keepL rs b 0 (upTo e) ∧ acc.length + r.length ≤ 1000000)
    (fun now r ρ ⟨last, m, k, acc, x5, hk, hlm, hρ, hacc, hlen⟩ => by
      subst hρ
      cases k with
      | zero => cases hk
      | succ k =>
        rw [conL, List.cons.injEq] at hk
        obtain ⟨rfl, rfl⟩ := hk
        rw [List.length_cons] at hlen
        rw [keepL] at hacc
        obtain ⟨y, t1⟩ := told1 cl hr t hlm (some (.sh (.int b))) (some (.sh (.int e))) (some (.lst true (acc.map .int)))
        have t2 := inD_bls false (toldL rs last (m + 1))
        have t3 := told_all rs last (m + 1)
        by_cases hc : (m + 1) % b = 0
        · cases ha : allR rs last (m + 1) with
          | true =>
            rw [if_pos ⟨hc, ha⟩] at hacc
            rw [ha] at t3
            obtain ⟨y2, t4⟩ := told0 cl hr.len (m + 1) (some (.sh (.int b))) (some (.sh (repsD t rs))) (some (.sh (.int e))) (some (.lst true ((acc ++ [m + 1]).map .int))) (some (.lst true ((toldL rs last (m + 1)).map .bl))) (some (.sh (.int (m + 1)))) none
            refine ⟨[some (.sh (.int b)), some (.sh (repsD t rs)), some (.sh (.int e)), some (.lst true ((acc ++ [m + 1]).map .int)), some (.lst true ((toldL rs (m + 1) (m + 1)).map .bl)), some (.sh (.int (m + 1))), none, none], ?_, m + 1, m + 1, k, acc ++ [m + 1], _, rfl, by omega, rfl, by rw [List.append_assoc]; exact hacc, by rw [List.length_append, List.length_singleton]; omega⟩
            unfold kFor F__law_keeper_b1 F__law_keeper_e1 F__law_keeper_g1
            rw [List.map_append, List.map_singleton] at t4
            unfold repsD at t1 t4 ⊢
            simp only [evO_e1, evO_e2, evO_e3, evO_e4, evO_e5, evO_e7, evO_e9, evO_e10, evO_e11, evO_e12, evO_e14, evO_e15, evO_e16, evO_e17, evO_e18, evO_e19, evO_e20, evO_e21, evPs_e1, evPs_e2, evB_e1, evI_rng, evI_e2, evI_e3, evS_e1, evS_e3, evS_e4, evS_e5, evS_e7, evS_e8, evS_e9, evS_e10, evS_e14, evS_poke, yngL_lst, lk_lst, lk_sh, look_val, look_at, opv_sh, opv_lst, opv_obj, opv_dic, opd_var, opd_ne, frzAt_eq, fza_sh, fza_lst, give_val, give_at, dcA_some, dcB_ok, dcB_exn, doCall_eq, bin_addI, bin_addL, bin_addT, bin_sub, bin_mulI, bin_mulL, bin_fdiv, bin_mod, bin_pow, cmp_eq, cmp_ne, cmp_lt, cmp_le, cmp_gt, cmp_ge, cmp_is, cmp_isn, cmp_inL, cmp_inT, cmp_ninL, cmp_ninT, isNon_non, isNon_int, isNon_str, isNon_bl, isNon_tup, isNon_lst, ix_lst, ix_tup, ix_scr, sl_lst, sl_tup, seq_lst, seq_tup, seq_scr, seqL_lst, seqL_scr, bi_lenL, bi_lenT, bi_lenS, bi_listL, bi_listT, bi_tupL, bi_tupT, bi_intI, bi_intB, bi_max2, bi_min2, rngsD_1, rngsD_2, rngsD_3, lao_lst, lstAt_se, gpo_obj, lstAt_fe, setPl_s, spo_obj, setPl_f, partE_nil, partE_ne, intO_sh, lstD_lst, fldR_sh, fldR_obj, evO_fld, negR_int, evO_neg, iteR_true, iteR_false, evO_ite, chR_true, chR_false, evC_one, evC_two, bopR_tt, bopR_tf, bopR_ft, bopR_ff, evB_cs, sfR_obj, evS_setfld, evI_e, evS_seq, evS_ite, evS_for, evS_whl, evO_lc, kSeq_nx, kSeq_ret, kIf_true, kIf_false, kLcs_true, bnd_ok, bnd_exn, bnd_fail, opt_some, opt_none, optC_some, asB_ok, asB_exn, asI_ok, getS, setS, looks, frz, frzs, gives, takeA, backA, doNew, intsD, outsOf, eqD_int, kRun_nx, kRun_ret, kRun_exn, wipeF, backF, ne_eq, not_false_eq_true, forall_const, implies_true, reduceCtorEq, List.map_cons, List.map_nil, List.cons_append, List.nil_append, List.append_nil, List.replicate_succ, List.replicate_zero, Option.map_some, and_self, if_true, if_false, decide_true, decide_false, Bool.not_true, Bool.not_false, Bool.false_eq_true, Bool.or_true, Bool.true_or, Bool.and_true, Bool.true_and, Bool.or_false, Bool.false_or, asg_name, asg_tup, asg2_some, asgs_nil, asgs_cons, evO_gint, Nat.sub_self, Nat.reduceSub, shOrNone_none, shOrNone_sh, List.all_cons, List.all_nil, evO_isi, evO_isx, evO_cntT, evO_idxT, evO_kind, kindR_ok, kindR_exn, isi_int, isi_bl, isi_str, isi_non, isi_tup, isi_lst, eqD_bl, eqD_str, isa_int_TL, isa_int_L, isa_int_S, isa_int_B, isa_int_I, isa_int_T, isa_bool_TL, isa_bool_L, isa_bool_S, isa_bool_B, isa_bool_I, isa_bool_T, isa_str_TL, isa_str_L, isa_str_S, isa_str_B, isa_str_I, isa_str_T, isa_list_TL, isa_list_L, isa_list_S, isa_list_B, isa_list_I, isa_list_T, isa_tuple_TL, isa_tuple_L, isa_tuple_S, isa_tuple_B, isa_tuple_I, isa_tuple_T, isa_none_TL, isa_none_L, isa_none_S, isa_none_B, isa_none_I, isa_none_T, eqD_nil0, List.length_nil, Nat.zero_le, oldF_nil, oldO_sh, oldO_lst, old_int, old_str, old_bl, old_non, old_scr, old_tup, old_lst, olds_nil, olds_cons, killB_true, killB_false, killF_nil, yngO_sh, yngO_lst, yng_int, yng_str, yng_bl, yng_non, yng_scr, yng_tup, yng_lstT, yng_lstF, yngs_nil, yngs_cons, oldF_cons, killF_cons, Option.map_none, Option.bind_some, Option.bind_none, killO_eq, atI_0, atI_1, atI_2, atI_3, len1, len2, len3, len4, len5, len6, len7, le_big1, le_big2, le_big3, le_big4, le_big5, le_big6, le_big7, le_big8, le_big9, le_big10, le_big11, le_big12, hlr, hrg, t1, hb, hc, t2, t3, show (acc.map D.int).length < big from by rw [List.length_map]; unfold big; omega, t4, List.map_append, List.map_singleton]
          | false =>
            rw [if_neg fun z => by rw [ha] at z; cases z.2] at hacc
            rw [ha] at t3
            refine ⟨[some (.sh (.int b)), some (.sh (repsD t rs)), some (.sh (.int e)), some (.lst true (acc.map .int)), some (.lst true ((toldL rs last (m + 1)).map .bl)), some (.sh (.int (m + 1))), none, none], ?_, last, m + 1, k, acc, _, rfl, by omega, rfl, hacc, by omega⟩
            unfold kFor F__law_keeper_b1
            unfold repsD at t1 ⊢
            simp only [evO_e1, evO_e2, evO_e3, evO_e4, evO_e5, evO_e7, evO_e9, evO_e10, evO_e11, evO_e12, evO_e14, evO_e15, evO_e16, evO_e17, evO_e18, evO_e19, evO_e20, evO_e21, evPs_e1, evPs_e2, evB_e1, evI_rng, evI_e2, evI_e3, evS_e1, evS_e3, evS_e4, evS_e5, evS_e7, evS_e8, evS_e9, evS_e10, evS_e14, evS_poke, yngL_lst, lk_lst, lk_sh, look_val, look_at, opv_sh, opv_lst, opv_obj, opv_dic, opd_var, opd_ne, frzAt_eq, fza_sh, fza_lst, give_val, give_at, dcA_some, dcB_ok, dcB_exn, doCall_eq, bin_addI, bin_addL, bin_addT, bin_sub, bin_mulI, bin_mulL, bin_fdiv, bin_mod, bin_pow, cmp_eq, cmp_ne, cmp_lt, cmp_le, cmp_gt, cmp_ge, cmp_is, cmp_isn, cmp_inL, cmp_inT, cmp_ninL, cmp_ninT, isNon_non, isNon_int, isNon_str, isNon_bl, isNon_tup, isNon_lst, ix_lst, ix_tup, ix_scr, sl_lst, sl_tup, seq_lst, seq_tup, seq_scr, seqL_lst, seqL_scr, bi_lenL, bi_lenT, bi_lenS, bi_listL, bi_listT, bi_tupL, bi_tupT, bi_intI, bi_intB, bi_max2, bi_min2, rngsD_1, rngsD_2, rngsD_3, lao_lst, lstAt_se, gpo_obj, lstAt_fe, setPl_s, spo_obj, setPl_f, partE_nil, partE_ne, intO_sh, lstD_lst, fldR_sh, fldR_obj, evO_fld, negR_int, evO_neg, iteR_true, iteR_false, evO_ite, chR_true, chR_false, evC_one, evC_two, bopR_tt, bopR_tf, bopR_ft, bopR_ff, evB_cs, sfR_obj, evS_setfld, evI_e, evS_seq, evS_ite, evS_for, evS_whl, evO_lc, kSeq_nx, kSeq_ret, kIf_true, kIf_false, kLcs_true, bnd_ok, bnd_exn, bnd_fail, opt_some, opt_none, optC_some, asB_ok, asB_exn, asI_ok, getS, setS, looks, frz, frzs, gives, takeA, backA, doNew, intsD, outsOf, eqD_int, kRun_nx, kRun_ret, kRun_exn, wipeF, backF, ne_eq, not_false_eq_true, forall_const, implies_true, reduceCtorEq, List.map_cons, List.map_nil, List.cons_append, List.nil_append, List.append_nil, List.replicate_succ, List.replicate_zero, Option.map_some, and_self, if_true, if_false, decide_true, decide_false, Bool.not_true, Bool.not_false, Bool.false_eq_true, Bool.or_true, Bool.true_or, Bool.and_true, Bool.true_and, Bool.or_false, Bool.false_or, asg_name, asg_tup, asg2_some, asgs_nil, asgs_cons, evO_gint, Nat.sub_self, Nat.reduceSub, shOrNone_none, shOrNone_sh, List.all_cons, List.all_nil, evO_isi, evO_isx, evO_cntT, evO_idxT, evO_kind, kindR_ok, kindR_exn, isi_int, isi_bl, isi_str, isi_non, isi_tup, isi_lst, eqD_bl, eqD_str, isa_int_TL, isa_int_L, isa_int_S, isa_int_B, isa_int_I, isa_int_T, isa_bool_TL, isa_bool_L, isa_bool_S, isa_bool_B, isa_bool_I, isa_bool_T, isa_str_TL, isa_str_L, isa_str_S, isa_str_B, isa_str_I, isa_str_T, isa_list_TL, isa_list_L, isa_list_S, isa_list_B, isa_list_I, isa_list_T, isa_tuple_TL, isa_tuple_L, isa_tuple_S, isa_tuple_B, isa_tuple_I, isa_tuple_T, isa_none_TL, isa_none_L, isa_none_S, isa_none_B, isa_none_I, isa_none_T, eqD_nil0, List.length_nil, Nat.zero_le, oldF_nil, oldO_sh, oldO_lst, old_int, old_str, old_bl, old_non, old_scr, old_tup, old_lst, olds_nil, olds_cons, killB_true, killB_false, killF_nil, yngO_sh, yngO_lst, yng_int, yng_str, yng_bl, yng_non, yng_scr, yng_tup, yng_lstT, yng_lstF, yngs_nil, yngs_cons, oldF_cons, killF_cons, Option.map_none, Option.bind_some, Option.bind_none, killO_eq, atI_0, atI_1, atI_2, atI_3, len1, len2, len3, len4, len5, len6, len7, le_big1, le_big2, le_big3, le_big4, le_big5, le_big6, le_big7, le_big8, le_big9, le_big10, le_big11, le_big12, hlr, hrg, t1, hb, hc, t2, t3]
        · rw [if_neg fun z => hc z.1] at hacc
          refine ⟨[some (.sh (.int b)), some (.sh (repsD t rs)), some (.sh (.int e)), some (.lst true (acc.map .int)), some (.lst true ((toldL rs last (m + 1)).map .bl)), some (.sh (.int (m + 1))), none, none], ?_, last, m + 1, k, acc, _, rfl, by omega, rfl, hacc, by omega⟩
          unfold kFor F__law_keeper_b1
          unfold repsD at t1 ⊢
          simp only [evO_e1, evO_e2, evO_e3, evO_e4, evO_e5, evO_e7, evO_e9, evO_e10, evO_e11, evO_e12, evO_e14, evO_e15, evO_e16, evO_e17, evO_e18, evO_e19, evO_e20, evO_e21, evPs_e1, evPs_e2, evB_e1, evI_rng, evI_e2, evI_e3, evS_e1, evS_e3, evS_e4, evS_e5, evS_e7, evS_e8, evS_e9, evS_e10, evS_e14, evS_poke, yngL_lst, lk_lst, lk_sh, look_val, look_at, opv_sh, opv_lst, opv_obj, opv_dic, opd_var, opd_ne, frzAt_eq, fza_sh, fza_lst, give_val, give_at, dcA_some, dcB_ok, dcB_exn, doCall_eq, bin_addI, bin_addL, bin_addT, bin_sub, bin_mulI, bin_mulL, bin_fdiv, bin_mod, bin_pow, cmp_eq, cmp_ne, cmp_lt, cmp_le, cmp_gt, cmp_ge, cmp_is, cmp_isn, cmp_inL, cmp_inT, cmp_ninL, cmp_ninT, isNon_non, isNon_int, isNon_str, isNon_bl, isNon_tup, isNon_lst, ix_lst, ix_tup, ix_scr, sl_lst, sl_tup, seq_lst, seq_tup, seq_scr, seqL_lst, seqL_scr, bi_lenL, bi_lenT, bi_lenS, bi_listL, bi_listT, bi_tupL, bi_tupT, bi_intI, bi_intB, bi_max2, bi_min2, rngsD_1, rngsD_2, rngsD_3, lao_lst, lstAt_se, gpo_obj, lstAt_fe, setPl_s, spo_obj, setPl_f, partE_nil, partE_ne, intO_sh, lstD_lst, fldR_sh, fldR_obj, evO_fld, negR_int, evO_neg, iteR_true, iteR_false, evO_ite, chR_true, chR_false, evC_one, evC_two, bopR_tt, bopR_tf, bopR_ft, bopR_ff, evB_cs, sfR_obj, evS_setfld, evI_e, evS_seq, evS_ite, evS_for, evS_whl, evO_lc, kSeq_nx, kSeq_ret, kIf_true, kIf_false, kLcs_true, bnd_ok, bnd_exn, bnd_fail, opt_some, opt_none, optC_some, asB_ok, asB_exn, asI_ok, getS, setS, looks, frz, frzs, gives, takeA, backA, doNew, intsD, outsOf, eqD_int, kRun_nx, kRun_ret, kRun_exn, wipeF, backF, ne_eq, not_false_eq_true, forall_const, implies_true, reduceCtorEq, List.map_cons, List.map_nil, List.cons_append, List.nil_append, List.append_nil, List.replicate_succ, List.replicate_zero, Option.map_some, and_self, if_true, if_false, decide_true, decide_false, Bool.not_true, Bool.not_false, Bool.false_eq_true, Bool.or_true, Bool.true_or, Bool.and_true, Bool.true_and, Bool.or_false, Bool.false_or, asg_name, asg_tup, asg2_some, asgs_nil, asgs_cons, evO_gint, Nat.sub_self, Nat.reduceSub, shOrNone_none, shOrNone_sh, List.all_cons, List.all_nil, evO_isi, evO_isx, evO_cntT, evO_idxT, evO_kind, kindR_ok, kindR_exn, isi_int, isi_bl, isi_str, isi_non, isi_tup, isi_lst, eqD_bl, eqD_str, isa_int_TL, isa_int_L, isa_int_S, isa_int_B, isa_int_I, isa_int_T, isa_bool_TL, isa_bool_L, isa_bool_S, isa_bool_B, isa_bool_I, isa_bool_T, isa_str_TL, isa_str_L, isa_str_S, isa_str_B, isa_str_I, isa_str_T, isa_list_TL, isa_list_L, isa_list_S, isa_list_B, isa_list_I, isa_list_T, isa_tuple_TL, isa_tuple_L, isa_tuple_S, isa_tuple_B, isa_tuple_I, isa_tuple_T, isa_none_TL, isa_none_L, isa_none_S, isa_none_B, isa_none_I, isa_none_T, eqD_nil0, List.length_nil, Nat.zero_le, oldF_nil, oldO_sh, oldO_lst, old_int, old_str, old_bl, old_non, old_scr, old_tup, old_lst, olds_nil, olds_cons, killB_true, killB_false, killF_nil, yngO_sh, yngO_lst, yng_int, yng_str, yng_bl, yng_non, yng_scr, yng_tup, yng_lstT, yng_lstF, yngs_nil, yngs_cons, oldF_cons, killF_cons, Option.map_none, Option.bind_some, Option.bind_none, killO_eq, atI_0, atI_1, atI_2, atI_3, len1, len2, len3, len4, len5, len6, len7, le_big1, le_big2, le_big3, le_big4, le_big5, le_big6, le_big7, le_big8, le_big9, le_big10, le_big11, le_big12, hlr, hrg, t1, hb, hc])
    (upTo e) [some (.sh (.int b)), some (.sh (repsD t rs)), some (.sh (.int e)), some (.lst true []), some (.lst true ((toldL rs 0 0).map .bl)), none, none, none] ⟨0, 0, e.toNat, [], none, upTo_con e, by omega, rfl, rfl, by rw [upTo_con, conL_len]; simp; omega⟩
  subst hρ
  rw [keepL, List.append_nil] at hacc
  subst hacc
  unfold F__law_keeper F__law_keeper_e3 F__law_keeper_g3
  unfold repsD at t0 e1 ⊢
  simp only [evO_e1, evO_e2, evO_e3, evO_e4, evO_e5, evO_e7, evO_e9, evO_e10, evO_e11, evO_e12, evO_e14, evO_e15, evO_e16, evO_e17, evO_e18, evO_e19, evO_e20, evO_e21, evPs_e1, evPs_e2, evB_e1, evI_rng, evI_e2, evI_e3, evS_e1, evS_e3, evS_e4, evS_e5, evS_e7, evS_e8, evS_e9, evS_e10, evS_e14, evS_poke, yngL_lst, lk_lst, lk_sh, look_val, look_at, opv_sh, opv_lst, opv_obj, opv_dic, opd_var, opd_ne, frzAt_eq, fza_sh, fza_lst, give_val, give_at, dcA_some, dcB_ok, dcB_exn, doCall_eq, bin_addI, bin_addL, bin_addT, bin_sub, bin_mulI, bin_mulL, bin_fdiv, bin_mod, bin_pow, cmp_eq, cmp_ne, cmp_lt, cmp_le, cmp_gt, cmp_ge, cmp_is, cmp_isn, cmp_inL, cmp_inT, cmp_ninL, cmp_ninT, isNon_non, isNon_int, isNon_str, isNon_bl, isNon_tup, isNon_lst, ix_lst, ix_tup, ix_scr, sl_lst, sl_tup, seq_lst, seq_tup, seq_scr, seqL_lst, seqL_scr, bi_lenL, bi_lenT, bi_lenS, bi_listL, bi_listT, bi_tupL, bi_tupT, bi_intI, bi_intB, bi_max2, bi_min2, rngsD_1, rngsD_2, rngsD_3, lao_lst, lstAt_se, gpo_obj, lstAt_fe, setPl_s, spo_obj, setPl_f, partE_nil, partE_ne, intO_sh, lstD_lst, fldR_sh, fldR_obj, evO_fld, negR_int, evO_neg, iteR_true, iteR_false, evO_ite, chR_true, chR_false, evC_one, evC_two, bopR_tt, bopR_tf, bopR_ft, bopR_ff, evB_cs, sfR_obj, evS_setfld, evI_e, evS_seq, evS_ite, evS_for, evS_whl, evO_lc, kSeq_nx, kSeq_ret, kIf_true, kIf_false, kLcs_true, bnd_ok, bnd_exn, bnd_fail, opt_some, opt_none, optC_some, asB_ok, asB_exn, asI_ok, getS, setS, looks, frz, frzs, gives, takeA, backA, doNew, intsD, outsOf, eqD_int, kRun_nx, kRun_ret, kRun_exn, wipeF, backF, ne_eq, not_false_eq_true, forall_const, implies_true, reduceCtorEq, List.map_cons, List.map_nil, List.cons_append, List.nil_append, List.append_nil, List.replicate_succ, List.replicate_zero, Option.map_some, and_self, if_true, if_false, decide_true, decide_false, Bool.not_true, Bool.not_false, Bool.false_eq_true, Bool.or_true, Bool.true_or, Bool.and_true, Bool.true_and, Bool.or_false, Bool.false_or, asg_name, asg_tup, asg2_some, asgs_nil, asgs_cons, evO_gint, Nat.sub_self, Nat.reduceSub, shOrNone_none, shOrNone_sh, List.all_cons, List.all_nil, evO_isi, evO_isx, evO_cntT, evO_idxT, evO_kind, kindR_ok, kindR_exn, isi_int, isi_bl, isi_str, isi_non, isi_tup, isi_lst, eqD_bl, eqD_str, isa_int_TL, isa_int_L, isa_int_S, isa_int_B, isa_int_I, isa_int_T, isa_bool_TL, isa_bool_L, isa_bool_S, isa_bool_B, isa_bool_I, isa_bool_T, isa_str_TL, isa_str_L, isa_str_S, isa_str_B, isa_str_I, isa_str_T, isa_list_TL, isa_list_L, isa_list_S, isa_list_B, isa_list_I, isa_list_T, isa_tuple_TL, isa_tuple_L, isa_tuple_S, isa_tuple_B, isa_tuple_I, isa_tuple_T, isa_none_TL, isa_none_L, isa_none_S, isa_none_B, isa_none_I, isa_none_T, eqD_nil0, List.length_nil, Nat.zero_le, oldF_nil, oldO_sh, oldO_lst, old_int, old_str, old_bl, old_non, old_scr, old_tup, old_lst, olds_nil, olds_cons, killB_true, killB_false, killF_nil, yngO_sh, yngO_lst, yng_int, yng_str, yng_bl, yng_non, yng_scr, yng_tup, yng_lstT, yng_lstF, yngs_nil, yngs_cons, oldF_cons, killF_cons, Option.map_none, Option.bind_some, Option.bind_none, killO_eq, atI_0, atI_1, atI_2, atI_3, len1, len2, len3, len4, len5, len6, len7, le_big1, le_big2, le_big3, le_big4, le_big5, le_big6, le_big7, le_big8, le_big9, le_big10, le_big11, le_big12, t0, rng_upTo e h0 he, e1, List.length_nil, Nat.zero_le]
/-! ### refusals -/
theorem keeper_exn (cl : Cl) (N i j x : Nat) (hn : NeedBeat cl j x) {b : Int} (d e : D) (hb : ¬ (1 ≤ b ∧ b ≤ 60)) : runF cl N (F_keeper_pats i j) [.sh (.int b), .sh d, .sh e] = .exn ⟨x, none⟩ [] := by
  rw [runF_eq _ _ _ _ rfl]
  unfold F_keeper_pats
  simp only [evO_e1, evO_e2, evO_e3, evO_e4, evO_e5, evO_e7, evO_e9, evO_e10, evO_e11, evO_e12, evO_e14, evO_e15, evO_e16, evO_e17, evO_e18, evO_e19, evO_e20, evO_e21, evPs_e1, evPs_e2, evB_e1, evI_rng, evI_e2, evI_e3, evS_e1, evS_e3, evS_e4, evS_e5, evS_e7, evS_e8, evS_e9, evS_e10, evS_e14, evS_poke, yngL_lst, lk_lst, lk_sh, look_val, look_at, opv_sh, opv_lst, opv_obj, opv_dic, opd_var, opd_ne, frzAt_eq, fza_sh, fza_lst, give_val, give_at, dcA_some, dcB_ok, dcB_exn, doCall_eq, bin_addI, bin_addL, bin_addT, bin_sub, bin_mulI, bin_mulL, bin_fdiv, bin_mod, bin_pow, cmp_eq, cmp_ne, cmp_lt, cmp_le, cmp_gt, cmp_ge, cmp_is, cmp_isn, cmp_inL, cmp_inT, cmp_ninL, cmp_ninT, isNon_non, isNon_int, isNon_str, isNon_bl, isNon_tup, isNon_lst, ix_lst, ix_tup, ix_scr, sl_lst, sl_tup, seq_lst, seq_tup, seq_scr, seqL_lst, seqL_scr, bi_lenL, bi_lenT, bi_lenS, bi_listL, bi_listT, bi_tupL, bi_tupT, bi_intI, bi_intB, bi_max2, bi_min2, rngsD_1, rngsD_2, rngsD_3, lao_lst, lstAt_se, gpo_obj, lstAt_fe, setPl_s, spo_obj, setPl_f, partE_nil, partE_ne, intO_sh, lstD_lst, fldR_sh, fldR_obj, evO_fld, negR_int, evO_neg, iteR_true, iteR_false, evO_ite, chR_true, chR_false, evC_one, evC_two, bopR_tt, bopR_tf, bopR_ft, bopR_ff, evB_cs, sfR_obj, evS_setfld, evI_e, evS_seq, evS_ite, evS_for, evS_whl, evO_lc, kSeq_nx, kSeq_ret, kIf_true, kIf_false, kLcs_true, bnd_ok, bnd_exn, bnd_fail, opt_some, opt_none, optC_some, asB_ok, asB_exn, asI_ok, getS, setS, looks, frz, frzs, gives, takeA, backA, doNew, intsD, outsOf, eqD_int, kRun_nx, kRun_ret, kRun_exn, wipeF, backF, ne_eq, not_false_eq_true, forall_const, implies_true, reduceCtorEq, List.map_cons, List.map_nil, List.cons_append, List.nil_append, List.append_nil, List.replicate_succ, List.replicate_zero, Option.map_some, and_self, if_true, if_false, decide_true, decide_false, Bool.not_true, Bool.not_false, Bool.false_eq_true, Bool.or_true, Bool.true_or, Bool.and_true, Bool.true_and, Bool.or_false, Bool.false_or, asg_name, asg_tup, asg2_some, asgs_nil, asgs_cons, evO_gint, Nat.sub_self, Nat.reduceSub, shOrNone_none, shOrNone_sh, List.all_cons, List.all_nil, evO_isi, evO_isx, evO_cntT, evO_idxT, evO_kind, kindR_ok, kindR_exn, isi_int, isi_bl, isi_str, isi_non, isi_tup, isi_lst, eqD_bl, eqD_str, isa_int_TL, isa_int_L, isa_int_S, isa_int_B, isa_int_I, isa_int_T, isa_bool_TL, isa_bool_L, isa_bool_S, isa_bool_B, isa_bool_I, isa_bool_T, isa_str_TL, isa_str_L, isa_str_S, isa_str_B, isa_str_I, isa_str_T, isa_list_TL, isa_list_L, isa_list_S, isa_list_B, isa_list_I, isa_list_T, isa_tuple_TL, isa_tuple_L, isa_tuple_S, isa_tuple_B, isa_tuple_I, isa_tuple_T, isa_none_TL, isa_none_L, isa_none_S, isa_none_B, isa_none_I, isa_none_T, eqD_nil0, List.length_nil, Nat.zero_le, oldF_nil, oldO_sh, oldO_lst, old_int, old_str, old_bl, old_non, old_scr, old_tup, old_lst, olds_nil, olds_cons, killB_true, killB_false, killF_nil, yngO_sh, yngO_lst, yng_int, yng_str, yng_bl, yng_non, yng_scr, yng_tup, yng_lstT, yng_lstF, yngs_nil, yngs_cons, oldF_cons, killF_cons, Option.map_none, Option.bind_some, Option.bind_none, killO_eq, atI_0, atI_1, atI_2, atI_3, len1, len2, len3, len4, len5, len6, len7, le_big1, le_big2, le_big3, le_big4, le_big5, le_big6, le_big7, le_big8, le_big9, le_big10, le_big11, le_big12, hn.io, hn.run, hb]
theorem found_exn (cl : Cl) (N i j k l x y : Nat) (hn : NeedBeat cl k x) (hw : NeedWin cl l y) {low high b : Int} (d e : D) (hlh : winOk low high = true) (hb : ¬ (1 ≤ b ∧ b ≤ 60)) :
    runF cl N (F_found_at i j k l) [.sh (winD low high), .sh (.int b), .sh d, .sh e] = .exn ⟨x, none⟩ [] := by
  rw [runF_eq _ _ _ _ rfl]
  unfold F_found_at
  simp only [evO_e1, evO_e2, evO_e3, evO_e4, evO_e5, evO_e7, evO_e9, evO_e10, evO_e11, evO_e12, evO_e14, evO_e15, evO_e16, evO_e17, evO_e18, evO_e19, evO_e20, evO_e21, evPs_e1, evPs_e2, evB_e1, evI_rng, evI_e2, evI_e3, evS_e1, evS_e3, evS_e4, evS_e5, evS_e7, evS_e8, evS_e9, evS_e10, evS_e14, evS_poke, yngL_lst, lk_lst, lk_sh, look_val, look_at, opv_sh, opv_lst, opv_obj, opv_dic, opd_var, opd_ne, frzAt_eq, fza_sh, fza_lst, give_val, give_at, dcA_some, dcB_ok, dcB_exn, doCall_eq, bin_addI, bin_addL, bin_addT, bin_sub, bin_mulI, bin_mulL, bin_fdiv, bin_mod, bin_pow, cmp_eq, cmp_ne, cmp_lt, cmp_le, cmp_gt, cmp_ge, cmp_is, cmp_isn, cmp_inL, cmp_inT, cmp_ninL, cmp_ninT, isNon_non, isNon_int, isNon_str, isNon_bl, isNon_tup, isNon_lst, ix_lst, ix_tup, ix_scr, sl_lst, sl_tup, seq_lst, seq_tup, seq_scr, seqL_lst, seqL_scr, bi_lenL, bi_lenT, bi_lenS, bi_listL, bi_listT, bi_tupL, bi_tupT, bi_intI, bi_intB, bi_max2, bi_min2, rngsD_1, rngsD_2, rngsD_3, lao_lst, lstAt_se, gpo_obj, lstAt_fe, setPl_s, spo_obj, setPl_f, partE_nil, partE_ne, intO_sh, lstD_lst, fldR_sh, fldR_obj, evO_fld, negR_int, evO_neg, iteR_true, iteR_false, evO_ite, chR_true, chR_false, evC_one, evC_two, bopR_tt, bopR_tf, bopR_ft, bopR_ff, evB_cs, sfR_obj, evS_setfld, evI_e, evS_seq, evS_ite, evS_for, evS_whl, evO_lc, kSeq_nx, kSeq_ret, kIf_true, kIf_false, kLcs_true, bnd_ok, bnd_exn, bnd_fail, opt_some, opt_none, optC_some, asB_ok, asB_exn, asI_ok, getS, setS, looks, frz, frzs, gives, takeA, backA, doNew, intsD, outsOf, eqD_int, kRun_nx, kRun_ret, kRun_exn, wipeF, backF, ne_eq, not_false_eq_true, forall_const, implies_true, reduceCtorEq, List.map_cons, List.map_nil, List.cons_append, List.nil_append, List.append_nil, List.replicate_succ, List.replicate_zero, Option.map_some, and_self, if_true, if_false, decide_true, decide_false, Bool.not_true, Bool.not_false, Bool.false_eq_true, Bool.or_true, Bool.true_or, Bool.and_true, Bool.true_and, Bool.or_false, Bool.false_or, asg_name, asg_tup, asg2_some, asgs_nil, asgs_cons, evO_gint, Nat.sub_self, Nat.reduceSub, shOrNone_none, shOrNone_sh, List.all_cons, List.all_nil, evO_isi, evO_isx, evO_cntT, evO_idxT, evO_kind, kindR_ok, kindR_exn, isi_int, isi_bl, isi_str, isi_non, isi_tup, isi_lst, eqD_bl, eqD_str, isa_int_TL, isa_int_L, isa_int_S, isa_int_B, isa_int_I, isa_int_T, isa_bool_TL, isa_bool_L, isa_bool_S, isa_bool_B, isa_bool_I, isa_bool_T, isa_str_TL, isa_str_L, isa_str_S, isa_str_B, isa_str_I, isa_str_T, isa_list_TL, isa_list_L, isa_list_S, isa_list_B, isa_list_I, isa_list_T, isa_tuple_TL, isa_tuple_L, isa_tuple_S, isa_tuple_B, isa_tuple_I, isa_tuple_T, isa_none_TL, isa_none_L, isa_none_S, isa_none_B, isa_none_I, isa_none_T, eqD_nil0, List.length_nil, Nat.zero_le, oldF_nil, oldO_sh, oldO_lst, old_int, old_str, old_bl, old_non, old_scr, old_tup, old_lst, olds_nil, olds_cons, killB_true, killB_false, killF_nil, yngO_sh, yngO_lst, yng_int, yng_str, yng_bl, yng_non, yng_scr, yng_tup, yng_lstT, yng_lstF, yngs_nil, yngs_cons, oldF_cons, killF_cons, Option.map_none, Option.bind_some, Option.bind_none, killO_eq, atI_0, atI_1, atI_2, atI_3, len1, len2, len3, len4, len5, len6, len7, le_big1, le_big2, le_big3, le_big4, le_big5, le_big6, le_big7, le_big8, le_big9, le_big10, le_big11, le_big12, hn.io, hn.run, hb, hw.io, hw.run, hlh]
theorem found_exw (cl : Cl) (N i j k l y : Nat) (hw : NeedWin cl l y) {low high : Int} (b d e : D) (hlh : winOk low high = false) :
    runF cl N (F_found_at i j k l) [.sh (winD low high), .sh b, .sh d, .sh e] = .exn ⟨y, none⟩ [] := by
  rw [runF_eq _ _ _ _ rfl]
  unfold F_found_at
  simp only [evO_e1, evO_e2, evO_e3, evO_e4, evO_e5, evO_e7, evO_e9, evO_e10, evO_e11, evO_e12, evO_e14, evO_e15, evO_e16, evO_e17, evO_e18, evO_e19, evO_e20, evO_e21, evPs_e1, evPs_e2, evB_e1, evI_rng, evI_e2, evI_e3, evS_e1, evS_e3, evS_e4, evS_e5, evS_e7, evS_e8, evS_e9, evS_e10, evS_e14, evS_poke, yngL_lst, lk_lst, lk_sh, look_val, look_at, opv_sh, opv_lst, opv_obj, opv_dic, opd_var, opd_ne, frzAt_eq, fza_sh, fza_lst, give_val, give_at, dcA_some, dcB_ok, dcB_exn, doCall_eq, bin_addI, bin_addL, bin_addT, bin_sub, bin_mulI, bin_mulL, bin_fdiv, bin_mod, bin_pow, cmp_eq, cmp_ne, cmp_lt, cmp_le, cmp_gt, cmp_ge, cmp_is, cmp_isn, cmp_inL, cmp_inT, cmp_ninL, cmp_ninT, isNon_non, isNon_int, isNon_str, isNon_bl, isNon_tup, isNon_lst, ix_lst, ix_tup, ix_scr, sl_lst, sl_tup, seq_lst, seq_tup, seq_scr, seqL_lst, seqL_scr, bi_lenL, bi_lenT, bi_lenS, bi_listL, bi_listT, bi_tupL, bi_tupT, bi_intI, bi_intB, bi_max2, bi_min2, rngsD_1, rngsD_2, rngsD_3, lao_lst, lstAt_se, gpo_obj, lstAt_fe, setPl_s, spo_obj, setPl_f, partE_nil, partE_ne, intO_sh, lstD_lst, fldR_sh, fldR_obj, evO_fld, negR_int, evO_neg, iteR_true, iteR_false, evO_ite, chR_true, chR_false, evC_one, evC_two, bopR_tt, bopR_tf, bopR_ft, bopR_ff, evB_cs, sfR_obj, evS_setfld, evI_e, evS_seq, evS_ite, evS_for, evS_whl, evO_lc, kSeq_nx, kSeq_ret, kIf_true, kIf_false, kLcs_true, bnd_ok, bnd_exn, bnd_fail, opt_some, opt_none, optC_some, asB_ok, asB_exn, asI_ok, getS, setS, looks, frz, frzs, gives, takeA, backA, doNew, intsD, outsOf, eqD_int, kRun_nx, kRun_ret, kRun_exn, wipeF, backF, ne_eq, not_false_eq_true, forall_const, implies_true, reduceCtorEq, List.map_cons, List.map_nil, List.cons_append, List.nil_append, List.append_nil, List.replicate_succ, List.replicate_zero, Option.map_some, and_self, if_true, if_false, decide_true, decide_false, Bool.not_true, Bool.not_false, Bool.false_eq_true, Bool.or_true, Bool.true_or, Bool.and_true, Bool.true_and, Bool.or_false, Bool.false_or, asg_name, asg_tup, asg2_some, asgs_nil, asgs_cons, evO_gint, Nat.sub_self, Nat.reduceSub, shOrNone_none, shOrNone_sh, List.all_cons, List.all_nil, evO_isi, evO_isx, evO_cntT, evO_idxT, evO_kind, kindR_ok, kindR_exn, isi_int, isi_bl, isi_str, isi_non, isi_tup, isi_lst, eqD_bl, eqD_str, isa_int_TL, isa_int_L, isa_int_S, isa_int_B, isa_int_I, isa_int_T, isa_bool_TL, isa_bool_L, isa_bool_S, isa_bool_B, isa_bool_I, isa_bool_T, isa_str_TL, isa_str_L, isa_str_S, isa_str_B, isa_str_I, isa_str_T, isa_list_TL, isa_list_L, isa_list_S, isa_list_B, isa_list_I, isa_list_T, isa_tuple_TL, isa_tuple_L, isa_tuple_S, isa_tuple_B, isa_tuple_I, isa_tuple_T, isa_none_TL, isa_none_L, isa_none_S, isa_none_B, isa_none_I, isa_none_T, eqD_nil0, List.length_nil, Nat.zero_le, oldF_nil, oldO_sh, oldO_lst, old_int, old_str, old_bl, old_non, old_scr, old_tup, old_lst, olds_nil, olds_cons, killB_true, killB_false, killF_nil, yngO_sh, yngO_lst, yng_int, yng_str, yng_bl, yng_non, yng_scr, yng_tup, yng_lstT, yng_lstF, yngs_nil, yngs_cons, oldF_cons, killF_cons, Option.map_none, Option.bind_some, Option.bind_none, killO_eq, atI_0, atI_1, atI_2, atI_3, len1, len2, len3, len4, len5, len6, len7, le_big1, le_big2, le_big3, le_big4, le_big5, le_big6, le_big7, le_big8, le_big9, le_big10, le_big11, le_big12, hw.io, hw.run, hlh]
/-! ### reports with one mark -/
def tf (u : Bool) (ms : List (List Int)) : Reps := ms.map fun m => (u, m)
theorem repD_tf (u : Bool) (ms : List (List Int)) : (tf u ms).map repD = ms.map (intsL u) := by
  unfold tf
  rw [List.map_map]
  rfl
theorem tf_ok (u : Bool) {ms : List (List Int)} (h : ms.length ≤ 1000) (hl : ∀ m ∈ ms, m.length ≤ 1000000) : RepsOk (tf u ms) := ⟨by unfold tf big; rw [List.length_map]; omega, fun r hr => by
  obtain ⟨m, hm, rfl⟩ := List.mem_map.mp hr
  have := hl m hm
  unfold big
  dsimp only
  omega⟩
theorem allR_tf (u v : Bool) (ms : List (List Int)) (last now : Int) : allR (tf u ms) last now = allR (tf v ms) last now := by
  unfold allR tf
  rw [List.all_map, List.all_map]
  rfl
theorem patsL_tf (u v : Bool) (ms : List (List Int)) : ∀ (l : List Int) (last : Int), patsL (tf u ms) last l = patsL (tf v ms) last l
  | [], _ => rfl
  | a :: l, last => by
    rw [patsL, patsL, allR_tf u v, patsL_tf u v ms l a, patsL_tf u v ms l last]
theorem patsL_sub (rs : Reps) : ∀ (l : List Int) (last : Int), (patsL rs last l).Sublist l
  | [], _ => List.Sublist.slnil
  | a :: l, last => by
    rw [patsL]
    split
    · exact (patsL_sub rs l a).cons₂ a
    · exact (patsL_sub rs l last).cons a
theorem nows_up_pw {b e : Int} (hb : 0 < b) : (nows b e).Pairwise (· < ·) := by
  unfold nows
  rw [List.pairwise_map]
  refine List.pairwise_lt_range.imp fun {x y} h => ?_
  have := Int.mul_lt_mul_of_pos_right (show (x : Int) < (y : Int) by omega) hb
  omega
theorem nows_pos' {b e : Int} (hb : 0 < b) : ∀ x ∈ nows b e, 0 < x ∧ x ≤ e := fun x hx => ⟨nows_pos hb x hx, nows_le hb x hx⟩
theorem old_intsL (t : Bool) (ms : List Int) : old (intsL t ms) = intsL false ms := by
  unfold intsL
  rw [old_lst]
  congr 1
  induction ms with
  | nil => simp [olds]
  | cons a r ih => simp [olds, old, ih]
theorem olds_ints (ms : List Int) : olds (ms.map .int) = ms.map .int := by
  induction ms with
  | nil => simp [olds]
  | cons a r ih => simp [olds, old, ih]
theorem olds_intsLs (t : Bool) (ms : List (List Int)) : olds (ms.map (intsL t)) = ms.map (intsL false) := by
  induction ms with
  | nil => simp [olds]
  | cons a r ih => simp [olds, old_intsL, ih]
theorem yngs_ints (ms : List Int) : yngs (ms.map .int) = false := by
  rw [← olds_ints]
  exact yngs_olds _
theorem yng_intsL (ms : List Int) : yng (intsL false ms) = false := by
  rw [← old_intsL false]
  exact yng_old _
theorem yngs_intsLs (ms : List (List Int)) : yngs (ms.map (intsL false)) = false := by
  rw [← olds_intsLs false]
  exact yngs_olds _
theorem depthAll_ints (ms : List Int) : PyData.depthAll (pys (ms.map .int)) = 0 := by
  rw [pys_map, List.map_map]
  induction ms with
  | nil => rfl
  | cons a r ih => simp [PyData.depthAll, PyData.depth, ih]
theorem depthAll_reps (ms : List (List Int)) : PyData.depthAll (ms.map fun m => PyData.list (pys (m.map .int))) ≤ 1 := by
  induction ms with
  | nil => simp [PyData.depthAll]
  | cons a r ih =>
    simp only [List.map_cons, PyData.depthAll, PyData.depth, depthAll_ints]
    omega
theorem same_reps (t t' u u' : Bool) (ms : List (List Int)) : eqD (.lst t (ms.map (intsL u))) (.lst t' (ms.map (intsL u'))) = some true := by
  have hp : ∀ u : Bool, pys (ms.map (intsL u)) = ms.map fun m => PyData.list (pys (m.map .int)) := fun u => by
    rw [pys_map, List.map_map]
    refine List.map_congr_left fun m _ => ?_
    unfold intsL
    simp
  have hn : ∀ t u : Bool, nbP (py (.lst t (ms.map (intsL u)))) = true := fun t u => by
    rw [py_list, nbP, nbPs_all, pys_map, List.all_map, List.all_map, List.all_eq_true]
    intro m _
    exact nb_intsL u m
  rw [eqD_of (p := True) (hn t u) (hn t' u') (.inl ?_) (by rw [py_list, py_list, hp u, hp u']; simp)]
  · rfl
  · rw [py_list, hp u]
    have := depthAll_reps ms
    simp only [PyData.depth]
    omega
theorem like_ints (t u : Bool) (ms : List Int) : Like (intsL t ms) (intsL u ms) := by
  unfold intsL
  refine .lst ?_
  induction ms with
  | nil => exact .nil
  | cons a r ih => exact .cons (.int a) ih
theorem wide_ints (u : Bool) {ms : List Int} (h : ms.length ≤ 1000000) : wide (intsL u ms) = true := by
  unfold intsL
  rw [wide, List.length_map, decide_eq_true h, Bool.true_and]
  clear h
  induction ms with
  | nil => simp [wides]
  | cons a r ih => simp [wides, wide, ih]
theorem dep_ints (u : Bool) (ms : List Int) : dep (intsL u ms) ≤ 1 := by
  unfold intsL
  rw [dep]
  have : deps (ms.map D.int) = 0 := by
    induction ms with
    | nil => simp [deps]
    | cons a r ih => simp [deps, dep, ih]
  omega
end WD


namespace WD.Law
open PySem PySem.Spec PyProof.Rows L2 WD
def kindsL : List (Nat × Str) := [(1, "BadWindow"), (8, "BadBeat")]
def topS (i : Nat) : Stmt := PySem.Challenge.pw_windowdog_k11_keepers_and_what_is_found.main.body.getD i (.Pass ⟨0, 0, 0, 0⟩)
def f_need_window : WD.Fn := F_need_window 1
def f_first_bite : WD.Fn := F_first_bite 2
def f_late_bite : WD.Fn := F_late_bite
def f_need_beat : WD.Fn := F_need_beat 8
def f_has_reported : WD.Fn := F_has_reported
def f_pats_of : WD.Fn := F_pats_of 4
def f_keeper_pats : WD.Fn := F_keeper_pats 5 3
def f_found_at : WD.Fn := F_found_at 5 1 3 0
def f__law_start : WD.Fn := F__law_start
def f__law_drawn : WD.Fn := F__law_drawn
def f__law_same : WD.Fn := F__law_same 10
def f__law_far : WD.Fn := F__law_far 9
def f__law_window : WD.Fn := F__law_window 9
def f__law_bite : WD.Fn := F__law_bite
def f__law_keeper : WD.Fn := F__law_keeper
def f__law_tasks : WD.Fn := F__law_tasks 9
def f__law_reports : WD.Fn := F__law_reports 9
/-- law(_law_script): 0=_law_script 1=_law_state 2=_law_turn 3=_law_gap 4=_law_end 5=_law_reports_here 6=_law_beat 7=_law_window_here 8=_law_handed 9=_law_due 10=_law_again 11=_law_found 12=_law_bite_here 13=_law_odd 14=_law_moments 15=_law_moment -/
def F_law_k1 : WD.E := (.call 7 (.cons (.tup (.cons (.bin .add (.ix (.var 7) (.cint 1)) (.cint 1)) (.cons (.ix (.var 7) (.cint 1)) .nil))) (.cons (.var 13) (.cons (.var 8) (.cons (.var 4) .nil)))))
def F_law_k2 : WD.E := (.call 7 (.cons (.var 7) (.cons (.var 13) (.cons (.var 8) (.cons (.var 4) .nil)))))
def F_law_k3 : WD.E := (.call 6 (.cons (.var 13) (.cons (.var 8) (.cons (.var 4) .nil))))
def F_law_b1 : WD.S := (.seq (.set 11 (.call 6 (.cons (.var 6) (.cons (.var 8) (.cons (.var 4) .nil))))) (.seq (.ite (.bop false (.cons (.not (.call 10 (.cons (.var 11) (.cons (.var 9) .nil)))) (.cons (.cmp .ne (.var 8) (.var 5)) .nil))) (.seq (.ret (.cbl false)) .skip) .skip) (.seq (.poke (.var 11) (.cint 0)) .skip)))
def F_law_e1 : WD.E := (.bi .list (.cons (.var 14) .nil))
def F_law_g1 : WD.E := .nil
def F_law_e2 : WD.E := (.var 15)
def F_law_g2 : WD.E := (.cons (.cmp .gt (.call 9 (.cons (.var 1) (.cons (.cint 4) .nil))) (.cint 0)) .nil)
def F_law_e3 : WD.E := (.lc F_law_e2 (.name 15) (.var 14) F_law_g2 [15])
def F_law_g3 : WD.E := .nil
def F_law_b2 : WD.S := (.seq (.set 3 (.ix (.lst (.cons (.cint 12) (.cons (.cint 12) (.cons (.cint 60) .nil)))) (.call 9 (.cons (.var 1) (.cons (.cint 3) .nil))))) (.seq (.set 4 (.call 9 (.cons (.var 1) (.cons (.ix (.lst (.cons (.cint 30) (.cons (.cint 130) (.cons (.cint 130) (.cons (.cint 1000) .nil))))) (.call 9 (.cons (.var 1) (.cons (.cint 4) .nil)))) .nil)))) (.seq (.set 5 (.call 16 (.cons (.var 1) (.cons (.call 15 (.cons (.var 1) (.cons (.cint 4) (.cons (.var 3) .nil)))) (.cons (.bin .add (.var 4) (.cint 5)) .nil))))) (.seq (.ite (.cmp .eq (.call 9 (.cons (.var 1) (.cons (.cint 3) .nil))) (.cint 2)) (.seq (.set 5 (.lc F_law_e3 (.name 14) (.var 5) F_law_g3 [14])) .skip) .skip) (.seq (.set 6 (.bin .add (.cint 1) (.call 9 (.cons (.var 1) (.cons (.ix (.lst (.cons (.cint 4) (.cons (.cint 12) (.cons (.cint 60) .nil)))) (.call 9 (.cons (.var 1) (.cons (.cint 3) .nil)))) .nil))))) (.seq (.set 7 (.call 12 (.cons (.var 1) (.cons (.cint 40) .nil)))) (.seq (.set 8 (.lc F_law_e1 (.name 14) (.var 5) F_law_g1 [14])) (.seq (.set 9 (.call 14 (.cons (.var 6) (.cons (.var 5) (.cons (.var 4) .nil))))) (.seq (.for_ true (.name 10) (.rng (.cons (.cint 2) .nil)) F_law_b1) (.seq (.set 12 (.call 13 (.cons (.var 7) (.cons (.var 9) (.cons (.var 4) .nil))))) (.seq (.ite (.bop false (.cons (.not (.call 10 (.cons (.call 7 (.cons (.var 7) (.cons (.var 6) (.cons (.var 8) (.cons (.var 4) .nil))))) (.cons (.var 12) .nil)))) (.cons (.cmp .ne (.var 8) (.var 5)) .nil))) (.seq (.ret (.cbl false)) .skip) .skip) (.seq (.set 13 (.ix (.lst (.cons (.cint 0) (.cons (.call 11 (.cons (.var 1) (.cons (.cint 60) .nil))) .nil))) (.call 9 (.cons (.var 1) (.cons (.cint 2) .nil))))) (.seq (.ite (.cmp .ne (.kind F_law_k3 kindsL) (.cstr "BadBeat")) (.seq (.ret (.cbl false)) .skip) .skip) (.seq (.ite (.cmp .ne (.kind F_law_k2 kindsL) (.cstr "BadBeat")) (.seq (.ret (.cbl false)) .skip) .skip) (.seq (.ite (.cmp .ne (.kind F_law_k1 kindsL) (.cstr "BadWindow")) (.seq (.ret (.cbl false)) .skip) .skip) .skip)))))))))))))))
def F_law : WD.Fn := ⟨1, 16, [false], (.seq (.set 1 (.call 8 (.cons (.var 0) .nil))) (.seq (.for_ false (.name 2) (.rng (.cons (.cint 8) .nil)) F_law_b2) (.seq (.ret (.cbl true)) .skip)))⟩
def f_law : WD.Fn := F_law
def gt : GT := ⟨[("need_window", 0), ("first_bite", 1), ("late_bite", 2), ("need_beat", 3), ("has_reported", 4), ("pats_of", 5), ("keeper_pats", 6), ("found_at", 7), ("_law_start", 8), ("_law_drawn", 9), ("_law_same", 10), ("_law_far", 11), ("_law_window", 12), ("_law_bite", 13), ("_law_keeper", 14), ("_law_tasks", 15), ("_law_reports", 16)], [("MOST_HIGH", 1000), ("MOST_BEAT", 60)], ["range", "len", "isinstance", "int", "bool", "str", "tuple", "list"], [("BadWindow", 1), ("BadBeat", 8)], [], [], true⟩
def d_need_window : Dsc := ⟨"need_window", "need_window", topS 13, ["window"], ["window"], f_need_window⟩
def d_first_bite : Dsc := ⟨"first_bite", "first_bite", topS 14, ["window", "pats", "end", "low", "high", "last", "pat"], ["window", "pats", "end"], f_first_bite⟩
def d_late_bite : Dsc := ⟨"late_bite", "late_bite", topS 15, ["moment", "end"], ["moment", "end"], f_late_bite⟩
def d_need_beat : Dsc := ⟨"need_beat", "need_beat", topS 18, ["beat"], ["beat"], f_need_beat⟩
def d_has_reported : Dsc := ⟨"has_reported", "has_reported", topS 19, ["moments", "last", "now", "moment"], ["moments", "last", "now"], f_has_reported⟩
def d_pats_of : Dsc := ⟨"pats_of", "pats_of", topS 20, ["beat", "reports", "end", "found", "last", "now", "moments"], ["beat", "reports", "end"], f_pats_of⟩
def d_keeper_pats : Dsc := ⟨"keeper_pats", "keeper_pats", topS 21, ["beat", "reports", "end"], ["beat", "reports", "end"], f_keeper_pats⟩
def d_found_at : Dsc := ⟨"found_at", "found_at", topS 22, ["window", "beat", "reports", "end"], ["window", "beat", "reports", "end"], f_found_at⟩
def d__law_start : Dsc := ⟨"_law_start", "_law_start", topS 24, ["_law_script", "_law_mixed", "_law_cell"], ["_law_script"], f__law_start⟩
def d__law_drawn : Dsc := ⟨"_law_drawn", "_law_drawn", topS 25, ["_law_state", "_law_many", "_law_found", "_law_cell"], ["_law_state", "_law_many"], f__law_drawn⟩
def d__law_same : Dsc := ⟨"_law_same", "_law_same", topS 26, ["_law_found", "_law_due", "_law_k"], ["_law_found", "_law_due"], f__law_same⟩
def d__law_far : Dsc := ⟨"_law_far", "_law_far", topS 28, ["_law_state", "_law_most", "_law_far_here"], ["_law_state", "_law_most"], f__law_far⟩
def d__law_window : Dsc := ⟨"_law_window", "_law_window", topS 29, ["_law_state", "_law_most", "_law_high"], ["_law_state", "_law_most"], f__law_window⟩
def d__law_bite : Dsc := ⟨"_law_bite", "_law_bite", topS 30, ["_law_window_here", "_law_pats", "_law_end", "_law_last", "_law_left", "_law_now"], ["_law_window_here", "_law_pats", "_law_end"], f__law_bite⟩
def d__law_keeper : Dsc := ⟨"_law_keeper", "_law_keeper", topS 31, ["_law_beat", "_law_reports_here", "_law_end", "_law_found", "_law_told", "_law_now", "_law_moments", "_law_k"], ["_law_beat", "_law_reports_here", "_law_end"], f__law_keeper⟩
def d__law_tasks : Dsc := ⟨"_law_tasks", "_law_tasks", topS 32, ["_law_state", "_law_most", "_law_gap", "_law_found", "_law_k", "_law_least"], ["_law_state", "_law_most", "_law_gap"], f__law_tasks⟩
def d__law_reports : Dsc := ⟨"_law_reports", "_law_reports", topS 33, ["_law_state", "_law_tasks_here", "_law_end", "_law_found", "_law_least", "_law_most", "_law_moments", "_law_now"], ["_law_state", "_law_tasks_here", "_law_end"], f__law_reports⟩
def d_law : Dsc := ⟨"law", "law", topS 34, ["_law_script", "_law_state", "_law_turn", "_law_gap", "_law_end", "_law_reports_here", "_law_beat", "_law_window_here", "_law_handed", "_law_due", "_law_again", "_law_found", "_law_bite_here", "_law_odd", "_law_moments", "_law_moment"], ["_law_script"], f_law⟩
def lst : List Dsc := [d_need_window, d_first_bite, d_late_bite, d_need_beat, d_has_reported, d_pats_of, d_keeper_pats, d_found_at, d__law_start, d__law_drawn, d__law_same, d__law_far, d__law_window, d__law_bite, d__law_keeper, d__law_tasks, d__law_reports]
theorem chk_need_window : chkD gt false d_need_window = true := by decide +kernel
theorem chk_first_bite : chkD gt false d_first_bite = true := by decide +kernel
theorem chk_late_bite : chkD gt false d_late_bite = true := by decide +kernel
theorem chk_need_beat : chkD gt false d_need_beat = true := by decide +kernel
theorem chk_has_reported : chkD gt false d_has_reported = true := by decide +kernel
theorem chk_pats_of : chkD gt false d_pats_of = true := by decide +kernel
theorem chk_keeper_pats : chkD gt false d_keeper_pats = true := by decide +kernel
theorem chk_found_at : chkD gt false d_found_at = true := by decide +kernel
theorem chk__law_start : chkD gt false d__law_start = true := by decide +kernel
theorem chk__law_drawn : chkD gt false d__law_drawn = true := by decide +kernel
theorem chk__law_same : chkD gt false d__law_same = true := by decide +kernel
theorem chk__law_far : chkD gt false d__law_far = true := by decide +kernel
theorem chk__law_window : chkD gt false d__law_window = true := by decide +kernel
theorem chk__law_bite : chkD gt false d__law_bite = true := by decide +kernel
theorem chk__law_keeper : chkD gt false d__law_keeper = true := by decide +kernel
theorem chk__law_tasks : chkD gt false d__law_tasks = true := by decide +kernel
theorem chk__law_reports : chkD gt false d__law_reports = true := by decide +kernel
theorem chk_law : chkD { gt with kinds := kindsL } true d_law = true := by decide +kernel
theorem chk_kind : kindChk (topS 27) kindsL = true := by decide +kernel
theorem chk_all : lst.all (chkD gt false) = true := by
  unfold lst
  simp only [List.all_cons, List.all_nil, chk_need_window, chk_first_bite, chk_late_bite, chk_need_beat, chk_has_reported, chk_pats_of, chk_keeper_pats, chk_found_at, chk__law_start, chk__law_drawn, chk__law_same, chk__law_far, chk__law_window, chk__law_bite, chk__law_keeper, chk__law_tasks, chk__law_reports, Bool.and_self]
theorem chk_fns : fnsB gt lst = true := by decide +kernel
abbrev Γ : List WD.Fn := fnsOf lst
theorem io_need_window (n N : Nat) : (clOf Γ N n).io 0 = [false] := by cases n <;> rfl
theorem run_need_window (n N : Nat) (os : List O) : (clOf Γ N (n + 1)).run 0 os = runF (clOf Γ N n) N f_need_window os := rfl
theorem io_first_bite (n N : Nat) : (clOf Γ N n).io 1 = [false, false, false] := by cases n <;> rfl
theorem run_first_bite (n N : Nat) (os : List O) : (clOf Γ N (n + 1)).run 1 os = runF (clOf Γ N n) N f_first_bite os := rfl
theorem io_late_bite (n N : Nat) : (clOf Γ N n).io 2 = [false, false] := by cases n <;> rfl
theorem run_late_bite (n N : Nat) (os : List O) : (clOf Γ N (n + 1)).run 2 os = runF (clOf Γ N n) N f_late_bite os := rfl
theorem io_need_beat (n N : Nat) : (clOf Γ N n).io 3 = [false] := by cases n <;> rfl
theorem run_need_beat (n N : Nat) (os : List O) : (clOf Γ N (n + 1)).run 3 os = runF (clOf Γ N n) N f_need_beat os := rfl
theorem io_has_reported (n N : Nat) : (clOf Γ N n).io 4 = [false, false, false] := by cases n <;> rfl
theorem run_has_reported (n N : Nat) (os : List O) : (clOf Γ N (n + 1)).run 4 os = runF (clOf Γ N n) N f_has_reported os := rfl
theorem io_pats_of (n N : Nat) : (clOf Γ N n).io 5 = [false, false, false] := by cases n <;> rfl
theorem run_pats_of (n N : Nat) (os : List O) : (clOf Γ N (n + 1)).run 5 os = runF (clOf Γ N n) N f_pats_of os := rfl
theorem io_keeper_pats (n N : Nat) : (clOf Γ N n).io 6 = [false, false, false] := by cases n <;> rfl
theorem run_keeper_pats (n N : Nat) (os : List O) : (clOf Γ N (n + 1)).run 6 os = runF (clOf Γ N n) N f_keeper_pats os := rfl
theorem io_found_at (n N : Nat) : (clOf Γ N n).io 7 = [false, false, false, false] := by cases n <;> rfl
theorem run_found_at (n N : Nat) (os : List O) : (clOf Γ N (n + 1)).run 7 os = runF (clOf Γ N n) N f_found_at os := rfl
theorem io__law_start (n N : Nat) : (clOf Γ N n).io 8 = [false] := by cases n <;> rfl
theorem run__law_start (n N : Nat) (os : List O) : (clOf Γ N (n + 1)).run 8 os = runF (clOf Γ N n) N f__law_start os := rfl
theorem io__law_drawn (n N : Nat) : (clOf Γ N n).io 9 = [true, false] := by cases n <;> rfl
theorem run__law_drawn (n N : Nat) (os : List O) : (clOf Γ N (n + 1)).run 9 os = runF (clOf Γ N n) N f__law_drawn os := rfl
theorem io__law_same (n N : Nat) : (clOf Γ N n).io 10 = [false, false] := by cases n <;> rfl
theorem run__law_same (n N : Nat) (os : List O) : (clOf Γ N (n + 1)).run 10 os = runF (clOf Γ N n) N f__law_same os := rfl
theorem io__law_far (n N : Nat) : (clOf Γ N n).io 11 = [true, false] := by cases n <;> rfl
theorem run__law_far (n N : Nat) (os : List O) : (clOf Γ N (n + 1)).run 11 os = runF (clOf Γ N n) N f__law_far os := rfl
theorem io__law_window (n N : Nat) : (clOf Γ N n).io 12 = [true, false] := by cases n <;> rfl
theorem run__law_window (n N : Nat) (os : List O) : (clOf Γ N (n + 1)).run 12 os = runF (clOf Γ N n) N f__law_window os := rfl
theorem io__law_bite (n N : Nat) : (clOf Γ N n).io 13 = [false, false, false] := by cases n <;> rfl
theorem run__law_bite (n N : Nat) (os : List O) : (clOf Γ N (n + 1)).run 13 os = runF (clOf Γ N n) N f__law_bite os := rfl
theorem io__law_keeper (n N : Nat) : (clOf Γ N n).io 14 = [false, false, false] := by cases n <;> rfl
theorem run__law_keeper (n N : Nat) (os : List O) : (clOf Γ N (n + 1)).run 14 os = runF (clOf Γ N n) N f__law_keeper os := rfl
theorem io__law_tasks (n N : Nat) : (clOf Γ N n).io 15 = [true, false, false] := by cases n <;> rfl
theorem run__law_tasks (n N : Nat) (os : List O) : (clOf Γ N (n + 1)).run 15 os = runF (clOf Γ N n) N f__law_tasks os := rfl
theorem io__law_reports (n N : Nat) : (clOf Γ N n).io 16 = [true, false, false] := by cases n <;> rfl
theorem run__law_reports (n N : Nat) (os : List O) : (clOf Γ N (n + 1)).run 16 os = runF (clOf Γ N n) N f__law_reports os := rfl
end WD.Law
namespace WD.Law
open PySem PySem.Spec PyProof.Rows L2 WD
section
variable (n N : Nat) (ns : List Int)
theorem drawOk : DrawOk ns (clOf Γ N (n + 1)) 9 := .of (io__law_drawn _ _) fun os => run__law_drawn n N os
theorem lateOk : LateOk (clOf Γ N (n + 1)) 2 := ⟨io_late_bite _ _, fun m e => by rw [run_late_bite]; exact late_run _ _ m e⟩
theorem firstOk : FirstOk (clOf Γ N (n + 2)) 1 := ⟨io_first_bite _ _, fun low high e t ps => by rw [run_first_bite]; exact first_run _ _ _ (lateOk n N) low high e t ps⟩
theorem hasOk : HasOk (clOf Γ N (n + 1)) 4 := ⟨io_has_reported _ _, fun t ms last now h => by rw [run_has_reported]; exact has_run _ _ t ms last now h⟩
theorem patsOk : PatsOk (clOf Γ N (n + 2)) 5 := ⟨io_pats_of _ _, fun t b e rs h1 h2 h3 h4 h5 => by rw [run_pats_of]; exact pats_run _ _ _ (hasOk n N) t h1 h2 h3 h4 h5⟩
theorem needWin : NeedWin (clOf Γ N (n + 1)) 0 1 := ⟨io_need_window _ _, fun low high => by rw [run_need_window]; exact need_window_run _ _ _ low high⟩
theorem needBeat : NeedBeat (clOf Γ N (n + 1)) 3 8 := ⟨io_need_beat _ _, fun b => by rw [run_need_beat]; exact need_beat_run _ _ _ b⟩
theorem sameF : SameF (fun n => clOf Γ N n) N 10 := ⟨fun n => io__law_same n N, fun n os => run__law_same n N os⟩
theorem keeper_at (t : Bool) {b e : Int} {rs : Reps} (hr : RepsOk rs) (hb : 1 ≤ b ∧ b ≤ 60) (he : -(2 ^ 39) < e) (he2 : e ≤ 1000000) :
    (clOf Γ N (n + 3)).run 6 [.sh (.int b), .sh (repsD t rs), .sh (.int e)] = .ok (.sh (.lst true ((patsL rs 0 (nows b e)).map .int))) [] := by
  rw [run_keeper_pats]
  exact keeper_run _ _ _ _ _ (patsOk n N) (needBeat (n + 1) N) t hr hb he he2
theorem keeper_bad {b : Int} (d e : D) (hb : ¬ (1 ≤ b ∧ b ≤ 60)) : (clOf Γ N (n + 3)).run 6 [.sh (.int b), .sh d, .sh e] = .exn ⟨8, none⟩ [] := by
  rw [run_keeper_pats]
  exact keeper_exn _ _ _ _ _ (needBeat (n + 1) N) d e hb
theorem found_at' (t : Bool) {low high b e : Int} {rs : Reps} (hr : RepsOk rs) (hlh : winOk low high = true) (hb : 1 ≤ b ∧ b ≤ 60) (he : -(2 ^ 39) < e) (he2 : e ≤ 1000000) :
    (clOf Γ N (n + 3)).run 7 [.sh (winD low high), .sh (.int b), .sh (repsD t rs), .sh (.int e)] = .ok (.sh (fbD low high e 0 (patsL rs 0 (nows b e)))) [] := by
  rw [run_found_at]
  exact found_run _ _ _ _ _ _ _ _ (patsOk n N) (firstOk n N) (needBeat (n + 1) N) (needWin (n + 1) N) t hr hlh hb he he2
theorem found_bad {low high b : Int} (d e : D) (hlh : winOk low high = true) (hb : ¬ (1 ≤ b ∧ b ≤ 60)) : (clOf Γ N (n + 3)).run 7 [.sh (winD low high), .sh (.int b), .sh d, .sh e] = .exn ⟨8, none⟩ [] := by
  rw [run_found_at]
  exact found_exn _ _ _ _ _ _ _ _ (needBeat (n + 1) N) (needWin (n + 1) N) d e hlh hb
theorem found_badw {low high : Int} (b d e : D) (hlh : winOk low high = false) : (clOf Γ N (n + 3)).run 7 [.sh (winD low high), .sh b, .sh d, .sh e] = .exn ⟨1, none⟩ [] := by
  rw [run_found_at]
  exact found_exw _ _ _ _ _ _ _ (needWin (n + 1) N) b d e hlh
end
theorem kl1 : kindsL.lookup 1 = some ("BadWindow" : Str) := rfl
theorem kl8 : kindsL.lookup 8 = some ("BadBeat" : Str) := rfl
noncomputable abbrev CL : Cl := clOf Γ 2000 10
/-! ### reports left out -/
theorem thin1 {ns : List Int} {t : Bool} {ds : List D} (h : St ns (.lst t ds)) (x0 x2 x3 x4 x5 x6 x7 x8 x9 x10 x11 x12 x13 x14 : Option O) (m : List Int) (hm : m.length ≤ 1000000) :
    ∃ (m2 : List Int) (t' : Bool) (ds' : List D) (y : Option O), St ns (.lst t' ds') ∧ m2.length ≤ m.length ∧ lcL (kLc CL F_law_e2 (.name 15) F_law_g2 [15]) (m.map .int) [] [x0, some (.lst t ds), x2, x3, x4, x5, x6, x7, x8, x9, x10, x11, x12, x13, x14, none] =
      .ok (m2.map .int) [x0, some (.lst t' ds'), x2, x3, x4, x5, x6, x7, x8, x9, x10, x11, x12, x13, x14, y] := by
  obtain ⟨acc', ρ', e2, t2, o2, m2, y, l, hρ, s2, ha, hl, hc⟩ := lcL_ok (step := kLc CL F_law_e2 (.name 15) F_law_g2 [15])
    (fun r acc ρ => ∃ (t2 : Bool) (o2 : List D) (m2 : List Int) (y : Option O) (l : List Int), ρ = [x0, some (.lst t2 o2), x2, x3, x4, x5, x6, x7, x8, x9, x10, x11, x12, x13, x14, y] ∧ St ns (.lst t2 o2) ∧ acc = m2.map .int ∧ r = l.map .int ∧ m2.length + l.length ≤ m.length)
    (fun d r acc ρ ⟨t2, o2, m2, y, l, hρ, s2, ha, hl, hc⟩ => by
      cases l with
      | nil => cases hl
      | cons a l =>
        rw [List.map_cons, List.cons.injEq] at hl
        obtain ⟨rfl, rfl⟩ := hl
        subst hρ ha
        rw [List.length_cons] at hc
        obtain ⟨v, t3, o3, s3, a3, b3, e3⟩ := (drawOk 9 2000 ns).run _ _ 4 s2 (by omega) (by omega)
        by_cases hv : 0 < v
        · refine .inl ⟨.int a, [x0, some (.lst t3 o3), x2, x3, x4, x5, x6, x7, x8, x9, x10, x11, x12, x13, x14, some (.sh (.int a))], ?_, by rw [List.length_map]; unfold big; omega, t3, o3, m2 ++ [a], _, l, rfl, s3, by rw [List.map_append]; rfl, rfl, by rw [List.length_append, List.length_singleton]; omega⟩
          unfold kLc F_law_e2 F_law_g2
          simp only [evO_e1, evO_e2, evO_e3, evO_e4, evO_e5, evO_e7, evO_e9, evO_e10, evO_e11, evO_e12, evO_e14, evO_e15, evO_e16, evO_e17, evO_e18, evO_e19, evO_e20, evO_e21, evPs_e1, evPs_e2, evB_e1, evI_rng, evI_e2, evI_e3, evS_e1, evS_e3, evS_e4, evS_e5, evS_e7, evS_e8, evS_e9, evS_e10, evS_e14, evS_poke, yngL_lst, lk_lst, lk_sh, look_val, look_at, opv_sh, opv_lst, opv_obj, opv_dic, opd_var, opd_ne, frzAt_eq, fza_sh, fza_lst, give_val, give_at, dcA_some, dcB_ok, dcB_exn, doCall_eq, bin_addI, bin_addL, bin_addT, bin_sub, bin_mulI, bin_mulL, bin_fdiv, bin_mod, bin_pow, cmp_eq, cmp_ne, cmp_lt, cmp_le, cmp_gt, cmp_ge, cmp_is, cmp_isn, cmp_inL, cmp_inT, cmp_ninL, cmp_ninT, isNon_non, isNon_int, isNon_str, isNon_bl, isNon_tup, isNon_lst, ix_lst, ix_tup, ix_scr, sl_lst, sl_tup, seq_lst, seq_tup, seq_scr, seqL_lst, seqL_scr, bi_lenL, bi_lenT, bi_lenS, bi_listL, bi_listT, bi_tupL, bi_tupT, bi_intI, bi_intB, bi_max2, bi_min2, rngsD_1, rngsD_2, rngsD_3, lao_lst, lstAt_se, gpo_obj, lstAt_fe, setPl_s, spo_obj, setPl_f, partE_nil, partE_ne, intO_sh, lstD_lst, fldR_sh, fldR_obj, evO_fld, negR_int, evO_neg, iteR_true, iteR_false, evO_ite, chR_true, chR_false, evC_one, evC_two, bopR_tt, bopR_tf, bopR_ft, bopR_ff, evB_cs, sfR_obj, evS_setfld, evI_e, evS_seq, evS_ite, evS_for, evS_whl, evO_lc, kSeq_nx, kSeq_ret, kIf_true, kIf_false, kLcs_true, bnd_ok, bnd_exn, bnd_fail, opt_some, opt_none, optC_some, asB_ok, asB_exn, asI_ok, getS, setS, looks, frz, frzs, gives, takeA, backA, doNew, intsD, outsOf, eqD_int, kRun_nx, kRun_ret, kRun_exn, wipeF, backF, ne_eq, not_false_eq_true, forall_const, implies_true, reduceCtorEq, List.map_cons, List.map_nil, List.cons_append, List.nil_append, List.append_nil, List.replicate_succ, List.replicate_zero, Option.map_some, and_self, if_true, if_false, decide_true, decide_false, Bool.not_true, Bool.not_false, Bool.false_eq_true, Bool.or_true, Bool.true_or, Bool.and_true, Bool.true_and, Bool.or_false, Bool.false_or, asg_name, asg_tup, asg2_some, asgs_nil, asgs_cons, evO_gint, Nat.sub_self, Nat.reduceSub, shOrNone_none, shOrNone_sh, List.all_cons, List.all_nil, evO_isi, evO_isx, evO_cntT, evO_idxT, evO_kind, kindR_ok, kindR_exn, isi_int, isi_bl, isi_str, isi_non, isi_tup, isi_lst, eqD_bl, eqD_str, isa_int_TL, isa_int_L, isa_int_S, isa_int_B, isa_int_I, isa_int_T, isa_bool_TL, isa_bool_L, isa_bool_S, isa_bool_B, isa_bool_I, isa_bool_T, isa_str_TL, isa_str_L, isa_str_S, isa_str_B, isa_str_I, isa_str_T, isa_list_TL, isa_list_L, isa_list_S, isa_list_B, isa_list_I, isa_list_T, isa_tuple_TL, isa_tuple_L, isa_tuple_S, isa_tuple_B, isa_tuple_I, isa_tuple_T, isa_none_TL, isa_none_L, isa_none_S, isa_none_B, isa_none_I, isa_none_T, eqD_nil0, List.length_nil, Nat.zero_le, oldF_nil, oldO_sh, oldO_lst, old_int, old_str, old_bl, old_non, old_scr, old_tup, old_lst, olds_nil, olds_cons, killB_true, killB_false, killF_nil, yngO_sh, yngO_lst, yng_int, yng_str, yng_bl, yng_non, yng_scr, yng_tup, yng_lstT, yng_lstF, yngs_nil, yngs_cons, oldF_cons, killF_cons, Option.map_none, Option.bind_some, Option.bind_none, killO_eq, atI_0, atI_1, atI_2, atI_3, len1, len2, len3, len4, len5, len6, len7, le_big1, le_big2, le_big3, le_big4, le_big5, le_big6, le_big7, le_big8, le_big9, le_big10, le_big11, le_big12, io__law_drawn, e3, hv]
        · refine .inr ⟨[x0, some (.lst t3 o3), x2, x3, x4, x5, x6, x7, x8, x9, x10, x11, x12, x13, x14, some (.sh (.int a))], ?_, t3, o3, m2, _, l, rfl, s3, rfl, rfl, by omega⟩
          unfold kLc F_law_e2 F_law_g2
          simp only [evO_e1, evO_e2, evO_e3, evO_e4, evO_e5, evO_e7, evO_e9, evO_e10, evO_e11, evO_e12, evO_e14, evO_e15, evO_e16, evO_e17, evO_e18, evO_e19, evO_e20, evO_e21, evPs_e1, evPs_e2, evB_e1, evI_rng, evI_e2, evI_e3, evS_e1, evS_e3, evS_e4, evS_e5, evS_e7, evS_e8, evS_e9, evS_e10, evS_e14, evS_poke, yngL_lst, lk_lst, lk_sh, look_val, look_at, opv_sh, opv_lst, opv_obj, opv_dic, opd_var, opd_ne, frzAt_eq, fza_sh, fza_lst, give_val, give_at, dcA_some, dcB_ok, dcB_exn, doCall_eq, bin_addI, bin_addL, bin_addT, bin_sub, bin_mulI, bin_mulL, bin_fdiv, bin_mod, bin_pow, cmp_eq, cmp_ne, cmp_lt, cmp_le, cmp_gt, cmp_ge, cmp_is, cmp_isn, cmp_inL, cmp_inT, cmp_ninL, cmp_ninT, isNon_non, isNon_int, isNon_str, isNon_bl, isNon_tup, isNon_lst, ix_lst, ix_tup, ix_scr, sl_lst, sl_tup, seq_lst, seq_tup, seq_scr, seqL_lst, seqL_scr, bi_lenL, bi_lenT, bi_lenS, bi_listL, bi_listT, bi_tupL, bi_tupT, bi_intI, bi_intB, bi_max2, bi_min2, rngsD_1, rngsD_2, rngsD_3, lao_lst, lstAt_se, gpo_obj, lstAt_fe, setPl_s, spo_obj, setPl_f, partE_nil, partE_ne, intO_sh, lstD_lst, fldR_sh, fldR_obj, evO_fld, negR_int, evO_neg, iteR_true, iteR_false, evO_ite, chR_true, chR_false, evC_one, evC_two, bopR_tt, bopR_tf, bopR_ft, bopR_ff, evB_cs, sfR_obj, evS_setfld, evI_e, evS_seq, evS_ite, evS_for, evS_whl, evO_lc, kSeq_nx, kSeq_ret, kIf_true, kIf_false, kLcs_true, bnd_ok, bnd_exn, bnd_fail, opt_some, opt_none, optC_some, asB_ok, asB_exn, asI_ok, getS, setS, looks, frz, frzs, gives, takeA, backA, doNew, intsD, outsOf, eqD_int, kRun_nx, kRun_ret, kRun_exn, wipeF, backF, ne_eq, not_false_eq_true, forall_const, implies_true, reduceCtorEq, List.map_cons, List.map_nil, List.cons_append, List.nil_append, List.append_nil, List.replicate_succ, List.replicate_zero, Option.map_some, and_self, if_true, if_false, decide_true, decide_false, Bool.not_true, Bool.not_false, Bool.false_eq_true, Bool.or_true, Bool.true_or, Bool.and_true, Bool.true_and, Bool.or_false, Bool.false_or, asg_name, asg_tup, asg2_some, asgs_nil, asgs_cons, evO_gint, Nat.sub_self, Nat.reduceSub, shOrNone_none, shOrNone_sh, List.all_cons, List.all_nil, evO_isi, evO_isx, evO_cntT, evO_idxT, evO_kind, kindR_ok, kindR_exn, isi_int, isi_bl, isi_str, isi_non, isi_tup, isi_lst, eqD_bl, eqD_str, isa_int_TL, isa_int_L, isa_int_S, isa_int_B, isa_int_I, isa_int_T, isa_bool_TL, isa_bool_L, isa_bool_S, isa_bool_B, isa_bool_I, isa_bool_T, isa_str_TL, isa_str_L, isa_str_S, isa_str_B, isa_str_I, isa_str_T, isa_list_TL, isa_list_L, isa_list_S, isa_list_B, isa_list_I, isa_list_T, isa_tuple_TL, isa_tuple_L, isa_tuple_S, isa_tuple_B, isa_tuple_I, isa_tuple_T, isa_none_TL, isa_none_L, isa_none_S, isa_none_B, isa_none_I, isa_none_T, eqD_nil0, List.length_nil, Nat.zero_le, oldF_nil, oldO_sh, oldO_lst, old_int, old_str, old_bl, old_non, old_scr, old_tup, old_lst, olds_nil, olds_cons, killB_true, killB_false, killF_nil, yngO_sh, yngO_lst, yng_int, yng_str, yng_bl, yng_non, yng_scr, yng_tup, yng_lstT, yng_lstF, yngs_nil, yngs_cons, oldF_cons, killF_cons, Option.map_none, Option.bind_some, Option.bind_none, killO_eq, atI_0, atI_1, atI_2, atI_3, len1, len2, len3, len4, len5, len6, len7, le_big1, le_big2, le_big3, le_big4, le_big5, le_big6, le_big7, le_big8, le_big9, le_big10, le_big11, le_big12, io__law_drawn, e3, hv])
    (m.map .int) [] [x0, some (.lst t ds), x2, x3, x4, x5, x6, x7, x8, x9, x10, x11, x12, x13, x14, none] ⟨t, ds, [], none, m, rfl, h, rfl, rfl, by simp⟩
  subst hρ ha
  exact ⟨m2, t2, o2, y, s2, by omega, e2⟩
theorem thin2 {ns : List Int} {t : Bool} {ds : List D} (h : St ns (.lst t ds)) (x0 x2 x3 x4 x5 x6 x7 x8 x9 x10 x11 x12 x13 : Option O) (ms : List (List Int)) (hm : ∀ m ∈ ms, m.length ≤ 1000000) (hl : ms.length ≤ 1000) :
    ∃ (ms2 : List (List Int)) (t' : Bool) (ds' : List D) (y : Option O), St ns (.lst t' ds') ∧ (∀ m ∈ ms2, m.length ≤ 1000000) ∧ ms2.length = ms.length ∧ lcL (kLc CL F_law_e3 (.name 14) F_law_g3 [14]) (ms.map (intsL true)) [] [x0, some (.lst t ds), x2, x3, x4, x5, x6, x7, x8, x9, x10, x11, x12, x13, none, none] =
      .ok (ms2.map (intsL true)) [x0, some (.lst t' ds'), x2, x3, x4, x5, x6, x7, x8, x9, x10, x11, x12, x13, y, none] := by
  obtain ⟨acc', ρ', e2, t2, o2, m2, y, l, hρ, s2, ha, hl2, hlm, hA, hc⟩ := lcL_ok (step := kLc CL F_law_e3 (.name 14) F_law_g3 [14])
    (fun r acc ρ => ∃ (t2 : Bool) (o2 : List D) (m2 : List (List Int)) (y : Option O) (l : List (List Int)), ρ = [x0, some (.lst t2 o2), x2, x3, x4, x5, x6, x7, x8, x9, x10, x11, x12, x13, y, none] ∧ St ns (.lst t2 o2) ∧ acc = m2.map (intsL true) ∧ r = l.map (intsL true) ∧ (∀ m ∈ l, m.length ≤ 1000000) ∧ (∀ m ∈ m2, m.length ≤ 1000000) ∧ m2.length + l.length = ms.length)
    (fun d r acc ρ ⟨t2, o2, m2, y, l, hρ, s2, ha, hl2, hlm, hA, hc⟩ => by
      cases l with
      | nil => cases hl2
      | cons a l =>
        rw [List.map_cons, List.cons.injEq] at hl2
        obtain ⟨rfl, rfl⟩ := hl2
        subst hρ ha
        rw [List.length_cons] at hc
        obtain ⟨a2, t3, o3, y3, s3, c3, e3⟩ := thin1 s2 x0 x2 x3 x4 x5 x6 x7 x8 x9 x10 x11 x12 x13 (some (.sh (intsL true a))) a (hlm a List.mem_cons_self)
        have := hlm a List.mem_cons_self
        refine .inl ⟨intsL true a2, [x0, some (.lst t3 o3), x2, x3, x4, x5, x6, x7, x8, x9, x10, x11, x12, x13, some (.sh (intsL true a)), none], ?_, by rw [List.length_map]; unfold big; omega, t3, o3, m2 ++ [a2], _, l, rfl, s3, by rw [List.map_append]; rfl, rfl, fun m hm => hlm m (List.mem_cons_of_mem _ hm), fun m hm => ?_, by rw [List.length_append, List.length_singleton]; omega⟩
        · unfold kLc F_law_e3 F_law_g3
          unfold intsL at e3 ⊢
          simp only [evO_e1, evO_e2, evO_e3, evO_e4, evO_e5, evO_e7, evO_e9, evO_e10, evO_e11, evO_e12, evO_e14, evO_e15, evO_e16, evO_e17, evO_e18, evO_e19, evO_e20, evO_e21, evPs_e1, evPs_e2, evB_e1, evI_rng, evI_e2, evI_e3, evS_e1, evS_e3, evS_e4, evS_e5, evS_e7, evS_e8, evS_e9, evS_e10, evS_e14, evS_poke, yngL_lst, lk_lst, lk_sh, look_val, look_at, opv_sh, opv_lst, opv_obj, opv_dic, opd_var, opd_ne, frzAt_eq, fza_sh, fza_lst, give_val, give_at, dcA_some, dcB_ok, dcB_exn, doCall_eq, bin_addI, bin_addL, bin_addT, bin_sub, bin_mulI, bin_mulL, bin_fdiv, bin_mod, bin_pow, cmp_eq, cmp_ne, cmp_lt, cmp_le, cmp_gt, cmp_ge, cmp_is, cmp_isn, cmp_inL, cmp_inT, cmp_ninL, cmp_ninT, isNon_non, isNon_int, isNon_str, isNon_bl, isNon_tup, isNon_lst, ix_lst, ix_tup, ix_scr, sl_lst, sl_tup, seq_lst, seq_tup, seq_scr, seqL_lst, seqL_scr, bi_lenL, bi_lenT, bi_lenS, bi_listL, bi_listT, bi_tupL, bi_tupT, bi_intI, bi_intB, bi_max2, bi_min2, rngsD_1, rngsD_2, rngsD_3, lao_lst, lstAt_se, gpo_obj, lstAt_fe, setPl_s, spo_obj, setPl_f, partE_nil, partE_ne, intO_sh, lstD_lst, fldR_sh, fldR_obj, evO_fld, negR_int, evO_neg, iteR_true, iteR_false, evO_ite, chR_true, chR_false, evC_one, evC_two, bopR_tt, bopR_tf, bopR_ft, bopR_ff, evB_cs, sfR_obj, evS_setfld, evI_e, evS_seq, evS_ite, evS_for, evS_whl, evO_lc, kSeq_nx, kSeq_ret, kIf_true, kIf_false, kLcs_true, bnd_ok, bnd_exn, bnd_fail, opt_some, opt_none, optC_some, asB_ok, asB_exn, asI_ok, getS, setS, looks, frz, frzs, gives, takeA, backA, doNew, intsD, outsOf, eqD_int, kRun_nx, kRun_ret, kRun_exn, wipeF, backF, ne_eq, not_false_eq_true, forall_const, implies_true, reduceCtorEq, List.map_cons, List.map_nil, List.cons_append, List.nil_append, List.append_nil, List.replicate_succ, List.replicate_zero, Option.map_some, and_self, if_true, if_false, decide_true, decide_false, Bool.not_true, Bool.not_false, Bool.false_eq_true, Bool.or_true, Bool.true_or, Bool.and_true, Bool.true_and, Bool.or_false, Bool.false_or, asg_name, asg_tup, asg2_some, asgs_nil, asgs_cons, evO_gint, Nat.sub_self, Nat.reduceSub, shOrNone_none, shOrNone_sh, List.all_cons, List.all_nil, evO_isi, evO_isx, evO_cntT, evO_idxT, evO_kind, kindR_ok, kindR_exn, isi_int, isi_bl, isi_str, isi_non, isi_tup, isi_lst, eqD_bl, eqD_str, isa_int_TL, isa_int_L, isa_int_S, isa_int_B, isa_int_I, isa_int_T, isa_bool_TL, isa_bool_L, isa_bool_S, isa_bool_B, isa_bool_I, isa_bool_T, isa_str_TL, isa_str_L, isa_str_S, isa_str_B, isa_str_I, isa_str_T, isa_list_TL, isa_list_L, isa_list_S, isa_list_B, isa_list_I, isa_list_T, isa_tuple_TL, isa_tuple_L, isa_tuple_S, isa_tuple_B, isa_tuple_I, isa_tuple_T, isa_none_TL, isa_none_L, isa_none_S, isa_none_B, isa_none_I, isa_none_T, eqD_nil0, List.length_nil, Nat.zero_le, oldF_nil, oldO_sh, oldO_lst, old_int, old_str, old_bl, old_non, old_scr, old_tup, old_lst, olds_nil, olds_cons, killB_true, killB_false, killF_nil, yngO_sh, yngO_lst, yng_int, yng_str, yng_bl, yng_non, yng_scr, yng_tup, yng_lstT, yng_lstF, yngs_nil, yngs_cons, oldF_cons, killF_cons, Option.map_none, Option.bind_some, Option.bind_none, killO_eq, atI_0, atI_1, atI_2, atI_3, len1, len2, len3, len4, len5, len6, len7, le_big1, le_big2, le_big3, le_big4, le_big5, le_big6, le_big7, le_big8, le_big9, le_big10, le_big11, le_big12, e3]
        · rcases List.mem_append.mp hm with hm | hm
          · exact hA m hm
          · rw [List.mem_singleton] at hm
            subst hm
            omega)
    (ms.map (intsL true)) [] [x0, some (.lst t ds), x2, x3, x4, x5, x6, x7, x8, x9, x10, x11, x12, x13, none, none] ⟨t, ds, [], none, ms, rfl, h, rfl, rfl, hm, fun _ h => (nomatch h), by simp⟩
  subst hρ ha
  cases l with
  | cons _ _ => cases hl2
  | nil => exact ⟨m2, t2, o2, y, s2, hA, by simpa using hc, e2⟩
/-- the lists copied -/
theorem copy_run (x0 x1 x2 x3 x4 x5 x6 x7 x8 x9 x10 x11 x12 x13 : Option O) (ms : List (List Int)) (hl : ms.length ≤ 1000) :
    ∃ y, lcL (kLc CL F_law_e1 (.name 14) F_law_g1 [14]) (ms.map (intsL true)) [] [x0, x1, x2, x3, x4, x5, x6, x7, x8, x9, x10, x11, x12, x13, none, none] = .ok (ms.map (intsL true)) [x0, x1, x2, x3, x4, x5, x6, x7, x8, x9, x10, x11, x12, x13, y, none] := by
  obtain ⟨ρ', e, y, hC⟩ := lcL_map (step := kLc CL F_law_e1 (.name 14) F_law_g1 [14]) (intsL true) (fun m => some (intsL true m)) (fun ρ => ∃ y, ρ = [x0, x1, x2, x3, x4, x5, x6, x7, x8, x9, x10, x11, x12, x13, y, none]) (fun m ρ ⟨y, h⟩ => by
    subst h
    refine ⟨[x0, x1, x2, x3, x4, x5, x6, x7, x8, x9, x10, x11, x12, x13, some (.sh (intsL true m)), none], ?_, _, rfl⟩
    unfold kLc F_law_e1 F_law_g1 intsL
    simp only [evO_e1, evO_e2, evO_e3, evO_e4, evO_e5, evO_e7, evO_e9, evO_e10, evO_e11, evO_e12, evO_e14, evO_e15, evO_e16, evO_e17, evO_e18, evO_e19, evO_e20, evO_e21, evPs_e1, evPs_e2, evB_e1, evI_rng, evI_e2, evI_e3, evS_e1, evS_e3, evS_e4, evS_e5, evS_e7, evS_e8, evS_e9, evS_e10, evS_e14, evS_poke, yngL_lst, lk_lst, lk_sh, look_val, look_at, opv_sh, opv_lst, opv_obj, opv_dic, opd_var, opd_ne, frzAt_eq, fza_sh, fza_lst, give_val, give_at, dcA_some, dcB_ok, dcB_exn, doCall_eq, bin_addI, bin_addL, bin_addT, bin_sub, bin_mulI, bin_mulL, bin_fdiv, bin_mod, bin_pow, cmp_eq, cmp_ne, cmp_lt, cmp_le, cmp_gt, cmp_ge, cmp_is, cmp_isn, cmp_inL, cmp_inT, cmp_ninL, cmp_ninT, isNon_non, isNon_int, isNon_str, isNon_bl, isNon_tup, isNon_lst, ix_lst, ix_tup, ix_scr, sl_lst, sl_tup, seq_lst, seq_tup, seq_scr, seqL_lst, seqL_scr, bi_lenL, bi_lenT, bi_lenS, bi_listL, bi_listT, bi_tupL, bi_tupT, bi_intI, bi_intB, bi_max2, bi_min2, rngsD_1, rngsD_2, rngsD_3, lao_lst, lstAt_se, gpo_obj, lstAt_fe, setPl_s, spo_obj, setPl_f, partE_nil, partE_ne, intO_sh, lstD_lst, fldR_sh, fldR_obj, evO_fld, negR_int, evO_neg, iteR_true, iteR_false, evO_ite, chR_true, chR_false, evC_one, evC_two, bopR_tt, bopR_tf, bopR_ft, bopR_ff, evB_cs, sfR_obj, evS_setfld, evI_e, evS_seq, evS_ite, evS_for, evS_whl, evO_lc, kSeq_nx, kSeq_ret, kIf_true, kIf_false, kLcs_true, bnd_ok, bnd_exn, bnd_fail, opt_some, opt_none, optC_some, asB_ok, asB_exn, asI_ok, getS, setS, looks, frz, frzs, gives, takeA, backA, doNew, intsD, outsOf, eqD_int, kRun_nx, kRun_ret, kRun_exn, wipeF, backF, ne_eq, not_false_eq_true, forall_const, implies_true, reduceCtorEq, List.map_cons, List.map_nil, List.cons_append, List.nil_append, List.append_nil, List.replicate_succ, List.replicate_zero, Option.map_some, and_self, if_true, if_false, decide_true, decide_false, Bool.not_true, Bool.not_false, Bool.false_eq_true, Bool.or_true, Bool.true_or, Bool.and_true, Bool.true_and, Bool.or_false, Bool.false_or, asg_name, asg_tup, asg2_some, asgs_nil, asgs_cons, evO_gint, Nat.sub_self, Nat.reduceSub, shOrNone_none, shOrNone_sh, List.all_cons, List.all_nil, evO_isi, evO_isx, evO_cntT, evO_idxT, evO_kind, kindR_ok, kindR_exn, isi_int, isi_bl, isi_str, isi_non, isi_tup, isi_lst, eqD_bl, eqD_str, isa_int_TL, isa_int_L, isa_int_S, isa_int_B, isa_int_I, isa_int_T, isa_bool_TL, isa_bool_L, isa_bool_S, isa_bool_B, isa_bool_I, isa_bool_T, isa_str_TL, isa_str_L, isa_str_S, isa_str_B, isa_str_I, isa_str_T, isa_list_TL, isa_list_L, isa_list_S, isa_list_B, isa_list_I, isa_list_T, isa_tuple_TL, isa_tuple_L, isa_tuple_S, isa_tuple_B, isa_tuple_I, isa_tuple_T, isa_none_TL, isa_none_L, isa_none_S, isa_none_B, isa_none_I, isa_none_T, eqD_nil0, List.length_nil, Nat.zero_le, oldF_nil, oldO_sh, oldO_lst, old_int, old_str, old_bl, old_non, old_scr, old_tup, old_lst, olds_nil, olds_cons, killB_true, killB_false, killF_nil, yngO_sh, yngO_lst, yng_int, yng_str, yng_bl, yng_non, yng_scr, yng_tup, yng_lstT, yng_lstF, yngs_nil, yngs_cons, oldF_cons, killF_cons, Option.map_none, Option.bind_some, Option.bind_none, killO_eq, atI_0, atI_1, atI_2, atI_3, len1, len2, len3, len4, len5, len6, len7, le_big1, le_big2, le_big3, le_big4, le_big5, le_big6, le_big7, le_big8, le_big9, le_big10, le_big11, le_big12]) ms [] [x0, x1, x2, x3, x4, x5, x6, x7, x8, x9, x10, x11, x12, x13, none, none] ⟨_, rfl⟩ (by simp; unfold big; omega)
  subst hC
  refine ⟨y, ?_⟩
  rw [e, List.nil_append, ← List.filterMap_eq_map]
  rfl
/-- asked once -/
theorem again_ok {ns : List Int} {t : Bool} {ds : List D} (h : St ns (.lst t ds)) (j : Int) {ms : List (List Int)} (hms : ms.length ≤ 1000) (hl : ∀ m ∈ ms, m.length ≤ 1000000) {low high b e k g : Int} (hb : 1 ≤ b ∧ b ≤ 60) (he : 0 ≤ e) (he2 : e ≤ 1000000) {P : List Int} (hP : P = patsL (tf true ms) 0 (nows b e)) (u5 u9 : Bool) (z8 : O) (h8 : ∃ u, z8 = .sh (.lst u (ms.map (intsL u))) ∨ z8 = .lst u (ms.map (intsL u))) (x10 x11 x12 x13 : Option O) :
    ∃ y12 y13, St ns (.lst false ds) ∧ kFor CL 2000 true (.name 10) F_law_b1 (.int j) [some (.sh (.scr ns)), some (.lst t ds), some (.sh (.int k)), some (.sh (.int g)), some (.sh (.int e)), some (.sh (.lst u5 (ms.map (intsL u5)))), some (.sh (.int b)), some (.sh (winD low high)), some z8, some (.sh (.lst u9 (P.map .int))), x10, x11, x12, x13, none, none] =
      .ok .nx [some (.sh (.scr ns)), some (.lst false ds), some (.sh (.int k)), some (.sh (.int g)), some (.sh (.int e)), some (.sh (.lst false (ms.map (intsL false)))), some (.sh (.int b)), some (.sh (winD low high)), some (.sh (.lst false (ms.map (intsL false)))), some (.sh (.lst false (P.map .int))), some (.sh (.int j)), none, y12, y13, none, none] := by
  obtain ⟨t', p, m, r, he0, hp⟩ := h
  cases he0
  have e1 := keeper_at 7 2000 false (b := b) (e := e) (tf_ok false hms hl) hb (by omega) he2
  rw [patsL_tf false true, ← hP] at e1
  unfold repsD at e1
  rw [repD_tf] at e1
  have hPl : P.length ≤ 1000000 := by
    rw [hP]
    have := patsL_len (tf true ms) (nows b e) 0
    have := nows_len (b := b) (e := e) (by omega) he2
    omega
  have e2 := same_ok (sameF 2000) 9 _ _ (like_ints true false P) (wide_ints false hPl) (by have := dep_ints false P; omega)
  have e3 := same_reps false false false false ms
  have e4 : (P.map D.int).length < big := by rw [List.length_map]; unfold big; omega
  unfold intsL at e2
  refine ⟨(x12.map oldO).bind killO, (x13.map oldO).bind killO, ⟨false, p, m, r, rfl, hp⟩, ?_⟩
  unfold kFor F_law_b1 winD
  obtain ⟨u, rfl | rfl⟩ := h8
  all_goals
    simp only [evO_e1, evO_e2, evO_e3, evO_e4, evO_e5, evO_e7, evO_e9, evO_e10, evO_e11, evO_e12, evO_e14, evO_e15, evO_e16, evO_e17, evO_e18, evO_e19, evO_e20, evO_e21, evPs_e1, evPs_e2, evB_e1, evI_rng, evI_e2, evI_e3, evS_e1, evS_e3, evS_e4, evS_e5, evS_e7, evS_e8, evS_e9, evS_e10, evS_e14, evS_poke, yngL_lst, lk_lst, lk_sh, look_val, look_at, opv_sh, opv_lst, opv_obj, opv_dic, opd_var, opd_ne, frzAt_eq, fza_sh, fza_lst, give_val, give_at, dcA_some, dcB_ok, dcB_exn, doCall_eq, bin_addI, bin_addL, bin_addT, bin_sub, bin_mulI, bin_mulL, bin_fdiv, bin_mod, bin_pow, cmp_eq, cmp_ne, cmp_lt, cmp_le, cmp_gt, cmp_ge, cmp_is, cmp_isn, cmp_inL, cmp_inT, cmp_ninL, cmp_ninT, isNon_non, isNon_int, isNon_str, isNon_bl, isNon_tup, isNon_lst, ix_lst, ix_tup, ix_scr, sl_lst, sl_tup, seq_lst, seq_tup, seq_scr, seqL_lst, seqL_scr, bi_lenL, bi_lenT, bi_lenS, bi_listL, bi_listT, bi_tupL, bi_tupT, bi_intI, bi_intB, bi_max2, bi_min2, rngsD_1, rngsD_2, rngsD_3, lao_lst, lstAt_se, gpo_obj, lstAt_fe, setPl_s, spo_obj, setPl_f, partE_nil, partE_ne, intO_sh, lstD_lst, fldR_sh, fldR_obj, evO_fld, negR_int, evO_neg, iteR_true, iteR_false, evO_ite, chR_true, chR_false, evC_one, evC_two, bopR_tt, bopR_tf, bopR_ft, bopR_ff, evB_cs, sfR_obj, evS_setfld, evI_e, evS_seq, evS_ite, evS_for, evS_whl, evO_lc, kSeq_nx, kSeq_ret, kIf_true, kIf_false, kLcs_true, bnd_ok, bnd_exn, bnd_fail, opt_some, opt_none, optC_some, asB_ok, asB_exn, asI_ok, getS, setS, looks, frz, frzs, gives, takeA, backA, doNew, intsD, outsOf, eqD_int, kRun_nx, kRun_ret, kRun_exn, wipeF, backF, ne_eq, not_false_eq_true, forall_const, implies_true, reduceCtorEq, List.map_cons, List.map_nil, List.cons_append, List.nil_append, List.append_nil, List.replicate_succ, List.replicate_zero, Option.map_some, and_self, if_true, if_false, decide_true, decide_false, Bool.not_true, Bool.not_false, Bool.false_eq_true, Bool.or_true, Bool.true_or, Bool.and_true, Bool.true_and, Bool.or_false, Bool.false_or, asg_name, asg_tup, asg2_some, asgs_nil, asgs_cons, evO_gint, Nat.sub_self, Nat.reduceSub, shOrNone_none, shOrNone_sh, List.all_cons, List.all_nil, evO_isi, evO_isx, evO_cntT, evO_idxT, evO_kind, kindR_ok, kindR_exn, isi_int, isi_bl, isi_str, isi_non, isi_tup, isi_lst, eqD_bl, eqD_str, isa_int_TL, isa_int_L, isa_int_S, isa_int_B, isa_int_I, isa_int_T, isa_bool_TL, isa_bool_L, isa_bool_S, isa_bool_B, isa_bool_I, isa_bool_T, isa_str_TL, isa_str_L, isa_str_S, isa_str_B, isa_str_I, isa_str_T, isa_list_TL, isa_list_L, isa_list_S, isa_list_B, isa_list_I, isa_list_T, isa_tuple_TL, isa_tuple_L, isa_tuple_S, isa_tuple_B, isa_tuple_I, isa_tuple_T, isa_none_TL, isa_none_L, isa_none_S, isa_none_B, isa_none_I, isa_none_T, eqD_nil0, List.length_nil, Nat.zero_le, oldF_nil, oldO_sh, oldO_lst, old_int, old_str, old_bl, old_non, old_scr, old_tup, old_lst, olds_nil, olds_cons, killB_true, killB_false, killF_nil, yngO_sh, yngO_lst, yng_int, yng_str, yng_bl, yng_non, yng_scr, yng_tup, yng_lstT, yng_lstF, yngs_nil, yngs_cons, oldF_cons, killF_cons, Option.map_none, Option.bind_some, Option.bind_none, killO_eq, atI_0, atI_1, atI_2, atI_3, len1, len2, len3, len4, len5, len6, len7, le_big1, le_big2, le_big3, le_big4, le_big5, le_big6, le_big7, le_big8, le_big9, le_big10, le_big11, le_big12, io_keeper_pats, io__law_same, olds_intsLs, old_intsL, yngs_intsLs, yng_intsL, intsL, olds_ints, yngs_ints, e1, e2, e3, e4]
theorem turn_ok {ns : List Int} {t : Bool} {ds : List D} (h : St ns (.lst t ds)) (k : Int) (x2 x3 x4 x5 x6 x7 x8 x9 x10 x11 x12 x13 : Option O) :
    ∃ (t' : Bool) (ds' : List D) (y2 y3 y4 y5 y6 y7 y8 y9 y10 y11 y12 y13 : Option O), St ns (.lst t' ds') ∧ kFor CL 2000 false (.name 2) F_law_b2 (.int k) [some (.sh (.scr ns)), some (.lst t ds), x2, x3, x4, x5, x6, x7, x8, x9, x10, x11, x12, x13, none, none] =
      .ok .nx [some (.sh (.scr ns)), some (.lst t' ds'), y2, y3, y4, y5, y6, y7, y8, y9, y10, y11, y12, y13, none, none] := by
  have D9 := drawOk 9 2000 ns
  obtain ⟨z1, t1, o1, s1, a1, b1, e1⟩ := D9.run _ _ 3 h (by omega) (by omega)
  obtain ⟨g, hg, hat1⟩ := pick3 (a := 12) (b := 12) (c := 60) (fun v => 1 ≤ v ∧ v ≤ 60) a1 b1 (by omega) (by omega) (by omega)
  obtain ⟨z2, t2, o2, s2, a2, b2, e2⟩ := D9.run _ _ 4 s1 (by omega) (by omega)
  obtain ⟨em, hem, hat2⟩ := pick4 (a := 30) (b := 130) (c := 130) (d := 1000) (fun v => 1 ≤ v ∧ v ≤ 1000) a2 b2 (by omega) (by omega) (by omega) (by omega)
  obtain ⟨e, t3, o3, s3, a3, b3, e3⟩ := D9.run _ _ em s2 (by omega) (by omega)
  obtain ⟨ts, t4, o4, s4, hts, c4, d4, e4⟩ := tasks_run (clOf Γ 2000 9) 2000 9 (drawOk 8 2000 ns) (most := 4) (gap := g) s3 (by omega) (by omega) (by omega) (by omega)
  obtain ⟨ms, t5, o5, s5, A5, c5, e5⟩ := reports_run (clOf Γ 2000 9) 2000 9 (drawOk 8 2000 ns) (u := true) (e := e + 5) s4 hts (by omega) (by omega) (by omega) (by omega)
  obtain ⟨w, t6, o6, s6, a6, b6, e6⟩ := D9.run _ _ 3 s5 (by omega) (by omega)
  have hml : ∀ m ∈ ms, m.length ≤ 1000000 := fun m hm => asc_len2 (A5 m hm) (by omega)
  -- the reports, either way
  obtain ⟨ms2, t7, o7, s7, hml2, c7, z5, hz5, e7⟩ : ∃ (ms2 : List (List Int)) (t7 : Bool) (o7 : List D), St ns (.lst t7 o7) ∧ (∀ m ∈ ms2, m.length ≤ 1000000) ∧ ms2.length = ts.length ∧
      ∃ z : O, (z = .sh (.lst true (ms2.map (intsL true))) ∨ z = .lst true (ms2.map (intsL true))) ∧ kIf CL 2000 (.seq (.set 5 (.lc F_law_e3 (.name 14) (.var 5) F_law_g3 [14])) .skip) .skip (decide (w = 2)) [some (.sh (.scr ns)), some (.lst t6 o6), some (.sh (.int k)), some (.sh (.int g)), some (.sh (.int e)), some (.sh (.lst true (ms.map (intsL true)))), x6, x7, x8, x9, x10, x11, x12, x13, none, none] =
        .ok .nx [some (.sh (.scr ns)), some (.lst t7 o7), some (.sh (.int k)), some (.sh (.int g)), some (.sh (.int e)), some z, x6, x7, x8, x9, x10, x11, x12, x13, none, none] := by
    by_cases hw : w = 2
    · obtain ⟨ms2, t7, o7, y, s7, hm7, c7, e7⟩ := thin2 s6 (some (.sh (.scr ns))) (some (.sh (.int k))) (some (.sh (.int g))) (some (.sh (.int e))) (some (.sh (.lst true (ms.map (intsL true))))) x6 x7 x8 x9 x10 x11 x12 x13 ms hml (by omega)
      refine ⟨ms2, t7, o7, s7, hm7, by omega, _, .inr rfl, ?_⟩
      simp only [evO_e1, evO_e2, evO_e3, evO_e4, evO_e5, evO_e7, evO_e9, evO_e10, evO_e11, evO_e12, evO_e14, evO_e15, evO_e16, evO_e17, evO_e18, evO_e19, evO_e20, evO_e21, evPs_e1, evPs_e2, evB_e1, evI_rng, evI_e2, evI_e3, evS_e1, evS_e3, evS_e4, evS_e5, evS_e7, evS_e8, evS_e9, evS_e10, evS_e14, evS_poke, yngL_lst, lk_lst, lk_sh, look_val, look_at, opv_sh, opv_lst, opv_obj, opv_dic, opd_var, opd_ne, frzAt_eq, fza_sh, fza_lst, give_val, give_at, dcA_some, dcB_ok, dcB_exn, doCall_eq, bin_addI, bin_addL, bin_addT, bin_sub, bin_mulI, bin_mulL, bin_fdiv, bin_mod, bin_pow, cmp_eq, cmp_ne, cmp_lt, cmp_le, cmp_gt, cmp_ge, cmp_is, cmp_isn, cmp_inL, cmp_inT, cmp_ninL, cmp_ninT, isNon_non, isNon_int, isNon_str, isNon_bl, isNon_tup, isNon_lst, ix_lst, ix_tup, ix_scr, sl_lst, sl_tup, seq_lst, seq_tup, seq_scr, seqL_lst, seqL_scr, bi_lenL, bi_lenT, bi_lenS, bi_listL, bi_listT, bi_tupL, bi_tupT, bi_intI, bi_intB, bi_max2, bi_min2, rngsD_1, rngsD_2, rngsD_3, lao_lst, lstAt_se, gpo_obj, lstAt_fe, setPl_s, spo_obj, setPl_f, partE_nil, partE_ne, intO_sh, lstD_lst, fldR_sh, fldR_obj, evO_fld, negR_int, evO_neg, iteR_true, iteR_false, evO_ite, chR_true, chR_false, evC_one, evC_two, bopR_tt, bopR_tf, bopR_ft, bopR_ff, evB_cs, sfR_obj, evS_setfld, evI_e, evS_seq, evS_ite, evS_for, evS_whl, evO_lc, kSeq_nx, kSeq_ret, kIf_true, kIf_false, kLcs_true, bnd_ok, bnd_exn, bnd_fail, opt_some, opt_none, optC_some, asB_ok, asB_exn, asI_ok, getS, setS, looks, frz, frzs, gives, takeA, backA, doNew, intsD, outsOf, eqD_int, kRun_nx, kRun_ret, kRun_exn, wipeF, backF, ne_eq, not_false_eq_true, forall_const, implies_true, reduceCtorEq, List.map_cons, List.map_nil, List.cons_append, List.nil_append, List.append_nil, List.replicate_succ, List.replicate_zero, Option.map_some, and_self, if_true, if_false, decide_true, decide_false, Bool.not_true, Bool.not_false, Bool.false_eq_true, Bool.or_true, Bool.true_or, Bool.and_true, Bool.true_and, Bool.or_false, Bool.false_or, asg_name, asg_tup, asg2_some, asgs_nil, asgs_cons, evO_gint, Nat.sub_self, Nat.reduceSub, shOrNone_none, shOrNone_sh, List.all_cons, List.all_nil, evO_isi, evO_isx, evO_cntT, evO_idxT, evO_kind, kindR_ok, kindR_exn, isi_int, isi_bl, isi_str, isi_non, isi_tup, isi_lst, eqD_bl, eqD_str, isa_int_TL, isa_int_L, isa_int_S, isa_int_B, isa_int_I, isa_int_T, isa_bool_TL, isa_bool_L, isa_bool_S, isa_bool_B, isa_bool_I, isa_bool_T, isa_str_TL, isa_str_L, isa_str_S, isa_str_B, isa_str_I, isa_str_T, isa_list_TL, isa_list_L, isa_list_S, isa_list_B, isa_list_I, isa_list_T, isa_tuple_TL, isa_tuple_L, isa_tuple_S, isa_tuple_B, isa_tuple_I, isa_tuple_T, isa_none_TL, isa_none_L, isa_none_S, isa_none_B, isa_none_I, isa_none_T, eqD_nil0, List.length_nil, Nat.zero_le, oldF_nil, oldO_sh, oldO_lst, old_int, old_str, old_bl, old_non, old_scr, old_tup, old_lst, olds_nil, olds_cons, killB_true, killB_false, killF_nil, yngO_sh, yngO_lst, yng_int, yng_str, yng_bl, yng_non, yng_scr, yng_tup, yng_lstT, yng_lstF, yngs_nil, yngs_cons, oldF_cons, killF_cons, Option.map_none, Option.bind_some, Option.bind_none, killO_eq, atI_0, atI_1, atI_2, atI_3, len1, len2, len3, len4, len5, len6, len7, le_big1, le_big2, le_big3, le_big4, le_big5, le_big6, le_big7, le_big8, le_big9, le_big10, le_big11, le_big12, hw, e7]
    · refine ⟨ms, t6, o6, s6, hml, by omega, _, .inl rfl, ?_⟩
      simp only [evO_e1, evO_e2, evO_e3, evO_e4, evO_e5, evO_e7, evO_e9, evO_e10, evO_e11, evO_e12, evO_e14, evO_e15, evO_e16, evO_e17, evO_e18, evO_e19, evO_e20, evO_e21, evPs_e1, evPs_e2, evB_e1, evI_rng, evI_e2, evI_e3, evS_e1, evS_e3, evS_e4, evS_e5, evS_e7, evS_e8, evS_e9, evS_e10, evS_e14, evS_poke, yngL_lst, lk_lst, lk_sh, look_val, look_at, opv_sh, opv_lst, opv_obj, opv_dic, opd_var, opd_ne, frzAt_eq, fza_sh, fza_lst, give_val, give_at, dcA_some, dcB_ok, dcB_exn, doCall_eq, bin_addI, bin_addL, bin_addT, bin_sub, bin_mulI, bin_mulL, bin_fdiv, bin_mod, bin_pow, cmp_eq, cmp_ne, cmp_lt, cmp_le, cmp_gt, cmp_ge, cmp_is, cmp_isn, cmp_inL, cmp_inT, cmp_ninL, cmp_ninT, isNon_non, isNon_int, isNon_str, isNon_bl, isNon_tup, isNon_lst, ix_lst, ix_tup, ix_scr, sl_lst, sl_tup, seq_lst, seq_tup, seq_scr, seqL_lst, seqL_scr, bi_lenL, bi_lenT, bi_lenS, bi_listL, bi_listT, bi_tupL, bi_tupT, bi_intI, bi_intB, bi_max2, bi_min2, rngsD_1, rngsD_2, rngsD_3, lao_lst, lstAt_se, gpo_obj, lstAt_fe, setPl_s, spo_obj, setPl_f, partE_nil, partE_ne, intO_sh, lstD_lst, fldR_sh, fldR_obj, evO_fld, negR_int, evO_neg, iteR_true, iteR_false, evO_ite, chR_true, chR_false, evC_one, evC_two, bopR_tt, bopR_tf, bopR_ft, bopR_ff, evB_cs, sfR_obj, evS_setfld, evI_e, evS_seq, evS_ite, evS_for, evS_whl, evO_lc, kSeq_nx, kSeq_ret, kIf_true, kIf_false, kLcs_true, bnd_ok, bnd_exn, bnd_fail, opt_some, opt_none, optC_some, asB_ok, asB_exn, asI_ok, getS, setS, looks, frz, frzs, gives, takeA, backA, doNew, intsD, outsOf, eqD_int, kRun_nx, kRun_ret, kRun_exn, wipeF, backF, ne_eq, not_false_eq_true, forall_const, implies_true, reduceCtorEq, List.map_cons, List.map_nil, List.cons_append, List.nil_append, List.append_nil, List.replicate_succ, List.replicate_zero, Option.map_some, and_self, if_true, if_false, decide_true, decide_false, Bool.not_true, Bool.not_false, Bool.false_eq_true, Bool.or_true, Bool.true_or, Bool.and_true, Bool.true_and, Bool.or_false, Bool.false_or, asg_name, asg_tup, asg2_some, asgs_nil, asgs_cons, evO_gint, Nat.sub_self, Nat.reduceSub, shOrNone_none, shOrNone_sh, List.all_cons, List.all_nil, evO_isi, evO_isx, evO_cntT, evO_idxT, evO_kind, kindR_ok, kindR_exn, isi_int, isi_bl, isi_str, isi_non, isi_tup, isi_lst, eqD_bl, eqD_str, isa_int_TL, isa_int_L, isa_int_S, isa_int_B, isa_int_I, isa_int_T, isa_bool_TL, isa_bool_L, isa_bool_S, isa_bool_B, isa_bool_I, isa_bool_T, isa_str_TL, isa_str_L, isa_str_S, isa_str_B, isa_str_I, isa_str_T, isa_list_TL, isa_list_L, isa_list_S, isa_list_B, isa_list_I, isa_list_T, isa_tuple_TL, isa_tuple_L, isa_tuple_S, isa_tuple_B, isa_tuple_I, isa_tuple_T, isa_none_TL, isa_none_L, isa_none_S, isa_none_B, isa_none_I, isa_none_T, eqD_nil0, List.length_nil, Nat.zero_le, oldF_nil, oldO_sh, oldO_lst, old_int, old_str, old_bl, old_non, old_scr, old_tup, old_lst, olds_nil, olds_cons, killB_true, killB_false, killF_nil, yngO_sh, yngO_lst, yng_int, yng_str, yng_bl, yng_non, yng_scr, yng_tup, yng_lstT, yng_lstF, yngs_nil, yngs_cons, oldF_cons, killF_cons, Option.map_none, Option.bind_some, Option.bind_none, killO_eq, atI_0, atI_1, atI_2, atI_3, len1, len2, len3, len4, len5, len6, len7, le_big1, le_big2, le_big3, le_big4, le_big5, le_big6, le_big7, le_big8, le_big9, le_big10, le_big11, le_big12, hw]
  obtain ⟨z3, t8, o8, s8, a8, b8, e8⟩ := D9.run _ _ 3 s7 (by omega) (by omega)
  obtain ⟨bm, hbm, hat3⟩ := pick3 (a := 4) (b := 12) (c := 60) (fun v => 1 ≤ v ∧ v ≤ 60) a8 b8 (by omega) (by omega) (by omega)
  obtain ⟨bb, t9, o9, s9, a9, b9, e9⟩ := D9.run _ _ bm s8 (by omega) (by omega)
  obtain ⟨low, high, t10, o10, s10, l0, l1, l2, e10⟩ := window_run (clOf Γ 2000 9) 2000 9 (drawOk 8 2000 ns) (most := 40) s9 (by omega) (by omega)
  obtain ⟨y14, e11⟩ := copy_run (some (.sh (.scr ns))) (some (.lst t10 o10)) (some (.sh (.int k))) (some (.sh (.int g))) (some (.sh (.int e))) (some (.sh (.lst true (ms2.map (intsL true))))) (some (.sh (.int (1 + bb)))) (some (.sh (winD low high))) x8 x9 x10 x11 x12 x13 ms2 (by omega)
  have hr1 : RepsOk (tf true ms2) := tf_ok true (by omega) hml2
  have e12 := law_keeper_run (clOf Γ 2000 9) 2000 (b := 1 + bb) (e := e) true hr1 (by unfold tf; rw [List.length_map]; omega) (by omega) (by omega) (by omega)
  unfold repsD at e12
  rw [repD_tf] at e12
  obtain ⟨P, hP⟩ : ∃ P, P = patsL (tf true ms2) 0 (nows (1 + bb) e) := ⟨_, rfl⟩
  rw [← hP] at e12
  obtain ⟨y12, y13, s13, e13⟩ := again_ok (k := k) (g := g) (low := low) (high := high) (b := 1 + bb) (e := e) s10 0 (ms := ms2) (by omega) hml2 (by omega) (by omega) (by omega) hP true true (.lst true (ms2.map (intsL true))) ⟨true, .inr rfl⟩ x10 x11 x12 x13
  obtain ⟨z12, z13, s14, e14⟩ := again_ok (k := k) (g := g) (low := low) (high := high) (b := 1 + bb) (e := e) s13 1 (ms := ms2) (by omega) hml2 (by omega) (by omega) (by omega) hP false false (.sh (.lst false (ms2.map (intsL false)))) ⟨false, .inl rfl⟩ (some (.sh (.int 0))) none y12 y13
  have hloop : forL (kFor CL 2000 true (.name 10) F_law_b1) [.int 0, .int 1] [some (.sh (.scr ns)), some (.lst t10 o10), some (.sh (.int k)), some (.sh (.int g)), some (.sh (.int e)), some (.sh (.lst true (ms2.map (intsL true)))), some (.sh (.int (1 + bb))), some (.sh (winD low high)), some (.lst true (ms2.map (intsL true))), some (.sh (.lst true (P.map .int))), x10, x11, x12, x13, none, none] =
      .ok .nx [some (.sh (.scr ns)), some (.lst false o10), some (.sh (.int k)), some (.sh (.int g)), some (.sh (.int e)), some (.sh (.lst false (ms2.map (intsL false)))), some (.sh (.int (1 + bb))), some (.sh (winD low high)), some (.sh (.lst false (ms2.map (intsL false)))), some (.sh (.lst false (P.map .int))), some (.sh (.int 1)), none, z12, z13, none, none] := by
    rw [forL, e13, bnd_ok, forL, e14, bnd_ok, forL]
  have hPs : P.Pairwise (· ≤ ·) := by
    rw [hP]
    exact ((nows_up_pw (by omega)).sublist (patsL_sub _ _ _)).imp fun h => by omega
  have hP0 : ∀ p ∈ P, 0 ≤ p := fun p hp => by
    rw [hP] at hp
    have := nows_pos (b := 1 + bb) (by omega) p (patsL_mem _ _ _ _ hp)
    omega
  have hPl : P.length < 2000 := by
    rw [hP]
    have h1 := patsL_len (tf true ms2) (nows (1 + bb) e) 0
    have h2 : (nows (1 + bb) e).length = (e / (1 + bb)).toNat := by
      unfold nows
      rw [List.length_map, List.length_range]
    have h3 : e / (1 + bb) ≤ e := Int.ediv_le_self _ (by omega)
    omega
  have e15 := bite_run (clOf Γ 2000 9) 2000 low high e false P (by omega) (by omega) (by omega) hPs hP0 hPl
  have hw : winOk low high = true := by
    unfold winOk
    simp only [Bool.and_eq_true, decide_eq_true_eq]
    omega
  have hw2 : winOk (high + 1) high = false := by
    unfold winOk
    rw [Bool.eq_false_iff]
    simp only [ne_eq, Bool.and_eq_true, decide_eq_true_eq]
    omega
  have e16 := found_at' 7 2000 false (low := low) (high := high) (b := 1 + bb) (e := e) (tf_ok false (by omega) hml2) hw (by omega) (by omega) (by omega)
  rw [patsL_tf false true, ← hP] at e16
  unfold repsD at e16
  rw [repD_tf] at e16
  obtain ⟨lk1, lk2, lk3⟩ := like_refl_fb low high e 0 P
  have e17 := same_ok (sameF 2000) 9 _ _ lk1 lk2 (by omega)
  have e18 := same_reps false false false false ms2
  obtain ⟨far, t15, o15, s15, hfar, e19⟩ := far_run (clOf Γ 2000 9) 2000 9 (drawOk 8 2000 ns) (most := 60) s14
  obtain ⟨z4, t16, o16, s16, a16, b16, e20⟩ := D9.run _ _ 2 s15 (by omega) (by omega)
  obtain ⟨odd, hodd, hat4⟩ := pick2 (a := 0) (b := far) (fun v => ¬ (1 ≤ v ∧ v ≤ 60)) a16 b16 (by omega) (by omega)
  have e21 := keeper_bad 7 2000 (.lst false (ms2.map (intsL false))) (.int e) hodd
  have e22 := found_bad 7 2000 (.lst false (ms2.map (intsL false))) (.int e) hw hodd
  have e23 := found_badw 7 2000 (.int odd) (.lst false (ms2.map (intsL false))) (.int e) hw2
  have hrg : rngI 0 2 1 = some [.int 0, .int 1] := by
    rw [rng_up 2 (by omega) (by omega)]
    rfl
  generalize fbD low high e 0 P = B at *
  refine ⟨t16, o16, some (.sh (.int k)), some (.sh (.int g)), some (.sh (.int e)), some (.sh (.lst false (ms2.map (intsL false)))), some (.sh (.int (1 + bb))), some (.sh (winD low high)), some (.sh (.lst false (ms2.map (intsL false)))), some (.sh (.lst false (P.map .int))), some (.sh (.int 1)), none, some (.sh B), some (.sh (.int odd)), s16, ?_⟩
  unfold kFor F_law_b2 F_law_k1 F_law_k2 F_law_k3
  unfold winD at e10 e11 e15 e16 e22 e23 hloop ⊢
  rcases hz5 with rfl | rfl
  all_goals
    simp only [evO_e1, evO_e2, evO_e3, evO_e4, evO_e5, evO_e7, evO_e9, evO_e10, evO_e11, evO_e12, evO_e14, evO_e15, evO_e16, evO_e17, evO_e18, evO_e19, evO_e20, evO_e21, evPs_e1, evPs_e2, evB_e1, evI_rng, evI_e2, evI_e3, evS_e1, evS_e3, evS_e4, evS_e5, evS_e7, evS_e8, evS_e9, evS_e10, evS_e14, evS_poke, yngL_lst, lk_lst, lk_sh, look_val, look_at, opv_sh, opv_lst, opv_obj, opv_dic, opd_var, opd_ne, frzAt_eq, fza_sh, fza_lst, give_val, give_at, dcA_some, dcB_ok, dcB_exn, doCall_eq, bin_addI, bin_addL, bin_addT, bin_sub, bin_mulI, bin_mulL, bin_fdiv, bin_mod, bin_pow, cmp_eq, cmp_ne, cmp_lt, cmp_le, cmp_gt, cmp_ge, cmp_is, cmp_isn, cmp_inL, cmp_inT, cmp_ninL, cmp_ninT, isNon_non, isNon_int, isNon_str, isNon_bl, isNon_tup, isNon_lst, ix_lst, ix_tup, ix_scr, sl_lst, sl_tup, seq_lst, seq_tup, seq_scr, seqL_lst, seqL_scr, bi_lenL, bi_lenT, bi_lenS, bi_listL, bi_listT, bi_tupL, bi_tupT, bi_intI, bi_intB, bi_max2, bi_min2, rngsD_1, rngsD_2, rngsD_3, lao_lst, lstAt_se, gpo_obj, lstAt_fe, setPl_s, spo_obj, setPl_f, partE_nil, partE_ne, intO_sh, lstD_lst, fldR_sh, fldR_obj, evO_fld, negR_int, evO_neg, iteR_true, iteR_false, evO_ite, chR_true, chR_false, evC_one, evC_two, bopR_tt, bopR_tf, bopR_ft, bopR_ff, evB_cs, sfR_obj, evS_setfld, evI_e, evS_seq, evS_ite, evS_for, evS_whl, evO_lc, kSeq_nx, kSeq_ret, kIf_true, kIf_false, kLcs_true, bnd_ok, bnd_exn, bnd_fail, opt_some, opt_none, optC_some, asB_ok, asB_exn, asI_ok, getS, setS, looks, frz, frzs, gives, takeA, backA, doNew, intsD, outsOf, eqD_int, kRun_nx, kRun_ret, kRun_exn, wipeF, backF, ne_eq, not_false_eq_true, forall_const, implies_true, reduceCtorEq, List.map_cons, List.map_nil, List.cons_append, List.nil_append, List.append_nil, List.replicate_succ, List.replicate_zero, Option.map_some, and_self, if_true, if_false, decide_true, decide_false, Bool.not_true, Bool.not_false, Bool.false_eq_true, Bool.or_true, Bool.true_or, Bool.and_true, Bool.true_and, Bool.or_false, Bool.false_or, asg_name, asg_tup, asg2_some, asgs_nil, asgs_cons, evO_gint, Nat.sub_self, Nat.reduceSub, shOrNone_none, shOrNone_sh, List.all_cons, List.all_nil, evO_isi, evO_isx, evO_cntT, evO_idxT, evO_kind, kindR_ok, kindR_exn, isi_int, isi_bl, isi_str, isi_non, isi_tup, isi_lst, eqD_bl, eqD_str, isa_int_TL, isa_int_L, isa_int_S, isa_int_B, isa_int_I, isa_int_T, isa_bool_TL, isa_bool_L, isa_bool_S, isa_bool_B, isa_bool_I, isa_bool_T, isa_str_TL, isa_str_L, isa_str_S, isa_str_B, isa_str_I, isa_str_T, isa_list_TL, isa_list_L, isa_list_S, isa_list_B, isa_list_I, isa_list_T, isa_tuple_TL, isa_tuple_L, isa_tuple_S, isa_tuple_B, isa_tuple_I, isa_tuple_T, isa_none_TL, isa_none_L, isa_none_S, isa_none_B, isa_none_I, isa_none_T, eqD_nil0, List.length_nil, Nat.zero_le, oldF_nil, oldO_sh, oldO_lst, old_int, old_str, old_bl, old_non, old_scr, old_tup, old_lst, olds_nil, olds_cons, killB_true, killB_false, killF_nil, yngO_sh, yngO_lst, yng_int, yng_str, yng_bl, yng_non, yng_scr, yng_tup, yng_lstT, yng_lstF, yngs_nil, yngs_cons, oldF_cons, killF_cons, Option.map_none, Option.bind_some, Option.bind_none, killO_eq, atI_0, atI_1, atI_2, atI_3, len1, len2, len3, len4, len5, len6, len7, le_big1, le_big2, le_big3, le_big4, le_big5, le_big6, le_big7, le_big8, le_big9, le_big10, le_big11, le_big12, io__law_drawn, io__law_tasks, io__law_reports, io__law_window, io__law_keeper, io__law_bite, io_found_at, io_keeper_pats, io__law_same, io__law_far, run__law_tasks 9 2000, run__law_reports 9 2000, run__law_window 9 2000, run__law_keeper 9 2000, run__law_bite 9 2000, run__law_far 9 2000, f__law_tasks, f__law_reports, f__law_window, f__law_keeper, f__law_bite, f__law_far, e1, hat1, e2, hat2, e3, e4, e5, e6, e7, e8, hat3, e9, e10, e11, e12, hrg, hloop, e15, e16, e17, e18, e19, e20, hat4, e21, e22, e23, kl1, kl8]
theorem law_at (ns : List Int) : ∃ ρ, evS CL 2000 f_law.body (some (.sh (.scr ns)) :: List.replicate (f_law.ns - 1) none) = .ok (.ret (.sh (.bl true))) ρ := by
  obtain ⟨o, hs, e1⟩ := start_run (clOf Γ 2000 9) 2000 ns
  obtain ⟨t, ds, rfl⟩ := hs.lst
  obtain ⟨ρ', e2, t2, o2, y2, y3, y4, y5, y6, y7, y8, y9, y10, y11, y12, y13, hρ, s2⟩ := forL_map (step := kFor CL 2000 false (.name 2) F_law_b2) (fun k : Nat => D.int (k : Int))
    (fun _ ρ => ∃ (t : Bool) (ds : List D) (x2 x3 x4 x5 x6 x7 x8 x9 x10 x11 x12 x13 : Option O), ρ = [some (.sh (.scr ns)), some (.lst t ds), x2, x3, x4, x5, x6, x7, x8, x9, x10, x11, x12, x13, none, none] ∧ St ns (.lst t ds))
    (fun k r ρ ⟨t, ds, x2, x3, x4, x5, x6, x7, x8, x9, x10, x11, x12, x13, hρ, s⟩ => by
      subst hρ
      obtain ⟨t', ds', y2, y3, y4, y5, y6, y7, y8, y9, y10, y11, y12, y13, s', e⟩ := turn_ok s k x2 x3 x4 x5 x6 x7 x8 x9 x10 x11 x12 x13
      exact ⟨_, e, t', ds', y2, y3, y4, y5, y6, y7, y8, y9, y10, y11, y12, y13, rfl, s'⟩)
    (List.range 8) [some (.sh (.scr ns)), some (.lst t ds), none, none, none, none, none, none, none, none, none, none, none, none, none, none] ⟨t, ds, none, none, none, none, none, none, none, none, none, none, none, none, rfl, hs⟩
  subst hρ
  refine ⟨[some (.sh (.scr ns)), some (.lst t2 o2), y2, y3, y4, y5, y6, y7, y8, y9, y10, y11, y12, y13, none, none], ?_⟩
  unfold f_law F_law
  simp only [evO_e1, evO_e2, evO_e3, evO_e4, evO_e5, evO_e7, evO_e9, evO_e10, evO_e11, evO_e12, evO_e14, evO_e15, evO_e16, evO_e17, evO_e18, evO_e19, evO_e20, evO_e21, evPs_e1, evPs_e2, evB_e1, evI_rng, evI_e2, evI_e3, evS_e1, evS_e3, evS_e4, evS_e5, evS_e7, evS_e8, evS_e9, evS_e10, evS_e14, evS_poke, yngL_lst, lk_lst, lk_sh, look_val, look_at, opv_sh, opv_lst, opv_obj, opv_dic, opd_var, opd_ne, frzAt_eq, fza_sh, fza_lst, give_val, give_at, dcA_some, dcB_ok, dcB_exn, doCall_eq, bin_addI, bin_addL, bin_addT, bin_sub, bin_mulI, bin_mulL, bin_fdiv, bin_mod, bin_pow, cmp_eq, cmp_ne, cmp_lt, cmp_le, cmp_gt, cmp_ge, cmp_is, cmp_isn, cmp_inL, cmp_inT, cmp_ninL, cmp_ninT, isNon_non, isNon_int, isNon_str, isNon_bl, isNon_tup, isNon_lst, ix_lst, ix_tup, ix_scr, sl_lst, sl_tup, seq_lst, seq_tup, seq_scr, seqL_lst, seqL_scr, bi_lenL, bi_lenT, bi_lenS, bi_listL, bi_listT, bi_tupL, bi_tupT, bi_intI, bi_intB, bi_max2, bi_min2, rngsD_1, rngsD_2, rngsD_3, lao_lst, lstAt_se, gpo_obj, lstAt_fe, setPl_s, spo_obj, setPl_f, partE_nil, partE_ne, intO_sh, lstD_lst, fldR_sh, fldR_obj, evO_fld, negR_int, evO_neg, iteR_true, iteR_false, evO_ite, chR_true, chR_false, evC_one, evC_two, bopR_tt, bopR_tf, bopR_ft, bopR_ff, evB_cs, sfR_obj, evS_setfld, evI_e, evS_seq, evS_ite, evS_for, evS_whl, evO_lc, kSeq_nx, kSeq_ret, kIf_true, kIf_false, kLcs_true, bnd_ok, bnd_exn, bnd_fail, opt_some, opt_none, optC_some, asB_ok, asB_exn, asI_ok, getS, setS, looks, frz, frzs, gives, takeA, backA, doNew, intsD, outsOf, eqD_int, kRun_nx, kRun_ret, kRun_exn, wipeF, backF, ne_eq, not_false_eq_true, forall_const, implies_true, reduceCtorEq, List.map_cons, List.map_nil, List.cons_append, List.nil_append, List.append_nil, List.replicate_succ, List.replicate_zero, Option.map_some, and_self, if_true, if_false, decide_true, decide_false, Bool.not_true, Bool.not_false, Bool.false_eq_true, Bool.or_true, Bool.true_or, Bool.and_true, Bool.true_and, Bool.or_false, Bool.false_or, asg_name, asg_tup, asg2_some, asgs_nil, asgs_cons, evO_gint, Nat.sub_self, Nat.reduceSub, shOrNone_none, shOrNone_sh, List.all_cons, List.all_nil, evO_isi, evO_isx, evO_cntT, evO_idxT, evO_kind, kindR_ok, kindR_exn, isi_int, isi_bl, isi_str, isi_non, isi_tup, isi_lst, eqD_bl, eqD_str, isa_int_TL, isa_int_L, isa_int_S, isa_int_B, isa_int_I, isa_int_T, isa_bool_TL, isa_bool_L, isa_bool_S, isa_bool_B, isa_bool_I, isa_bool_T, isa_str_TL, isa_str_L, isa_str_S, isa_str_B, isa_str_I, isa_str_T, isa_list_TL, isa_list_L, isa_list_S, isa_list_B, isa_list_I, isa_list_T, isa_tuple_TL, isa_tuple_L, isa_tuple_S, isa_tuple_B, isa_tuple_I, isa_tuple_T, isa_none_TL, isa_none_L, isa_none_S, isa_none_B, isa_none_I, isa_none_T, eqD_nil0, List.length_nil, Nat.zero_le, oldF_nil, oldO_sh, oldO_lst, old_int, old_str, old_bl, old_non, old_scr, old_tup, old_lst, olds_nil, olds_cons, killB_true, killB_false, killF_nil, yngO_sh, yngO_lst, yng_int, yng_str, yng_bl, yng_non, yng_scr, yng_tup, yng_lstT, yng_lstF, yngs_nil, yngs_cons, oldF_cons, killF_cons, Option.map_none, Option.bind_some, Option.bind_none, killO_eq, atI_0, atI_1, atI_2, atI_3, len1, len2, len3, len4, len5, len6, len7, le_big1, le_big2, le_big3, le_big4, le_big5, le_big6, le_big7, le_big8, le_big9, le_big10, le_big11, le_big12, io__law_start, run__law_start 9 2000, f__law_start, e1, rng_up 8 (by omega) (by omega), show (8 : Int).toNat = 8 from rfl, e2]
def depth : Nat := 10
theorem law_runs : ∀ ns : List Int, ns.length ≤ 63 → ∃ ρ, evS (clOf Γ 2000 depth) 2000 f_law.body (some (.sh (.scr ns)) :: List.replicate (f_law.ns - 1) none) = .ok (.ret (.sh (.bl true))) ρ := fun ns _ => law_at ns
end WD.Law


namespace WD.Law
open PySem PySem.Spec PyProof.Rows L2 WD
theorem all_mk {l : PySem.W.OpenLaw} {w : World} {K : PySem.W.Frag} {h : Heap} {mg : Str → Option Value} {fa : Addr} (X : K.In h) (G : h.Ns mainGlobals mg) (hfa : mg "law" = some (.ref fa))
    {f0 : Addr} {od0 an0 : Option Addr} {sl0 : Array (Option Value)} {oc0 kV0 dc0 pm0 cd0 ct0 : Value}
    (a0 : PySem.W.nsIn K mainGlobals "need_window" = some (some (.ref f0))) (l0 : K.lookup f0 = some ⟨oc0, od0, .func (PySem.W.fnOf "need_window" "need_window" (defArgs d_need_window.st) (defBody d_need_window.st) (defScope d_need_window.st) .none kV0 dc0 pm0 an0 cd0 ct0), sl0⟩) (c0 : PySem.W.codeIn K cd0 "need_window" = true) (k0 : PySem.W.keepIn K (.ref f0) = true)
    {f1 : Addr} {od1 an1 : Option Addr} {sl1 : Array (Option Value)} {oc1 kV1 dc1 pm1 cd1 ct1 : Value}
    (a1 : PySem.W.nsIn K mainGlobals "first_bite" = some (some (.ref f1))) (l1 : K.lookup f1 = some ⟨oc1, od1, .func (PySem.W.fnOf "first_bite" "first_bite" (defArgs d_first_bite.st) (defBody d_first_bite.st) (defScope d_first_bite.st) .none kV1 dc1 pm1 an1 cd1 ct1), sl1⟩) (c1 : PySem.W.codeIn K cd1 "first_bite" = true) (k1 : PySem.W.keepIn K (.ref f1) = true)
    {f2 : Addr} {od2 an2 : Option Addr} {sl2 : Array (Option Value)} {oc2 kV2 dc2 pm2 cd2 ct2 : Value}
    (a2 : PySem.W.nsIn K mainGlobals "late_bite" = some (some (.ref f2))) (l2 : K.lookup f2 = some ⟨oc2, od2, .func (PySem.W.fnOf "late_bite" "late_bite" (defArgs d_late_bite.st) (defBody d_late_bite.st) (defScope d_late_bite.st) .none kV2 dc2 pm2 an2 cd2 ct2), sl2⟩) (c2 : PySem.W.codeIn K cd2 "late_bite" = true) (k2 : PySem.W.keepIn K (.ref f2) = true)
    {f3 : Addr} {od3 an3 : Option Addr} {sl3 : Array (Option Value)} {oc3 kV3 dc3 pm3 cd3 ct3 : Value}
    (a3 : PySem.W.nsIn K mainGlobals "need_beat" = some (some (.ref f3))) (l3 : K.lookup f3 = some ⟨oc3, od3, .func (PySem.W.fnOf "need_beat" "need_beat" (defArgs d_need_beat.st) (defBody d_need_beat.st) (defScope d_need_beat.st) .none kV3 dc3 pm3 an3 cd3 ct3), sl3⟩) (c3 : PySem.W.codeIn K cd3 "need_beat" = true) (k3 : PySem.W.keepIn K (.ref f3) = true)
    {f4 : Addr} {od4 an4 : Option Addr} {sl4 : Array (Option Value)} {oc4 kV4 dc4 pm4 cd4 ct4 : Value}
    (a4 : PySem.W.nsIn K mainGlobals "has_reported" = some (some (.ref f4))) (l4 : K.lookup f4 = some ⟨oc4, od4, .func (PySem.W.fnOf "has_reported" "has_reported" (defArgs d_has_reported.st) (defBody d_has_reported.st) (defScope d_has_reported.st) .none kV4 dc4 pm4 an4 cd4 ct4), sl4⟩) (c4 : PySem.W.codeIn K cd4 "has_reported" = true) (k4 : PySem.W.keepIn K (.ref f4) = true)
    {f5 : Addr} {od5 an5 : Option Addr} {sl5 : Array (Option Value)} {oc5 kV5 dc5 pm5 cd5 ct5 : Value}
    (a5 : PySem.W.nsIn K mainGlobals "pats_of" = some (some (.ref f5))) (l5 : K.lookup f5 = some ⟨oc5, od5, .func (PySem.W.fnOf "pats_of" "pats_of" (defArgs d_pats_of.st) (defBody d_pats_of.st) (defScope d_pats_of.st) .none kV5 dc5 pm5 an5 cd5 ct5), sl5⟩) (c5 : PySem.W.codeIn K cd5 "pats_of" = true) (k5 : PySem.W.keepIn K (.ref f5) = true)
    {f6 : Addr} {od6 an6 : Option Addr} {sl6 : Array (Option Value)} {oc6 kV6 dc6 pm6 cd6 ct6 : Value}
    (a6 : PySem.W.nsIn K mainGlobals "keeper_pats" = some (some (.ref f6))) (l6 : K.lookup f6 = some ⟨oc6, od6, .func (PySem.W.fnOf "keeper_pats" "keeper_pats" (defArgs d_keeper_pats.st) (defBody d_keeper_pats.st) (defScope d_keeper_pats.st) .none kV6 dc6 pm6 an6 cd6 ct6), sl6⟩) (c6 : PySem.W.codeIn K cd6 "keeper_pats" = true) (k6 : PySem.W.keepIn K (.ref f6) = true)
    {f7 : Addr} {od7 an7 : Option Addr} {sl7 : Array (Option Value)} {oc7 kV7 dc7 pm7 cd7 ct7 : Value}
    (a7 : PySem.W.nsIn K mainGlobals "found_at" = some (some (.ref f7))) (l7 : K.lookup f7 = some ⟨oc7, od7, .func (PySem.W.fnOf "found_at" "found_at" (defArgs d_found_at.st) (defBody d_found_at.st) (defScope d_found_at.st) .none kV7 dc7 pm7 an7 cd7 ct7), sl7⟩) (c7 : PySem.W.codeIn K cd7 "found_at" = true) (k7 : PySem.W.keepIn K (.ref f7) = true)
    {f8 : Addr} {od8 an8 : Option Addr} {sl8 : Array (Option Value)} {oc8 kV8 dc8 pm8 cd8 ct8 : Value}
    (a8 : PySem.W.nsIn K mainGlobals "_law_start" = some (some (.ref f8))) (l8 : K.lookup f8 = some ⟨oc8, od8, .func (PySem.W.fnOf "_law_start" "_law_start" (defArgs d__law_start.st) (defBody d__law_start.st) (defScope d__law_start.st) .none kV8 dc8 pm8 an8 cd8 ct8), sl8⟩) (c8 : PySem.W.codeIn K cd8 "_law_start" = true) (k8 : PySem.W.keepIn K (.ref f8) = true)
    {f9 : Addr} {od9 an9 : Option Addr} {sl9 : Array (Option Value)} {oc9 kV9 dc9 pm9 cd9 ct9 : Value}
    (a9 : PySem.W.nsIn K mainGlobals "_law_drawn" = some (some (.ref f9))) (l9 : K.lookup f9 = some ⟨oc9, od9, .func (PySem.W.fnOf "_law_drawn" "_law_drawn" (defArgs d__law_drawn.st) (defBody d__law_drawn.st) (defScope d__law_drawn.st) .none kV9 dc9 pm9 an9 cd9 ct9), sl9⟩) (c9 : PySem.W.codeIn K cd9 "_law_drawn" = true) (k9 : PySem.W.keepIn K (.ref f9) = true)
    {f10 : Addr} {od10 an10 : Option Addr} {sl10 : Array (Option Value)} {oc10 kV10 dc10 pm10 cd10 ct10 : Value}
    (a10 : PySem.W.nsIn K mainGlobals "_law_same" = some (some (.ref f10))) (l10 : K.lookup f10 = some ⟨oc10, od10, .func (PySem.W.fnOf "_law_same" "_law_same" (defArgs d__law_same.st) (defBody d__law_same.st) (defScope d__law_same.st) .none kV10 dc10 pm10 an10 cd10 ct10), sl10⟩) (c10 : PySem.W.codeIn K cd10 "_law_same" = true) (k10 : PySem.W.keepIn K (.ref f10) = true)
    {f11 : Addr} {od11 an11 : Option Addr} {sl11 : Array (Option Value)} {oc11 kV11 dc11 pm11 cd11 ct11 : Value}
    (a11 : PySem.W.nsIn K mainGlobals "_law_far" = some (some (.ref f11))) (l11 : K.lookup f11 = some ⟨oc11, od11, .func (PySem.W.fnOf "_law_far" "_law_far" (defArgs d__law_far.st) (defBody d__law_far.st) (defScope d__law_far.st) .none kV11 dc11 pm11 an11 cd11 ct11), sl11⟩) (c11 : PySem.W.codeIn K cd11 "_law_far" = true) (k11 : PySem.W.keepIn K (.ref f11) = true)
    {f12 : Addr} {od12 an12 : Option Addr} {sl12 : Array (Option Value)} {oc12 kV12 dc12 pm12 cd12 ct12 : Value}
    (a12 : PySem.W.nsIn K mainGlobals "_law_window" = some (some (.ref f12))) (l12 : K.lookup f12 = some ⟨oc12, od12, .func (PySem.W.fnOf "_law_window" "_law_window" (defArgs d__law_window.st) (defBody d__law_window.st) (defScope d__law_window.st) .none kV12 dc12 pm12 an12 cd12 ct12), sl12⟩) (c12 : PySem.W.codeIn K cd12 "_law_window" = true) (k12 : PySem.W.keepIn K (.ref f12) = true)
    {f13 : Addr} {od13 an13 : Option Addr} {sl13 : Array (Option Value)} {oc13 kV13 dc13 pm13 cd13 ct13 : Value}
    (a13 : PySem.W.nsIn K mainGlobals "_law_bite" = some (some (.ref f13))) (l13 : K.lookup f13 = some ⟨oc13, od13, .func (PySem.W.fnOf "_law_bite" "_law_bite" (defArgs d__law_bite.st) (defBody d__law_bite.st) (defScope d__law_bite.st) .none kV13 dc13 pm13 an13 cd13 ct13), sl13⟩) (c13 : PySem.W.codeIn K cd13 "_law_bite" = true) (k13 : PySem.W.keepIn K (.ref f13) = true)
    {f14 : Addr} {od14 an14 : Option Addr} {sl14 : Array (Option Value)} {oc14 kV14 dc14 pm14 cd14 ct14 : Value}
    (a14 : PySem.W.nsIn K mainGlobals "_law_keeper" = some (some (.ref f14))) (l14 : K.lookup f14 = some ⟨oc14, od14, .func (PySem.W.fnOf "_law_keeper" "_law_keeper" (defArgs d__law_keeper.st) (defBody d__law_keeper.st) (defScope d__law_keeper.st) .none kV14 dc14 pm14 an14 cd14 ct14), sl14⟩) (c14 : PySem.W.codeIn K cd14 "_law_keeper" = true) (k14 : PySem.W.keepIn K (.ref f14) = true)
    {f15 : Addr} {od15 an15 : Option Addr} {sl15 : Array (Option Value)} {oc15 kV15 dc15 pm15 cd15 ct15 : Value}
    (a15 : PySem.W.nsIn K mainGlobals "_law_tasks" = some (some (.ref f15))) (l15 : K.lookup f15 = some ⟨oc15, od15, .func (PySem.W.fnOf "_law_tasks" "_law_tasks" (defArgs d__law_tasks.st) (defBody d__law_tasks.st) (defScope d__law_tasks.st) .none kV15 dc15 pm15 an15 cd15 ct15), sl15⟩) (c15 : PySem.W.codeIn K cd15 "_law_tasks" = true) (k15 : PySem.W.keepIn K (.ref f15) = true)
    {f16 : Addr} {od16 an16 : Option Addr} {sl16 : Array (Option Value)} {oc16 kV16 dc16 pm16 cd16 ct16 : Value}
    (a16 : PySem.W.nsIn K mainGlobals "_law_reports" = some (some (.ref f16))) (l16 : K.lookup f16 = some ⟨oc16, od16, .func (PySem.W.fnOf "_law_reports" "_law_reports" (defArgs d__law_reports.st) (defBody d__law_reports.st) (defScope d__law_reports.st) .none kV16 dc16 pm16 an16 cd16 ct16), sl16⟩) (c16 : PySem.W.codeIn K cd16 "_law_reports" = true) (k16 : PySem.W.keepIn K (.ref f16) = true)
    {f17 : Addr} {od17 an17 : Option Addr} {sl17 : Array (Option Value)} {oc17 kV17 dc17 pm17 ct17 : Value} {cl17 : Addr}
    (a17 : PySem.W.nsIn K mainGlobals "law" = some (some (.ref f17))) (l17 : K.lookup f17 = some ⟨oc17, od17, .func (PySem.W.fnOf "law" "law" (defArgs d_law.st) (defBody d_law.st) (defScope d_law.st) .none kV17 dc17 pm17 an17 (.ref cl17) ct17), sl17⟩) (c17 : PySem.W.codeIn K (.ref cl17) "law" = true) (k17 : PySem.W.keepIn K (.ref f17) = true)
    {fK : Addr} {odK anK : Option Addr} {slK : Array (Option Value)} {ocK kVK dcK pmK cdK ctK : Value}
    (aK : PySem.W.nsIn K mainGlobals "_law_kind" = some (some (.ref fK))) (lK : K.lookup fK = some ⟨ocK, odK, .func (PySem.W.fnOf "_law_kind" "_law_kind" (defArgs (topS 27)) (defBody (topS 27)) (defScope (topS 27)) .none kVK dcK pmK anK cdK ctK), slK⟩) (cK : PySem.W.codeIn K cdK "_law_kind" = true) (kK : PySem.W.keepIn K (.ref fK) = true)
    (b0 : PySem.W.nsIn K mainGlobals "range" = some none)
    (b1 : PySem.W.nsIn K mainGlobals "len" = some none)
    (b2 : PySem.W.nsIn K mainGlobals "isinstance" = some none)
    (b3 : PySem.W.nsIn K mainGlobals "int" = some none)
    (b4 : PySem.W.nsIn K mainGlobals "bool" = some none)
    (b5 : PySem.W.nsIn K mainGlobals "str" = some none)
    (b6 : PySem.W.nsIn K mainGlobals "tuple" = some none)
    (b7 : PySem.W.nsIn K mainGlobals "list" = some none)
    (b8 : PySem.W.nsIn K mainGlobals "ValueError" = some none)
    {t0 : Tok} (n0 : PySem.W.nsIn K mainGlobals "MOST_HIGH" = some (some (.int 1000 t0)))
    {t1 : Tok} (n1 : PySem.W.nsIn K mainGlobals "MOST_BEAT" = some (some (.int 60 t1)))
    {x0 : Addr} (xa0 : PySem.W.nsIn K mainGlobals "DogError" = some (some (.ref x0)))
    {x1 : Addr} (xa1 : PySem.W.nsIn K mainGlobals "BadWindow" = some (some (.ref x1)))
    (xk1 : PySem.W.keepIn K (.ref x1) = true) (xe1 : PySem.W.excIn K x1 [.type "ValueError", .type "Exception", .type "BaseException", .type "object"] "ValueError.__new__" = true) (xs1 : PySem.W.subIn K (.ref x1) (.type "BaseException") = some true) (xt1 : PySem.W.typeIn K (.ref x1) = some (.type "type"))
    {x2 : Addr} (xa2 : PySem.W.nsIn K mainGlobals "BadPlan" = some (some (.ref x2)))
    {x3 : Addr} (xa3 : PySem.W.nsIn K mainGlobals "BadDelays" = some (some (.ref x3)))
    {x4 : Addr} (xa4 : PySem.W.nsIn K mainGlobals "BadWorks" = some (some (.ref x4)))
    {x5 : Addr} (xa5 : PySem.W.nsIn K mainGlobals "NoPats" = some (some (.ref x5)))
    {x6 : Addr} (xa6 : PySem.W.nsIn K mainGlobals "NoPlace" = some (some (.ref x6)))
    {x7 : Addr} (xa7 : PySem.W.nsIn K mainGlobals "BadTasks" = some (some (.ref x7)))
    {x8 : Addr} (xa8 : PySem.W.nsIn K mainGlobals "BadBeat" = some (some (.ref x8)))
    (xk8 : PySem.W.keepIn K (.ref x8) = true) (xe8 : PySem.W.excIn K x8 [.type "ValueError", .type "Exception", .type "BaseException", .type "object"] "ValueError.__new__" = true) (xs8 : PySem.W.subIn K (.ref x8) (.type "BaseException") = some true) (xt8 : PySem.W.typeIn K (.ref x8) = some (.type "type"))
    {x9 : Addr} (xa9 : PySem.W.nsIn K mainGlobals "TooMuch" = some (some (.ref x9)))
    (ym1 : PySem.W.exmOne K (.ref x1) (.ref x0) = some true) (yv1 : PySem.W.kitOne K (.ref x1) (.type "ValueError") = some true)
    (ya1 : PySem.W.findIn K (.ref x1) "__getattribute__" = some (some (.builtin "BaseException.__getattribute__")))
    (yb1 : PySem.W.findIn K (.ref x1) "__getattr__" = some none)
    (yc1 : PySem.W.subIn K (.ref x1) (.type "BaseException") = some true)
    (yd1 : PySem.W.hasDictIn K x1 = true)
    (ye1 : PySem.W.findIn K (.ref x1) "__class__" = some (some (.builtin "object.__class__")))
    (yf1 : PySem.W.mroIn K x1 (.type "object") = some true)
    (z1_1 : PySem.W.kitOne K (.ref x1) (.ref x1) = some true)
    (z1_2 : PySem.W.kitOne K (.ref x1) (.ref x2) = some false)
    (z1_3 : PySem.W.kitOne K (.ref x1) (.ref x3) = some false)
    (z1_4 : PySem.W.kitOne K (.ref x1) (.ref x4) = some false)
    (z1_5 : PySem.W.kitOne K (.ref x1) (.ref x5) = some false)
    (z1_6 : PySem.W.kitOne K (.ref x1) (.ref x6) = some false)
    (z1_7 : PySem.W.kitOne K (.ref x1) (.ref x7) = some false)
    (z1_8 : PySem.W.kitOne K (.ref x1) (.ref x8) = some false)
    (z1_9 : PySem.W.kitOne K (.ref x1) (.ref x9) = some false)
    (ym8 : PySem.W.exmOne K (.ref x8) (.ref x0) = some true) (yv8 : PySem.W.kitOne K (.ref x8) (.type "ValueError") = some true)
    (ya8 : PySem.W.findIn K (.ref x8) "__getattribute__" = some (some (.builtin "BaseException.__getattribute__")))
    (yb8 : PySem.W.findIn K (.ref x8) "__getattr__" = some none)
    (yc8 : PySem.W.subIn K (.ref x8) (.type "BaseException") = some true)
    (yd8 : PySem.W.hasDictIn K x8 = true)
    (ye8 : PySem.W.findIn K (.ref x8) "__class__" = some (some (.builtin "object.__class__")))
    (yf8 : PySem.W.mroIn K x8 (.type "object") = some true)
    (z8_1 : PySem.W.kitOne K (.ref x8) (.ref x1) = some false)
    (z8_2 : PySem.W.kitOne K (.ref x8) (.ref x2) = some false)
    (z8_3 : PySem.W.kitOne K (.ref x8) (.ref x3) = some false)
    (z8_4 : PySem.W.kitOne K (.ref x8) (.ref x4) = some false)
    (z8_5 : PySem.W.kitOne K (.ref x8) (.ref x5) = some false)
    (z8_6 : PySem.W.kitOne K (.ref x8) (.ref x6) = some false)
    (z8_7 : PySem.W.kitOne K (.ref x8) (.ref x7) = some false)
    (z8_8 : PySem.W.kitOne K (.ref x8) (.ref x8) = some true)
    (z8_9 : PySem.W.kitOne K (.ref x8) (.ref x9) = some false)
    (yg : PySem.W.specialIn K (.builtin "object.__class__") "__get__" = some (some (.builtin "getset_descriptor.__get__"))) (yh : PySem.W.takesIn K (.builtin "object.__class__") = some true)
    {T0 : Addr} (hY : h.get? T0 = some { cls := .none, data := .fields #[] }) (hT0 : K.lookup T0 = none) (hC0 : PySem.W.codeHdIn K cl17 T0 = true)
    {n Nf : Nat} (hev : ∀ ns : List Int, ns.length ≤ 63 → ∃ ρ, evS (clOf Γ Nf n) Nf f_law.body (some (.sh (.scr ns)) :: List.replicate (f_law.ns - 1) none) = .ok (.ret (.sh (.bl true))) ρ) :
    LamX.LawAtS l w K (L2.CX l.prog w) (n + 4) 63 "_law_script" mg fa h := by
  have e := hfa.symm.trans (PySem.W.mg_of X G a17)
  cases e
  let p : Pm := ⟨K, fun _ => 0, fun C => ([x0, x1, x2, x3, x4, x5, x6, x7, x8, x9] : List Addr).getD C 0, [(T0, "law" ++ ".<locals>." ++ "<lambda>")], 0⟩
  have F0 : Fun K d_need_window.x d_need_window.qual d_need_window.st f0 _ := fun_mk (st := d_need_window.st) l0 c0 k0
  have B0 := F0.binds (ps := d_need_window.ps) fun _ _ _ _ _ _ us hl => match us, hl with | [_], _ => rfl
  have F1 : Fun K d_first_bite.x d_first_bite.qual d_first_bite.st f1 _ := fun_mk (st := d_first_bite.st) l1 c1 k1
  have B1 := F1.binds (ps := d_first_bite.ps) fun _ _ _ _ _ _ us hl => match us, hl with | [_, _, _], _ => rfl
  have F2 : Fun K d_late_bite.x d_late_bite.qual d_late_bite.st f2 _ := fun_mk (st := d_late_bite.st) l2 c2 k2
  have B2 := F2.binds (ps := d_late_bite.ps) fun _ _ _ _ _ _ us hl => match us, hl with | [_, _], _ => rfl
  have F3 : Fun K d_need_beat.x d_need_beat.qual d_need_beat.st f3 _ := fun_mk (st := d_need_beat.st) l3 c3 k3
  have B3 := F3.binds (ps := d_need_beat.ps) fun _ _ _ _ _ _ us hl => match us, hl with | [_], _ => rfl
  have F4 : Fun K d_has_reported.x d_has_reported.qual d_has_reported.st f4 _ := fun_mk (st := d_has_reported.st) l4 c4 k4
  have B4 := F4.binds (ps := d_has_reported.ps) fun _ _ _ _ _ _ us hl => match us, hl with | [_, _, _], _ => rfl
  have F5 : Fun K d_pats_of.x d_pats_of.qual d_pats_of.st f5 _ := fun_mk (st := d_pats_of.st) l5 c5 k5
  have B5 := F5.binds (ps := d_pats_of.ps) fun _ _ _ _ _ _ us hl => match us, hl with | [_, _, _], _ => rfl
  have F6 : Fun K d_keeper_pats.x d_keeper_pats.qual d_keeper_pats.st f6 _ := fun_mk (st := d_keeper_pats.st) l6 c6 k6
  have B6 := F6.binds (ps := d_keeper_pats.ps) fun _ _ _ _ _ _ us hl => match us, hl with | [_, _, _], _ => rfl
  have F7 : Fun K d_found_at.x d_found_at.qual d_found_at.st f7 _ := fun_mk (st := d_found_at.st) l7 c7 k7
  have B7 := F7.binds (ps := d_found_at.ps) fun _ _ _ _ _ _ us hl => match us, hl with | [_, _, _, _], _ => rfl
  have F8 : Fun K d__law_start.x d__law_start.qual d__law_start.st f8 _ := fun_mk (st := d__law_start.st) l8 c8 k8
  have B8 := F8.binds (ps := d__law_start.ps) fun _ _ _ _ _ _ us hl => match us, hl with | [_], _ => rfl
  have F9 : Fun K d__law_drawn.x d__law_drawn.qual d__law_drawn.st f9 _ := fun_mk (st := d__law_drawn.st) l9 c9 k9
  have B9 := F9.binds (ps := d__law_drawn.ps) fun _ _ _ _ _ _ us hl => match us, hl with | [_, _], _ => rfl
  have F10 : Fun K d__law_same.x d__law_same.qual d__law_same.st f10 _ := fun_mk (st := d__law_same.st) l10 c10 k10
  have B10 := F10.binds (ps := d__law_same.ps) fun _ _ _ _ _ _ us hl => match us, hl with | [_, _], _ => rfl
  have F11 : Fun K d__law_far.x d__law_far.qual d__law_far.st f11 _ := fun_mk (st := d__law_far.st) l11 c11 k11
  have B11 := F11.binds (ps := d__law_far.ps) fun _ _ _ _ _ _ us hl => match us, hl with | [_, _], _ => rfl
  have F12 : Fun K d__law_window.x d__law_window.qual d__law_window.st f12 _ := fun_mk (st := d__law_window.st) l12 c12 k12
  have B12 := F12.binds (ps := d__law_window.ps) fun _ _ _ _ _ _ us hl => match us, hl with | [_, _], _ => rfl
  have F13 : Fun K d__law_bite.x d__law_bite.qual d__law_bite.st f13 _ := fun_mk (st := d__law_bite.st) l13 c13 k13
  have B13 := F13.binds (ps := d__law_bite.ps) fun _ _ _ _ _ _ us hl => match us, hl with | [_, _, _], _ => rfl
  have F14 : Fun K d__law_keeper.x d__law_keeper.qual d__law_keeper.st f14 _ := fun_mk (st := d__law_keeper.st) l14 c14 k14
  have B14 := F14.binds (ps := d__law_keeper.ps) fun _ _ _ _ _ _ us hl => match us, hl with | [_, _, _], _ => rfl
  have F15 : Fun K d__law_tasks.x d__law_tasks.qual d__law_tasks.st f15 _ := fun_mk (st := d__law_tasks.st) l15 c15 k15
  have B15 := F15.binds (ps := d__law_tasks.ps) fun _ _ _ _ _ _ us hl => match us, hl with | [_, _, _], _ => rfl
  have F16 : Fun K d__law_reports.x d__law_reports.qual d__law_reports.st f16 _ := fun_mk (st := d__law_reports.st) l16 c16 k16
  have B16 := F16.binds (ps := d__law_reports.ps) fun _ _ _ _ _ _ us hl => match us, hl with | [_, _, _], _ => rfl
  have hr : AllR p.K mg lst := .cons _ _ ⟨F0, B0, PySem.W.mg_of X G a0⟩ (.cons _ _ ⟨F1, B1, PySem.W.mg_of X G a1⟩ (.cons _ _ ⟨F2, B2, PySem.W.mg_of X G a2⟩ (.cons _ _ ⟨F3, B3, PySem.W.mg_of X G a3⟩ (.cons _ _ ⟨F4, B4, PySem.W.mg_of X G a4⟩ (.cons _ _ ⟨F5, B5, PySem.W.mg_of X G a5⟩ (.cons _ _ ⟨F6, B6, PySem.W.mg_of X G a6⟩ (.cons _ _ ⟨F7, B7, PySem.W.mg_of X G a7⟩ (.cons _ _ ⟨F8, B8, PySem.W.mg_of X G a8⟩ (.cons _ _ ⟨F9, B9, PySem.W.mg_of X G a9⟩ (.cons _ _ ⟨F10, B10, PySem.W.mg_of X G a10⟩ (.cons _ _ ⟨F11, B11, PySem.W.mg_of X G a11⟩ (.cons _ _ ⟨F12, B12, PySem.W.mg_of X G a12⟩ (.cons _ _ ⟨F13, B13, PySem.W.mg_of X G a13⟩ (.cons _ _ ⟨F14, B14, PySem.W.mg_of X G a14⟩ (.cons _ _ ⟨F15, B15, PySem.W.mg_of X G a15⟩ (.cons _ _ ⟨F16, B16, PySem.W.mg_of X G a16⟩ (.nil)))))))))))))))))
  have RG : RtG p gt mg := RtG.mk' (p := p) (g := gt) (mg := mg)
    ⟨⟨_, PySem.W.mg_of X G n0⟩, ⟨_, PySem.W.mg_of X G n1⟩, trivial⟩
    ⟨PySem.W.mg_none_of X G b0, PySem.W.mg_none_of X G b1, PySem.W.mg_none_of X G b2, PySem.W.mg_none_of X G b3, PySem.W.mg_none_of X G b4, PySem.W.mg_none_of X G b5, PySem.W.mg_none_of X G b6, PySem.W.mg_none_of X G b7, trivial⟩
    ⟨⟨PySem.W.mg_of X G xa1, xk1, xe1, xs1, xt1⟩, ⟨PySem.W.mg_of X G xa8, xk8, xe8, xs8, xt8⟩, trivial⟩
  have FK : Fun K "_law_kind" "_law_kind" (topS 27) fK _ := fun_mk (st := topS 27) lK cK kK
  have RK : RtK p.K mg (topS 27) fK := ⟨⟨_, _, _, _, _, _, _, _, _, lK, cK, FK.binds fun _ _ _ _ _ _ us hl => match us, hl with | [_], _ => rfl⟩, kK, PySem.W.mg_of X G aK⟩
  have KX : KindX p mg kindsL x0 := ⟨PySem.W.mg_of X G xa0, PySem.W.mg_none_of X G b2, PySem.W.mg_none_of X G b8, AllP.getK (f := fun q => PySem.W.exmOne p.K (.ref (p.XA q.1)) (.ref x0) = some true ∧ ExcC p.K (p.XA q.1) ∧ (∀ x ∈ kwords, ∃ a, mg x = some (.ref a) ∧ PySem.W.kitOne p.K (.ref (p.XA q.1)) (.ref a) = some (decide (x = q.2))) ∧ PySem.W.kitOne p.K (.ref (p.XA q.1)) (.type "ValueError") = some true) (l := kindsL)
    ⟨⟨ym1, ⟨ya1, yb1, yc1, yd1, ye1, yg, yh, yf1⟩, (fun x hx => AllP.mem (f := fun x => ∃ a, mg x = some (.ref a) ∧ PySem.W.kitOne K (.ref x1) (.ref a) = some (decide (x = "BadWindow"))) (l := kwords) ⟨⟨_, PySem.W.mg_of X G xa1, z1_1⟩, ⟨_, PySem.W.mg_of X G xa2, z1_2⟩, ⟨_, PySem.W.mg_of X G xa3, z1_3⟩, ⟨_, PySem.W.mg_of X G xa4, z1_4⟩, ⟨_, PySem.W.mg_of X G xa5, z1_5⟩, ⟨_, PySem.W.mg_of X G xa6, z1_6⟩, ⟨_, PySem.W.mg_of X G xa7, z1_7⟩, ⟨_, PySem.W.mg_of X G xa8, z1_8⟩, ⟨_, PySem.W.mg_of X G xa9, z1_9⟩, trivial⟩ x hx), yv1⟩, ⟨ym8, ⟨ya8, yb8, yc8, yd8, ye8, yg, yh, yf8⟩, (fun x hx => AllP.mem (f := fun x => ∃ a, mg x = some (.ref a) ∧ PySem.W.kitOne K (.ref x8) (.ref a) = some (decide (x = "BadBeat"))) (l := kwords) ⟨⟨_, PySem.W.mg_of X G xa1, z8_1⟩, ⟨_, PySem.W.mg_of X G xa2, z8_2⟩, ⟨_, PySem.W.mg_of X G xa3, z8_3⟩, ⟨_, PySem.W.mg_of X G xa4, z8_4⟩, ⟨_, PySem.W.mg_of X G xa5, z8_5⟩, ⟨_, PySem.W.mg_of X G xa6, z8_6⟩, ⟨_, PySem.W.mg_of X G xa7, z8_7⟩, ⟨_, PySem.W.mg_of X G xa8, z8_8⟩, ⟨_, PySem.W.mg_of X G xa9, z8_9⟩, trivial⟩ x hx), yv8⟩, trivial⟩⟩
  refine lawAtS_of (fd := PySem.W.fnOf "law" "law" (defArgs d_law.st) (defBody d_law.st) (defScope d_law.st) .none kV17 dc17 pm17 an17 (.ref cl17) ct17) (q := "law" ++ ".<locals>." ++ "<lambda>") hY hT0 X hC0 (fun s v => .of_eq rfl) fun base _ _ TB => ?_
  exact law_okK (p := p) (g := gt) (d := d_law) (nm := kindsL) rfl rfl chk_fns chk_all RG hr chk_law rfl l17 c17 RK KX chk_kind (fun s hs => kind_ev (by revert s; decide +kernel)) TB rfl hev
end WD.Law
open PySem PySem.W PyProof.Rows
set_option maxHeartbeats 0 in
theorem PySem.Challenge.cw_windowdog_k11_keepers_and_what_is_found_holds : PySem.Challenge.rw_windowdog_k11_keepers_and_what_is_found.Holds := by
  w_on; o_law; k_head; (case hw => w_witness2)
  k_fill
  refine LamX.walk_ofTs (l := PySem.Challenge.rw_windowdog_k11_keepers_and_what_is_found) (n := 63) (k := WD.Law.depth + 4) (x := "_law_script") (CX := fun w => L2.CX PySem.Challenge.rw_windowdog_k11_keepers_and_what_is_found.prog w) rfl (by decide) rfl ⟨rfl, by decide, by decide⟩ (fun w h Y => PySem.W.km_in_of Y) ?F (fun w H s e s' ⟨_, _, _, _, _, _, _, _, _, _, _, _, h⟩ => h)
  case F =>
    intro w mg fa h Y KX G hmg
    refine' WD.Law.all_mk (l := PySem.Challenge.rw_windowdog_k11_keepers_and_what_is_found) (w := w) KX G hmg ?a0 ?l0 ?c0 ?k0 ?a1 ?l1 ?c1 ?k1 ?a2 ?l2 ?c2 ?k2 ?a3 ?l3 ?c3 ?k3 ?a4 ?l4 ?c4 ?k4 ?a5 ?l5 ?c5 ?k5 ?a6 ?l6 ?c6 ?k6 ?a7 ?l7 ?c7 ?k7 ?a8 ?l8 ?c8 ?k8 ?a9 ?l9 ?c9 ?k9 ?a10 ?l10 ?c10 ?k10 ?a11 ?l11 ?c11 ?k11 ?a12 ?l12 ?c12 ?k12 ?a13 ?l13 ?c13 ?k13 ?a14 ?l14 ?c14 ?k14 ?a15 ?l15 ?c15 ?k15 ?a16 ?l16 ?c16 ?k16 ?a17 ?l17 ?c17 ?k17 ?aK ?lK ?cK ?kK ?b0 ?b1 ?b2 ?b3 ?b4 ?b5 ?b6 ?b7 ?b8 ?n0 ?n1 ?xa0 ?xa1 ?xk1 ?xe1 ?xs1 ?xt1 ?xa2 ?xa3 ?xa4 ?xa5 ?xa6 ?xa7 ?xa8 ?xk8 ?xe8 ?xs8 ?xt8 ?xa9 ?ym1 ?yv1 ?ya1 ?yb1 ?yc1 ?yd1 ?ye1 ?yf1 ?z1_1 ?z1_2 ?z1_3 ?z1_4 ?z1_5 ?z1_6 ?z1_7 ?z1_8 ?z1_9 ?ym8 ?yv8 ?ya8 ?yb8 ?yc8 ?yd8 ?ye8 ?yf8 ?z8_1 ?z8_2 ?z8_3 ?z8_4 ?z8_5 ?z8_6 ?z8_7 ?z8_8 ?z8_9 ?yg ?yh ?hY ?hT0 ?hC0 WD.Law.law_runs
    (case a0 => k_is)
    (case l0 => k_is)
    (case c0 => k_is)
    (case k0 => k_is)
    (case a1 => k_is)
    (case l1 => k_is)
    (case c1 => k_is)
    (case k1 => k_is)
    (case a2 => k_is)
    (case l2 => k_is)
    (case c2 => k_is)
    (case k2 => k_is)
    (case a3 => k_is)
    (case l3 => k_is)
    (case c3 => k_is)
    (case k3 => k_is)
    (case a4 => k_is)
    (case l4 => k_is)
    (case c4 => k_is)
    (case k4 => k_is)
    (case a5 => k_is)
    (case l5 => k_is)
    (case c5 => k_is)
    (case k5 => k_is)
    (case a6 => k_is)
    (case l6 => k_is)
    (case c6 => k_is)
    (case k6 => k_is)
    (case a7 => k_is)
    (case l7 => k_is)
    (case c7 => k_is)
    (case k7 => k_is)
    (case a8 => k_is)
    (case l8 => k_is)
    (case c8 => k_is)
    (case k8 => k_is)
    (case a9 => k_is)
    (case l9 => k_is)
    (case c9 => k_is)
    (case k9 => k_is)
    (case a10 => k_is)
    (case l10 => k_is)
    (case c10 => k_is)
    (case k10 => k_is)
    (case a11 => k_is)
    (case l11 => k_is)
    (case c11 => k_is)
    (case k11 => k_is)
    (case a12 => k_is)
    (case l12 => k_is)
    (case c12 => k_is)
    (case k12 => k_is)
    (case a13 => k_is)
    (case l13 => k_is)
    (case c13 => k_is)
    (case k13 => k_is)
    (case a14 => k_is)
    (case l14 => k_is)
    (case c14 => k_is)
    (case k14 => k_is)
    (case a15 => k_is)
    (case l15 => k_is)
    (case c15 => k_is)
    (case k15 => k_is)
    (case a16 => k_is)
    (case l16 => k_is)
    (case c16 => k_is)
    (case k16 => k_is)
    (case a17 => k_is)
    (case l17 => k_is)
    (case c17 => k_is)
    (case k17 => k_is)
    (case aK => k_is)
    (case lK => k_is)
    (case cK => k_is)
    (case kK => k_is)
    (case b0 => k_is)
    (case b1 => k_is)
    (case b2 => k_is)
    (case b3 => k_is)
    (case b4 => k_is)
    (case b5 => k_is)
    (case b6 => k_is)
    (case b7 => k_is)
    (case b8 => k_is)
    (case n0 => k_is)
    (case n1 => k_is)
    (case xa0 => k_is)
    (case xa1 => k_is)
    (case xk1 => k_is)
    (case xe1 => k_exc)
    (case xs1 => k_is)
    (case xt1 => k_is)
    (case xa2 => k_is)
    (case xa3 => k_is)
    (case xa4 => k_is)
    (case xa5 => k_is)
    (case xa6 => k_is)
    (case xa7 => k_is)
    (case xa8 => k_is)
    (case xk8 => k_is)
    (case xe8 => k_exc)
    (case xs8 => k_is)
    (case xt8 => k_is)
    (case xa9 => k_is)
    (case ym1 => kts_exm)
    (case yv1 => kit_is)
    (case ya1 => k_is)
    (case yb1 => k_is)
    (case yc1 => k_is)
    (case yd1 => k_is)
    (case ye1 => k_is)
    (case yf1 => k_is)
    (case z1_1 => kit_is)
    (case z1_2 => kit_is)
    (case z1_3 => kit_is)
    (case z1_4 => kit_is)
    (case z1_5 => kit_is)
    (case z1_6 => kit_is)
    (case z1_7 => kit_is)
    (case z1_8 => kit_is)
    (case z1_9 => kit_is)
    (case ym8 => kts_exm)
    (case yv8 => kit_is)
    (case ya8 => k_is)
    (case yb8 => k_is)
    (case yc8 => k_is)
    (case yd8 => k_is)
    (case ye8 => k_is)
    (case yf8 => k_is)
    (case z8_1 => kit_is)
    (case z8_2 => kit_is)
    (case z8_3 => kit_is)
    (case z8_4 => kit_is)
    (case z8_5 => kit_is)
    (case z8_6 => kit_is)
    (case z8_7 => kit_is)
    (case z8_8 => kit_is)
    (case z8_9 => kit_is)
    (case yg => k_is)
    (case yh => k_is)
    (case hY => exact PySem.W.km_tabs_of Y _ (List.mem_singleton_self _))
    (case hT0 => rfl)
    (case hC0 => rfl)

