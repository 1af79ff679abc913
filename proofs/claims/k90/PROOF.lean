import PyProof.Rows.All
import Wide.All
import OpenK.AllK
import Wide.FinOn
import KE.SortData
import KE.LtData
import KE.SortKeyHeap
import KE.KDictKeyed
import KE.KDictWalk
import HandS.Base
import HandS.Call
import HandS.List
import HandS.Comp
import HandS.Dict
import HandS.Iter
import HandS.Text
import HandS.Ends
import HandS.Exc
import HandS.TryOnly
import HandS.ExcOwn
import HandS.ExcInit
import HandS.Conv
import HandS.More
import HandS.Words
import HandS.WordsExc
import HandS.Defaults
import HandS.TupAny
import HandS.TupMul
import HandS.Deep
import HandS.DeepEq
import HandS.SortKw
import HandS.Style
import HandS.Star
import HandS.ExcCtx
import HandS.Hot
import HandS.HotCalls
import HandS.ExcField
import HandS.ExcIs
import KE.KExcIs
import HandS.IsInst
import HandS.TupLen
import PyProof.Rows.CallKw2
import KE.SortKeyed
import HandS.Head0
import HandS.Head1
import HandS.Head2
import HandS.HeadEnd
import HandS.HeadHook1
import HandS.HeadHook2
import PySem.Challenge.RW_eitheranswers_k90_enough_and_stopping
section
set_option Elab.async false
set_option linter.all false
set_option maxRecDepth 100000
/-! Ev: values without addresses, a small syntax, and what it is worth: a plain function. Cells hold what is changed; all else is a value. -/
namespace M
/-- a value: lst, dic, ins are frozen (nobody writes them any more); ref n is the n-th cell -/
inductive D where
  | non | bl (b : Bool) | int (i : Int) | str (cs : List Nat) | tup (xs : List D) | lst (xs : List D) | rol (xs : List D) | dic (t : Bool) (ks vs : List D) | ins (c : Nat) (as : List Nat) (vs : List D) | ref (n : Nat) | exn (c : Nat) (vs : List D)
  deriving Inhabited
mutual
def D.beq : D → D → Bool
  | .non, .non => true
  | .bl a, .bl b => a == b
  | .int i, .int j => decide (i = j)
  | .str x, .str y => decide (x = y)
  | .tup x, .tup y => beqs x y
  | .lst x, .lst y => beqs x y
  | .rol x, .rol y => beqs x y
  | .dic t k v, .dic r l u => (t == r) && (beqs k l && beqs v u)
  | .ins c a v, .ins d b u => decide (c = d) && decide (a = b) && beqs v u
  | .ref m, .ref n => decide (m = n)
  | .exn c v, .exn d u => decide (c = d) && beqs v u
  | _, _ => false
def beqs : List D → List D → Bool
  | [], [] => true
  | a :: x, b :: y => D.beq a b && beqs x y
  | _, _ => false
end
mutual
theorem D.beq_refl : ∀ a : D, D.beq a a = true
  | .non => rfl
  | .bl a => by simp [D.beq]
  | .int i => by simp [D.beq]
  | .str x => by simp [D.beq]
  | .tup x => by simp [D.beq, beqs_refl x]
  | .lst x => by simp [D.beq, beqs_refl x]
  | .rol x => by simp [D.beq, beqs_refl x]
  | .dic t k v => by simp [D.beq, beqs_refl k, beqs_refl v]
  | .ins c a v => by simp [D.beq, beqs_refl v]
  | .ref m => by simp [D.beq]
  | .exn c v => by simp [D.beq, beqs_refl v]
theorem beqs_refl : ∀ a : List D, beqs a a = true
  | [] => rfl
  | a :: x => by simp [beqs, D.beq_refl a, beqs_refl x]
end
mutual
theorem D.eq_of_beq : ∀ {a b : D}, D.beq a b = true → a = b
  | .non, b, h => by cases b <;> simp_all [D.beq]
  | .bl a, b, h => by cases b <;> simp_all [D.beq]
  | .int a, b, h => by cases b <;> simp_all [D.beq]
  | .str a, b, h => by cases b <;> simp_all [D.beq]
  | .ref a, b, h => by cases b <;> simp_all [D.beq]
  | .tup a, b, h => by
    cases b with
    | tup y => exact congrArg D.tup (eq_of_beqs (by simpa [D.beq] using h))
    | _ => simp [D.beq] at h
  | .lst a, b, h => by
    cases b with
    | lst y => exact congrArg D.lst (eq_of_beqs (by simpa [D.beq] using h))
    | _ => simp [D.beq] at h
  | .rol a, b, h => by
    cases b with
    | rol y => exact congrArg D.rol (eq_of_beqs (by simpa [D.beq] using h))
    | _ => simp [D.beq] at h
  | .dic t k v, b, h => by
    cases b with
    | dic r l u =>
      simp only [D.beq, Bool.and_eq_true, beq_iff_eq] at h
      rw [h.1, eq_of_beqs h.2.1, eq_of_beqs h.2.2]
    | _ => simp [D.beq] at h
  | .ins c a v, b, h => by
    cases b with
    | ins d e u =>
      simp only [D.beq, Bool.and_eq_true, decide_eq_true_eq] at h
      rw [h.1.1, h.1.2, eq_of_beqs h.2]
    | _ => simp [D.beq] at h
  | .exn c v, b, h => by
    cases b with
    | exn d u =>
      simp only [D.beq, Bool.and_eq_true, decide_eq_true_eq] at h
      rw [h.1, eq_of_beqs h.2]
    | _ => simp [D.beq] at h
theorem eq_of_beqs : ∀ {a b : List D}, beqs a b = true → a = b
  | [], b, h => by cases b <;> simp_all [beqs]
  | a :: x, b, h => by
    cases b with
    | nil => simp [beqs] at h
    | cons c y =>
      simp only [beqs, Bool.and_eq_true] at h
      rw [D.eq_of_beq h.1, eq_of_beqs h.2]
end
instance : DecidableEq D := fun a b => if h : D.beq a b = true then isTrue (D.eq_of_beq h) else isFalse fun e => h (by rw [e]; exact D.beq_refl b)

/-! ### kinds of values -/
mutual
/-- tuples of tuples .. of ints, texts, None (no bools): what may be a key, what == tells apart as data -/
def pl : D → Bool
  | .non => true
  | .int _ => true
  | .str _ => true
  | .tup xs => pls xs
  | _ => false
def pls : List D → Bool
  | [] => true
  | x :: xs => pl x && pls xs
end
mutual
/-- .. and lists, bools -/
def pd : D → Bool
  | .non => true
  | .bl _ => true
  | .int _ => true
  | .str _ => true
  | .tup xs => pds xs
  | .lst xs => pds xs
  | _ => false
def pds : List D → Bool
  | [] => true
  | x :: xs => pd x && pds xs
end
mutual
/-- no list, dict, instance, cell anywhere -/
def imm : D → Bool
  | .non => true
  | .bl _ => true
  | .int _ => true
  | .str _ => true
  | .tup xs => imms xs
  | _ => false
def imms : List D → Bool
  | [] => true
  | x :: xs => imm x && imms xs
end
mutual
/-- no cell anywhere -/
def noref : D → Bool
  | .ref _ => false
  | .tup xs => norefs xs
  | .lst xs => norefs xs
  | .rol xs => norefs xs
  | .dic _ ks vs => norefs ks && norefs vs
  | .ins _ _ vs => norefs vs
  | .exn _ vs => norefs vs
  | _ => true
def norefs : List D → Bool
  | [] => true
  | x :: xs => noref x && norefs xs
end
mutual
/-- no caught exception anywhere -/
def noX : D → Bool
  | .exn _ _ => false
  | .tup xs => noXs xs
  | .lst xs => noXs xs
  | .rol xs => noXs xs
  | .dic _ ks vs => noXs ks && noXs vs
  | .ins _ _ vs => noXs vs
  | _ => true
def noXs : List D → Bool
  | [] => true
  | x :: xs => noX x && noXs xs
end
/-- the most that a list, a text may have -/
abbrev LIM : Nat := 16777216

/-! ### the cells -/
/-- a cell: gone, or its content -/
inductive Ce where
  | gone | opn (w : D)
abbrev Hs := List Ce
def cont : Hs → Nat → Option D
  | h, n => match h[n]? with
    | some (.opn w) => some w
    | _ => none
/-- what is read of a value: a cell's content, else itself -/
def peek (h : Hs) : D → Option D
  | .ref n => cont h n
  | w => some w
/-- the results of expressions, of argument lists, of statements -/
inductive RE where
  | ok (w : D) (h : Hs) | exc (c : Nat) (vs : List D) (h : Hs) | bad
inductive RL where
  | ok (ws : List D) (h : Hs) | exc (c : Nat) (vs : List D) (h : Hs) | bad
abbrev Rho := List (Option D)
inductive RS where
  | nx (ρ : Rho) (h : Hs) | rt (w : D) (h : Hs) | bk (ρ : Rho) (h : Hs) | ct (ρ : Rho) (h : Hs) | exc (c : Nat) (vs : List D) (ρ : Rho) (h : Hs) | bad

/-! ### the syntax -/
inductive B2 where
  | add | sub | mul | fdiv | mod | pow | bor | shl
  deriving DecidableEq
inductive C2 where
  | eq | ne | lt | le | gt | ge | isn | notn | inn | nin
  deriving DecidableEq
inductive F1 where
  | len | tuple | list | sorted | max | min | sum | int
  deriving DecidableEq
inductive F2 where
  | max | min
  deriving DecidableEq
inductive Ty where
  | int | bool | str | tuple | cls (c : Nat) | ve
  deriving DecidableEq
mutual
inductive E where
  | var (i : Nat) | int (i : Int) | bl (b : Bool) | non | str (cs : List Nat) | glb (g : Nat) | omit
  | bin (o : B2) (a b : E) | neg (a : E) | cmp (o : C2) (a b : E) | chn (o p : C2) (a b c : E) | and (a b : E) | or (a b : E) | not (a : E) | ite (c a b : E)
  | tup (es : Es) | lst (es : Es) | dict0 (t : Bool) | dict1 (k v : E)
  | idx (a b : E) | slc (a lo hi : E) | rev (a : E)
  | call (f : Nat) (es : Es) | meth (a : E) (m : Nat) (es : Es) | inst (a b : E) | make (c : Nat) (es : Es)
  | f1 (f : F1) (a : E) | f2 (f : F2) (a b : E) | sortk (f : Nat) (a : E) | get (a b : E)
  | isi (a : E) (tys : List Ty) | fld (a : E) (k : Nat)
  | comp (i : Nat) (it : It) (cd el : E) | comp2 (i : Nat) (it : It) (j : Nat) (jt : It) (cd el : E)
  | new (a : E) | frz (i : Nat) | nev
  /-- of the exception that is caught: a field, isinstance -/
  | xfld (a : E) (k : Nat) | xisi (a : E) (t : Ty)
inductive Es where
  | nil | cons (e : E) (es : Es)
/-- what is walked -/
inductive It where
  | seq (e : E) | rng1 (a : E) | rng2 (a b : E) | rng3 (a b c : E)
end
mutual
inductive S where
  | set (i : Nat) (e : E) | setIx (a b e : E) | setFld (a : E) (k : Nat) (e : E) | app (a e : E) | expr (e : E) | ret (e : E) | ret0 | pass | brk | cont
  | ife (c : E) (a b : Ss) | fore (i : Nat) (it : It) (b : Ss) | whil (n : Nat) (c : E) (b : Ss) | nev | raise (c : Nat) (es : Es) | trye (b : Ss) (c : Nat) (i : Nat) (s : Ss)
inductive Ss where
  | nil | cons (s : S) (r : Ss)
end

/-! ### data as PyData -/
mutual
def toPy : D → PySem.PyData
  | .bl b => .bool b
  | .int i => .int i
  | .str x => .str ⟨x.toArray⟩
  | .tup xs => .tuple (toPys xs)
  | .lst xs => .list (toPys xs)
  | _ => .none
def toPys : List D → List PySem.PyData
  | [] => []
  | x :: xs => toPy x :: toPys xs
end
/-- the depth of data -/
def dpt (d : D) : Nat := (toPy d).depth
/-- what == takes: data, not too deep, texts of true signs -/
def eqOk (d : D) : Bool := pd d && PySem.SeqAt.shaped (toPy d)
def pyEq (a b : D) : Bool := PySem.PyData.eqv (toPy a) (toPy b)
def pyLt (a b : D) : Bool := PySem.W.dataLt (toPy a) (toPy b)
/-- scalars that == tells apart with no more ado -/
def scl : D → D → Bool
  | .non, .non => true | .non, .int _ => true | .int _, .non => true | .non, .bl _ => true | .bl _, .non => true | .non, .str _ => true | .str _, .non => true
  | .int _, .int _ => true | .bl _, .bl _ => true | .str _, .str _ => true | .int _, .str _ => true | .str _, .int _ => true | .bl _, .str _ => true | .str _, .bl _ => true
  | _, _ => false
def evEq (a b : D) : Option Bool := if scl a b then some (decide (a = b)) else if eqOk a && eqOk b then some (pyEq a b) else none
/-- keys of a dict: t: tuples -/
def keyOk (t : Bool) (k : D) : Bool := match t, k with
  | true, .tup xs => pls xs && decide (dpt (.tup xs) ≤ 8)
  | _, _ => false
def dget : List D → List D → D → Option D
  | k :: ks, v :: vs, x => if k = x then some v else dget ks vs x
  | _, _, _ => none
def dput : List D → List D → D → D → List D × List D
  | k :: ks, v :: vs, x, y => if k = x then (k :: ks, y :: vs) else ((k :: (dput ks vs x y).1), (v :: (dput ks vs x y).2))
  | _, _, x, y => ([x], [y])
/-! ### items in order -/
def ordOk (xs : List D) : Bool := xs.all pd && (xs.all fun a => xs.all fun b => PySem.W.alike (toPy a) (toPy b)) && (xs.all fun a => decide (dpt a ≤ 60)) &&
  ((xs.all fun a => match a with | .tup (_ :: _) => true | _ => false) || (xs.all fun a => match a with | .tup _ => false | .non => false | _ => true))
def sortD (xs : List D) : List D := xs.mergeSort fun a b => !pyLt b a
def evSorted (xs : List D) : Option (List D) := if xs.length ≤ 1 then some xs else if ordOk xs && decide (xs.length ≤ LIM) then some (sortD xs) else none
/-- by keys -/
def sortK (xs ks : List D) : List D := ((xs.zip ks).mergeSort fun a b => !pyLt b.2 a.2).map (·.1)
def evSortK (xs ks : List D) : Option (List D) := if xs.length ≤ LIM && ordOk ks then some (sortK xs ks) else none
/-! ### operations by values -/
def mulOk (i j : Int) : Bool := decide (-(2 ^ 64) < i ∧ i < 2 ^ 64) || decide (-(2 ^ 64) < j ∧ j < 2 ^ 64)
def evAdd (a b : D) : Option D := match a, b with
  | .int i, .int j => some (.int (i + j))
  | .str x, .str y => if x.length + y.length ≤ LIM then some (.str (x ++ y)) else none
  | .tup x, .tup y => if x.length + y.length ≤ LIM then some (.tup (x ++ y)) else none
  | .lst x, .lst y => if x.length + y.length ≤ LIM then some (.lst (x ++ y)) else none
  | _, _ => none
def evMul (a b : D) : Option D := match a, b with
  | .int i, .int j => if mulOk i j then some (.int (i * j)) else none
  | .tup x, .int j => if 2 ≤ j ∧ j ≤ 1000 ∧ x.length ≤ 1000 ∧ x ≠ [] then some (.tup (List.replicate j.toNat x).flatten) else none
  | .lst x, .int j => if 0 ≤ j ∧ j ≤ 1000 ∧ x.length ≤ 1000 then some (.lst (List.replicate j.toNat x).flatten) else none
  | _, _ => none
def evII (f : Int → Int → Option Int) (a b : D) : Option D := match a, b with
  | .int i, .int j => (f i j).map .int
  | _, _ => none
def evB2 (o : B2) (a b : D) : Option D := match o with
  | .add => evAdd a b
  | .mul => evMul a b
  | .sub => evII (fun i j => some (i - j)) a b
  | .fdiv => evII (fun i j => if 0 < j ∧ j < 1073741824 then some (i / j) else none) a b
  | .mod => evII (fun i j => if 0 < j then some (i % j) else none) a b
  | .pow => evII (fun i j => if 0 ≤ j ∧ j ≤ 1000000 ∧ i.natAbs < 2 ^ 64 then some (i ^ j.toNat) else none) a b
  | .shl => evII (fun i j => if 0 ≤ j ∧ j ≤ 1000000 ∧ i.natAbs < 2 ^ 64 then some (i * 2 ^ j.toNat) else none) a b
  | .bor => evII (fun i j => some (PySem.Builtin.bitOr i j)) a b
/-- x in c -/
def evIn (x c : D) : Option Bool := match c with
  | .tup ys => if eqOk x && (ys.all eqOk) && eqOk (.tup ys) then some (ys.any fun y => pyEq y x) else none
  | .lst ys => if eqOk x && (ys.all eqOk) && eqOk (.lst ys) then some (ys.any fun y => pyEq y x) else none
  | .dic t ks _ => if keyOk t x then some (decide (x ∈ ks)) else none
  | _ => none
def evCI (f : Int → Int → Bool) (a b : D) : Option Bool := match a, b with
  | .int i, .int j => some (f i j)
  | _, _ => none
def evIs (a b : D) : Option Bool := match b with
  | .non => some (decide (a = .non))
  | _ => none
def evC2 (o : C2) (a b : D) : Option Bool := match o with
  | .eq => evEq a b
  | .ne => (evEq a b).map (!·)
  | .isn => evIs a b
  | .notn => (evIs a b).map (!·)
  | .inn => evIn a b
  | .nin => (evIn a b).map (!·)
  | .lt => evCI (fun i j => decide (i < j)) a b
  | .le => evCI (fun i j => decide (i ≤ j)) a b
  | .gt => evCI (fun i j => decide (j < i)) a b
  | .ge => evCI (fun i j => decide (j ≤ i)) a b
/-- an index of any sign -/
def ixD (n : Nat) (i : Int) : Option Nat := if 0 ≤ i then (if i < n then some i.toNat else none) else if -(n : Int) ≤ i then some (i + n).toNat else none
def atD (xs : List D) (i : Int) : Option D := (ixD xs.length i).bind fun j => xs[j]?
def evIdx (a b : D) : Option D := match a, b with
  | .tup xs, .int i => atD xs i
  | .lst xs, .int i => atD xs i
  | .rol xs, .int i => atD xs i
  | .dic t ks vs, k => if keyOk t k then dget ks vs k else none
  | _, _ => none
/-- the items of xs[lo:hi] -/
def sIx (n dflt : Nat) : Option Int → Nat
  | none => dflt
  | some i => if i < 0 then (i + (n : Int)).toNat else min i.toNat n
def cutD (xs : List D) (lo hi : Option Int) : List D := (xs.drop (sIx xs.length 0 lo)).take (sIx xs.length xs.length hi - sIx xs.length 0 lo)
def evSlc (a : D) (l h : Option Int) : Option D := match a with
  | .tup xs => some (.tup (cutD xs l h))
  | .lst xs => some (.lst (cutD xs l h))
  | _ => none
def intL : List D → Option (List Int)
  | [] => some []
  | .int i :: r => (intL r).map (i :: ·)
  | _ => none
def maxI : List Int → Option Int
  | [] => none
  | i :: r => some (r.foldl max i)
def minI : List Int → Option Int
  | [] => none
  | i :: r => some (r.foldl min i)
def evLen (a : D) : Option D := match a with
  | .tup xs => some (.int xs.length)
  | .lst xs => some (.int xs.length)
  | .rol xs => some (.int xs.length)
  | .dic true ks _ => some (.int ks.length)
  | _ => none
def evTuple (a : D) : Option D := match a with
  | .tup xs => some (.tup xs)
  | .lst xs => some (.tup xs)
  | _ => none
def evList (a : D) : Option D := match a with
  | .tup xs => some (.lst xs)
  | .lst xs => some (.lst xs)
  | .dic true ks _ => some (.lst ks)
  | _ => none
def evLst (f : List D → Option D) (a : D) : Option D := match a with
  | .lst xs => f xs
  | _ => none
def evInt (a : D) : Option D := match a with
  | .int i => some (.int i)
  | .bl b => some (.int (if b then 1 else 0))
  | _ => none
def evF1 (f : F1) (a : D) : Option D := match f with
  | .len => evLen a
  | .tuple => evTuple a
  | .list => evList a
  | .sorted => evLst (fun xs => (evSorted xs).map .lst) a
  | .max => evLst (fun xs => ((intL xs).bind maxI).map .int) a
  | .min => evLst (fun xs => ((intL xs).bind minI).map .int) a
  | .sum => evLst (fun xs => (intL xs).map fun is => .int is.sum) a
  | .int => evInt a
def evF2 (f : F2) (a b : D) : Option D := match f, a, b with
  | .max, .int i, .int j => some (.int (if j > i then j else i))
  | .min, .int i, .int j => some (.int (if j < i then j else i))
  | _, _, _ => none
def isTy (d : D) (t : Ty) : Option Bool := match t, d with
  | .int, .int _ => some true | .int, .bl _ => some true | .int, .non => some false | .int, .str _ => some false | .int, .tup _ => some false | .int, .lst _ => some false | .int, .rol _ => some false
  | .bool, .bl _ => some true | .bool, .int _ => some false | .bool, .non => some false | .bool, .str _ => some false | .bool, .tup _ => some false | .bool, .lst _ => some false | .bool, .rol _ => some false
  | .str, .str _ => some true | .str, .int _ => some false | .str, .bl _ => some false | .str, .non => some false | .str, .tup _ => some false | .str, .lst _ => some false | .str, .rol _ => some false
  | .tuple, .tup _ => some true | .tuple, .int _ => some false | .tuple, .bl _ => some false | .tuple, .non => some false | .tuple, .str _ => some false | .tuple, .lst _ => some false | .tuple, .rol _ => some false
  | _, _ => none
def fldOf (as : List Nat) (vs : List D) (k : Nat) : Option D := match as, vs with
  | a :: as, v :: vs => if a = k then some v else fldOf as vs k
  | _, _ => none
/-- what is walked: its items -/
def itemsOf : D → Option (List D)
  | .tup xs => some xs
  | .lst xs => some xs
  | .rol xs => some xs
  | _ => none
def rngD (lo hi : Int) : Option (List D) := if -(2 ^ 62) ≤ lo ∧ lo < 2 ^ 62 ∧ -(2 ^ 62) ≤ hi ∧ hi < 2 ^ 62 ∧ (hi - lo).toNat ≤ LIM then some ((List.range (hi - lo).toNat).map fun (k : Nat) => D.int (lo + (k : Int))) else none
/-- range(lo, hi, -1) -/
def rngN (lo hi : Int) : Option (List D) := if -(2 ^ 62) ≤ lo ∧ lo < 2 ^ 62 ∧ -(2 ^ 62) ≤ hi ∧ hi < 2 ^ 62 ∧ (lo - hi).toNat ≤ LIM then some ((List.range (lo - hi).toNat).map fun (k : Nat) => D.int (lo - (k : Int))) else none

/-! ### a program -/
structure Fn where
  np : Nat
  ns : Nat
  body : Ss
  /-- its cells are its own -/
  pure : Bool
structure Cl where
  /-- __init__ (a def's number), methods by name's number, __call__ -/
  ini : Nat
  mets : List (Nat × Nat)
  /-- an exception class: how many arguments; the classes that it is one of -/
  exc : Bool
  up : List Nat
  /-- an exception class: the names of its fields, as its arguments come -/
  flds : List Nat
structure Tb where
  fns : List Fn
  cls : List Cl
  cons : List D

def evFld (T : Tb) (a : D) (k : Nat) : Option D := match a with
  | .ins c as vs => (T.cls[c]?).bind fun C => if C.exc = false ∧ k ∈ C.flds then fldOf as vs k else none
  | _ => none
def evXf (T : Tb) (a : D) (k : Nat) : Option D := match a with
  | .exn e vs => (T.cls[e]?).bind fun C => fldOf C.flds vs k
  | _ => none
def isExn (T : Tb) (e : Nat) (t : Ty) : Option Bool := match t with
  | .cls c => (T.cls[e]?).map fun C => C.up.contains c
  | .ve => some true
  | _ => none
def evXi (T : Tb) (a : D) (t : Ty) : Option Bool := match a with
  | .exn e _ => isExn T e t
  | _ => none
def Ro (o : Option D) (h : Hs) : RE := match o with
  | some d => .ok d h
  | none => .bad
def RE.bind (r : RE) (k : D → Hs → RE) : RE := match r with
  | .ok d h => k d h
  | .exc c vs h => .exc c vs h
  | .bad => .bad
def RL.bind (r : RL) (k : List D → Hs → RE) : RE := match r with
  | .ok d h => k d h
  | .exc c vs h => .exc c vs h
  | .bad => .bad
/-- with what is read of a value -/
def pk (h : Hs) (d : D) (k : D → RE) : RE := match peek h d with
  | some e => k e
  | none => .bad
def tst (d : D) (k : Bool → RE) : RE := match d with
  | .bl b => k b
  | _ => .bad
/-- a comprehension's walk: f: the test and the element of an item -/
structure Src where
  xs : List D
  /-- the cell that is walked, with its content -/
  at_ : Option (Nat × D)
def srcOf (x w : D) : Option (Nat × D) := match x with
  | .ref n => some (n, w)
  | _ => none
def srcOk (o : Option (Nat × D)) (h : Hs) : Bool := match o with
  | none => true
  | some (n, w) => decide (cont h n = some w)
/-- the keys of items -/
def keysGo (f : D → RE) : List D → Option (List D)
  | [] => some []
  | x :: xs => (match x with
    | .tup _ => (match f x, keysGo f xs with
      | .ok k _, some ks => some (k :: ks)
      | _, _ => none)
    | _ => none)
def compGo (ck : Hs → Bool) (f : D → Hs → RE) (t : D → Hs → RE) : List D → List D → Hs → RE
  | [], acc, h => if ck h then .ok (.lst acc) h else .bad
  | x :: xs, acc, h => if ck h then (match t x h with
    | .ok (.bl true) h1 => (match f x h1 with
      | .ok d h2 => if acc.length < LIM then compGo ck f t xs (acc ++ [d]) h2 else .bad
      | _ => .bad)
    | .ok (.bl false) h1 => compGo ck f t xs acc h1
    | _ => .bad) else .bad
def comp2Go (ck : Hs → Bool) (f : D → Hs → List D → RE) : List D → List D → Hs → RE
  | [], acc, h => if ck h then .ok (.lst acc) h else .bad
  | x :: xs, acc, h => if ck h then (match f x h acc with
    | .ok (.lst acc') h' => comp2Go ck f xs acc' h'
    | _ => .bad) else .bad
/-- sorted by a def -/
def evSk (g : List D → Hs → RE) (x : D) : Option D := match x with
  | .lst xs => (match keysGo (fun x => g [x] []) xs with
    | some ks => if xs.all pl then (evSortK xs ks).map .lst else none
    | none => none)
  | _ => none
def fresh : E → Bool
  | .lst _ => true
  | .comp _ _ _ _ => true
  | .comp2 _ _ _ _ _ _ => true
  | .dict0 _ => true
  | .dict1 _ _ => true
  | .f1 .list _ => true
  | .f1 .sorted _ => true
  | .sortk _ _ => true
  | _ => false

def isOm : E → Bool
  | .omit => true
  | _ => false
def optO (e : E) (d : D) : Option (Option Int) := if isOm e then some none else match d with
  | .int i => some (some i)
  | _ => none
section
variable (T : Tb) (call : Nat → List D → Hs → RE)
mutual
def evE : E → Rho → Hs → RE
  | .var i, ρ, h => (match ρ[i]? with
    | some (some d) => .ok d h
    | _ => .bad)
  | .nev, _, _ => .bad
  | .int i, _, h => .ok (.int i) h
  | .bl b, _, h => .ok (.bl b) h
  | .non, _, h => .ok .non h
  | .str x, _, h => .ok (.str x) h
  | .glb g, _, h => Ro T.cons[g]? h
  | .omit, _, h => .ok .non h
  | .bin o a b, ρ, h => (evE a ρ h).bind fun x h => (evE b ρ h).bind fun y h => pk h x fun x => pk h y fun y => Ro (evB2 o x y) h
  | .neg a, ρ, h => (evE a ρ h).bind fun x h => (match x with
    | .int i => .ok (.int (-i)) h
    | _ => .bad)
  | .cmp o a b, ρ, h => (evE a ρ h).bind fun x h => (evE b ρ h).bind fun y h => pk h x fun x => pk h y fun y => Ro ((evC2 o x y).map .bl) h
  | .chn o p a b c, ρ, h => (evE a ρ h).bind fun x h => (evE b ρ h).bind fun y h => pk h x fun x' => pk h y fun y' => (match evC2 o x' y' with
    | some true => (evE c ρ h).bind fun z h => pk h y fun y' => pk h z fun z' => Ro ((evC2 p y' z').map .bl) h
    | some false => .ok (.bl false) h
    | none => .bad)
  | .and a b, ρ, h => (evE a ρ h).bind fun x h => tst x fun t => if t then (evE b ρ h).bind fun y h => tst y fun u => .ok (.bl u) h else .ok (.bl false) h
  | .or a b, ρ, h => (evE a ρ h).bind fun x h => tst x fun t => if t then .ok (.bl true) h else (evE b ρ h).bind fun y h => tst y fun u => .ok (.bl u) h
  | .not a, ρ, h => (evE a ρ h).bind fun x h => tst x fun t => .ok (.bl (!t)) h
  | .ite c a b, ρ, h => (evE c ρ h).bind fun x h => tst x fun t => if t then evE a ρ h else evE b ρ h
  | .tup es, ρ, h => (evEs es ρ h).bind fun xs h => if xs.length ≤ LIM then .ok (.tup xs) h else .bad
  | .lst es, ρ, h => (evEs es ρ h).bind fun xs h => if xs.length ≤ LIM then .ok (.lst xs) h else .bad
  | .dict0 t, _, h => .ok (.dic t [] []) h
  | .dict1 k v, ρ, h => (evE k ρ h).bind fun x h => (evE v ρ h).bind fun y h => if keyOk true x then .ok (.dic true [x] [y]) h else if keyOk false x then .ok (.dic false [x] [y]) h else .bad
  | .idx a b, ρ, h => (evE a ρ h).bind fun x h => (evE b ρ h).bind fun y h => pk h x fun x => Ro (evIdx x y) h
  | .slc a l u, ρ, h => (evE a ρ h).bind fun x h => (evE l ρ h).bind fun y h => (match optO l y with
    | some lo => (evE u ρ h).bind fun z h => pk h x fun x => Ro ((optO u z).bind fun hi => evSlc x lo hi) h
    | none => .bad)
  | .rev a, ρ, h => (evE a ρ h).bind fun x h => pk h x fun x => (match x with
    | .lst xs => .ok (.lst xs.reverse) h
    | _ => .bad)
  | .call f es, ρ, h => (evEs es ρ h).bind fun xs h => call f xs h
  | .meth _ _ _, _, _ => .bad
  | .inst a b, ρ, h => (evE a ρ h).bind fun x h => (match x with
    | .ins c _ _ => (evE b ρ h).bind fun y h => (match T.cls[c]? with
      | some C => (match C.mets.lookup 0 with
        | some f => call f [x, y] h
        | none => .bad)
      | none => .bad)
    | _ => .bad)
  | .make c es, ρ, h => (evEs es ρ h).bind fun xs h => call (1000000 + c) xs h
  | .f1 f a, ρ, h => (evE a ρ h).bind fun x h => pk h x fun x => Ro (evF1 f x) h
  | .f2 f a b, ρ, h => (evE a ρ h).bind fun x h => (evE b ρ h).bind fun y h => Ro (evF2 f x y) h
  | .sortk f a, ρ, h => (evE a ρ h).bind fun x h => pk h x fun x => Ro (evSk (call f) x) h
  | .get a b, ρ, h => (evE a ρ h).bind fun x h => (evE b ρ h).bind fun y h => pk h x fun x => (match x with
    | .dic t ks vs => if keyOk t y then .ok ((dget ks vs y).getD .non) h else .bad
    | _ => .bad)
  | .isi a tys, ρ, h => (evE a ρ h).bind fun x h => (match tys with
    | [t] => Ro ((isTy x t).map .bl) h
    | _ => .bad)
  | .xfld a k, ρ, h => (evE a ρ h).bind fun x h => Ro (evXf T x k) h
  | .xisi a t, ρ, h => (evE a ρ h).bind fun x h => Ro ((evXi T x t).map .bl) h
  | .fld a k, ρ, h => (evE a ρ h).bind fun x h => pk h x fun x => Ro (evFld T x k) h
  | .comp i it cd el, ρ, h => (match evI it ρ h with
    | some (s, h) => compGo (srcOk s.at_) (fun x h => evE el (ρ.set i (some x)) h) (fun x h => evE cd (ρ.set i (some x)) h) s.xs [] h
    | none => .bad)
  | .comp2 i it j jt cd el, ρ, h => (match evI it ρ h with
    | some (s, h) => comp2Go (srcOk s.at_) (fun x h acc => match evI jt ((ρ.set j none).set i (some x)) h with
      | some (r, h) => compGo (srcOk r.at_) (fun y h => evE el (((ρ.set j none).set i (some x)).set j (some y)) h) (fun y h => evE cd (((ρ.set j none).set i (some x)).set j (some y)) h) r.xs acc h
      | none => .bad) s.xs [] h
    | none => .bad)
  | .new a, ρ, h => if fresh a then (evE a ρ h).bind fun x h => .ok (.ref h.length) (h ++ [.opn x]) else .bad
  | .frz i, ρ, h => (match ρ[i]? with
    | some (some (.ref n)) => (match cont h n with
      | some w => .ok w (h.set n .gone)
      | none => .bad)
    | _ => .bad)
def evEs : Es → Rho → Hs → RL
  | .nil, _, h => .ok [] h
  | .cons e es, ρ, h => (match evE e ρ h with
    | .ok x h => (match evEs es ρ h with
      | .ok xs h => .ok (x :: xs) h
      | .exc c vs h => .exc c vs h
      | .bad => .bad)
    | .exc c vs h => .exc c vs h
    | .bad => .bad)
/-- what is walked -/
def evI : It → Rho → Hs → Option (Src × Hs)
  | .rng1 a, ρ, h => (match evE a ρ h with
    | .ok (.int j) h => (rngD 0 j).map fun xs => (⟨xs, none⟩, h)
    | _ => none)
  | .rng2 a b, ρ, h => (match evE a ρ h with
    | .ok (.int i) h => (match evE b ρ h with
      | .ok (.int j) h => (rngD i j).map fun xs => (⟨xs, none⟩, h)
      | _ => none)
    | _ => none)
  | .rng3 a b c, ρ, h => (match evE a ρ h with
    | .ok (.int i) h => (match evE b ρ h with
      | .ok (.int j) h => (match evE c ρ h with
        | .ok (.int (-1)) h => (rngN i j).map fun xs => (⟨xs, none⟩, h)
        | _ => none)
      | _ => none)
    | _ => none)
  | .seq e, ρ, h => (match evE e ρ h with
    | .ok x h => (peek h x).bind fun w => (itemsOf w).map fun xs => (⟨xs, srcOf x w⟩, h)
    | _ => none)
end

/-! ### statements -/
mutual
/-- every cell in it stands below n -/
def rlt (n : Nat) : D → Bool
  | .ref m => decide (m < n)
  | .tup xs => rlts n xs
  | .lst xs => rlts n xs
  | .rol xs => rlts n xs
  | .dic _ ks vs => rlts n ks && rlts n vs
  | .ins _ _ vs => rlts n vs
  | .exn _ vs => rlts n vs
  | _ => true
def rlts (n : Nat) : List D → Bool
  | [] => true
  | x :: xs => rlt n x && rlts n xs
end
def rltc (n : Nat) : Ce → Bool
  | .gone => true
  | .opn w => rlt n w
/-- the cells from n on let go -/
def trim (n : Nat) (ρ : Rho) (h : Hs) (k : Rho → Hs → RS) : RS := if h.length ≤ n then k ρ h else
  if (h.take n).all (rltc n) then k (ρ.map fun o => o.bind fun d => if rlt n d then some d else none) (h.take n) else .bad
def forGo (ck : Hs → Bool) (n : Nat) (f : D → Rho → Hs → RS) : List D → Rho → Hs → RS
  | [], ρ, h => if ck h then .nx ρ h else .bad
  | x :: xs, ρ, h => if ck h then (match f x ρ h with
    | .nx ρ h => trim n ρ h fun ρ h => forGo ck n f xs ρ h
    | .ct ρ h => trim n ρ h fun ρ h => forGo ck n f xs ρ h
    | .bk ρ h => .nx ρ h
    | r => r) else .bad
def whilGo (n : Nat) (c : Rho → Hs → RE) (f : Rho → Hs → RS) : Nat → Rho → Hs → RS
  | 0, _, _ => .bad
  | k + 1, ρ, h => match c ρ h with
    | .ok (.bl true) h => (match f ρ h with
      | .nx ρ h => trim n ρ h fun ρ h => whilGo n c f k ρ h
      | .ct ρ h => trim n ρ h fun ρ h => whilGo n c f k ρ h
      | .bk ρ h => .nx ρ h
      | r => r)
    | .ok (.bl false) h => .nx ρ h
    | .exc c vs h => .exc c vs ρ h
    | _ => .bad
def RE.st (r : RE) (ρ : Rho) (k : D → Hs → RS) : RS := match r with
  | .ok d h => k d h
  | .exc c vs h => .exc c vs ρ h
  | .bad => .bad
def putFld : List Nat → List D → Nat → D → List Nat × List D
  | a :: as, v :: vs, k, d => if a = k then (a :: as, d :: vs) else (a :: (putFld as vs k d).1, v :: (putFld as vs k d).2)
  | _, _, k, d => ([k], [d])
/-- o[i] = d -/
def storeIx (h : Hs) (o i d : D) : Option Hs := match o with
  | .ref n => (match cont h n, i with
    | some (.lst xs), .int j => (ixD xs.length j).map fun m => h.set n (.opn (.lst (xs.set m d)))
    | some (.dic t ks vs), k => if keyOk t k && decide (ks.length < LIM) then some (h.set n (.opn (.dic t (dput ks vs k d).1 (dput ks vs k d).2))) else none
    | _, _ => none)
  | _ => none
def storeFld (T : Tb) (h : Hs) (o : D) (k : Nat) (d : D) : Option Hs := match o with
  | .ref n => (match cont h n with
    | some (.ins c as vs) => (T.cls[c]?).bind fun C => if C.exc = false ∧ k ∈ C.flds ∧ as.length < 900 then some (h.set n (.opn (.ins c (putFld as vs k d).1 (putFld as vs k d).2))) else none
    | _ => none)
  | _ => none
def pushTo (h : Hs) (o d : D) : Option Hs := match o with
  | .ref n => (match cont h n with
    | some (.lst xs) => if xs.length < LIM then some (h.set n (.opn (.lst (xs ++ [d])))) else none
    | _ => none)
  | _ => none
def isLst (h : Hs) (o : D) : Bool := match o with
  | .ref n => (match cont h n with
    | some (.lst _) => true
    | _ => false)
  | _ => false
/-- an exception that can be made -/
def exOk (T : Tb) (c : Nat) (vs : List D) : Bool := match T.cls[c]? with
  | some C => C.exc && decide (vs.length = C.flds.length) && decide (0 < vs.length ∧ vs.length ≤ 900)
  | none => false
def noXr : Rho → Bool
  | [] => true
  | some d :: r => noX d && noXr r
  | none :: r => noXr r
def noXh : Hs → Bool
  | [] => true
  | .opn d :: r => noX d && noXh r
  | .gone :: r => noXh r
def nxo (ρ : Rho) (o : Option Hs) : RS := match o with
  | some h => .nx ρ h
  | none => .bad
mutual
def evS : S → Rho → Hs → RS
  | .set i e, ρ, h => (evE T call e ρ h).st ρ fun d h => .nx (ρ.set i (some d)) h
  | .setIx a b e, ρ, h => (evE T call e ρ h).st ρ fun d h => (evE T call a ρ h).st ρ fun o h => (evE T call b ρ h).st ρ fun i h => nxo ρ (storeIx h o i d)
  | .setFld a k e, ρ, h => (evE T call e ρ h).st ρ fun d h => (evE T call a ρ h).st ρ fun o h => nxo ρ (storeFld T h o k d)
  | .app a e, ρ, h => (evE T call a ρ h).st ρ fun o h => if isLst h o then (evE T call e ρ h).st ρ fun d h => nxo ρ (pushTo h o d) else .bad
  | .expr e, ρ, h => (evE T call e ρ h).st ρ fun _ h => .nx ρ h
  | .ret e, ρ, h => (evE T call e ρ h).st ρ fun d h => .rt d h
  | .ret0, _, h => .rt .non h
  | .nev, _, _ => .bad
  | .pass, ρ, h => .nx ρ h
  | .brk, ρ, h => .bk ρ h
  | .cont, ρ, h => .ct ρ h
  | .ife c a b, ρ, h => (evE T call c ρ h).st ρ fun d h => (match d with
    | .bl true => evSs a ρ h
    | .bl false => evSs b ρ h
    | _ => .bad)
  | .fore i it b, ρ, h => (match evI T call it ρ h with
    | some (s, h) => forGo (srcOk s.at_) h.length (fun x ρ h => evSs b (ρ.set i (some x)) h) s.xs ρ h
    | none => .bad)
  | .whil n c b, ρ, h => whilGo h.length (fun ρ h => evE T call c ρ h) (fun ρ h => evSs b ρ h) n ρ h
  | .raise c es, ρ, h => (match evEs T call es ρ h with
    | .ok vs h => if exOk T c vs then .exc c vs ρ h else .bad
    | .exc c vs h => .exc c vs ρ h
    | .bad => .bad)
  | .trye b c i s, ρ, h => (match evSs b ρ h with
    | .exc e vs ρ h => (match T.cls[e]? with
      | some C => if exOk T e vs then (if C.up.contains c then (match evSs s (ρ.set i (some (.exn e vs))) h with
        | .nx ρ h => if noXr (ρ.set i none) && noXh h then .nx (ρ.set i none) h else .bad
        | .rt d h => if noX d && noXh h then .rt d h else .bad
        | _ => .bad) else .exc e vs ρ h) else .bad
      | none => .bad)
    | r => r)
def evSs : Ss → Rho → Hs → RS
  | .nil, ρ, h => .nx ρ h
  | .cons s r, ρ, h => (match evS s ρ h with
    | .nx ρ h => evSs r ρ h
    | x => x)
end
end

/-! ### calls -/
def start (n : Nat) (vs : List D) : Rho := vs.map some ++ List.replicate (n - vs.length) none
/-- arguments for a def whose cells are its own: a cell is handed as what it holds -/
def lend (h : Hs) : List D → Option (List D × Bool)
  | [] => some ([], false)
  | .ref n :: r => (match cont h n, lend h r with
    | some w, some (ws, _) => if noref w then some (w :: ws, true) else none
    | _, _ => none)
  | d :: r => (match lend h r with
    | some (ws, b) => if noref d then some (d :: ws, b) else none
    | none => none)
def okRes (b : Bool) (d : D) : Bool := noref d && (!b || imm d)
def okRess (b : Bool) (d : List D) : Bool := norefs d && (!b || imms d)
def fnRes (r : RS) : RE := match r with
  | .rt d h => .ok d h
  | .nx _ h => .ok .non h
  | .exc c vs _ h => .exc c vs h
  | _ => .bad
def pureRes (b : Bool) (h : Hs) (r : RE) : RE := match r with
  | .ok d _ => if okRes b d then .ok d h else .bad
  | .exc c vs _ => if okRess b vs then .exc c vs h else .bad
  | .bad => .bad
def mkRes (b : Bool) (h : Hs) (r : RE) : RE := match r with
  | .ok .non h' => (match cont h' 0 with
    | some d => if okRes b d then .ok d h else .bad
    | none => .bad)
  | .exc c vs _ => if okRess b vs then .exc c vs h else .bad
  | _ => .bad
def runFn (T : Tb) (call : Nat → List D → Hs → RE) (F : Fn) (ws : List D) (h : Hs) : RE := if ws.length = F.np then (match F.pure with
  | true => (match lend h ws with
    | some (us, b) => pureRes b h (fnRes (evSs T call F.body (start F.ns us) []))
    | none => .bad)
  | false => fnRes (evSs T call F.body (start F.ns ws) h)) else .bad
def mkFn (g : List D → Hs → RE) (c : Nat) (ws : List D) (h : Hs) : RE := match lend h ws with
  | some (us, b) => mkRes b h (g (.ref 0 :: us) [.opn (.ins c [] [])])
  | none => .bad
def evFn (T : Tb) : Nat → Nat → List D → Hs → RE
  | 0, _, _, _ => .bad
  | n + 1, f, ws, h => if f < 1000000 then (match T.fns[f]? with
    | some F => runFn T (evFn T n) F ws h
    | none => .bad) else (match T.cls[f - 1000000]? with
    | some Cl => mkFn (evFn T n Cl.ini) (f - 1000000) ws h
    | none => .bad)
end M
end

section
set_option Elab.async false
set_option linter.all false
set_option maxRecDepth 100000
set_option maxHeartbeats 2000000
/-! Rel: how the plain values stand in the abstract heap. -/
namespace M
open PySem PySem.Spec PyProof.Rows L2
/-- the program: its text, world, written part; the attributes' names; where the classes stand -/
structure Pc where
  P : Program
  w : World
  K : PySem.W.Frag
  attrs : List Str
  cad : Nat → Addr
  fad : Nat → Addr
  /-- the exception that is caught: where it and its dict stand, its class, its fields -/
  xa : Option (Addr × Addr × Nat × List Nat) := none
def Pc.nm (C : Pc) (k : Nat) : Str := C.attrs.getD k ⟨#[]⟩
/-! ### dicts with tuple keys -/
mutual
def nkey : D → NestedKey
  | .int i => .num i
  | .str x => .text ⟨x.toArray⟩
  | .tup xs => .tup (nkeys xs)
  | _ => .none
def nkeys : List D → List NestedKey
  | [] => []
  | x :: xs => nkey x :: nkeys xs
end
abbrev KE3 := NestedKey × Addr × V
def entR (p : KE3) (q : NestedKey × Addr × Value) : Prop := p.1 = q.1 ∧ p.2.1 = q.2.1 ∧ RelV p.2.2 q.2.2
/-- at a: a dict, its keys tuples (each at its own place), its values -/
def dHO (P : Program) (w : World) (a : Addr) (xs : List KE3) : HO := .ext fun h => (a == sysModules) = false ∧ xs.length ≤ sizeLine ∧ ∃ us : List (NestedKey × Addr × Value), Paired entR xs us ∧
  ∃ o es ep, h.get? a = some o ∧ o.ExactDict ∧ o.data = .dict es ep ∧ es.toList = us.map (entryOfKey (nestedKind P w)) ∧ (us.map (·.1)).Nodup
/-! ### values -/
mutual
inductive RV (C : Pc) (lv : Addr → Prop) (m : List Addr) (H : Hp) : D → V → Prop
  | non : RV C lv m H .non .non
  | bl (b : Bool) : RV C lv m H (.bl b) (.bl b)
  | int (i : Int) : RV C lv m H (.int i) (.int i)
  | str (x : List Nat) : RV C lv m H (.str x) (.str ⟨x.toArray⟩)
  | tup {a : Addr} {xs : List D} {vs : List V} : SqT C.K H a vs → RVs C lv m H xs vs → RV C lv m H (.tup xs) (.ref a)
  | lst {a : Addr} {xs : List D} {vs : List V} : ¬ lv a → H a = some (.lst vs) → RVs C lv m H xs vs → RV C lv m H (.lst xs) (.ref a)
  | rol {a : Addr} {xs : List D} {vs : List V} : (∃ o, H a = some (.frz o (.lst vs))) ∨ (∃ (o : Obj) (its : Array Value) (n : Nat), C.K.lookup a = some o ∧ o.cls = .type "list" ∧ o.dict = none ∧ o.data = .seq its n ∧ its.size ≤ sizeLine ∧ Vals vs its.toList) → RVs C lv m H xs vs → RV C lv m H (.rol xs) (.ref a)
  | dicK {a : Addr} {ks xs : List D} {kvs : List (Key × V)} : ¬ lv a → H a = some (.dK kvs) → RVd C lv m H ks xs kvs → RV C lv m H (.dic false ks xs) (.ref a)
  | dicT {a : Addr} {ks xs : List D} {es : List KE3} : ¬ lv a → H a = some (dHO C.P C.w a es) → RVk C lv m H ks xs es → RV C lv m H (.dic true ks xs) (.ref a)
  | ins {a : Addr} {c : Nat} {as : List Nat} {xs : List D} {dx : Addr} {fs : List (Str × V)} : ¬ lv a → H a = some (.ins (C.cad c) dx fs) → fs.map (·.1) = as.map C.nm → (∀ k ∈ as, k < C.attrs.length) → RVs C lv m H xs (fs.map (·.2)) → RV C lv m H (.ins c as xs) (.ref a)
  | ref {n : Nat} {a : Addr} : m[n]? = some a → RV C lv m H (.ref n) (.ref a)
  | exn {a dd : Addr} {c : Nat} {fl : List Nat} {xs : List D} {fs : List (Str × V)} {us : List V} : C.xa = some (a, dd, c, fl) → ¬ lv dd → H dd = some (.xd fs) → (∀ (i k : Nat) (u : V), fl[i]? = some k → us[i]? = some u → fs.lookup (C.nm k) = some u) → RVs C lv m H xs us → RV C lv m H (.exn c xs) (.ref a)
inductive RVs (C : Pc) (lv : Addr → Prop) (m : List Addr) (H : Hp) : List D → List V → Prop
  | nil : RVs C lv m H [] []
  | cons {d : D} {v : V} {ds : List D} {vs : List V} : RV C lv m H d v → RVs C lv m H ds vs → RVs C lv m H (d :: ds) (v :: vs)
inductive RVd (C : Pc) (lv : Addr → Prop) (m : List Addr) (H : Hp) : List D → List D → List (Key × V) → Prop
  | nil : RVd C lv m H [] [] []
  | int {i : Int} {d : D} {v : V} {ks ds : List D} {r : List (Key × V)} : RV C lv m H d v → RVd C lv m H ks ds r → RVd C lv m H (.int i :: ks) (d :: ds) ((.inl i, v) :: r)
  | str {x : List Nat} {d : D} {v : V} {ks ds : List D} {r : List (Key × V)} : RV C lv m H d v → RVd C lv m H ks ds r → RVd C lv m H (.str x :: ks) (d :: ds) ((.inr ⟨x.toArray⟩, v) :: r)
inductive RVk (C : Pc) (lv : Addr → Prop) (m : List Addr) (H : Hp) : List D → List D → List KE3 → Prop
  | nil : RVk C lv m H [] [] []
  | cons {k : List D} {b : Addr} {d : D} {v : V} {ks ds : List D} {r : List KE3} : keyOk true (.tup k) = true → RV C lv m H (.tup k) (.ref b) → RV C lv m H d v → RVk C lv m H ks ds r → RVk C lv m H (.tup k :: ks) (d :: ds) ((nkey (.tup k), b, v) :: r)
end
/-! ### the cells -/
/-- a is an open cell -/
def live (m : List Addr) (h : Hs) (a : Addr) : Prop := ∃ (n : Nat) (w : D), m[n]? = some a ∧ h[n]? = some (Ce.opn w)
def CellOk (C : Pc) (lv : Addr → Prop) (m : List Addr) (H : Hp) (a : Addr) : D → Prop
  | .lst xs => ∃ vs, H a = some (.lst vs) ∧ RVs C lv m H xs vs
  | .dic false ks xs => ∃ kvs, H a = some (.dK kvs) ∧ RVd C lv m H ks xs kvs
  | .dic true ks xs => ∃ es, H a = some (dHO C.P C.w a es) ∧ RVk C lv m H ks xs es
  | .ins c as xs => ∃ dx fs, H a = some (.ins (C.cad c) dx fs) ∧ fs.map (·.1) = as.map C.nm ∧ (∀ k ∈ as, k < C.attrs.length) ∧ RVs C lv m H xs (fs.map (·.2))
  | _ => False
/-- the abstract heap holds the cells; Av: what is not ours -/
structure SR (C : Pc) (Av : Addr → Prop) (m : List Addr) (h : Hs) (H : Hp) : Prop where
  len : m.length = h.length
  nd : m.Nodup
  cell : ∀ (n : Nat) (a : Addr) (w : D), m[n]? = some a → h[n]? = some (Ce.opn w) → CellOk C (fun b => Av b ∨ live m h b) m H a w
  there : ∀ (n : Nat) (a : Addr), m[n]? = some a → ∃ o, H a = some o
  avd : ∀ a, Av a → ∃ o, H a = some o
  sep : ∀ (n : Nat) (a : Addr), m[n]? = some a → ¬ Av a
/-- what an expression, a call leaves of what stood -/
structure Keep (m : List Addr) (h : Hs) (H : Hp) (m' : List Addr) (h' : Hs) (H' : Hp) : Prop where
  tup : ∀ a xs, H a = some (.tup xs) → H' a = some (.tup xs)
  frz : ∀ a o u, H a = some (.frz o u) → H' a = some (.frz o u)
  pre : ∃ r, m' = m ++ r
  keep : ∀ a o, H a = some o → ¬ live m h a → H' a = some o ∧ ¬ live m' h' a
  there : ∀ a o, H a = some o → ∃ o', H' a = some o'
abbrev lvs (Av : Addr → Prop) (m : List Addr) (h : Hs) : Addr → Prop := fun b => Av b ∨ live m h b
theorem Keep.refl {m : List Addr} {h : Hs} {H : Hp} : Keep m h H m h H := ⟨fun _ _ e => e, fun _ _ _ e => e, ⟨[], by simp⟩, fun _ _ e n => ⟨e, n⟩, fun _ o e => ⟨o, e⟩⟩
theorem Keep.trans {m m1 m2 : List Addr} {h h1 h2 : Hs} {H H1 H2 : Hp} (a : Keep m h H m1 h1 H1) (b : Keep m1 h1 H1 m2 h2 H2) : Keep m h H m2 h2 H2 := by
  refine ⟨fun c xs e => b.tup c xs (a.tup c xs e), fun c o u e => b.frz c o u (a.frz c o u e), ?_, fun c o e n => ?_, fun c o e => ?_⟩
  · obtain ⟨r, e⟩ := a.pre
    obtain ⟨r', e'⟩ := b.pre
    exact ⟨r ++ r', by rw [e', e, List.append_assoc]⟩
  · obtain ⟨e1, n1⟩ := a.keep c o e n
    exact b.keep c o e1 n1
  · obtain ⟨o1, e1⟩ := a.there c o e
    exact b.there c o1 e1
theorem get_pre {α : Type} {l r : List α} {n : Nat} {x : α} (h : l[n]? = some x) : (l ++ r)[n]? = some x := by
  rw [List.getElem?_append_left (List.getElem?_eq_some_iff.mp h).1]
  exact h
theorem rdKeep {H H' : Hp} {a : Addr} {u : HO} (r : Rd H a u) (k : ∀ o, H a = some o → H' a = some o) : Rd H' a u := by
  rcases r with r | ⟨o, r⟩
  · exact .inl (k _ r)
  · exact .inr ⟨o, k _ r⟩
theorem rdThere {H : Hp} {a : Addr} {u : HO} (r : Rd H a u) : ∃ o, H a = some o := by
  rcases r with r | ⟨o, r⟩
  · exact ⟨_, r⟩
  · exact ⟨_, r⟩
theorem sqtKept {K : PySem.W.Frag} {H H' : Hp} {a : Addr} {xs : List V} (h : SqT K H a xs) (k : ∀ o, H a = some o → H' a = some o) : SqT K H' a xs := by
  rcases h with h | h
  · exact .inl (rdKeep h k)
  · exact .inr h
section
variable {C : Pc} {lv lv' : Addr → Prop} {m m' : List Addr} {H H' : Hp}
/-- what is asked for a value to stay -/
structure Stay (lv lv' : Addr → Prop) (m m' : List Addr) (H H' : Hp) : Prop where
  pre : ∃ r, m' = m ++ r
  keep : ∀ a o, H a = some o → ¬ lv a → H' a = some o ∧ ¬ lv' a
  tup : ∀ a xs, H a = some (.tup xs) → H' a = some (.tup xs)
  frz : ∀ a o u, H a = some (.frz o u) → H' a = some (.frz o u)
theorem tup_stays (s : Stay lv lv' m m' H H') {a : Addr} {vs : List V} (h : SqT C.K H a vs) : SqT C.K H' a vs := by
  rcases h with (h | ⟨o, h⟩) | h
  · exact .inl (.inl (s.tup _ _ h))
  · exact .inl (.inr ⟨o, s.frz _ _ _ h⟩)
  · exact .inr h
mutual
theorem RV.stay (s : Stay lv lv' m m' H H') : ∀ {d : D} {v : V}, RV C lv m H d v → RV C lv' m' H' d v
  | _, _, .non => .non
  | _, _, .bl b => .bl b
  | _, _, .int i => .int i
  | _, _, .str x => .str x
  | _, _, .tup h r => .tup (tup_stays s h) (RVs.stay s r)
  | _, _, .lst n h r => .lst (s.keep _ _ h n).2 (s.keep _ _ h n).1 (RVs.stay s r)
  | _, _, .rol h r => by
    refine .rol ?_ (RVs.stay s r)
    rcases h with ⟨o, h⟩ | h
    · exact .inl ⟨o, s.frz _ _ _ h⟩
    · exact .inr h
  | _, _, .dicK n h r => .dicK (s.keep _ _ h n).2 (s.keep _ _ h n).1 (RVd.stay s r)
  | _, _, .dicT n h r => .dicT (s.keep _ _ h n).2 (s.keep _ _ h n).1 (RVk.stay s r)
  | _, _, .ins n h e l r => .ins (s.keep _ _ h n).2 (s.keep _ _ h n).1 e l (RVs.stay s r)
  | _, _, .ref h => by
    obtain ⟨r, e⟩ := s.pre
    exact .ref (by rw [e]; exact get_pre h)
  | _, _, .exn x n h q r => .exn x (s.keep _ _ h n).2 (s.keep _ _ h n).1 q (RVs.stay s r)
theorem RVs.stay (s : Stay lv lv' m m' H H') : ∀ {d : List D} {v : List V}, RVs C lv m H d v → RVs C lv' m' H' d v
  | _, _, .nil => .nil
  | _, _, .cons h r => .cons (RV.stay s h) (RVs.stay s r)
theorem RVd.stay (s : Stay lv lv' m m' H H') : ∀ {k d : List D} {v : List (Key × V)}, RVd C lv m H k d v → RVd C lv' m' H' k d v
  | _, _, _, .nil => .nil
  | _, _, _, .int h r => .int (RV.stay s h) (RVd.stay s r)
  | _, _, _, .str h r => .str (RV.stay s h) (RVd.stay s r)
theorem RVk.stay (s : Stay lv lv' m m' H H') : ∀ {k d : List D} {v : List KE3}, RVk C lv m H k d v → RVk C lv' m' H' k d v
  | _, _, _, .nil => .nil
  | _, _, _, .cons o k h r => .cons o (RV.stay s k) (RV.stay s h) (RVk.stay s r)
end
/-- an immutable value stays whatever is live -/
structure StayI (H H' : Hp) : Prop where
  tup : ∀ a xs, H a = some (.tup xs) → H' a = some (.tup xs)
  frz : ∀ a o u, H a = some (.frz o u) → H' a = some (.frz o u)
mutual
theorem RV.imm (s : StayI H H') : ∀ {d : D} {v : V}, imm d = true → RV C lv m H d v → RV C lv' m' H' d v
  | _, _, _, .non => .non
  | _, _, _, .bl b => .bl b
  | _, _, _, .int i => .int i
  | _, _, _, .str x => .str x
  | _, _, i, .tup h r => by
    refine .tup ?_ (RVs.imm s (by simpa [M.imm] using i) r)
    rcases h with (h | ⟨o, h⟩) | h
    · exact .inl (.inl (s.tup _ _ h))
    · exact .inl (.inr ⟨o, s.frz _ _ _ h⟩)
    · exact .inr h
  | _, _, i, .lst n h r => by simp [M.imm] at i
  | _, _, i, .rol h r => by simp [M.imm] at i
  | _, _, i, .dicK n h r => by simp [M.imm] at i
  | _, _, i, .dicT n h r => by simp [M.imm] at i
  | _, _, i, .ins n h e l r => by simp [M.imm] at i
  | _, _, i, .ref h => by simp [M.imm] at i
  | _, _, i, .exn _ _ _ _ _ => by simp [M.imm] at i
theorem RVs.imm (s : StayI H H') : ∀ {d : List D} {v : List V}, imms d = true → RVs C lv m H d v → RVs C lv' m' H' d v
  | _, _, _, .nil => .nil
  | _, _, i, .cons h r => by
    simp only [imms, Bool.and_eq_true] at i
    exact .cons (RV.imm s i.1 h) (RVs.imm s i.2 r)
end
theorem RVs.length : ∀ {ds : List D} {vs : List V}, RVs C lv m H ds vs → ds.length = vs.length
  | _, _, .nil => rfl
  | _, _, .cons _ r => congrArg (· + 1) (RVs.length r)
theorem RVs.get : ∀ {ds : List D} {vs : List V} {i : Nat} {d : D}, RVs C lv m H ds vs → ds[i]? = some d → ∃ v, vs[i]? = some v ∧ RV C lv m H d v
  | _, _, _, _, .nil, e => by simp at e
  | _, _, 0, _, .cons r _, e => by simp at e; subst e; exact ⟨_, rfl, r⟩
  | _, _, i + 1, d, .cons _ t, e => by
    obtain ⟨u, h1, h2⟩ := RVs.get (i := i) (d := d) t (by simpa using e)
    exact ⟨u, by simpa using h1, h2⟩
theorem RVs.get' : ∀ {ds : List D} {vs : List V} {i : Nat} {v : V}, RVs C lv m H ds vs → vs[i]? = some v → ∃ d, ds[i]? = some d ∧ RV C lv m H d v
  | _, _, _, _, .nil, e => by simp at e
  | _, _, 0, _, .cons r _, e => by simp at e; subst e; exact ⟨_, rfl, r⟩
  | _, _, i + 1, d, .cons _ t, e => by
    obtain ⟨u, h1, h2⟩ := RVs.get' (i := i) (v := d) t (by simpa using e)
    exact ⟨u, by simpa using h1, h2⟩
theorem RVs.append : ∀ {xs ys : List D} {us ws : List V}, RVs C lv m H xs us → RVs C lv m H ys ws → RVs C lv m H (xs ++ ys) (us ++ ws)
  | _, _, _, _, .nil, s => s
  | _, _, _, _, .cons r t, s => .cons r (RVs.append t s)
theorem RVs.set {d : D} {v : V} (r : RV C lv m H d v) : ∀ {xs : List D} {us : List V} (i : Nat), RVs C lv m H xs us → RVs C lv m H (xs.set i d) (us.set i v)
  | _, _, _, .nil => .nil
  | _, _, 0, .cons _ t => .cons r t
  | _, _, i + 1, .cons q t => .cons q (RVs.set r i t)
theorem RVs.take : ∀ {xs : List D} {us : List V} (n : Nat), RVs C lv m H xs us → RVs C lv m H (xs.take n) (us.take n)
  | _, _, 0, _ => .nil
  | _, _, _ + 1, .nil => .nil
  | _, _, n + 1, .cons r t => .cons r (RVs.take n t)
theorem RVs.drop : ∀ {xs : List D} {us : List V} (n : Nat), RVs C lv m H xs us → RVs C lv m H (xs.drop n) (us.drop n)
  | _, _, 0, r => r
  | _, _, _ + 1, .nil => .nil
  | _, _, n + 1, .cons _ t => RVs.drop n t
theorem RVs.reverse {xs : List D} {us : List V} (r : RVs C lv m H xs us) : RVs C lv m H xs.reverse us.reverse := by
  induction xs generalizing us with
  | nil => cases r; exact .nil
  | cons x xs ih =>
    cases r with
    | cons a b =>
      rw [List.reverse_cons, List.reverse_cons]
      exact (ih b).append (.cons a .nil)
theorem RVs.of_paired {ds : List D} {vs : List V} (hl : ds.length = vs.length) (h : ∀ (i : Nat) (d : D) (v : V), ds[i]? = some d → vs[i]? = some v → RV C lv m H d v) : RVs C lv m H ds vs := by
  induction ds generalizing vs with
  | nil => cases vs with | nil => exact .nil | cons => simp at hl
  | cons d ds ih => cases vs with
    | nil => simp at hl
    | cons v vs => exact .cons (h 0 d v rfl rfl) (ih (by simpa using hl) fun i d' v' e1 e2 => h (i + 1) d' v' (by simpa using e1) (by simpa using e2))
/-- a value stays behind a step; Av: what is not ours is not live, and stands as it stood -/
theorem Keep.stay {Av : Addr → Prop} {h h' : Hs} (k : Keep m h H m' h' H') : Stay (lvs Av m h) (lvs Av m' h') m m' H H' := ⟨k.pre, fun a o e n => by
  obtain ⟨e1, n1⟩ := k.keep a o e fun z => n (.inr z)
  exact ⟨e1, fun z => z.elim (fun z => n (.inl z)) n1⟩, k.tup, k.frz⟩
theorem Keep.rv {Av : Addr → Prop} {h h' : Hs} {d : D} {v : V} (k : Keep m h H m' h' H') (r : RV C (lvs Av m h) m H d v) : RV C (lvs Av m' h') m' H' d v := r.stay k.stay
theorem Keep.rvs {Av : Addr → Prop} {h h' : Hs} {d : List D} {v : List V} (k : Keep m h H m' h' H') (r : RVs C (lvs Av m h) m H d v) : RVs C (lvs Av m' h') m' H' d v := r.stay k.stay
/-! ### a new object -/
theorem SR.fresh {Av : Addr → Prop} {h : Hs} (s : SR C Av m h H) {p : Addr} (n : H p = none) : ¬ lvs Av m h p := fun z => by
  rcases z with z | ⟨i, w, z, _⟩
  · obtain ⟨o, e⟩ := s.avd p z
    rw [n] at e; cases e
  · obtain ⟨o, e⟩ := s.there i p z
    rw [n] at e; cases e
theorem keep_new {h : Hs} {p : Addr} {o : HO} (n : H p = none) : Keep m h H m h (upd H p o) := by
  have k : ∀ a u, H a = some u → upd H p o a = some u := fun a u e => by rw [upd_ne (ne_of_none e n)]; exact e
  exact ⟨fun a xs e => k a _ e, fun a u v e => k a _ e, ⟨[], by simp⟩, fun a u e l => ⟨k a u e, l⟩, fun a u e => ⟨u, k a u e⟩⟩
theorem CellOk.stay {w : D} {a : Addr} (s : Stay lv lv' m m' H H') (e : ∀ o, H a = some o → H' a = some o) (c : CellOk C lv m H a w) : CellOk C lv' m' H' a w := by
  cases w with
  | lst xs => obtain ⟨vs, h, r⟩ := c; exact ⟨vs, e _ h, r.stay s⟩
  | dic t ks xs =>
    cases t with
    | false => obtain ⟨vs, h, r⟩ := c; exact ⟨vs, e _ h, r.stay s⟩
    | true => obtain ⟨vs, h, r⟩ := c; exact ⟨vs, e _ h, r.stay s⟩
  | ins c as xs => obtain ⟨dx, fs, h, l1, l2, r⟩ := c; exact ⟨dx, fs, e _ h, l1, l2, r.stay s⟩
  | _ => exact c.elim
theorem SR.new {Av : Addr → Prop} {h : Hs} (s : SR C Av m h H) {p : Addr} {o : HO} (n : H p = none) : SR C Av m h (upd H p o) := by
  have k : ∀ a u, H a = some u → upd H p o a = some u := fun a u e => by rw [upd_ne (ne_of_none e n)]; exact e
  exact ⟨s.len, s.nd, fun i a w e1 e2 => (s.cell i a w e1 e2).stay (keep_new (m := m) (h := h) n).stay (fun u e => k a u e), fun i a e => let ⟨u, q⟩ := s.there i a e; ⟨u, k a u q⟩, fun a e => let ⟨u, q⟩ := s.avd a e; ⟨u, k a u q⟩, s.sep⟩
theorem RV.newTup {Av : Addr → Prop} {h : Hs} {p : Addr} {xs : List D} {vs : List V} (n : H p = none) (r : RVs C (lvs Av m h) m H xs vs) : RV C (lvs Av m h) m (upd H p (.tup vs)) (.tup xs) (.ref p) :=
  .tup (.inl (.inl upd_same)) ((keep_new (m := m) (h := h) n).rvs r)
theorem RV.newLst {Av : Addr → Prop} {h : Hs} (s : SR C Av m h H) {p : Addr} {xs : List D} {vs : List V} (n : H p = none) (r : RVs C (lvs Av m h) m H xs vs) : RV C (lvs Av m h) m (upd H p (.lst vs)) (.lst xs) (.ref p) :=
  .lst (s.fresh n) upd_same ((keep_new (m := m) (h := h) n).rvs r)
end
end M
end

section
set_option Elab.async false
set_option linter.all false
set_option maxRecDepth 100000
set_option maxHeartbeats 2000000
/-! Snd1: what an expression's evaluation says as a reading; operators by values. -/
namespace M
open PySem PySem.Spec PyProof.Rows L2
structure At (C : Pc) (Av : Addr → Prop) (ρ : Rho) (h : Hs) (m : List Addr) (σ : L2.St) (H : Hp) : Prop where
  sr : SR C Av m h H
  sl : ∀ (i : Nat) (d : D), ρ[i]? = some (some d) → ∃ v, σ[i]? = some (some v) ∧ RV C (lvs Av m h) m H d v
  ln : ρ.length = σ.length
/-- an exception of the class c with the fields vs -/
def ExR (C : Pc) (T : Tb) (lv : Addr → Prop) (m : List Addr) (H : Hp) (c : Nat) (vs : List D) (cls : Value) (d : Option Addr) : Prop :=
  cls = .ref (C.cad c) ∧ ∃ Cl, T.cls[c]? = some Cl ∧ (vs = [] ∨ ∃ (dd : Addr) (fs : List (Str × V)) (us : List V), d = some dd ∧ ¬ lv dd ∧ H dd = some (.xd fs) ∧ RVs C lv m H vs us ∧ ∀ (i k : Nat) (u : V), Cl.flds[i]? = some k → us[i]? = some u → fs.lookup (C.nm k) = some u)
section
variable (C : Pc) (T : Tb) (W : WX) (Av : Addr → Prop) (m : List Addr) (h : Hs) (H : Hp) (σ : L2.St)
def EW (c : Nat) (vs : List D) (h' : Hs) : Prop := ∀ cls d m' H', SR C Av m' h' H' → Keep m h H m' h' H' → ExR C T (lvs Av m' h') m' H' c vs cls d → W cls d σ H'
def Aft (r : RE) (Q : VK) : Prop := match r with
  | .ok d h' => ∀ v m' H', SR C Av m' h' H' → Keep m h H m' h' H' → RV C (lvs Av m' h') m' H' d v → Q v H'
  | .exc c vs h' => EW C T W Av m h H σ c vs h'
  | .bad => False
def AftL (r : RL) (Q : List V → Hp → Prop) : Prop := match r with
  | .ok ds h' => ∀ vs m' H', SR C Av m' h' H' → Keep m h H m' h' H' → RVs C (lvs Av m' h') m' H' ds vs → Q vs H'
  | .exc c vs h' => EW C T W Av m h H σ c vs h'
  | .bad => False
end
def tE (C : Pc) (T : Tb) (W : WX) (r : Rho → Hs → RE) : TE := fun σ H Q => ∃ Av ρ h m, At C Av ρ h m σ H ∧ Aft C T W Av m h H σ (r ρ h) Q
def tL (C : Pc) (T : Tb) (W : WX) (r : Rho → Hs → RL) : TA := fun σ H Q => ∃ Av ρ h m, At C Av ρ h m σ H ∧ AftL C T W Av m h H σ (r ρ h) Q
section
variable {C : Pc} {T : Tb} {W : WX} {Av : Addr → Prop} {m m1 : List Addr} {h h1 : Hs} {H H1 : Hp} {σ : L2.St} {ρ : Rho}
theorem peImp {X : Cx} {e : Expr} {t t' : TE} (p : PE X e t) (w : ∀ σ H Q, t' σ H Q → t σ H Q) : PE X e t' := ⟨fun pins s σ H Q I hw => p.run pins s σ H Q I (w σ H Q hw)⟩
theorem At.keep (a : At C Av ρ h m σ H) (k : Keep m h H m1 h1 H1) (s : SR C Av m1 h1 H1) : At C Av ρ h1 m1 σ H1 := ⟨s, fun i d e => by
  obtain ⟨v, e1, r⟩ := a.sl i d e
  exact ⟨v, e1, k.rv r⟩, a.ln⟩
theorem EW.keep {c : Nat} {vs : List D} {h' : Hs} (k : Keep m h H m1 h1 H1) (e : EW C T W Av m h H σ c vs h') : EW C T W Av m1 h1 H1 σ c vs h' := fun cls d m' H' s k' x => e cls d m' H' s (k.trans k') x
theorem Aft.keep {r : RE} {Q : VK} (k : Keep m h H m1 h1 H1) (a : Aft C T W Av m h H σ r Q) : Aft C T W Av m1 h1 H1 σ r Q := by
  cases r with
  | ok d h' => exact fun v m' H' s k' x => a v m' H' s (k.trans k') x
  | exc c vs h' => exact EW.keep k a
  | bad => exact a
theorem AftL.keep {r : RL} {Q : List V → Hp → Prop} (k : Keep m h H m1 h1 H1) (a : AftL C T W Av m h H σ r Q) : AftL C T W Av m1 h1 H1 σ r Q := by
  cases r with
  | ok d h' => exact fun v m' H' s k' x => a v m' H' s (k.trans k') x
  | exc c vs h' => exact EW.keep k a
  | bad => exact a
theorem Aft.imp {r : RE} {Q Q' : VK} (w : ∀ v H, Q v H → Q' v H) (a : Aft C T W Av m h H σ r Q) : Aft C T W Av m h H σ r Q' := by
  cases r with
  | ok d h' => exact fun v m' H' s k' x => w _ _ (a v m' H' s k' x)
  | exc c vs h' => exact a
  | bad => exact a
theorem AftL.imp {r : RL} {Q Q' : List V → Hp → Prop} (w : ∀ v H, Q v H → Q' v H) (a : AftL C T W Av m h H σ r Q) : AftL C T W Av m h H σ r Q' := by
  cases r with
  | ok d h' => exact fun v m' H' s k' x => w _ _ (a v m' H' s k' x)
  | exc c vs h' => exact a
  | bad => exact a
/-- behind the first of two -/
theorem Aft.bind {r : RE} {k : D → Hs → RE} {Q : VK} (a : Aft C T W Av m h H σ (r.bind k) Q) :
    Aft C T W Av m h H σ r fun v H1 => ∃ d h1 m1, SR C Av m1 h1 H1 ∧ Keep m h H m1 h1 H1 ∧ RV C (lvs Av m1 h1) m1 H1 d v ∧ Aft C T W Av m1 h1 H1 σ (k d h1) Q := by
  cases r with
  | ok d h' => exact fun v m' H' s k' x => ⟨d, h', m', s, k', x, Aft.keep k' a⟩
  | exc c vs h' => exact a
  | bad => exact a
theorem AftL.bind {r : RL} {k : List D → Hs → RE} {Q : VK} (a : Aft C T W Av m h H σ (r.bind k) Q) :
    AftL C T W Av m h H σ r fun v H1 => ∃ d h1 m1, SR C Av m1 h1 H1 ∧ Keep m h H m1 h1 H1 ∧ RVs C (lvs Av m1 h1) m1 H1 d v ∧ Aft C T W Av m1 h1 H1 σ (k d h1) Q := by
  cases r with
  | ok d h' => exact fun v m' H' s k' x => ⟨d, h', m', s, k', x, Aft.keep k' a⟩
  | exc c vs h' => exact a
  | bad => exact a
/-- a value at once -/
theorem Aft.val {d : D} {v : V} {Q : VK} (s : SR C Av m h H) (r : RV C (lvs Av m h) m H d v) (a : Aft C T W Av m h H σ (.ok d h) Q) : Q v H := a v m H s Keep.refl r
/-- from tE of a bind: the first part, then the second at its state -/
theorem tE.bind {r : Rho → Hs → RE} {k : D → Hs → RE} {Q : VK} (at_ : At C Av ρ h m σ H) (a : Aft C T W Av m h H σ ((r ρ h).bind k) Q) {Q' : VK}
    (w : ∀ d v h1 m1 H1, At C Av ρ h1 m1 σ H1 → Keep m h H m1 h1 H1 → RV C (lvs Av m1 h1) m1 H1 d v → Aft C T W Av m1 h1 H1 σ (k d h1) Q → Q' v H1) : tE C T W r σ H Q' :=
  ⟨Av, ρ, h, m, at_, (Aft.bind a).imp fun v H1 ⟨d, h1, m1, s, k', x, z⟩ => w d v h1 m1 H1 (at_.keep k' s) k' x z⟩
theorem tL.bind {r : Rho → Hs → RL} {k : List D → Hs → RE} {Q : VK} (at_ : At C Av ρ h m σ H) (a : Aft C T W Av m h H σ ((r ρ h).bind k) Q) {Q' : List V → Hp → Prop}
    (w : ∀ d v h1 m1 H1, At C Av ρ h1 m1 σ H1 → Keep m h H m1 h1 H1 → RVs C (lvs Av m1 h1) m1 H1 d v → Aft C T W Av m1 h1 H1 σ (k d h1) Q → Q' v H1) : tL C T W r σ H Q' :=
  ⟨Av, ρ, h, m, at_, (AftL.bind a).imp fun v H1 ⟨d, h1, m1, s, k', x, z⟩ => w d v h1 m1 H1 (at_.keep k' s) k' x z⟩

/-! ### what is read of a value -/
inductive RP (C : Pc) (lv : Addr → Prop) (m : List Addr) (H : Hp) : D → V → Prop
  | non : RP C lv m H .non .non
  | bl (b : Bool) : RP C lv m H (.bl b) (.bl b)
  | int (i : Int) : RP C lv m H (.int i) (.int i)
  | str (x : List Nat) : RP C lv m H (.str x) (.str ⟨x.toArray⟩)
  | tup {a : Addr} {xs : List D} {vs : List V} : SqT C.K H a vs → RVs C lv m H xs vs → RP C lv m H (.tup xs) (.ref a)
  | lst {a : Addr} {xs : List D} {vs : List V} : H a = some (.lst vs) → RVs C lv m H xs vs → RP C lv m H (.lst xs) (.ref a)
  | rol {a : Addr} {xs : List D} {vs : List V} : SqL C.K H a vs → RVs C lv m H xs vs → RP C lv m H (.rol xs) (.ref a)
  | dicK {a : Addr} {ks xs : List D} {kvs : List (Key × V)} : H a = some (.dK kvs) → RVd C lv m H ks xs kvs → RP C lv m H (.dic false ks xs) (.ref a)
  | dicT {a : Addr} {ks xs : List D} {es : List KE3} : H a = some (dHO C.P C.w a es) → RVk C lv m H ks xs es → RP C lv m H (.dic true ks xs) (.ref a)
  | ins {a : Addr} {c : Nat} {as : List Nat} {xs : List D} {dx : Addr} {fs : List (Str × V)} : H a = some (.ins (C.cad c) dx fs) → fs.map (·.1) = as.map C.nm → (∀ k ∈ as, k < C.attrs.length) → RVs C lv m H xs (fs.map (·.2)) → RP C lv m H (.ins c as xs) (.ref a)
  | exn {a dd : Addr} {c : Nat} {fl : List Nat} {xs : List D} {fs : List (Str × V)} {us : List V} : C.xa = some (a, dd, c, fl) → H dd = some (.xd fs) → (∀ (i k : Nat) (u : V), fl[i]? = some k → us[i]? = some u → fs.lookup (C.nm k) = some u) → RVs C lv m H xs us → RP C lv m H (.exn c xs) (.ref a)
theorem cont_some {n : Nat} {w : D} (e : cont h n = some w) : h[n]? = some (Ce.opn w) := by
  cases q : h[n]? with
  | none => simp [cont, q] at e
  | some c =>
    cases c with
    | gone => simp [cont, q] at e
    | opn u =>
      simp [cont, q] at e
      rw [e]
theorem RP.of {lv : Addr → Prop} {d : D} {v : V} (r : RV C lv m H d v) (n : ∀ i, d ≠ .ref i) : RP C lv m H d v := by
  cases r with
  | non => exact .non
  | bl b => exact .bl b
  | int i => exact .int i
  | str x => exact .str x
  | tup a b => exact .tup a b
  | lst a b c => exact .lst b c
  | rol a b => exact .rol (a.elim (fun ⟨o, z⟩ => .inl (.inr ⟨o, z⟩)) .inr) b
  | dicK a b c => exact .dicK b c
  | dicT a b c => exact .dicT b c
  | ins a b c d e => exact .ins b c d e
  | ref e => exact absurd rfl (n _)
  | exn a b c d e => exact .exn a c d e
/-- peek: a cell's content, or the value itself -/
theorem peek_rp (s : SR C Av m h H) {d e : D} {v : V} (r : RV C (lvs Av m h) m H d v) (p : peek h d = some e) : RP C (lvs Av m h) m H e v := by
  cases d with
  | ref n =>
    have p' : cont h n = some e := p
    cases r with
    | ref q =>
      have c := s.cell _ _ _ q (cont_some p')
      cases e with
      | lst xs => obtain ⟨vs, a, b⟩ := c; exact .lst a b
      | dic t ks xs =>
        cases t with
        | false => obtain ⟨vs, a, b⟩ := c; exact .dicK a b
        | true => obtain ⟨vs, a, b⟩ := c; exact .dicT a b
      | ins c as xs => obtain ⟨dx, fs, a, b, l, r⟩ := c; exact .ins a b l r
      | _ => exact c.elim
  | _ =>
    have p' := Option.some.inj (show some _ = some e from p)
    subst p'
    exact .of r (fun i z => by cases z)
theorem Aft.pk {d : D} {k : D → RE} {Q : VK} (a : Aft C T W Av m h H σ (M.pk h d k) Q) : ∃ e, peek h d = some e ∧ Aft C T W Av m h H σ (k e) Q := by
  unfold M.pk at a
  split at a
  · rename_i e q
    exact ⟨e, q, a⟩
  · exact a.elim
theorem Aft.ro {o : Option D} {Q : VK} (a : Aft C T W Av m h H σ (Ro o h) Q) : ∃ d, o = some d ∧ ∀ v m' H', SR C Av m' h H' → Keep m h H m' h H' → RV C (lvs Av m' h) m' H' d v → Q v H' := by
  unfold Ro at a
  cases o with
  | none => exact a.elim
  | some d => exact ⟨d, rfl, a⟩
theorem Aft.tst {d : D} {k : Bool → RE} {Q : VK} (a : Aft C T W Av m h H σ (M.tst d k) Q) : ∃ b, d = .bl b ∧ Aft C T W Av m h H σ (k b) Q := by
  unfold M.tst at a
  split at a
  · exact ⟨_, rfl, a⟩
  · exact a.elim
end
end M
end

section
set_option Elab.async false
set_option linter.all false
set_option maxRecDepth 100000
set_option maxHeartbeats 4000000
/-! Snd2: operators by values. -/
namespace M
open PySem PySem.Spec PyProof.Rows L2
section
variable {C : Pc} {T : Tb} {W : WX} {Av : Addr → Prop} {m m1 : List Addr} {h h1 : Hs} {H H1 : Hp} {σ : L2.St} {ρ : Rho}
theorem limEq : LIM = sizeLine := by rw [sizeLine_eq]
/-- a plain function of two values, as what a rule by values asks -/
def rB (C : Pc) (f : D → D → Option D) : R2 := fun x y H Q => ∃ Av m h ex ey d, SR C Av m h H ∧ RP C (lvs Av m h) m H ex x ∧ RP C (lvs Av m h) m H ey y ∧ f ex ey = some d ∧
  ∀ v m' H', SR C Av m' h H' → Keep m h H m' h H' → RV C (lvs Av m' h) m' H' d v → Q v H'
def rU1 (C : Pc) (f : D → Option D) : V → Hp → VK → Prop := fun x H Q => ∃ Av m h ex d, SR C Av m h H ∧ RP C (lvs Av m h) m H ex x ∧ f ex = some d ∧
  ∀ v m' H', SR C Av m' h H' → Keep m h H m' h H' → RV C (lvs Av m' h) m' H' d v → Q v H'
variable {X : Cx}
theorem RP.int_inv {lv : Addr → Prop} {i : Int} {x : V} (r : RP C lv m H (.int i) x) : x = .int i := by cases r; rfl
theorem evII_inv {f : Int → Int → Option Int} {a b d : D} (e : evII f a b = some d) : ∃ i j k, a = .int i ∧ b = .int j ∧ f i j = some k ∧ d = .int k := by
  unfold evII at e
  split at e
  · rename_i i j
    obtain ⟨k, e1, e2⟩ := Option.map_eq_some_iff.mp e
    exact ⟨i, j, k, rfl, rfl, e1, e2.symm⟩
  · cases e
theorem op_int {op : Operator} {f : Int → Int → Option Int} {Cn : Int → Int → Prop} {g : Int → Int → Int} (rule : OpR X (binaryOp op) (rI Cn fun i j => .int (g i j))) (he : ∀ i j k, f i j = some k → Cn i j ∧ k = g i j) : OpR X (binaryOp op) (rB C (evII f)) := by
  intro pins s σ H x y v u Q I rx ry ⟨Av, m, h, ex, ey, d, S, px, py, e, q⟩
  obtain ⟨i, j, k, rfl, rfl, e2, rfl⟩ := evII_inv e
  obtain ⟨c, rfl⟩ := he _ _ _ e2
  cases px.int_inv
  cases py.int_inv
  exact rule pins s σ H _ _ v u Q I rx ry ⟨i, j, rfl, rfl, c, q _ m H S Keep.refl (.int _)⟩
theorem op_int0 {op : Operator} {g : Int → Int → Int} (rule : OpR X (binaryOp op) (rI0 fun i j => .int (g i j))) : OpR X (binaryOp op) (rB C (evII fun i j => some (g i j))) := by
  intro pins s σ H x y v u Q I rx ry ⟨Av, m, h, ex, ey, d, S, px, py, e, q⟩
  obtain ⟨i, j, k, rfl, rfl, e2, rfl⟩ := evII_inv e
  cases e2
  cases px.int_inv
  cases py.int_inv
  exact rule pins s σ H _ _ v u Q I rx ry ⟨i, j, rfl, rfl, q _ m H S Keep.refl (.int _)⟩
theorem ite_some {c : Prop} [Decidable c] {i k : Int} (e : (if c then some i else none) = some k) : c ∧ k = i := by
  split at e
  · rename_i hc
    exact ⟨hc, (Option.some.inj e).symm⟩
  · cases e
theorem RVs.nil_iff {lv : Addr → Prop} {xs : List D} {vs : List V} (r : RVs C lv m H xs vs) : vs = [] ↔ xs = [] := by
  cases r with
  | nil => simp
  | cons _ _ => simp
theorem str_app (x y : List Nat) : (⟨x.toArray⟩ : Str) ++ (⟨y.toArray⟩ : Str) = ⟨(x ++ y).toArray⟩ := by
  show Str.append _ _ = _
  unfold Str.append
  simp
theorem op_addC (hK : X.K = C.K) : OpR X (binaryOp .Add) (rB C evAdd) := by
  intro pins s σ H x y v u Q I rx ry ⟨Av, m, h, ex, ey, d, S, px, py, e, q⟩
  unfold evAdd at e
  split at e <;> try cases e
  · cases px.int_inv
    cases py.int_inv
    exact op_add pins s σ H _ _ v u Q I rx ry ⟨_, _, rfl, rfl, q _ m H S Keep.refl (.int _)⟩
  · split at e <;> cases e
    rename_i a b hz
    cases px
    cases py
    refine op_add_str pins s σ H _ _ v u Q I rx ry ⟨_, _, rfl, rfl, ?_, ?_⟩
    · rw [← limEq]
      simpa [Str.length] using hz
    · rw [str_app]
      exact q _ m H S Keep.refl (.str _)
  · split at e <;> cases e
    rename_i a b hz
    cases px with
    | tup ha ra =>
    cases py with
    | tup hb rb =>
    rw [← hK] at ha hb
    refine op_catA pins s σ H _ _ v u Q I rx ry ⟨_, _, _, _, rfl, rfl, ha, hb, ?_, fun e1 => ?_, fun e1 e2 => ?_, fun e1 e2 p np => ?_⟩
    · rw [← ra.length, ← rb.length, ← limEq]
      exact hz
    · cases ra.nil_iff.mp e1
      rw [hK] at hb
      exact q _ m H S Keep.refl (.tup hb rb)
    · cases rb.nil_iff.mp e2
      rw [hK] at ha
      rw [List.append_nil] at q
      exact q _ m H S Keep.refl (.tup ha ra)
    · exact q _ m _ (S.new np) (keep_new np) (RV.newTup np (ra.append rb))
  · split at e <;> cases e
    rename_i a b hz
    cases px with
    | lst ha ra =>
    cases py with
    | lst hb rb =>
    refine op_cat pins s σ H _ _ v u Q I rx ry ⟨_, _, _, _, rfl, rfl, ha, hb, ?_, fun p np => ?_⟩
    · rw [← ra.length, ← rb.length, ← limEq]
      exact hz
    · exact q _ m _ (S.new np) (keep_new np) (RV.newLst S np (ra.append rb))
theorem RVs.rep {lv : Addr → Prop} {xs : List D} {vs : List V} (r : RVs C lv m H xs vs) : ∀ n : Nat, RVs C lv m H (List.replicate n xs).flatten (List.replicate n vs).flatten
  | 0 => .nil
  | n + 1 => by
    rw [List.replicate_succ, List.replicate_succ, List.flatten_cons, List.flatten_cons]
    exact r.append (RVs.rep r n)
theorem op_mulC (hK : X.K = C.K) : OpR X (binaryOp .Mult) (rB C evMul) := by
  intro pins s σ H x y v u Q I rx ry ⟨Av, m, h, ex, ey, d, S, px, py, e, q⟩
  unfold evMul at e
  split at e <;> try cases e
  · split at e <;> cases e
    rename_i a b hc
    cases px.int_inv
    cases py.int_inv
    refine op_mul pins s σ H _ _ v u Q I rx ry ⟨_, _, rfl, rfl, ?_, q _ m H S Keep.refl (.int _)⟩
    unfold mulOk at hc
    simpa [CMul] using hc
  · split at e <;> cases e
    rename_i a b hc
    obtain ⟨h1, h2, h3, h4⟩ := hc
    cases py.int_inv
    cases px with
    | tup ha ra =>
    rw [← hK] at ha
    refine op_repT pins s σ H _ _ v u Q I rx ry ⟨_, _, _, rfl, rfl, ha, fun z => h4 (ra.nil_iff.mp z), h1, h2, by rw [← ra.length]; exact h3, fun p np => ?_⟩
    exact q _ m _ (S.new np) (keep_new np) (RV.newTup np (ra.rep _))
  · split at e <;> cases e
    rename_i a b hc
    obtain ⟨h1, h2, h3⟩ := hc
    cases py.int_inv
    cases px with
    | lst ha ra =>
    refine op_rep pins s σ H _ _ v u Q I rx ry ⟨_, _, _, rfl, rfl, ha, by omega, by omega, ?_, fun p np => ?_⟩
    · rw [← ra.length, ← limEq]
      have h4 : b.toNat ≤ 1000 := by omega
      exact Nat.le_trans (Nat.mul_le_mul h3 h4) (by decide)
    · exact q _ m _ (S.new np) (keep_new np) (RV.newLst S np (ra.rep _))
/-- the operators of the text -/
def astB2 : B2 → Operator
  | .add => .Add | .sub => .Sub | .mul => .Mult | .fdiv => .FloorDiv | .mod => .Mod | .pow => .Pow | .bor => .BitOr | .shl => .LShift
theorem op_B2 (hK : X.K = C.K) : ∀ o : B2, OpR X (binaryOp (astB2 o)) (rB C (evB2 o))
  | .add => op_addC hK
  | .sub => op_int0 op_sub
  | .mul => op_mulC hK
  | .fdiv => op_int op_fdiv fun _ _ _ e => (by obtain ⟨c, k⟩ := ite_some e; exact ⟨c, k⟩)
  | .mod => op_int op_mod fun _ _ _ e => (by obtain ⟨c, k⟩ := ite_some e; exact ⟨c, k⟩)
  | .pow => op_int op_pow fun _ _ _ e => (by obtain ⟨c, k⟩ := ite_some e; exact ⟨c, k⟩)
  | .bor => op_int0 op_or
  | .shl => op_int op_shl fun _ _ _ e => (by obtain ⟨c, k⟩ := ite_some e; exact ⟨c, k⟩)
end
end M
end

section
set_option Elab.async false
set_option linter.all false
set_option maxRecDepth 100000
set_option maxHeartbeats 4000000
/-! Snd3: comparisons by values. -/
namespace M
open PySem PySem.Spec PyProof.Rows L2
section
variable {C : Pc} {T : Tb} {W : WX} {Av : Addr → Prop} {m m1 : List Addr} {h h1 : Hs} {H H1 : Hp} {σ : L2.St} {ρ : Rho} {lv : Addr → Prop}
mutual
theorem RV.dp : ∀ {d : D} {v : V}, pd d = true → RV C lv m H d v → Dp C.K H v (toPy d)
  | _, _, _, .non => .non
  | _, _, _, .bl b => .bl b
  | _, _, _, .int i => .int i
  | _, _, _, .str x => .str _
  | _, _, i, .tup h r => .tup h (RVs.dp (by simpa [pd] using i) r)
  | _, _, i, .lst n h r => .lst (SqL.of h) (RVs.dp (by simpa [pd] using i) r)
  | _, _, i, .rol h r => by simp [pd] at i
  | _, _, i, .dicK n h r => by simp [pd] at i
  | _, _, i, .dicT n h r => by simp [pd] at i
  | _, _, i, .ins n h e l r => by simp [pd] at i
  | _, _, i, .ref h => by simp [pd] at i
theorem RVs.dp : ∀ {d : List D} {v : List V}, pds d = true → RVs C lv m H d v → DpAll C.K H v (toPys d)
  | _, _, _, .nil => .nil
  | _, _, i, .cons h r => by
    simp only [pds, Bool.and_eq_true] at i
    exact .cons (RV.dp i.1 h) (RVs.dp i.2 r)
end
theorem RP.dp {d : D} {v : V} (p : pd d = true) (r : RP C lv m H d v) : Dp C.K H v (toPy d) := by
  cases r with
  | non => exact .non
  | bl b => exact .bl b
  | int i => exact .int i
  | str x => exact .str _
  | tup h r => exact .tup h (RVs.dp (by simpa [pd] using p) r)
  | lst h r => exact .lst (SqL.of h) (RVs.dp (by simpa [pd] using p) r)
  | _ => simp [pd] at p
theorem str_eq (a b : List Nat) : ((⟨a.toArray⟩ : Str) = ⟨b.toArray⟩) ↔ a = b := by
  constructor
  · intro e
    have e1 : a.toArray = b.toArray := congrArg Str.cps e
    simpa using e1
  · intro e
    rw [e]
theorem scl_ok {a b : D} {x y : V} (s : scl a b = true) (px : RP C lv m H a x) (py : RP C lv m H b y) : scal x y = true ∧ decide (x = y) = decide (a = b) := by
  cases px <;> cases py <;> first
    | (refine ⟨rfl, ?_⟩; simp [str_eq]; done)
    | (exact absurd s (by simp [scl]; done))
    | (exact absurd (show false = true from s) Bool.false_ne_true)
variable {X : Cx}
def mB (f : D → D → Option Bool) (a b : D) : Option D := (f a b).map .bl
abbrev rC (C : Pc) (f : D → D → Option Bool) : R2 := rB C (mB f)
def ng (f : D → D → Option Bool) (a b : D) : Option Bool := (f a b).map (!·)
theorem ng_inv {f : D → D → Option Bool} {a b : D} {k : Bool} (e : ng f a b = some k) : ∃ k', f a b = some k' ∧ k = !k' := by
  obtain ⟨k', h1, h2⟩ := Option.map_eq_some_iff.mp e
  exact ⟨k', h1, h2.symm⟩
theorem rC_inv {f : D → D → Option Bool} {a b d : D} (e : mB f a b = some d) : ∃ k, f a b = some k ∧ d = .bl k := by
  obtain ⟨k, h1, h2⟩ := Option.map_eq_some_iff.mp e
  exact ⟨k, h1, h2.symm⟩
theorem eqOk_inv {d : D} (e : eqOk d = true) : pd d = true ∧ SeqAt.shaped (toPy d) = true := by
  unfold eqOk at e
  simpa using e
theorem op_eqC (hK : X.K = C.K) (hu : X.A.units + 64 < cLine) : OpR X (compareOp .Eq) (rC C evEq) := by
  intro pins s σ H x y v u Q I rx ry ⟨Av, m, h, ex, ey, d, S, px, py, e, q⟩
  obtain ⟨k, e2, rfl⟩ := rC_inv e
  unfold evEq at e2
  split at e2
  · rename_i hs
    cases e2
    obtain ⟨h1, h2⟩ := scl_ok hs px py
    exact op_eq pins s σ H x y v u Q I rx ry ⟨h1, by rw [h2]; exact q _ m H S Keep.refl (.bl _)⟩
  · split at e2 <;> cases e2
    rename_i hs
    rw [Bool.and_eq_true] at hs
    obtain ⟨a1, a2⟩ := eqOk_inv hs.1
    obtain ⟨b1, b2⟩ := eqOk_inv hs.2
    exact op_eqD hu pins s σ H x y v u Q I rx ry ⟨_, _, by rw [hK]; exact px.dp a1, by rw [hK]; exact py.dp b1, a2, b2, q _ m H S Keep.refl (.bl _)⟩
theorem op_neC (hK : X.K = C.K) (hu : X.A.units + 64 < cLine) : OpR X (compareOp .NotEq) (rC C (ng evEq)) := by
  intro pins s σ H x y v u Q I rx ry ⟨Av, m, h, ex, ey, d, S, px, py, e, q⟩
  obtain ⟨k', e1, rfl⟩ := rC_inv e
  obtain ⟨k, e2, rfl⟩ := ng_inv e1
  unfold evEq at e2
  split at e2
  · rename_i hs
    cases e2
    obtain ⟨h1, h2⟩ := scl_ok hs px py
    exact op_ne pins s σ H x y v u Q I rx ry ⟨h1, by rw [h2]; exact q _ m H S Keep.refl (.bl _)⟩
  · split at e2 <;> cases e2
    rename_i hs
    rw [Bool.and_eq_true] at hs
    obtain ⟨a1, a2⟩ := eqOk_inv hs.1
    obtain ⟨b1, b2⟩ := eqOk_inv hs.2
    exact op_neD hu pins s σ H x y v u Q I rx ry ⟨_, _, by rw [hK]; exact px.dp a1, by rw [hK]; exact py.dp b1, a2, b2, q _ m H S Keep.refl (.bl _)⟩
theorem evCI_inv {f : Int → Int → Bool} {a b : D} {k : Bool} (e : evCI f a b = some k) : ∃ i j, a = .int i ∧ b = .int j ∧ k = f i j := by
  unfold evCI at e
  split at e
  · exact ⟨_, _, rfl, rfl, (Option.some.inj e).symm⟩
  · cases e
theorem op_ci {op : CmpOp} {f : Int → Int → Bool} (rule : OpR X (compareOp op) (rI0 fun i j => .bl (f i j))) : OpR X (compareOp op) (rC C (evCI f)) := by
  intro pins s σ H x y v u Q I rx ry ⟨Av, m, h, ex, ey, d, S, px, py, e, q⟩
  obtain ⟨k, e2, rfl⟩ := rC_inv e
  obtain ⟨i, j, rfl, rfl, rfl⟩ := evCI_inv e2
  cases px.int_inv
  cases py.int_inv
  exact rule pins s σ H _ _ v u Q I rx ry ⟨i, j, rfl, rfl, q _ m H S Keep.refl (.bl _)⟩
theorem RP.non_iff {a : D} {x : V} (p : RP C lv m H a x) : decide (x = .non) = decide (a = .non) := by
  cases p <;> simp
theorem evIs_inv {a b : D} {k : Bool} (e : evIs a b = some k) : b = .non ∧ k = decide (a = .non) := by
  unfold evIs at e
  split at e
  · exact ⟨rfl, (Option.some.inj e).symm⟩
  · cases e
theorem op_isC : OpR X (compareOp .Is) (rC C evIs) := by
  intro pins s σ H x y v u Q I rx ry ⟨Av, m, h, ex, ey, d, S, px, py, e, q⟩
  obtain ⟨k, e2, rfl⟩ := rC_inv e
  obtain ⟨rfl, rfl⟩ := evIs_inv e2
  cases py
  exact op_isN pins s σ H x _ v u Q I rx ry ⟨rfl, by rw [px.non_iff]; exact q _ m H S Keep.refl (.bl _)⟩
theorem op_notC : OpR X (compareOp .IsNot) (rC C (ng evIs)) := by
  intro pins s σ H x y v u Q I rx ry ⟨Av, m, h, ex, ey, d, S, px, py, e, q⟩
  obtain ⟨k', e1, rfl⟩ := rC_inv e
  obtain ⟨k, e2, rfl⟩ := ng_inv e1
  obtain ⟨rfl, rfl⟩ := evIs_inv e2
  cases py
  exact op_notN pins s σ H x _ v u Q I rx ry ⟨rfl, by rw [px.non_iff]; exact q _ m H S Keep.refl (.bl _)⟩
/-! ### x in a tuple, a list -/
theorem op_inT (hu : X.A.units + 65 < cLine) : OpR X (compareOp .In) (fun x y H Q => ∃ d ds, Dp X.K H x d ∧ Dp X.K H y (.tuple ds) ∧ SeqAt.shaped d = true ∧ SeqAt.shaped (.tuple ds) = true ∧ Q (.bl (ds.any fun z => PyData.eqv z d)) H) := by
  intro pins s σ H x y v u Q I rx ry h
  obtain ⟨d, ds, hd, he, sd, se, q⟩ := h
  obtain ⟨as, r1⟩ := Dp.reads I d x v hd rx
  obtain ⟨bs, r2⟩ := Dp.reads I (.tuple ds) y u he ry
  exact SeqAt.in_tuple_reads r2 r1 (SeqAt.canLay_of_shaped se) (SeqAt.canLay_of_shaped sd) (room_in_shaped sd hu) ⟨.bl _, H, I, rfl, q⟩
theorem op_notInT (hu : X.A.units + 65 < cLine) : OpR X (compareOp .NotIn) (fun x y H Q => ∃ d ds, Dp X.K H x d ∧ Dp X.K H y (.tuple ds) ∧ SeqAt.shaped d = true ∧ SeqAt.shaped (.tuple ds) = true ∧ Q (.bl (!ds.any fun z => PyData.eqv z d)) H) := by
  intro pins s σ H x y v u Q I rx ry h
  obtain ⟨d, ds, hd, he, sd, se, q⟩ := h
  obtain ⟨as, r1⟩ := Dp.reads I d x v hd rx
  obtain ⟨bs, r2⟩ := Dp.reads I (.tuple ds) y u he ry
  exact SeqAt.notIn_tuple_reads r2 r1 (SeqAt.canLay_of_shaped se) (SeqAt.canLay_of_shaped sd) (room_in_shaped sd hu) ⟨.bl _, H, I, rfl, q⟩
theorem any_toPys (x : D) : ∀ ys : List D, (toPys ys).any (fun z => PyData.eqv z (toPy x)) = ys.any fun y => pyEq y x
  | [] => rfl
  | y :: ys => by
    rw [toPys, List.any_cons, List.any_cons, any_toPys x ys]
    rfl
end
end M
end

section
set_option Elab.async false
set_option linter.all false
set_option maxRecDepth 100000
set_option maxHeartbeats 4000000
/-! DictN: dicts whose keys are tuples (nested), in the abstract heap. -/
namespace M
open PySem PySem.Spec PyProof.Rows L2
mutual
theorem nkey_inj : ∀ {a b : D}, pl a = true → pl b = true → nkey a = nkey b → a = b
  | .non, b, _, hb, e => by cases b <;> simp_all [nkey, pl]
  | .int i, b, _, hb, e => by cases b <;> simp_all [nkey, pl]
  | .str x, b, _, hb, e => by
    cases b with
    | str y =>
      simp only [nkey, NestedKey.text.injEq] at e
      exact congrArg D.str ((str_eq x y).mp e)
    | _ => simp_all [nkey, pl]
  | .tup x, b, ha, hb, e => by
    cases b with
    | tup y =>
      simp only [nkey, NestedKey.tup.injEq] at e
      exact congrArg D.tup (nkeys_inj (by simpa [pl] using ha) (by simpa [pl] using hb) e)
    | _ => simp_all [nkey, pl]
  | .bl _, _, ha, _, _ => by simp [pl] at ha
  | .lst _, _, ha, _, _ => by simp [pl] at ha
  | .rol _, _, ha, _, _ => by simp [pl] at ha
  | .dic _ _ _, _, ha, _, _ => by simp [pl] at ha
  | .ins _ _ _, _, ha, _, _ => by simp [pl] at ha
  | .ref _, _, ha, _, _ => by simp [pl] at ha
  | .exn _ _, _, ha, _, _ => by simp [pl] at ha
theorem nkeys_inj : ∀ {a b : List D}, pls a = true → pls b = true → nkeys a = nkeys b → a = b
  | [], b, _, _, e => by cases b <;> simp_all [nkeys]
  | a :: x, b, ha, hb, e => by
    cases b with
    | nil => simp [nkeys] at e
    | cons c y =>
      simp only [nkeys, List.cons.injEq] at e
      simp only [pls, Bool.and_eq_true] at ha hb
      rw [nkey_inj ha.1 hb.1 e.1, nkeys_inj ha.2 hb.2 e.2]
end
mutual
theorem nkey_depth : ∀ (a : D), (nkey a).depth ≤ (toPy a).depth
  | .non => Nat.le_refl _
  | .int i => Nat.le_refl _
  | .str x => Nat.le_refl _
  | .tup x => by
    have := nkeys_depth x
    simp only [nkey, toPy, NestedKey.depth, PyData.depth]
    omega
  | .bl _ => Nat.zero_le _
  | .lst _ => Nat.zero_le _
  | .rol _ => Nat.zero_le _
  | .dic _ _ _ => Nat.zero_le _
  | .ins _ _ _ => Nat.zero_le _
  | .ref _ => Nat.zero_le _
  | .exn _ _ => Nat.zero_le _
theorem nkeys_depth : ∀ (a : List D), NestedKey.depthAll (nkeys a) ≤ PyData.depthAll (toPys a)
  | [] => Nat.le_refl _
  | a :: x => by
    have h1 := nkey_depth a
    have h2 := nkeys_depth x
    simp only [nkeys, toPys, NestedKey.depthAll, PyData.depthAll]
    omega
end
section
variable {C : Pc} {lv : Addr → Prop} {m : List Addr} {H : Hp} {X : Cx} {pins : List (Addr × Obj)} {σ : L2.St} {s : Shared} {A : Around} {E : Value → Shared → Prop}
mutual
theorem key_is (I : Inv X pins σ H s) (hK : X.K = C.K) : ∀ {d : D} {v : V} {u : Value}, pl d = true → RV C lv m H d v → RelV v u → NestedIs s.heap (nkey d) u
  | _, _, _, _, .non, r => by cases (show _ = Value.none from r); exact .none
  | _, _, _, _, .int i, r => by obtain ⟨t, e⟩ := r; subst e; exact .int _ _
  | _, _, _, _, .str x, r => by obtain ⟨t, e⟩ := r; subst e; exact .text _ _
  | _, _, _, p, .tup h q, r => by
    cases (show _ = Value.ref _ from r)
    rw [← hK] at h
    obtain ⟨its, rv, ⟨o, ho, hc, n, hd⟩, _⟩ := I.tuple h
    exact .tup ho hc hd (by simpa using keys_are I hK (by simpa [pl] using p) q rv)
  | _, _, _, p, .bl _, _ => by simp [pl] at p
  | _, _, _, p, .lst _ _ _, _ => by simp [pl] at p
  | _, _, _, p, .rol _ _, _ => by simp [pl] at p
  | _, _, _, p, .dicK _ _ _, _ => by simp [pl] at p
  | _, _, _, p, .dicT _ _ _, _ => by simp [pl] at p
  | _, _, _, p, .ins _ _ _ _ _, _ => by simp [pl] at p
  | _, _, _, p, .ref _, _ => by simp [pl] at p
theorem keys_are (I : Inv X pins σ H s) (hK : X.K = C.K) : ∀ {d : List D} {v : List V} {u : List Value}, pls d = true → RVs C lv m H d v → Vals v u → NestedAll s.heap (nkeys d) u
  | _, _, _, _, .nil, r => by cases r; exact .nil
  | _, _, _, p, .cons h q, r => by
    simp only [pls, Bool.and_eq_true] at p
    cases r with
    | cons r1 r2 => exact .cons (key_is I hK p.1 h r1) (keys_are I hK p.2 q r2)
end
theorem keyOk_t {k : D} (h : keyOk true k = true) : ∃ xs, k = .tup xs ∧ pl k = true ∧ (nkey k).depth ≤ 8 := by
  cases k <;> simp [keyOk] at h
  rename_i xs
  refine ⟨xs, rfl, by simpa [pl] using h.1, ?_⟩
  exact Nat.le_trans (nkey_depth _) h.2
theorem key_kind (I : Inv X pins σ H s) (hK : X.K = C.K) {k : D} {b : Addr} (h : keyOk true k = true) (r : RV C lv m H k (.ref b)) : (nestedKind X.prog X.w).is s.heap (nkey k) b := by
  obtain ⟨xs, e, p, l⟩ := keyOk_t h
  exact ⟨key_is I hK p r rfl, l⟩
theorem RVk.kinds (I : Inv X pins σ H s) (hK : X.K = C.K) : ∀ {ks xs : List D} {es : List KE3} {us : List (NestedKey × Addr × Value)}, RVk C lv m H ks xs es → Paired entR es us → ∀ x ∈ us, (nestedKind X.prog X.w).is s.heap x.1 x.2.1
  | _, _, _, _, .nil, .nil => fun x hx => nomatch hx
  | _, _, _, _, .cons o k h r, .cons p q => fun x hx => by
    rcases List.mem_cons.mp hx with e | hx
    · subst e
      obtain ⟨e1, e2, _⟩ := p
      rw [← e1, ← e2]
      exact key_kind I hK o k
    · exact RVk.kinds I hK r q x hx
theorem dN_of (I : Inv X pins σ H s) (hK : X.K = C.K) {d : Addr} {ks xs : List D} {es : List KE3} (e : H d = some (dHO X.prog X.w d es)) (r : RVk C lv m H ks xs es) :
    es.length ≤ sizeLine ∧ (d == sysModules) = false ∧ ∃ us, Paired entR es us ∧ s.heap.DictOfH (nestedKind X.prog X.w) d us := by
  obtain ⟨⟨y, z, us, pr, o, ds, ep, h1, h2, h3, h4, h5⟩, _⟩ := (show ObjOk X.prog X.w H s.heap d (dHO X.prog X.w d es) from I.hok d _ e)
  exact ⟨z, y, us, pr, o, ds, ep, h1, h2, h3, h4, r.kinds I hK pr, h5⟩
/-! ### look-up -/
theorem atKey_cons {q : NestedKey × Addr × Value} {qs : List (NestedKey × Addr × Value)} {k : NestedKey} : atKey (q :: qs) k = if q.1 = k then some q.2 else atKey qs k := by
  by_cases e : q.1 = k
  · simp [atKey, List.find?_cons, e]
  · simp [atKey, List.find?_cons, e]
theorem RVk.get {k : D} (p : pl k = true) : ∀ {ks xs : List D} {es : List KE3} {us : List (NestedKey × Addr × Value)}, RVk C lv m H ks xs es → Paired entR es us →
    (∀ v, dget ks xs k = some v → ∃ q v', atKey us (nkey k) = some q ∧ RV C lv m H v v' ∧ RelV v' q.2) ∧ (dget ks xs k = none → atKey us (nkey k) = none)
  | _, _, _, _, .nil, .nil => ⟨fun v e => by simp [dget] at e, fun _ => rfl⟩
  | _, _, _, _, .cons (k := k') (ds := ds) (ks := ks') (d := d') o kk h r, .cons (b := u) pp q => by
    obtain ⟨e1, e2, e3⟩ := pp
    obtain ⟨a1, a2⟩ := RVk.get p r q
    obtain ⟨_, _, pk, _⟩ := keyOk_t o
    rw [atKey_cons]
    simp only [dget]
    by_cases e : D.tup k' = k
    · rw [if_pos e, if_pos (by rw [← e1, ← e])]
      refine ⟨fun v hv => ?_, fun hv => nomatch hv⟩
      cases hv
      exact ⟨u.2, _, rfl, h, e3⟩
    · rw [if_neg e, if_neg (fun z => e (nkey_inj pk p (e1.trans z)))]
      exact ⟨a1, a2⟩
theorem dget_mem {k : D} : ∀ {ks xs : List D}, ks.length = xs.length → ((dget ks xs k).isSome = decide (k ∈ ks))
  | [], [], _ => by simp [dget]
  | a :: ks, [], h => by simp at h
  | [], b :: xs, h => by simp at h
  | a :: ks, b :: xs, h => by
    have ih := dget_mem (k := k) (ks := ks) (xs := xs) (by simpa using h)
    simp only [dget]
    by_cases e : a = k
    · simp [e]
    · rw [if_neg e, ih]
      have : (k ∈ a :: ks) ↔ k ∈ ks := by
        rw [List.mem_cons]
        exact ⟨fun z => z.elim (fun z => absurd z.symm e) id, .inr⟩
      simp [this]
theorem RVk.lens : ∀ {ks xs : List D} {es : List KE3}, RVk C lv m H ks xs es → ks.length = xs.length ∧ es.length = ks.length
  | _, _, _, .nil => ⟨rfl, rfl⟩
  | _, _, _, .cons _ _ _ r => by
    obtain ⟨a, b⟩ := RVk.lens r
    exact ⟨by simp [a], by simp [b]⟩
/-! ### storing -/
def putE : List KE3 → NestedKey → Addr → V → List KE3
  | [], k, b, v => [(k, b, v)]
  | e :: es, k, b, v => if e.1 = k then (e.1, e.2.1, v) :: es else e :: putE es k b v
theorem putE_len (k : NestedKey) (b : Addr) (v : V) : ∀ es : List KE3, (putE es k b v).length ≤ es.length + 1
  | [] => Nat.le_refl _
  | e :: es => by
    have := putE_len k b v es
    unfold putE
    split
    · simp
    · simp only [List.length_cons]; omega
theorem storedH_cons {q : NestedKey × Addr × Value} {qs : List (NestedKey × Addr × Value)} {k : NestedKey} {b : Addr} {u : Value} (hn : ((q :: qs).map (·.1)).Nodup) :
    storedH (q :: qs) k b u = if q.1 = k then (q.1, q.2.1, u) :: qs else q :: storedH qs k b u := by
  rw [List.map_cons, List.nodup_cons] at hn
  by_cases e : q.1 = k
  · rw [if_pos e]
    unfold storedH
    rw [atKey_cons, if_pos e, if_pos (show (some q.2).isSome = true from rfl), List.map_cons, map_putAt_of_not_mem qs k u (by rw [← e]; exact hn.1)]
    unfold putAt
    rw [if_pos e]
  · rw [if_neg e]
    unfold storedH
    rw [atKey_cons, if_neg e]
    split
    · rw [List.map_cons]
      unfold putAt
      rw [if_neg e]
    · rfl
theorem ent_put {k : NestedKey} {b : Addr} {v : V} {u : Value} (r : RelV v u) : ∀ {es : List KE3} {us : List (NestedKey × Addr × Value)}, Paired entR es us → (us.map (·.1)).Nodup → Paired entR (putE es k b v) (storedH us k b u)
  | _, _, .nil, _ => .cons ⟨rfl, rfl, r⟩ .nil
  | _, _, .cons p q, hn => by
    rw [storedH_cons hn]
    unfold putE
    obtain ⟨e1, e2, e3⟩ := p
    rw [e1]
    split
    · exact .cons ⟨rfl, e2, r⟩ q
    · rw [List.map_cons, List.nodup_cons] at hn
      exact .cons ⟨e1, e2, e3⟩ (ent_put r q hn.2)
theorem RVk.put {k y : D} {b : Addr} {v : V} (o : keyOk true k = true) (rk : RV C lv m H k (.ref b)) (rv : RV C lv m H y v) : ∀ {ks xs : List D} {es : List KE3}, RVk C lv m H ks xs es → RVk C lv m H (dput ks xs k y).1 (dput ks xs k y).2 (putE es (nkey k) b v)
  | _, _, _, .nil => by
    obtain ⟨xs, e, _, _⟩ := keyOk_t o
    subst e
    exact .cons o rk rv .nil
  | _, _, _, .cons (k := k') o' kk h r => by
    obtain ⟨_, _, p, _⟩ := keyOk_t o
    obtain ⟨_, _, pk, _⟩ := keyOk_t o'
    unfold putE
    simp only [dput]
    by_cases e : D.tup k' = k
    · rw [if_pos e, if_pos (by rw [← e])]
      exact .cons o' kk rv r
    · rw [if_neg e, if_neg (fun z => e (nkey_inj pk p z))]
      exact .cons o' kk h (RVk.put o rk rv r)
/-! ### rules -/
theorem roomN {A : Around} (hu : A.units + 64 < cLine) : (nestedKind X.prog X.w).room A.in1 := by show A.units + 1 + 8 < cLine; omega
theorem dN_in (hu : A.units + 64 < cLine) (I : Inv X pins σ H s) (hK : X.K = C.K) {d b : Addr} {k : D} {ks xs : List D} {es : List KE3} {Q : Value → Shared → Prop} (e : H d = some (dHO X.prog X.w d es)) (r : RVk C lv m H ks xs es)
    (o : keyOk true k = true) (rk : RV C lv m H k (.ref b)) (h : ∀ s', Inv X pins σ H s' → Q (.bool (decide (k ∈ ks))) s') : wpAny (model X.prog X.w) A (compareOp .In (.ref b) (.ref d)) Q E s := by
  obtain ⟨z, hd, us, pr, dd⟩ := dN_of I hK e r
  obtain ⟨_, _, p, _⟩ := keyOk_t o
  refine wpAny_in_heap (roomN hu) (key_kind I hK o rk) hd dd ?_
  have q : (atKey us (nkey k)).isSome = decide (k ∈ ks) := by
    obtain ⟨a1, a2⟩ := r.get p pr
    rw [← dget_mem r.lens.1]
    cases g : dget ks xs k with
    | none => rw [a2 g]; rfl
    | some v => obtain ⟨q, v', e1, _⟩ := a1 v g; rw [e1]; rfl
  rw [q]
  exact h _ (I.tok _)
theorem dN_notIn (hu : A.units + 64 < cLine) (I : Inv X pins σ H s) (hK : X.K = C.K) {d b : Addr} {k : D} {ks xs : List D} {es : List KE3} {Q : Value → Shared → Prop} (e : H d = some (dHO X.prog X.w d es)) (r : RVk C lv m H ks xs es)
    (o : keyOk true k = true) (rk : RV C lv m H k (.ref b)) (h : ∀ s', Inv X pins σ H s' → Q (.bool (!decide (k ∈ ks))) s') : wpAny (model X.prog X.w) A (compareOp .NotIn (.ref b) (.ref d)) Q E s := by
  obtain ⟨z, hd, us, pr, dd⟩ := dN_of I hK e r
  obtain ⟨_, _, p, _⟩ := keyOk_t o
  refine wpAny_notIn_heap (roomN hu) (key_kind I hK o rk) hd dd ?_
  have q : (atKey us (nkey k)).isSome = decide (k ∈ ks) := by
    obtain ⟨a1, a2⟩ := r.get p pr
    rw [← dget_mem r.lens.1]
    cases g : dget ks xs k with
    | none => rw [a2 g]; rfl
    | some v => obtain ⟨q, v', e1, _⟩ := a1 v g; rw [e1]; rfl
  rw [q]
  exact h _ (I.tok _)
theorem dN_getItem (hu : A.units + 64 < cLine) (I : Inv X pins σ H s) (hK : X.K = C.K) {d b : Addr} {k v : D} {ks xs : List D} {es : List KE3} {Q : Value → Shared → Prop} (e : H d = some (dHO X.prog X.w d es)) (r : RVk C lv m H ks xs es)
    (o : keyOk true k = true) (rk : RV C lv m H k (.ref b)) (g : dget ks xs k = some v) (h : ∀ v' u s', Inv X pins σ H s' → RV C lv m H v v' → RelV v' u → Q u s') : wpAny (model X.prog X.w) A (getItem (.ref d) (.ref b)) Q E s := by
  obtain ⟨z, hd, us, pr, dd⟩ := dN_of I hK e r
  obtain ⟨_, _, p, _⟩ := keyOk_t o
  obtain ⟨q, v', e1, e2, e3⟩ := (r.get p pr).1 v g
  exact wpAny_getItem_heap (roomN hu) (key_kind I hK o rk) dd e1 (h v' _ _ (I.tok _) e2 e3)
theorem dHO_ok {P : Program} {w : World} {H' : Hp} {h' : Heap} {d : Addr} {es : List KE3} {us : List (NestedKey × Addr × Value)} (hd : (d == sysModules) = false) (z : es.length ≤ sizeLine) (pr : Paired entR es us) (dd : h'.DictOfH (nestedKind P w) d us) : ObjOk P w H' h' d (dHO P w d es) := by
  obtain ⟨o, ds, ep, h1, h2, h3, h4, _, h5⟩ := dd
  refine ⟨⟨hd, z, us, pr, o, ds, ep, h1, h2, h3, h4, h5⟩, ⟨o, h1⟩, fun g g' ⟨a1, a2, us', b1, o', ds', ep', c1, c2, c3, c4, c5⟩ k => ?_⟩
  exact ⟨a1, a2, us', b1, o', ds', ep', k _ c1, c2, c3, c4, c5⟩
theorem dN_setItem (hu : A.units + 64 < cLine) (I : Inv X pins σ H s) (hK : X.K = C.K) {d b : Addr} {k : D} {v : V} {u : Value} {ks xs : List D} {es : List KE3} {Q : Unit → Shared → Prop} (e : H d = some (dHO X.prog X.w d es)) (r : RVk C lv m H ks xs es)
    (o : keyOk true k = true) (rk : RV C lv m H k (.ref b)) (ru : RelV v u) (l : es.length < sizeLine) (h : ∀ s', Inv X pins σ (upd H d (dHO X.prog X.w d (putE es (nkey k) b v))) s' → Q () s') : wpAny (model X.prog X.w) A (setItem (.ref d) (.ref b) u) Q E s := by
  obtain ⟨z, hd, us, pr, dd⟩ := dN_of I hK e r
  have hz : us.length ≤ sizeLine := by rw [← Paired.length pr]; exact z
  have hn : (us.map (·.1)).Nodup := by obtain ⟨_, _, _, _, _, _, _, _, q⟩ := dd; exact q
  refine wpAny_setItem_heap (hsz := hz) (roomN hu) (key_kind I hK o rk) dd fun h' dd' hs => h _ ?_
  have he : ∃ q, h'.get? d = some q := let ⟨q, _, _, hq, _⟩ := dd'; ⟨q, hq⟩
  exact d_write I (by rw [e]; exact True.intro) hs he (dHO_ok hd (by have := putE_len (nkey k) b v es; omega) (ent_put ru pr hn) dd')
theorem dN_empty {P : Program} {w : World} {H : Hp} (h : Heap) (hb : sysModules < h.objs.size) : ObjOk P w H (h.push { cls := .type "dict", data := .dict #[] }) h.objs.size (dHO P w h.objs.size []) :=
  dHO_ok (beq_eq_false_iff_ne.mpr (Ne.symm (Nat.ne_of_lt hb))) (Nat.zero_le _) .nil (Heap.DictOfH.new h)
theorem pe_dnewN {pos : Pos} : PE X (.Dict [] [] pos) (fun _ H Q => ∀ p, H p = none → Q (.ref p) (upd H p (dHO X.prog X.w p []))) := ⟨fun pins s σ H Q I h =>
  wpAny_Dict_empty ⟨.ref s.heap.objs.size, _, I.laid (a := s.heap.objs.size) (o := dHO X.prog X.w s.heap.objs.size []) (t' := s.toks) (fun _ _ q => Heap.get?_push_of_some _ q) (Nat.le_refl _) (dN_empty s.heap I.big), rfl, h _ (I.hok.fresh (Nat.le_refl _))⟩⟩
end
end M
end

section
set_option Elab.async false
set_option linter.all false
set_option maxRecDepth 100000
set_option maxHeartbeats 4000000
/-! Snd4: in, subscripts, slices, built-ins by values. -/
namespace M
open PySem PySem.Spec PyProof.Rows L2
structure On (X : Cx) (C : Pc) : Prop where
  P : X.prog = C.P
  w : X.w = C.w
  K : X.K = C.K
  u : X.A.units + 65 < cLine
section
variable {C : Pc} {T : Tb} {W : WX} {Av : Addr → Prop} {m m1 : List Addr} {h h1 : Hs} {H H1 : Hp} {σ : L2.St} {ρ : Rho} {lv : Addr → Prop} {X : Cx}
theorem On.dn (o : On X C) {d : Addr} {es : List KE3} (e : H d = some (dHO C.P C.w d es)) : H d = some (dHO X.prog X.w d es) := by rw [o.P, o.w]; exact e
theorem RP.tupr {k : List D} {v : V} (r : RP C lv m H (.tup k) v) : ∃ b, v = .ref b ∧ RV C lv m H (.tup k) (.ref b) := by
  cases r with
  | tup a b => exact ⟨_, rfl, .tup a b⟩
theorem evIn_inv {x c : D} {k : Bool} (e : evIn x c = some k) : (∃ ys, c = .tup ys ∧ eqOk x = true ∧ eqOk (.tup ys) = true ∧ k = ys.any fun y => pyEq y x) ∨ (∃ ys, c = .lst ys ∧ eqOk x = true ∧ eqOk (.lst ys) = true ∧ k = ys.any fun y => pyEq y x) ∨
    ∃ t ks vs, c = .dic t ks vs ∧ keyOk t x = true ∧ k = decide (x ∈ ks) := by
  unfold evIn at e
  split at e
  · split at e
    · rename_i hc
      simp only [Bool.and_eq_true] at hc
      exact .inl ⟨_, rfl, hc.1.1, hc.2, (Option.some.inj e).symm⟩
    · cases e
  · split at e
    · rename_i hc
      simp only [Bool.and_eq_true] at hc
      exact .inr (.inl ⟨_, rfl, hc.1.1, hc.2, (Option.some.inj e).symm⟩)
    · cases e
  · split at e
    · rename_i hc
      exact .inr (.inr ⟨_, _, _, rfl, hc, (Option.some.inj e).symm⟩)
    · cases e
  · cases e
theorem keyOk_ft {t : Bool} {x : D} (e : keyOk t x = true) : t = true ∧ ∃ k, x = .tup k := by
  unfold keyOk at e
  split at e
  · exact ⟨rfl, _, rfl⟩
  · cases e
theorem op_inC (o : On X C) : OpR X (compareOp .In) (rC C evIn) := by
  intro pins s σ H x y v u Q I rx ry ⟨Av, m, h, ex, ey, d, S, px, py, e, q⟩
  obtain ⟨k, e2, rfl⟩ := rC_inv e
  rcases evIn_inv e2 with ⟨ys, rfl, a1, a2, rfl⟩ | ⟨ys, rfl, a1, a2, rfl⟩ | ⟨t, ks, vs, rfl, a1, rfl⟩
  · obtain ⟨p1, p2⟩ := eqOk_inv a1
    obtain ⟨p3, p4⟩ := eqOk_inv a2
    exact op_inT o.u pins s σ H x y v u Q I rx ry ⟨_, _, by rw [o.K]; exact px.dp p1, by rw [o.K]; exact py.dp p3, p2, p4, by rw [any_toPys]; exact q _ m H S Keep.refl (.bl _)⟩
  · obtain ⟨p1, p2⟩ := eqOk_inv a1
    obtain ⟨p3, p4⟩ := eqOk_inv a2
    exact op_inD o.u pins s σ H x y v u Q I rx ry ⟨_, _, by rw [o.K]; exact px.dp p1, by rw [o.K]; exact py.dp p3, p2, p4, by rw [any_toPys]; exact q _ m H S Keep.refl (.bl _)⟩
  · obtain ⟨rfl, k, rfl⟩ := keyOk_ft a1
    obtain ⟨b, rfl, rb⟩ := px.tupr
    cases py with
    | dicT hd rk =>
      cases rx
      cases ry
      exact dN_in (by have := o.u; omega) I o.K (o.dn hd) rk a1 rb fun s' I' => ⟨.bl _, H, I', rfl, q _ m H S Keep.refl (.bl _)⟩
theorem op_ninC (o : On X C) : OpR X (compareOp .NotIn) (rC C (ng evIn)) := by
  intro pins s σ H x y v u Q I rx ry ⟨Av, m, h, ex, ey, d, S, px, py, e, q⟩
  obtain ⟨k', e1, rfl⟩ := rC_inv e
  obtain ⟨k, e2, rfl⟩ := ng_inv e1
  rcases evIn_inv e2 with ⟨ys, rfl, a1, a2, rfl⟩ | ⟨ys, rfl, a1, a2, rfl⟩ | ⟨t, ks, vs, rfl, a1, rfl⟩
  · obtain ⟨p1, p2⟩ := eqOk_inv a1
    obtain ⟨p3, p4⟩ := eqOk_inv a2
    exact op_notInT o.u pins s σ H x y v u Q I rx ry ⟨_, _, by rw [o.K]; exact px.dp p1, by rw [o.K]; exact py.dp p3, p2, p4, by rw [any_toPys]; exact q _ m H S Keep.refl (.bl _)⟩
  · obtain ⟨p1, p2⟩ := eqOk_inv a1
    obtain ⟨p3, p4⟩ := eqOk_inv a2
    exact op_notInD o.u pins s σ H x y v u Q I rx ry ⟨_, _, by rw [o.K]; exact px.dp p1, by rw [o.K]; exact py.dp p3, p2, p4, by rw [any_toPys]; exact q _ m H S Keep.refl (.bl _)⟩
  · obtain ⟨rfl, k, rfl⟩ := keyOk_ft a1
    obtain ⟨b, rfl, rb⟩ := px.tupr
    cases py with
    | dicT hd rk =>
      cases rx
      cases ry
      exact dN_notIn (by have := o.u; omega) I o.K (o.dn hd) rk a1 rb fun s' I' => ⟨.bl _, H, I', rfl, q _ m H S Keep.refl (.bl _)⟩
def astC2 : C2 → CmpOp
  | .eq => .Eq | .ne => .NotEq | .lt => .Lt | .le => .LtE | .gt => .Gt | .ge => .GtE | .isn => .Is | .notn => .IsNot | .inn => .In | .nin => .NotIn
theorem op_C2 (o : On X C) : ∀ p : C2, OpR X (compareOp (astC2 p)) (rC C (evC2 p))
  | .eq => op_eqC o.K (by have := o.u; omega)
  | .ne => op_neC o.K (by have := o.u; omega)
  | .isn => op_isC
  | .notn => op_notC
  | .inn => op_inC o
  | .nin => op_ninC o
  | .lt => op_ci op_lt
  | .le => op_ci op_le
  | .gt => op_ci op_gt
  | .ge => op_ci op_ge
/-! ### subscripts -/
theorem RVs.atI {xs : List D} {vs : List V} (r : RVs C lv m H xs vs) {i : Int} {d : D} (e : atD xs i = some d) : ∃ v, L2.atI vs i = some v ∧ RV C lv m H d v := by
  unfold atD at e
  unfold L2.atI
  obtain ⟨j, e1, e2⟩ := Option.bind_eq_some_iff.mp e
  obtain ⟨v, h1, h2⟩ := r.get e2
  refine ⟨v, ?_, h2⟩
  rw [← r.length, show ixN xs.length i = some j from e1]
  exact h1
theorem ix_C (o : On X C) : IxR X (rB C evIdx) := by
  intro value slice pins s σ H x y v u Q I rx ry ⟨Av, m, h, ex, ey, d, S, px, py, e, q⟩ hs
  unfold evIdx at e
  split at e
  · cases py.int_inv
    cases px with
    | tup a b =>
      obtain ⟨z, e1, e2⟩ := b.atI e
      exact ix_tup value slice pins s σ H _ _ v u Q I rx ry ⟨_, _, _, _, rfl, rfl, by rw [o.K]; exact a, e1, q _ m H S Keep.refl e2⟩ hs
  · cases py.int_inv
    cases px with
    | lst a b =>
      obtain ⟨z, e1, e2⟩ := b.atI e
      exact ix_list value slice pins s σ H _ _ v u Q I rx ry ⟨_, _, _, _, rfl, rfl, SqL.of a, e1, q _ m H S Keep.refl e2⟩ hs
  · cases py.int_inv
    cases px with
    | rol a b =>
      obtain ⟨z, e1, e2⟩ := b.atI e
      exact ix_list value slice pins s σ H _ _ v u Q I rx ry ⟨_, _, _, _, rfl, rfl, by rw [o.K]; exact a, e1, q _ m H S Keep.refl e2⟩ hs
  · split at e
    · rename_i ks vs k hk
      obtain ⟨rfl, k', rfl⟩ := keyOk_ft hk
      obtain ⟨b, rfl, rb⟩ := py.tupr
      cases px with
      | dicT hd rk =>
        cases rx
        cases ry
        obtain ⟨_, _, us, pr, dd⟩ := dN_of I o.K (o.dn hd) rk
        exact tail_any dd.typeIs PySem.F.slot_dict_getitem.lookup (dN_getItem (by have := o.u; omega) I o.K (o.dn hd) rk hk rb e fun v' u' s' I' r' rr => ⟨v', H, I', rr, q _ m H S Keep.refl r'⟩) hs
    · cases e
  · cases e
/-! ### slices -/
def rS (C : Pc) (f : D → Option Int → Option Int → Option D) : V → Option Int → Option Int → Hp → VK → Prop := fun x lo hi H Q => ∃ Av m h ex d, SR C Av m h H ∧ RP C (lvs Av m h) m H ex x ∧ f ex lo hi = some d ∧
  ∀ v m' H', SR C Av m' h H' → Keep m h H m' h H' → RV C (lvs Av m' h) m' H' d v → Q v H'
theorem RVs.cut {xs : List D} {vs : List V} (r : RVs C lv m H xs vs) (lo hi : Option Int) : RVs C lv m H (cutD xs lo hi) (cutV vs lo hi) := by
  unfold cutD cutV
  rw [← r.length]
  exact (r.drop _).take _
theorem cut_whole {xs : List D} {lo hi : Option Int} (w : M.sIx xs.length 0 lo = 0 ∧ M.sIx xs.length xs.length hi = xs.length) : cutD xs lo hi = xs := by
  unfold cutD
  rw [w.1, w.2, List.drop_zero, Nat.sub_zero, List.take_length]
theorem sl_C (o : On X C) : SlR X (rS C evSlc) := by
  intro pins s σ H x v vl vu lo hi sl Q I rx hs pl pu ⟨Av, m, h, ex, d, S, px, e, q⟩
  unfold evSlc at e
  split at e
  · cases e
    cases px with
    | tup a b =>
      refine sl_tupA pins s σ H _ v vl vu lo hi sl Q I rx hs pl pu ⟨_, _, rfl, by rw [o.K]; exact a, fun w => ?_, fun w p np => ?_⟩
      · rw [← b.length] at w
        rw [cut_whole w] at q
        exact q _ m H S Keep.refl (.tup a b)
      · exact q _ m _ (S.new np) (keep_new np) (RV.newTup np (b.cut _ _))
  · cases e
    cases px with
    | lst a b =>
      exact sl_list pins s σ H _ v vl vu lo hi sl Q I rx hs pl pu ⟨_, _, rfl, SqL.of a, fun p np => q _ m _ (S.new np) (keep_new np) (RV.newLst S np (b.cut _ _))⟩
  · cases e
end
end M
end

section
set_option Elab.async false
set_option linter.all false
set_option maxRecDepth 100000
set_option maxHeartbeats 4000000
/-! Snd5: built-in functions by values. -/
namespace M
open PySem PySem.Spec PyProof.Rows L2
section
variable {C : Pc} {T : Tb} {W : WX} {Av : Addr → Prop} {m m1 : List Addr} {h h1 : Hs} {H H1 : Hp} {σ : L2.St} {ρ : Rho} {lv : Addr → Prop} {X : Cx}
def rA1 (C : Pc) (f : D → Option D) : List V → Hp → VK → Prop := fun xs H Q => ∃ x, xs = [x] ∧ rU1 C f x H Q
def rA2 (C : Pc) (f : D → D → Option D) : List V → Hp → VK → Prop := fun xs H Q => ∃ x y, xs = [x, y] ∧ rB C f x y H Q
theorem dN_len {pins : List (Addr × Obj)} {s : Shared} {A : Around} {E : Value → Shared → Prop} (I : Inv X pins σ H s) (hK : X.K = C.K) {d : Addr} {ks xs : List D} {es : List KE3} {Q : Value → Shared → Prop} (e : H d = some (dHO X.prog X.w d es)) (r : RVk C lv m H ks xs es)
    (h : ∀ u s', Inv X pins σ H s' → RelV (.int ks.length) u → Q u s') : wpAny (model X.prog X.w) A (call (.builtin "len") [.ref d]) Q E s := by
  obtain ⟨z, hd, us, pr, dd⟩ := dN_of I hK e r
  have hl : us.length = ks.length := by rw [← Paired.length pr, r.lens.2]
  have hz : us.length ≤ sizeLine := by rw [← Paired.length pr]; exact z
  refine call_len_dictH hd dd (by rw [sizeLine_eq] at hz; omega) (h _ _ (I.tok _) ⟨_, by rw [hl]⟩)
theorem call_lenC (o : On X C) : CallR X (.builtin "len") (rA1 C evLen) := by
  intro pins s σ H xs us Q I r ⟨x, ex, Av, m, h, e0, d, S, px, e, q⟩
  subst ex
  unfold evLen at e
  split at e
  · cases e
    cases px with
    | tup a b => exact call_len pins s σ H _ us Q I r ⟨_, _, rfl, .inr ⟨_, by rw [o.K]; exact a, rfl⟩, by rw [← b.length]; exact q _ m H S Keep.refl (.int _)⟩
  · cases e
    cases px with
    | lst a b => exact call_len pins s σ H _ us Q I r ⟨_, _, rfl, .inl ⟨_, SqL.of a, rfl⟩, by rw [← b.length]; exact q _ m H S Keep.refl (.int _)⟩
  · cases e
    cases px with
    | rol a b => exact call_len pins s σ H _ us Q I r ⟨_, _, rfl, .inl ⟨_, by rw [o.K]; exact a, rfl⟩, by rw [← b.length]; exact q _ m H S Keep.refl (.int _)⟩
  · cases e
    cases px with
    | dicT hd rk =>
      obtain ⟨u, rfl, ru⟩ := vals1 r
      cases (show u = Value.ref _ from ru)
      exact dN_len I o.K (o.dn hd) rk fun u' s' I' r' => ⟨_, H, I', r', q _ m H S Keep.refl (.int _)⟩
  · cases e
theorem call_tupleC (o : On X C) : CallR X (.type "tuple") (rA1 C evTuple) := by
  intro pins s σ H xs us Q I r ⟨x, ex, Av, m, h, e0, d, S, px, e, q⟩
  subst ex
  unfold evTuple at e
  split at e
  · cases e
    cases px with
    | tup a b => exact call_tuple_of pins s σ H _ us Q I r ⟨_, _, rfl, .inr ⟨by rw [o.K]; exact a, q _ m H S Keep.refl (.tup a b)⟩⟩
  · cases e
    cases px with
    | lst a b => exact call_tuple_of pins s σ H _ us Q I r ⟨_, _, rfl, .inl ⟨SqL.of a, fun p np => q _ m _ (S.new np) (keep_new np) (RV.newTup np b)⟩⟩
  · cases e
/-- list(d): its keys -/
theorem RVk.keysV : ∀ {ks xs : List D} {es : List KE3}, RVk C lv m H ks xs es → RVs C lv m H ks (es.map fun e => V.ref e.2.1)
  | _, _, _, .nil => .nil
  | _, _, _, .cons _ k _ r => .cons k (RVk.keysV r)
theorem refs_eq {es : List KE3} {us : List (NestedKey × Addr × Value)} (p : Paired entR es us) : (us.map fun x => Value.ref x.2.1) = es.map fun e => Value.ref e.2.1 := by
  induction p with
  | nil => rfl
  | cons h t ih => rw [List.map_cons, List.map_cons, ih, h.2.1]
/-- with one address more that is not ours -/
def avp (Av : Addr → Prop) (p : Addr) : Addr → Prop := fun b => Av b ∨ b = p
theorem SR.newA {h : Hs} (s : SR C Av m h H) {p : Addr} {o : HO} (n : H p = none) : SR C (avp Av p) m h (upd H p o) := by
  have k : ∀ a u, H a = some u → upd H p o a = some u := fun a u e => by rw [upd_ne (ne_of_none e n)]; exact e
  have st : Stay (lvs Av m h) (lvs (avp Av p) m h) m m H (upd H p o) := ⟨⟨[], by simp⟩, fun a u e l => ⟨k a u e, fun z => by
    rcases z with (z | z) | z
    · exact l (.inl z)
    · exact ne_of_none e n z
    · exact l (.inr z)⟩, fun a u e => k a _ e, fun a u v e => k a _ e⟩
  refine ⟨s.len, s.nd, fun i a w e1 e2 => (s.cell i a w e1 e2).stay st (fun u e => k a u e), fun i a e => let ⟨u, q⟩ := s.there i a e; ⟨u, k a u q⟩, fun a e => ?_, fun i a e z => ?_⟩
  · rcases e with e | e
    · obtain ⟨u, q⟩ := s.avd a e; exact ⟨u, k a u q⟩
    · rw [e]; exact ⟨_, upd_same⟩
  · rcases z with z | z
    · exact s.sep i a e z
    · obtain ⟨u, q⟩ := s.there i a e
      rw [z, n] at q; cases q
theorem SR.stayA {h : Hs} (s : SR C Av m h H) {p : Addr} {o : HO} (n : H p = none) : Stay (lvs Av m h) (lvs (avp Av p) m h) m m H (upd H p o) := by
  have k : ∀ a u, H a = some u → upd H p o a = some u := fun a u e => by rw [upd_ne (ne_of_none e n)]; exact e
  exact ⟨⟨[], by simp⟩, fun a u e l => ⟨k a u e, fun z => by
    rcases z with (z | z) | z
    · exact l (.inl z)
    · exact ne_of_none e n z
    · exact l (.inr z)⟩, fun a u e => k a _ e, fun a u v e => k a _ e⟩
theorem SR.cellL {h : Hs} (s : SR C Av m h H) {p : Addr} {xs : List D} {vs : List V} (n : H p = none) (r : RVs C (lvs Av m h) m H xs vs) : CellOk C (lvs (avp Av p) m h) m (upd H p (.lst vs)) p (.lst xs) :=
  ⟨vs, upd_same, r.stay (s.stayA n)⟩
/-- a result that was just made -/
def rA1F (C : Pc) (f : D → Option D) : List V → Hp → VK → Prop := fun xs H Q => ∃ x, xs = [x] ∧ ∃ Av m h ex d, SR C Av m h H ∧ RP C (lvs Av m h) m H ex x ∧ f ex = some d ∧
  ∀ p H', SR C (avp Av p) m h H' → Keep m h H m h H' → H p = none → CellOk C (lvs (avp Av p) m h) m H' p d → Q (.ref p) H'
theorem call_listD (o : On X C) (hc : X.calm = true) {pins : List (Addr × Obj)} {s : Shared} {σ : L2.St} {d : Addr} {ks xs : List D} {es : List KE3} {Q : VK} (I : Inv X pins σ H s) (e : H d = some (dHO X.prog X.w d es)) (r : RVk C lv m H ks xs es)
    (q : ∀ p, H p = none → Q (.ref p) (upd H p (.lst (es.map fun e => V.ref e.2.1)))) : wpAny (model X.prog X.w) X.A (call (.type "list") [.ref d]) (EP X pins σ Q) X.xe s := by
  obtain ⟨z, hs, ks', pr, ob, ds, ep, ho, hx, hdt, he, _, hn⟩ := dN_of I o.K e r
  have l1 : ds.size = ks'.length := size_of_entries he
  have l2 : es.length = ks'.length := Paired.length pr
  refine PySem.W.kdl_call (kdl_raw hs hx hdt) (I.ok.hd hc) ho (by omega) fun h' tk acc' c' kp e it => ?_
  have ea : acc'.toList = ks'.map fun x => Value.ref x.2.1 := by
    have hl : acc'.toList.length = ks'.length := by rw [Array.length_toList, it.1]; exact l1
    apply List.ext_getElem?
    intro j
    rw [List.getElem?_map]
    cases hj : acc'.toList[j]? with
    | none =>
      have h1 := List.getElem?_eq_none_iff.mp hj
      rw [List.getElem?_eq_none (by omega)]
      all_goals rfl
    | some v =>
      obtain ⟨en, hen, hv⟩ := it.2 j v (by rw [← Array.getElem?_toList]; exact hj)
      have qe := entry_at he j
      rw [hen] at qe
      cases hb : ks'[j]? with
      | none =>
        rw [hb] at qe
        exact nomatch (show some en = none from qe)
      | some b =>
        rw [hb] at qe
        have e2 : en = entryOfKey (nestedKind X.prog X.w) b := Option.some.inj qe
        rw [hv, e2]
        all_goals rfl
  have eb : acc'.toList = (es.map fun x => x.2.1).map Value.ref := by rw [ea, refs_eq pr, List.map_map]; all_goals rfl
  have rv : Vals (es.map fun e => V.ref e.2.1) acc'.toList := by
    rw [eb]
    have := vals_refs (es.map fun x => x.2.1)
    rw [List.map_map] at this
    exact this
  have hz : (es.map fun e => V.ref e.2.1).length ≤ sizeLine := by rw [List.length_map]; omega
  refine ⟨.ref s.heap.objs.size, _, I.laid (t' := tk) (o := .lst (es.map fun e => V.ref e.2.1)) kp (Nat.le_refl _) ?_, rfl, q _ (I.hok.fresh (Nat.le_refl _))⟩
  exact ⟨hz, acc'.toList, c', rv, by rw [Array.toArray_toList]; exact e⟩
theorem call_listC (o : On X C) (hc : X.calm = true) : CallR X (.type "list") (rA1F C evList) := by
  intro pins s σ H xs us Q I r ⟨x, ex, Av, m, h, e0, d, S, px, e, q⟩
  subst ex
  unfold evList at e
  split at e
  · cases e
    cases px with
    | tup a b => exact call_list_of pins s σ H _ us Q I r ⟨_, _, rfl, .inr (by rw [o.K]; exact a), fun p np => q p _ (S.newA np) (keep_new np) np (S.cellL np b)⟩
  · cases e
    cases px with
    | lst a b => exact call_list_of pins s σ H _ us Q I r ⟨_, _, rfl, .inl (SqL.of a), fun p np => q p _ (S.newA np) (keep_new np) np (S.cellL np b)⟩
  · cases e
    cases px with
    | dicT hd rk =>
      obtain ⟨u, rfl, ru⟩ := vals1 r
      cases (show u = Value.ref _ from ru)
      exact call_listD o hc I (o.dn hd) rk fun p np => q p _ (S.newA np) (keep_new np) np (S.cellL np rk.keysV)
  · cases e
theorem call_intC : CallR X (.type "int") (rA1 C evInt) := by
  intro pins s σ H xs us Q I r ⟨x, ex, Av, m, h, e0, d, S, px, e, q⟩
  subst ex
  unfold evInt at e
  split at e
  · cases e
    cases px.int_inv
    exact call_int1 pins s σ H _ us Q I r (.inl ⟨_, rfl, q _ m H S Keep.refl (.int _)⟩)
  · cases e
    cases px
    exact call_int1 pins s σ H _ us Q I r (.inr ⟨_, rfl, q _ m H S Keep.refl (.int _)⟩)
  · cases e
/-! ### lists of ints -/
theorem intL_inv : ∀ {xs : List D} {is : List Int} {vs : List V}, intL xs = some is → RVs C lv m H xs vs → xs = is.map D.int ∧ vs = is.map V.int
  | [], is, vs, e, r => by cases e; cases r; exact ⟨rfl, rfl⟩
  | .int i :: xs, is, vs, e, r => by
    obtain ⟨js, e1, rfl⟩ := Option.map_eq_some_iff.mp e
    cases r with
    | cons a b =>
      obtain ⟨h1, h2⟩ := intL_inv e1 b
      cases a
      exact ⟨by rw [h1]; rfl, by rw [h2]; rfl⟩
  | .non :: _, _, _, e, _ => by simp [intL] at e
  | .bl _ :: _, _, _, e, _ => by simp [intL] at e
  | .str _ :: _, _, _, e, _ => by simp [intL] at e
  | .tup _ :: _, _, _, e, _ => by simp [intL] at e
  | .lst _ :: _, _, _, e, _ => by simp [intL] at e
  | .rol _ :: _, _, _, e, _ => by simp [intL] at e
  | .dic _ _ _ :: _, _, _, e, _ => by simp [intL] at e
  | .ins _ _ _ :: _, _, _, e, _ => by simp [intL] at e
  | .ref _ :: _, _, _, e, _ => by simp [intL] at e
  | .exn _ _ :: _, _, _, e, _ => by simp [intL] at e
theorem fold_max : ∀ (r : List Int) (i m : Int), (m = i ∨ m ∈ r) → i ≤ m → (∀ y ∈ r, y ≤ m) → r.foldl max i = m
  | [], i, m, h, _, _ => by rcases h with h | h <;> simp_all
  | a :: r, i, m, h, hi, hr => by
    rw [List.foldl_cons]
    have ha := hr a (by simp)
    refine fold_max r (max i a) m ?_ (by omega) fun y hy => hr y (List.mem_cons_of_mem _ hy)
    rcases h with h | h
    · left; omega
    · rcases List.mem_cons.mp h with h | h
      · left; omega
      · exact .inr h
theorem fold_min : ∀ (r : List Int) (i m : Int), (m = i ∨ m ∈ r) → m ≤ i → (∀ y ∈ r, m ≤ y) → r.foldl min i = m
  | [], i, m, h, _, _ => by rcases h with h | h <;> simp_all
  | a :: r, i, m, h, hi, hr => by
    rw [List.foldl_cons]
    have ha := hr a (by simp)
    refine fold_min r (min i a) m ?_ (by omega) fun y hy => hr y (List.mem_cons_of_mem _ hy)
    rcases h with h | h
    · left; omega
    · rcases List.mem_cons.mp h with h | h
      · left; omega
      · exact .inr h
theorem call_maxC (hc : X.calm = true) : CallR X (.builtin "max") (rA1 C (evF1 .max)) := by
  intro pins s σ H xs us Q I r ⟨x, ex, Av, m, h, e0, d, S, px, e, q⟩
  subst ex
  simp only [evF1, evLst] at e
  split at e
  · obtain ⟨k, e1, rfl⟩ := Option.map_eq_some_iff.mp e
    obtain ⟨is, e2, e3⟩ := Option.bind_eq_some_iff.mp e1
    cases px with
    | lst a b =>
      obtain ⟨rfl, rfl⟩ := intL_inv e2 b
      cases is with
      | nil => cases e3
      | cons i r' =>
        cases e3
        refine cr_max hc pins s σ H _ us Q I r ⟨_, _, rfl, SqL.of a, by simp, fun mm h1 h2 => ?_⟩
        rw [fold_max r' i mm (List.mem_cons.mp h1) (h2 i (by simp)) fun y hy => h2 y (List.mem_cons_of_mem _ hy)] at q
        exact q _ m H S Keep.refl (.int _)
  · cases e
theorem call_minC (hc : X.calm = true) : CallR X (.builtin "min") (rA1 C (evF1 .min)) := by
  intro pins s σ H xs us Q I r ⟨x, ex, Av, m, h, e0, d, S, px, e, q⟩
  subst ex
  simp only [evF1, evLst] at e
  split at e
  · obtain ⟨k, e1, rfl⟩ := Option.map_eq_some_iff.mp e
    obtain ⟨is, e2, e3⟩ := Option.bind_eq_some_iff.mp e1
    cases px with
    | lst a b =>
      obtain ⟨rfl, rfl⟩ := intL_inv e2 b
      cases is with
      | nil => cases e3
      | cons i r' =>
        cases e3
        refine cr_min hc pins s σ H _ us Q I r ⟨_, _, rfl, SqL.of a, by simp, fun mm h1 h2 => ?_⟩
        rw [fold_min r' i mm (List.mem_cons.mp h1) (h2 i (by simp)) fun y hy => h2 y (List.mem_cons_of_mem _ hy)] at q
        exact q _ m H S Keep.refl (.int _)
  · cases e
theorem call_sumC (hc : X.calm = true) : CallR X (.builtin "sum") (rA1 C (evF1 .sum)) := by
  intro pins s σ H xs us Q I r ⟨x, ex, Av, m, h, e0, d, S, px, e, q⟩
  subst ex
  simp only [evF1, evLst] at e
  split at e
  · obtain ⟨is, e2, rfl⟩ := Option.map_eq_some_iff.mp e
    cases px with
    | lst a b =>
      obtain ⟨rfl, rfl⟩ := intL_inv e2 b
      exact cr_sum hc pins s σ H _ us Q I r ⟨_, _, rfl, SqL.of a, q _ m H S Keep.refl (.int _)⟩
  · cases e
theorem call_max2C (hc : X.calm = true) : CallR X (.builtin "max") (rA2 C (evF2 .max)) := by
  intro pins s σ H xs us Q I r ⟨x, y, ex, Av, m, h, e0, e1, d, S, px, py, e, q⟩
  subst ex
  unfold evF2 at e
  split at e
  · cases e
    cases px.int_inv
    cases py.int_inv
    exact call_max2 hc pins s σ H _ us Q I r ⟨_, _, rfl, q _ m H S Keep.refl (.int _)⟩
  · rename_i hf; cases hf
  · cases e
theorem call_min2C (hc : X.calm = true) : CallR X (.builtin "min") (rA2 C (evF2 .min)) := by
  intro pins s σ H xs us Q I r ⟨x, y, ex, Av, m, h, e0, e1, d, S, px, py, e, q⟩
  subst ex
  unfold evF2 at e
  split at e
  · rename_i hf; cases hf
  · cases e
    cases px.int_inv
    cases py.int_inv
    exact call_min2 hc pins s σ H _ us Q I r ⟨_, _, rfl, q _ m H S Keep.refl (.int _)⟩
  · cases e
end
end M
end

section
set_option Elab.async false
set_option linter.all false
set_option maxRecDepth 100000
set_option maxHeartbeats 4000000
/-! Snd6: sorted, isinstance by values. -/
namespace M
open PySem PySem.Spec PyProof.Rows L2
section
variable {C : Pc} {T : Tb} {W : WX} {Av : Addr → Prop} {m m1 : List Addr} {h h1 : Hs} {H H1 : Hp} {σ : L2.St} {ρ : Rho} {lv : Addr → Prop} {X : Cx}
theorem zip_fst : ∀ {xs : List D} {vs : List V}, RVs C lv m H xs vs → (xs.zip vs).map (·.1) = xs
  | _, _, .nil => rfl
  | _, _, .cons _ r => by rw [List.zip_cons_cons, List.map_cons, zip_fst r]
theorem zip_mem : ∀ {xs : List D} {vs : List V}, RVs C lv m H xs vs → ∀ p ∈ xs.zip vs, RV C lv m H p.1 p.2
  | _, _, .nil => fun p h => nomatch h
  | _, _, .cons a r => fun p h => by
    rw [List.zip_cons_cons] at h
    rcases List.mem_cons.mp h with e | h
    · subst e; exact a
    · exact zip_mem r p h
theorem zip_each : ∀ {xs : List D} {vs : List V} {us : List Value}, RVs C lv m H xs vs → Vals vs us → PySem.W.EachIs (fun u (b : D × V) => RelV b.2 u) us (xs.zip vs)
  | _, _, _, .nil, .nil => .nil
  | _, _, _, .cons _ r, .cons b t => .cons b (zip_each r t)
theorem RVs.of_pairs : ∀ {ps : List (D × V)}, (∀ p ∈ ps, RV C lv m H p.1 p.2) → RVs C lv m H (ps.map (·.1)) (ps.map (·.2))
  | [], _ => .nil
  | p :: ps, h => .cons (h p (by simp)) (RVs.of_pairs fun q hq => h q (by simp [hq]))
theorem vals_pairs : ∀ {ps : List (D × V)} {us : List Value}, PySem.W.EachIs (fun u (b : D × V) => RelV b.2 u) us ps → Vals (ps.map (·.2)) us
  | _, _, .nil => .nil
  | _, _, .cons a r => .cons a (vals_pairs r)
theorem ordOk_inv {xs : List D} (e : ordOk xs = true) : (∀ a ∈ xs, pd a = true) ∧ PySem.W.AllAlike (xs.map toPy) ∧ (∀ a ∈ xs, dpt a ≤ 60) ∧ PySem.W.Sortable (xs.map toPy) := by
  unfold ordOk at e
  simp only [Bool.and_eq_true, List.all_eq_true, decide_eq_true_eq, Bool.or_eq_true] at e
  obtain ⟨⟨⟨e1, e2⟩, e3⟩, e4⟩ := e
  refine ⟨e1, fun d hd d' hd' => ?_, e3, ?_⟩
  · obtain ⟨a, ha, rfl⟩ := List.mem_map.mp hd
    obtain ⟨b, hb, rfl⟩ := List.mem_map.mp hd'
    exact e2 a ha b hb
  · rcases e4 with e4 | e4
    · refine .inl fun d hd => ?_
      obtain ⟨a, ha, rfl⟩ := List.mem_map.mp hd
      have h := e4 a ha
      split at h
      · rw [toPy, toPys]; exact ⟨_, _, rfl⟩
      · cases h
    · refine .inr fun d hd => ?_
      obtain ⟨a, ha, rfl⟩ := List.mem_map.mp hd
      have h := e4 a ha
      have hp := e1 a ha
      cases a <;> simp [toPy] at * <;> simp [pd] at hp
theorem RV.reads {pins : List (Addr × Obj)} {s : Shared} (I : Inv X pins σ H s) (hK : X.K = C.K) {d : D} {v : V} {u : Value} (p : pd d = true) (r : RV C lv m H d v) (ru : RelV v u) : ∃ as, Reads s.heap u (toPy d) as :=
  Dp.reads I _ _ _ (by rw [hK]; exact r.dp p) ru
theorem each_reads {pins : List (Addr × Obj)} {s : Shared} (I : Inv X pins σ H s) (hK : X.K = C.K) {ps : List (D × V)} {us : List Value} (h : ∀ p ∈ ps, RV C lv m H p.1 p.2) (hp : ∀ p ∈ ps, pd p.1 = true) (e : PySem.W.EachIs (fun u (b : D × V) => RelV b.2 u) us ps) :
    PySem.W.EachIs (fun u (b : D × V) => ∃ as, Reads s.heap u (toPy b.1) as) us ps :=
  (PySem.W.each_mem e).mono fun u b ⟨r, hb⟩ => RV.reads I hK (hp b hb) (h b hb) r
theorem perm_short {α : Type} {l k : List α} (p : l.Perm k) (h : k.length ≤ 1) : l = k := by
  match k, h with
  | [], _ => exact p.eq_nil
  | [a], _ => exact List.perm_singleton.mp p
theorem call_sortedC (o : On X C) : CallR X (.builtin "sorted") (rA1F C (evF1 .sorted)) := by
  intro pins s σ H xs us Q I r ⟨x, ex, Av, m, h, e0, d, S, px, e, q⟩
  subst ex
  simp only [evF1, evLst] at e
  split at e
  · rename_i ds
    obtain ⟨ds', e1, rfl⟩ := Option.map_eq_some_iff.mp e
    cases px with
    | lst a b =>
      rename_i p vs
      rw [Vals.ref1 r]
      obtain ⟨its, rv, hl, hz⟩ := I.list (SqL.of a)
      have hlen := rv.length
      unfold evSorted at e1
      split at e1
      · rename_i hs
        cases e1
        have hvl : vs.length ≤ 1 := by rw [← b.length]; exact hs
        refine SrtO.sorted_ord (ltv := fun _ _ => false) ⟨fun _ _ z => (Bool.false_ne_true z).elim, fun _ _ _ _ _ => rfl⟩ hl.isList (by rw [← hlen]; exact hz) (fun h2 => by omega) fun out _ h2 => ?_
        have eo : out = its := perm_short h2.perm (by omega)
        subst eo
        obtain ⟨ep, he'⟩ := PyProof.Rows.sortedAll_at s.heap out out.toArray
        have np : H (s.heap.objs.size + 1) = none := I.hok.fresh (Nat.le_succ _)
        exact ⟨.ref _, upd H (s.heap.objs.size + 1) (.lst vs), I.laid (t' := s.toks) (fun _ _ => PyProof.Rows.sortedAll_old) (Nat.le_succ _) ⟨hz, out, ep, rv, he'⟩, rfl, q _ _ (S.newA np) (keep_new np) np (S.cellL np b)⟩
      · split at e1
        · rename_i hs hk
          cases e1
          rw [Bool.and_eq_true] at hk
          obtain ⟨k1, k2, k3, k4⟩ := ordOk_inv hk.1
          have ef := zip_fst b
          have hm := zip_mem b
          have hf : ∀ p ∈ ds.zip vs, p.1 ∈ ds := fun p hp => by rw [← ef]; exact List.mem_map.mpr ⟨p, hp, rfl⟩
          have em : (ds.zip vs).map (fun b => toPy b.1) = ds.map toPy := by
            have h1 := congrArg (List.map toPy) ef
            rw [List.map_map] at h1
            exact h1
          have hzl : (ds.zip vs).length = ds.length := by have h1 := congrArg List.length ef; rw [List.length_map] at h1; exact h1
          refine PySem.W.sorted_data (enc := fun b : D × V => toPy b.1) (R := fun u (b : D × V) => RelV b.2 u) hl.isList (zip_each b rv) (each_reads I o.K hm (fun p hp => k1 _ (hf p hp)) (zip_each b rv)) (by rw [em]; exact k2) (by rw [em]; exact k4)
            (by rw [hzl, b.length]; exact hz) (fun p hp => by have h1 := k3 _ (hf p hp); have h2 := o.u; unfold dpt at h1; omega) fun out hol heo => ?_
          have ev := vals_pairs heo
          have hperm := List.mergeSort_perm (ds.zip vs) (PySem.W.dataLe false fun b : D × V => toPy b.1)
          have hr : RVs C (lvs Av m h) m H (sortD ds) (((ds.zip vs).mergeSort (PySem.W.dataLe false fun b : D × V => toPy b.1)).map (·.2)) := by
            have h1 := RVs.of_pairs (C := C) (lv := lvs Av m h) (m := m) (H := H) (ps := (ds.zip vs).mergeSort (PySem.W.dataLe false fun b : D × V => toPy b.1)) fun p hp => hm p (hperm.mem_iff.mp hp)
            have h2 : ((ds.zip vs).mergeSort (PySem.W.dataLe false fun b : D × V => toPy b.1)).map (·.1) = sortD ds := by
              unfold sortD
              refine (List.map_mergeSort (s := fun a b => !pyLt b a) (f := fun x : D × V => x.1) (fun a _ b _ => rfl)).trans ?_
              rw [ef]
            rw [h2] at h1
            exact h1
          obtain ⟨ep, he'⟩ := PyProof.Rows.sortedAll_at s.heap its out.toArray
          have np : H (s.heap.objs.size + 1) = none := I.hok.fresh (Nat.le_succ _)
          have hz2 : (((ds.zip vs).mergeSort (PySem.W.dataLe false fun b : D × V => toPy b.1)).map (·.2)).length ≤ sizeLine := by
            rw [List.length_map, hperm.length_eq, hzl, b.length]; exact hz
          exact ⟨.ref _, upd H (s.heap.objs.size + 1) (.lst (((ds.zip vs).mergeSort (PySem.W.dataLe false fun b : D × V => toPy b.1)).map (·.2))), I.laid (t' := s.toks) (fun _ _ => PyProof.Rows.sortedAll_old) (Nat.le_succ _) ⟨hz2, out, ep, ev, he'⟩, rfl, q _ _ (S.newA np) (keep_new np) np (S.cellL np hr)⟩
        · cases e1
  · cases e
/-! ### isinstance -/
theorem RV.tyx {d : D} {v : V} (r : RV C lv m H d v) : match d with
    | .non => TyX C.K H v (.type "NoneType") | .bl _ => TyX C.K H v (.type "bool") | .int _ => TyX C.K H v (.type "int") | .str _ => TyX C.K H v (.type "str") | .tup _ => TyX C.K H v (.type "tuple") | .lst _ => TyX C.K H v (.type "list") | .rol _ => TyX C.K H v (.type "list") | _ => True := by
  cases r with
  | non => exact .base .non
  | bl b => exact .base (.bl b)
  | int b => exact .base (.int b)
  | str b => exact .base (.str _)
  | tup a b =>
    rcases a with (a | ⟨o, a⟩) | ⟨o, its, n, a, c, _⟩
    · exact .base (.tup a)
    · exact .fTuple a
    · exact .kTuple a c
  | lst n a b => exact .base (.lst a)
  | rol a b =>
    rcases a with ⟨o, a⟩ | ⟨o, its, n, a, c, _⟩
    · exact .base (.frz a)
    · exact .kList a c
  | dicK => exact True.intro
  | dicT => exact True.intro
  | ins => exact True.intro
  | ref => exact True.intro
  | exn => exact True.intro
def tyN : Ty → String
  | .int => "int" | .bool => "bool" | .str => "str" | .tuple => "tuple" | _ => ""
def isT (t : Ty) (d : D) : Option D := (isTy d t).map .bl
theorem call_isiC (o : On X C) (t : Ty) : CallR X (.builtin "isinstance") (fun xs H Q => ∃ x, xs = [x, .ty (tyN t)] ∧ ∃ Av m h ex d, SR C Av m h H ∧ RV C (lvs Av m h) m H ex x ∧ isT t ex = some d ∧ Q (match d with | .bl b => .bl b | _ => .non) H) := by
  intro pins s σ H xs us Q I r ⟨x, ex, Av, m, h, e0, d, S, px, e, q⟩
  obtain ⟨k, e1, rfl⟩ := Option.map_eq_some_iff.mp e
  have ty := px.tyx
  rw [← o.K] at ty
  have go : ∀ {a : String}, TyX X.K H x (.type a) → kitB a (tyN t) = some k → wpAny (model X.prog X.w) X.A (call (.builtin "isinstance") us) (EP X pins σ Q) X.xe s := fun ty h => call_isi pins s σ H xs us Q I r ⟨x, _, _, _, k, ex, .ty _, ty, kit_ty h, q⟩
  cases t <;> cases e0 <;> simp only [isTy] at e1 <;> first | cases e1 | skip
  all_goals exact go ty (by decide +kernel)
end
end M
end

section
set_option Elab.async false
set_option linter.all false
set_option maxRecDepth 100000
set_option maxHeartbeats 4000000
/-! Snd7: the forms of expressions, one rule each. -/
namespace M
open PySem PySem.Spec PyProof.Rows L2
theorem nd_inj : ∀ {l : List Addr} {i j : Nat} {a : Addr}, l.Nodup → l[i]? = some a → l[j]? = some a → i = j
  | [], _, _, _, _, h, _ => by simp at h
  | b :: l, 0, 0, _, _, _, _ => rfl
  | b :: l, 0, j + 1, a, n, h, k => by
    rw [List.nodup_cons] at n
    simp at h k
    subst h
    exact absurd (List.mem_of_getElem? k) n.1
  | b :: l, i + 1, 0, a, n, h, k => by
    rw [List.nodup_cons] at n
    simp at h k
    subst k
    exact absurd (List.mem_of_getElem? h) n.1
  | b :: l, i + 1, j + 1, a, n, h, k => by
    rw [List.nodup_cons] at n
    exact congrArg (· + 1) (nd_inj n.2 (by simpa using h) (by simpa using k))
/-- weaker: fewer are live -/
theorem Stay.weak {C : Pc} {lv lv' : Addr → Prop} {m : List Addr} {H : Hp} (w : ∀ a, lv' a → lv a) : Stay lv lv' m m H H := ⟨⟨[], by simp⟩, fun a o e l => ⟨e, fun z => l (w a z)⟩, fun _ _ e => e, fun _ _ _ e => e⟩
section
variable {C : Pc} {T : Tb} {W : WX} {Av : Addr → Prop} {m m1 : List Addr} {h h1 : Hs} {H H1 : Hp} {σ : L2.St} {ρ : Rho} {lv : Addr → Prop} {X : Cx}
/-- a result that was just made: nobody else knows it -/
def AftF (C : Pc) (T : Tb) (W : WX) (Av : Addr → Prop) (m : List Addr) (h : Hs) (H : Hp) (σ : L2.St) (r : RE) (Q : VK) : Prop := match r with
  | .ok d h' => ∀ p m' H', SR C (avp Av p) m' h' H' → Keep m h H m' h' H' → H p = none → CellOk C (lvs (avp Av p) m' h') m' H' p d → Q (.ref p) H'
  | .exc c vs h' => EW C T W Av m h H σ c vs h'
  | .bad => False
def tF (C : Pc) (T : Tb) (W : WX) (r : Rho → Hs → RE) : TE := fun σ H Q => ∃ Av ρ h m, At C Av ρ h m σ H ∧ AftF C T W Av m h H σ (r ρ h) Q
theorem SR.ofA {p : Addr} (s : SR C (avp Av p) m h H) : SR C Av m h H :=
  ⟨s.len, s.nd, fun i a w e1 e2 => (s.cell i a w e1 e2).stay (Stay.weak (C := C) fun b z => z.elim (fun z => .inl (.inl z)) .inr) (fun _ e => e), s.there, fun a e => s.avd a (.inl e), fun i a e z => s.sep i a e (.inl z)⟩
theorem CellOk.rv {w : D} {p : Addr} (c : CellOk C lv m H p w) (n : ¬ lv p) : RV C lv m H w (.ref p) := by
  cases w with
  | lst xs => obtain ⟨vs, h, r⟩ := c; exact .lst n h r
  | dic t ks xs =>
    cases t with
    | false => obtain ⟨vs, h, r⟩ := c; exact .dicK n h r
    | true => obtain ⟨vs, h, r⟩ := c; exact .dicT n h r
  | ins c as xs => obtain ⟨dx, fs, h, l1, l2, r⟩ := c; exact .ins n h l1 l2 r
  | _ => exact c.elim
theorem AftF.of {r : RE} {Q : VK} (S : SR C Av m h H) (a : Aft C T W Av m h H σ r Q) : AftF C T W Av m h H σ r Q := by
  cases r with
  | ok d h' =>
    intro p m' H' s k n c
    refine a _ m' H' s.ofA k ((c.stay (Stay.weak (C := C) fun b z => z.elim (fun z => .inl (.inl z)) .inr) (fun _ e => e)).rv fun z => ?_)
    rcases z with z | ⟨i, w, e1, e2⟩
    · obtain ⟨o, e⟩ := S.avd p z
      rw [n] at e; cases e
    · exact s.sep i p e1 (.inr rfl)
  | exc c vs h' => exact a
  | bad => exact a
theorem AftF.imp {r : RE} {Q Q' : VK} (w : ∀ v H, Q v H → Q' v H) (a : AftF C T W Av m h H σ r Q) : AftF C T W Av m h H σ r Q' := by
  cases r with
  | ok d h' => exact fun p m' H' s k n c => w _ _ (a p m' H' s k n c)
  | exc c vs h' => exact a
  | bad => exact a
theorem AftF.keep {r : RE} {Q : VK} (k : Keep m h H m1 h1 H1) (a : AftF C T W Av m h H σ r Q) : AftF C T W Av m1 h1 H1 σ r Q := by
  cases r with
  | ok d h' =>
    intro p m' H' s k' n c
    refine a p m' H' s (k.trans k') ?_ c
    cases e : H p with
    | none => rfl
    | some o =>
      obtain ⟨o', e'⟩ := k.there p o e
      rw [n] at e'; cases e'
  | exc c vs h' => exact EW.keep k a
  | bad => exact a
theorem peF {e : Expr} {r : Rho → Hs → RE} (p : PE X e (tF C T W r)) : PE X e (tE C T W r) := peImp p fun σ H Q ⟨Av, ρ, h, m, a, w⟩ => ⟨Av, ρ, h, m, a, AftF.of a.sr w⟩
theorem AftF.bind {r : RE} {k : D → Hs → RE} {Q : VK} (a : AftF C T W Av m h H σ (r.bind k) Q) :
    Aft C T W Av m h H σ r fun v H1 => ∃ d h1 m1, SR C Av m1 h1 H1 ∧ Keep m h H m1 h1 H1 ∧ RV C (lvs Av m1 h1) m1 H1 d v ∧ AftF C T W Av m1 h1 H1 σ (k d h1) Q := by
  cases r with
  | ok d h' => exact fun v m' H' s k' x => ⟨d, h', m', s, k', x, AftF.keep k' a⟩
  | exc c vs h' => exact a
  | bad => exact a
theorem AftF.bindL {r : RL} {k : List D → Hs → RE} {Q : VK} (a : AftF C T W Av m h H σ (r.bind k) Q) :
    AftL C T W Av m h H σ r fun v H1 => ∃ d h1 m1, SR C Av m1 h1 H1 ∧ Keep m h H m1 h1 H1 ∧ RVs C (lvs Av m1 h1) m1 H1 d v ∧ AftF C T W Av m1 h1 H1 σ (k d h1) Q := by
  cases r with
  | ok d h' => exact fun v m' H' s k' x => ⟨d, h', m', s, k', x, AftF.keep k' a⟩
  | exc c vs h' => exact a
  | bad => exact a
theorem AftF.pk {d : D} {k : D → RE} {Q : VK} (a : AftF C T W Av m h H σ (M.pk h d k) Q) : ∃ e, peek h d = some e ∧ AftF C T W Av m h H σ (k e) Q := by
  unfold M.pk at a
  split at a
  · rename_i e q
    exact ⟨e, q, a⟩
  · exact a.elim
theorem AftF.ro {o : Option D} {Q : VK} (a : AftF C T W Av m h H σ (Ro o h) Q) : ∃ d, o = some d ∧ ∀ p m' H', SR C (avp Av p) m' h H' → Keep m h H m' h H' → H p = none → CellOk C (lvs (avp Av p) m' h) m' H' p d → Q (.ref p) H' := by
  unfold Ro at a
  cases o with
  | none => exact a.elim
  | some d => exact ⟨d, rfl, a⟩
/-! ### leaves -/
theorem pe_varC {i : Nat} {x : Str} {pos : Pos} (hN : X.N[i]? = some x) (hv : Vis X.env.scope x) (hd : (x == ("__debug__" : Str)) = false) (hcd : (x == ("__classdict__" : Str)) = false) : PE X (.Name x pos) (tE C T W fun ρ h => match ρ[i]? with
    | some (some d) => .ok d h
    | _ => .bad) :=
  peImp (pe_var hN hv hd hcd) fun σ H Q ⟨Av, ρ, h, m, a, w⟩ => by
    dsimp only at w
    split at w
    · rename_i d e
      obtain ⟨v, e1, r⟩ := a.sl i d e
      exact ⟨v, e1, w.val a.sr r⟩
    · exact w.elim
theorem pe_conC {e : Expr} {v : V} {d : D} (p : PE X e (tC v)) (r : ∀ (lv : Addr → Prop) m H, RV C lv m H d v) : PE X e (tE C T W fun _ h => .ok d h) :=
  peImp p fun σ H Q ⟨Av, ρ, h, m, a, w⟩ => show Q v H from w.val a.sr (r _ _ _)
theorem pe_frzC {i : Nat} {x : Str} {pos : Pos} (hN : X.N[i]? = some x) (hv : Vis X.env.scope x) (hd : (x == ("__debug__" : Str)) = false) (hcd : (x == ("__classdict__" : Str)) = false) : PE X (.Name x pos) (tE C T W fun ρ h => match ρ[i]? with
    | some (some (.ref n)) => (match cont h n with
      | some w => .ok w (h.set n .gone)
      | none => .bad)
    | _ => .bad) :=
  peImp (pe_var hN hv hd hcd) fun σ H Q ⟨Av, ρ, h, m, a, w⟩ => by
    dsimp only at w
    split at w
    · rename_i n e
      obtain ⟨v, e1, r⟩ := a.sl i _ e
      split at w
      · rename_i d ed
        refine ⟨v, e1, ?_⟩
        have eh := cont_some ed
        have hn : n < h.length := (List.getElem?_eq_some_iff.mp eh).1
        cases r with
        | ref q =>
          rename_i b
          have lw : ∀ c, live m (h.set n .gone) c → live m h c ∧ c ≠ b := fun c ⟨j, u, k1, k2⟩ => by
            by_cases hj : n = j
            · subst hj
              rw [List.getElem?_set_self hn] at k2; cases k2
            · rw [List.getElem?_set_ne hj] at k2
              refine ⟨⟨j, u, k1, k2⟩, fun z => hj ?_⟩
              subst z
              exact nd_inj a.sr.nd q k1
          have st : Stay (lvs Av m h) (lvs Av m (h.set n .gone)) m m H H := Stay.weak (C := C) fun c z => z.elim .inl fun z => .inr (lw c z).1
          have s' : SR C Av m (h.set n .gone) H := ⟨by rw [List.length_set]; exact a.sr.len, a.sr.nd, fun j c u k1 k2 => by
            by_cases hj : n = j
            · subst hj
              rw [List.getElem?_set_self hn] at k2; cases k2
            · rw [List.getElem?_set_ne hj] at k2
              exact (a.sr.cell j c u k1 k2).stay st (fun _ e => e), a.sr.there, a.sr.avd, a.sr.sep⟩
          refine w (.ref b) m H s' ⟨fun _ _ e => e, fun _ _ _ e => e, ⟨[], by simp⟩, fun c o e l => ⟨e, fun z => l (lw c z).1⟩, fun _ o e => ⟨o, e⟩⟩ ?_
          refine ((a.sr.cell n b d q eh).stay st (fun _ e => e)).rv fun z => ?_
          rcases z with z | z
          · exact a.sr.sep n b q z
          · exact (lw b z).2 rfl
      · exact w.elim
    · exact w.elim
/-! ### operators -/
variable {ra rb rc : Rho → Hs → RE} {a b c : Expr} {pos : Pos}
theorem pe_binC (o : On X C) (p : B2) (ha : PE X a (tE C T W ra)) (hb : PE X b (tE C T W rb)) : PE X (.BinOp a (astB2 p) b pos) (tE C T W fun ρ h => (ra ρ h).bind fun x h => (rb ρ h).bind fun y h => pk h x fun x => pk h y fun y => Ro (evB2 p x y) h) :=
  peImp (pe_op (op_B2 o.K p) ha hb) fun σ H Q ⟨Av, ρ, h, m, a, w⟩ => tE.bind a w fun d v h1 m1 H1 a1 k1 r1 w1 => tE.bind a1 w1 fun d2 v2 h2 m2 H2 a2 k2 r2 w2 => by
    obtain ⟨e1, p1, w3⟩ := w2.pk
    obtain ⟨e2, p2, w4⟩ := w3.pk
    obtain ⟨dd, e3, q⟩ := w4.ro
    exact ⟨Av, m2, h2, e1, e2, dd, a2.sr, peek_rp a2.sr (k2.rv r1) p1, peek_rp a2.sr r2 p2, e3, q⟩
theorem pe_negC (ha : PE X a (tE C T W ra)) : PE X (.UnaryOp .USub a pos) (tE C T W fun ρ h => (ra ρ h).bind fun x h => (match x with
    | .int i => .ok (.int (-i)) h
    | _ => .bad)) :=
  peImp (pe_un un_neg ha) fun σ H Q ⟨Av, ρ, h, m, a, w⟩ => tE.bind a w fun d v h1 m1 H1 a1 k1 r1 w1 => by
    split at w1
    · cases r1
      exact ⟨_, rfl, w1.val a1.sr (.int _)⟩
    · exact w1.elim
theorem cmp_tr (p : C2) {Q : VK} : tE C T W (fun ρ h => (ra ρ h).bind fun x h => (rb ρ h).bind fun y h => pk h x fun x => pk h y fun y => Ro ((evC2 p x y).map .bl) h) σ H Q → tOp (rC C (evC2 p)) (tE C T W ra) (tE C T W rb) σ H Q :=
  fun ⟨Av, ρ, h, m, a, w⟩ => tE.bind a w fun d v h1 m1 H1 a1 k1 r1 w1 => tE.bind a1 w1 fun d2 v2 h2 m2 H2 a2 k2 r2 w2 => by
    obtain ⟨e1, p1, w3⟩ := w2.pk
    obtain ⟨e2, p2, w4⟩ := w3.pk
    obtain ⟨dd, e3, q⟩ := w4.ro
    exact ⟨Av, m2, h2, e1, e2, dd, a2.sr, peek_rp a2.sr (k2.rv r1) p1, peek_rp a2.sr r2 p2, e3, q⟩
theorem pe_cmpC (o : On X C) (p : C2) (ha : PE X a (tE C T W ra)) (hb : PE X b (tE C T W rb)) (hm : behindInMarks (astC2 p) b = false) : PE X (.Compare a [astC2 p] [b] pos) (tE C T W fun ρ h => (ra ρ h).bind fun x h => (rb ρ h).bind fun y h => pk h x fun x => pk h y fun y => Ro ((evC2 p x y).map .bl) h) :=
  peImp (pe_cmpR (op_C2 o p) ha hb hm) fun σ H Q => cmp_tr p
theorem ptImp {e : Expr} {t t' : TT} (p : PT X e t) (w : ∀ σ H Q, t' σ H Q → t σ H Q) : PT X e t' := ⟨fun pins s σ H Q I hw => p.run pins s σ H Q I (w σ H Q hw)⟩
theorem pwImp {e : Expr} {t t' : TT} (p : PW X e t) (w : ∀ σ H Q, t' σ H Q → t σ H Q) : PW X e t' := ⟨fun wh pins s σ H Q I hw => p.run wh pins s σ H Q I (w σ H Q hw)⟩
theorem pt_cmpC (o : On X C) (p : C2) (ha : PE X a (tE C T W ra)) (hb : PE X b (tE C T W rb)) (hm : behindInMarks (astC2 p) b = false) : PT X (.Compare a [astC2 p] [b] pos) (tB (tE C T W fun ρ h => (ra ρ h).bind fun x h => (rb ρ h).bind fun y h => pk h x fun x => pk h y fun y => Ro ((evC2 p x y).map .bl) h)) :=
  ptImp (pt_cmpR (op_C2 o p) ha hb hm) fun σ H Q => cmp_tr p
/-! ### and, or, not -/
theorem RV.bl_inv {b : Bool} {v : V} (r : RV C lv m H (.bl b) v) : v = .bl b := by cases r; rfl
theorem and_tr {Q : VK} : tE C T W (fun ρ h => (ra ρ h).bind fun x h => tst x fun t => if t then (rb ρ h).bind fun y h => tst y fun u => .ok (.bl u) h else .ok (.bl false) h) σ H Q →
    tE C T W ra σ H fun x H1 => ∃ c, x = .bl c ∧ if c = true then tE C T W rb σ H1 (fun v H2 => ∃ u, v = .bl u ∧ Q (.bl u) H2) else Q (.bl false) H1 := fun ⟨Av, ρ, h, m, a, w⟩ => tE.bind a w fun d v h1 m1 H1 a1 k1 r1 w1 => by
  obtain ⟨t, e1, w2⟩ := w1.tst
  subst e1
  refine ⟨t, r1.bl_inv, ?_⟩
  cases t with
  | true =>
    simp only [if_true] at w2 ⊢
    exact tE.bind a1 w2 fun d2 v2 h2 m2 H2 a2 k2 r2 w3 => by
      obtain ⟨u, e2, w4⟩ := w3.tst
      subst e2
      exact ⟨u, r2.bl_inv, w4.val a2.sr (.bl _)⟩
  | false =>
    rw [if_neg Bool.false_ne_true] at w2 ⊢
    exact w2.val a1.sr (.bl _)
theorem or_tr {Q : VK} : tE C T W (fun ρ h => (ra ρ h).bind fun x h => tst x fun t => if t then .ok (.bl true) h else (rb ρ h).bind fun y h => tst y fun u => .ok (.bl u) h) σ H Q →
    tE C T W ra σ H fun x H1 => ∃ c, x = .bl c ∧ if c = true then Q (.bl true) H1 else tE C T W rb σ H1 (fun v H2 => ∃ u, v = .bl u ∧ Q (.bl u) H2) := fun ⟨Av, ρ, h, m, a, w⟩ => tE.bind a w fun d v h1 m1 H1 a1 k1 r1 w1 => by
  obtain ⟨t, e1, w2⟩ := w1.tst
  subst e1
  refine ⟨t, r1.bl_inv, ?_⟩
  cases t with
  | false =>
    rw [if_neg Bool.false_ne_true] at w2 ⊢
    exact tE.bind a1 w2 fun d2 v2 h2 m2 H2 a2 k2 r2 w3 => by
      obtain ⟨u, e2, w4⟩ := w3.tst
      subst e2
      exact ⟨u, r2.bl_inv, w4.val a2.sr (.bl _)⟩
  | true =>
    simp only [if_true] at w2 ⊢
    exact w2.val a1.sr (.bl _)
theorem tE.imp {r : Rho → Hs → RE} {Q Q' : VK} (w : ∀ v H, Q v H → Q' v H) : tE C T W r σ H Q → tE C T W r σ H Q' := fun ⟨Av, ρ, h, m, a, z⟩ => ⟨Av, ρ, h, m, a, z.imp w⟩
variable {rest : List Expr}
theorem pe_andC (ha : PE X a (tE C T W ra)) (hb : PE X (.BoolOp .And (b :: rest) pos) (tE C T W rb)) : PE X (.BoolOp .And (a :: b :: rest) pos) (tE C T W (fun ρ h => (ra ρ h).bind fun x h => tst x fun t => if t then (rb ρ h).bind fun y h => tst y fun u => .ok (.bl u) h else .ok (.bl false) h)) :=
  peImp (pe_and ha hb) fun σ H Q z => (and_tr z).imp fun v H1 ⟨c, e, z⟩ => ⟨c, e, by
    cases c with
    | true => exact tE.imp (fun v H ⟨u, e, q⟩ => by rw [e]; exact q) z
    | false => exact z⟩
theorem pe_orC (ha : PE X a (tE C T W ra)) (hb : PE X (.BoolOp .Or (b :: rest) pos) (tE C T W rb)) : PE X (.BoolOp .Or (a :: b :: rest) pos) (tE C T W (fun ρ h => (ra ρ h).bind fun x h => tst x fun t => if t then .ok (.bl true) h else (rb ρ h).bind fun y h => tst y fun u => .ok (.bl u) h)) :=
  peImp (pe_or ha hb) fun σ H Q z => (or_tr z).imp fun v H1 ⟨c, e, z⟩ => ⟨c, e, by
    cases c with
    | false => exact tE.imp (fun v H ⟨u, e, q⟩ => by rw [e]; exact q) z
    | true => exact z⟩
theorem pw_andC (ha : PT X a (tB (tE C T W ra))) (hb : PW X (.BoolOp .And (b :: rest) pos) (tB (tE C T W rb))) : PW X (.BoolOp .And (a :: b :: rest) pos) (tB (tE C T W (fun ρ h => (ra ρ h).bind fun x h => tst x fun t => if t then (rb ρ h).bind fun y h => tst y fun u => .ok (.bl u) h else .ok (.bl false) h))) :=
  pwImp (pw_and ha hb) fun σ H Q z => (and_tr z).imp fun v H1 ⟨c, e, z⟩ => ⟨c, e, by
    cases c with
    | true => exact tE.imp (fun v H ⟨u, e, k, e2, q⟩ => ⟨u, e, by cases e2; exact q⟩) z
    | false => obtain ⟨k, e2, q⟩ := z; cases e2; exact q⟩
theorem pw_orC (ha : PT X a (tB (tE C T W ra))) (hb : PW X (.BoolOp .Or (b :: rest) pos) (tB (tE C T W rb))) : PW X (.BoolOp .Or (a :: b :: rest) pos) (tB (tE C T W (fun ρ h => (ra ρ h).bind fun x h => tst x fun t => if t then .ok (.bl true) h else (rb ρ h).bind fun y h => tst y fun u => .ok (.bl u) h))) :=
  pwImp (pw_or ha hb) fun σ H Q z => (or_tr z).imp fun v H1 ⟨c, e, z⟩ => ⟨c, e, by
    cases c with
    | false => exact tE.imp (fun v H ⟨u, e, k, e2, q⟩ => ⟨u, e, by cases e2; exact q⟩) z
    | true => obtain ⟨k, e2, q⟩ := z; cases e2; exact q⟩
theorem PW.pt {e : Expr} {t : TT} (p : PW X e t) : PT X e t := ⟨fun pins s σ H Q I hw => p.run _ pins s σ H Q I hw⟩
theorem not_tr {Q : VK} : tE C T W (fun ρ h => (ra ρ h).bind fun x h => tst x fun t => .ok (.bl (!t)) h) σ H Q → tE C T W ra σ H fun x H1 => ∃ c, x = .bl c ∧ Q (.bl (!c)) H1 := fun ⟨Av, ρ, h, m, a, w⟩ => tE.bind a w fun d v h1 m1 H1 a1 k1 r1 w1 => by
  obtain ⟨t, e1, w2⟩ := w1.tst
  subst e1
  exact ⟨t, r1.bl_inv, w2.val a1.sr (.bl _)⟩
theorem pe_notC (ha : PE X a (tE C T W ra)) : PE X (.UnaryOp .Not a pos) (tE C T W (fun ρ h => (ra ρ h).bind fun x h => tst x fun t => .ok (.bl (!t)) h)) := peImp (pe_not ha) fun σ H Q z => not_tr z
theorem pt_notC (ha : PT X a (tB (tE C T W ra))) : PT X (.UnaryOp .Not a pos) (tB (tE C T W (fun ρ h => (ra ρ h).bind fun x h => tst x fun t => .ok (.bl (!t)) h))) :=
  ptImp (pt_not ha) fun σ H Q z => (not_tr z).imp fun v H1 ⟨c, e, k, e2, q⟩ => ⟨c, e, by cases e2; exact q⟩
theorem pe_iteC (hc : PT X c (tB (tE C T W rc))) (ha : PE X a (tE C T W ra)) (hb : PE X b (tE C T W rb)) : PE X (.IfExp c a b pos) (tE C T W fun ρ h => (rc ρ h).bind fun x h => tst x fun t => if t then ra ρ h else rb ρ h) :=
  peImp (pe_ifExp hc ha hb) fun σ H Q ⟨Av, ρ, h, m, a, w⟩ => tE.bind a w fun d v h1 m1 H1 a1 k1 r1 w1 => by
    obtain ⟨t, e1, w2⟩ := w1.tst
    subst e1
    refine ⟨t, r1.bl_inv, ?_⟩
    cases t with
    | true => exact ⟨Av, ρ, h1, m1, a1, w2⟩
    | false => exact ⟨Av, ρ, h1, m1, a1, w2⟩
end
end M
end

section
set_option Elab.async false
set_option linter.all false
set_option maxRecDepth 100000
set_option maxHeartbeats 4000000
/-! Snd8: more forms of expressions. -/
namespace M
open PySem PySem.Spec PyProof.Rows L2
section
variable {C : Pc} {T : Tb} {W : WX} {Av : Addr → Prop} {m m1 : List Addr} {h h1 : Hs} {H H1 : Hp} {σ : L2.St} {ρ : Rho} {lv : Addr → Prop} {X : Cx}
variable {ra rb rc : Rho → Hs → RE} {a b c : Expr} {pos : Pos} {es : List Expr} {rl : Rho → Hs → RL}
theorem chn_tr (p q : C2) {Q : VK} : tE C T W (fun ρ h => (ra ρ h).bind fun x h => (rb ρ h).bind fun y h => pk h x fun x' => pk h y fun y' => (match evC2 p x' y' with
    | some true => (rc ρ h).bind fun z h => pk h y fun y' => pk h z fun z' => Ro ((evC2 q y' z').map .bl) h
    | some false => .ok (.bl false) h
    | none => .bad)) σ H Q → tChain (rC C (evC2 p)) (rC C (evC2 q)) (tE C T W ra) (tE C T W rb) (tE C T W rc) σ H Q :=
  fun ⟨Av, ρ, h, m, a, w⟩ => tE.bind a w fun d v h1 m1 H1 a1 k1 r1 w1 => tE.bind a1 w1 fun d2 v2 h2 m2 H2 a2 k2 r2 w2 => by
    obtain ⟨e1, p1, w3⟩ := w2.pk
    obtain ⟨e2, p2, w4⟩ := w3.pk
    split at w4
    · rename_i e
      refine ⟨Av, m2, h2, e1, e2, .bl true, a2.sr, peek_rp a2.sr (k2.rv r1) p1, peek_rp a2.sr r2 p2, by unfold mB; rw [e]; rfl, fun v' m3 H3 s3 k3 r3 => ⟨true, r3.bl_inv, ?_⟩⟩
      rw [if_pos rfl]
      exact tE.bind (a2.keep k3 s3) (w4.keep k3) fun d4 v4 h4 m4 H4 a4 k4 r4 w5 => by
        obtain ⟨e4, p4, w6⟩ := w5.pk
        obtain ⟨e5, p5, w7⟩ := w6.pk
        obtain ⟨dd, e6, q'⟩ := w7.ro
        exact ⟨Av, m4, h4, e4, e5, dd, a4.sr, peek_rp a4.sr (k4.rv (k3.rv r2)) p4, peek_rp a4.sr r4 p5, e6, q'⟩
    · rename_i e
      refine ⟨Av, m2, h2, e1, e2, .bl false, a2.sr, peek_rp a2.sr (k2.rv r1) p1, peek_rp a2.sr r2 p2, by unfold mB; rw [e]; rfl, fun v' m3 H3 s3 k3 r3 => ⟨false, r3.bl_inv, ?_⟩⟩
      rw [if_neg Bool.false_ne_true]
      exact (w4.keep k3).val s3 (.bl false)
    · exact w4.elim
theorem pe_chnC (o : On X C) (p q : C2) (ha : PE X a (tE C T W ra)) (hb : PE X b (tE C T W rb)) (hc : PE X c (tE C T W rc)) (hm : lastMarks [astC2 p, astC2 q] [b, c] = false) :
    PE X (.Compare a [astC2 p, astC2 q] [b, c] pos) (tE C T W (fun ρ h => (ra ρ h).bind fun x h => (rb ρ h).bind fun y h => pk h x fun x' => pk h y fun y' => (match evC2 p x' y' with
    | some true => (rc ρ h).bind fun z h => pk h y fun y' => pk h z fun z' => Ro ((evC2 q y' z').map .bl) h
    | some false => .ok (.bl false) h
    | none => .bad))) := peImp (pe_chain (op_C2 o p) (op_C2 o q) ha hb hc hm) fun σ H Q => chn_tr p q
theorem pt_chnC (o : On X C) (p q : C2) (ha : PE X a (tE C T W ra)) (hb : PE X b (tE C T W rb)) (hc : PE X c (tE C T W rc)) (hm : lastMarks [astC2 p, astC2 q] [b, c] = false) :
    PT X (.Compare a [astC2 p, astC2 q] [b, c] pos) (tB (tE C T W (fun ρ h => (ra ρ h).bind fun x h => (rb ρ h).bind fun y h => pk h x fun x' => pk h y fun y' => (match evC2 p x' y' with
    | some true => (rc ρ h).bind fun z h => pk h y fun y' => pk h z fun z' => Ro ((evC2 q y' z').map .bl) h
    | some false => .ok (.bl false) h
    | none => .bad)))) := ptImp (pt_chain (op_C2 o p) (op_C2 o q) ha hb hc hm) fun σ H Q => chn_tr p q
/-! ### argument lists -/
theorem pa_nilC : PA X [] (tL C T W fun _ h => .ok [] h) := ⟨fun pos pins s σ H Q I ⟨Av, ρ, h, m, a, w⟩ => pa_nil.run pos pins s σ H Q I (w [] m H a.sr Keep.refl .nil)⟩
theorem pa_consC {e : Expr} {es : List Expr} (ha : PE X e (tE C T W ra)) (hr : PA X es (tL C T W rl)) (hs : starEach (e :: es) X.env = (false, eval e X.env) :: starEach es X.env) : PA X (e :: es) (tL C T W fun ρ h => (match ra ρ h with
    | .ok x h => (match rl ρ h with
      | .ok xs h => .ok (x :: xs) h
      | .exc c vs h => .exc c vs h
      | .bad => .bad)
    | .exc c vs h => .exc c vs h
    | .bad => .bad)) := ⟨fun pos pins s σ H Q I ⟨Av, ρ, h, m, a, w⟩ => (pa_cons ha hr hs).run pos pins s σ H Q I (by
  refine ⟨Av, ρ, h, m, a, ?_⟩
  dsimp only at w
  generalize ra ρ h = r at w ⊢
  cases r with
  | bad => exact w
  | exc c vs h' => exact w
  | ok d h1 =>
    intro v m1 H1 s1 k1 r1
    refine ⟨Av, ρ, h1, m1, a.keep k1 s1, ?_⟩
    dsimp only at w
    generalize rl ρ h1 = r at w ⊢
    cases r with
    | bad => exact w
    | exc c vs h' => exact EW.keep k1 w
    | ok ds h2 => exact fun vs m2 H2 s2 k2 r2 => w (v :: vs) m2 H2 s2 (k1.trans k2) (.cons (k2.rv r1) r2))⟩
theorem pe_tupC {x1 : Nat} (hl : PA X es (tL C T W rl)) : PE X (.Tuple es x1 pos) (tE C T W fun ρ h => (rl ρ h).bind fun xs h => if xs.length ≤ LIM then .ok (.tup xs) h else .bad) :=
  peImp (pe_tup hl) fun σ H Q ⟨Av, ρ, h, m, a, w⟩ => tL.bind a w fun d v h1 m1 H1 a1 k1 r1 w1 => by
    split at w1
    · rename_i hz
      exact ⟨by rw [← r1.length, ← limEq]; exact hz, fun p np => w1 _ m1 _ (a1.sr.new np) (keep_new np) (RV.newTup np r1)⟩
    · exact w1.elim
theorem pe_lstF (hl : PA X es (tL C T W rl)) : PE X (.List es pos) (tF C T W fun ρ h => (rl ρ h).bind fun xs h => if xs.length ≤ LIM then .ok (.lst xs) h else .bad) :=
  peImp (pe_lst hl) fun σ H Q ⟨Av, ρ, h, m, a, w⟩ => ⟨Av, ρ, h, m, a, (AftF.bindL w).imp fun v H1 ⟨d, h1, m1, s1, k1, r1, w1⟩ => by
    split at w1
    · rename_i hz
      exact ⟨by rw [← r1.length, ← limEq]; exact hz, fun p np => w1 p m1 _ (s1.newA np) (keep_new np) np (s1.cellL np r1)⟩
    · exact w1.elim⟩
theorem pe_dict0F (o : On X C) : PE X (.Dict [] [] pos) (tF C T W fun _ h => .ok (.dic true [] []) h) :=
  peImp pe_dnewN fun σ H Q ⟨Av, ρ, h, m, a, w⟩ p np => w p m _ (a.sr.newA np) (keep_new np) np ⟨[], by rw [upd_same, o.P, o.w], .nil⟩
theorem pe_idxC (o : On X C) (ha : PE X a (tE C T W ra)) (hb : PE X b (tE C T W rb)) (hs : PlainIx b) : PE X (.Subscript a b pos) (tE C T W fun ρ h => (ra ρ h).bind fun x h => (rb ρ h).bind fun y h => pk h x fun x => Ro (evIdx x y) h) :=
  peImp (pe_ix (ix_C o) ha hb hs) fun σ H Q ⟨Av, ρ, h, m, a, w⟩ => tE.bind a w fun d v h1 m1 H1 a1 k1 r1 w1 => tE.bind a1 w1 fun d2 v2 h2 m2 H2 a2 k2 r2 w2 => by
    obtain ⟨e1, p1, w3⟩ := w2.pk
    obtain ⟨dd, e3, q⟩ := w3.ro
    refine ⟨Av, m2, h2, e1, d2, dd, a2.sr, peek_rp a2.sr (k2.rv r1) p1, RP.of r2 (fun i z => ?_), e3, q⟩
    subst z
    unfold evIdx at e3
    split at e3 <;> simp_all [keyOk]
/-! ### slices -/
def optV (l : E) (v : V) (o : Option Int) : Prop := if isOm l = true then o = none else ∃ i, v = .int i ∧ o = some i
theorem optV_of {l : E} {d : D} {o : Option Int} {v : V} (e : optO l d = some o) (r : RV C lv m H d v) : optV l v o := by
  unfold optO at e
  unfold optV
  split at e
  · rename_i hl
    rw [if_pos hl]
    exact (Option.some.inj e).symm
  · rename_i hl
    rw [if_neg hl]
    split at e
    · cases r
      exact ⟨_, rfl, (Option.some.inj e).symm⟩
    · cases e
def tO (C : Pc) (T : Tb) (W : WX) (l : E) (r : Rho → Hs → RE) : TO := fun σ H Q => tE C T W r σ H fun v H1 => ∃ o, optV l v o ∧ Q o H1
theorem po_omC : PO X none (tO C T W .omit fun _ h => .ok .non h) := ⟨fun pins s σ H Q I ⟨Av, ρ, h, m, a, w⟩ => po_none.run pins s σ H Q I (by
  obtain ⟨o, e, q⟩ := w.val a.sr .non
  unfold optV at e
  rw [if_pos (show isOm .omit = true from rfl)] at e
  subst e
  exact q)⟩
theorem po_soC {l : E} {e : Expr} (hl : isOm l = false) (p : PE X e (tE C T W ra)) : PO X (some e) (tO C T W l ra) := ⟨fun pins s σ H Q I z => (po_some p).run pins s σ H Q I (tE.imp (fun v H1 ⟨o, e, q⟩ => by
  unfold optV at e
  rw [hl, if_neg Bool.false_ne_true] at e
  obtain ⟨i, e1, e2⟩ := e
  subst e2
  exact ⟨i, e1, q⟩) z)⟩
theorem pe_slcC (o : On X C) {l u : E} {lo hi : Option Expr} {p2 : Pos} (ha : PE X a (tE C T W ra)) (hl : PO X lo (tO C T W l rb)) (hu : PO X hi (tO C T W u rc)) : PE X (.Subscript a (.Slice lo hi none p2) pos) (tE C T W fun ρ h => (ra ρ h).bind fun x h => (rb ρ h).bind fun y h => (match optO l y with
    | some lo => (rc ρ h).bind fun z h => pk h x fun x => Ro ((optO u z).bind fun hi => evSlc x lo hi) h
    | none => .bad)) :=
  peImp (pe_slice (sl_C o) ha hl hu) fun σ H Q ⟨Av, ρ, h, m, a, w⟩ => tE.bind a w fun d v h1 m1 H1 a1 k1 r1 w1 => tE.bind a1 w1 fun d2 v2 h2 m2 H2 a2 k2 r2 w2 => by
    split at w2
    · rename_i lo e
      refine ⟨lo, optV_of e r2, tE.bind a2 w2 fun d3 v3 h3 m3 H3 a3 k3 r3 w3 => ?_⟩
      obtain ⟨e1, p1, w4⟩ := w3.pk
      obtain ⟨dd, e3, q⟩ := w4.ro
      obtain ⟨hi, e4, e5⟩ := Option.bind_eq_some_iff.mp e3
      exact ⟨hi, optV_of e4 r3, Av, m3, h3, e1, dd, a3.sr, peek_rp a3.sr (k3.rv (k2.rv r1)) p1, e5, q⟩
    · exact w2.elim
/-! ### built-in functions -/
theorem f1_tr (f : D → Option D) {Q : VK} : tE C T W (fun ρ h => (ra ρ h).bind fun x h => pk h x fun x => Ro (f x) h) σ H Q → tCB (rA1 C f) (tCons (tE C T W ra) tNil) σ H Q :=
  fun ⟨Av, ρ, h, m, a, w⟩ => tE.bind a w fun d v h1 m1 H1 a1 k1 r1 w1 => by
    obtain ⟨e1, p1, w2⟩ := w1.pk
    obtain ⟨dd, e3, q⟩ := w2.ro
    exact ⟨v, rfl, Av, m1, h1, e1, dd, a1.sr, peek_rp a1.sr r1 p1, e3, q⟩
theorem f1_trF (f : D → Option D) {Q : VK} : tF C T W (fun ρ h => (ra ρ h).bind fun x h => pk h x fun x => Ro (f x) h) σ H Q → tCB (rA1F C f) (tCons (tE C T W ra) tNil) σ H Q :=
  fun ⟨Av, ρ, h, m, a, w⟩ => ⟨Av, ρ, h, m, a, (AftF.bind w).imp fun v H1 ⟨d, h1, m1, s1, k1, r1, w1⟩ => by
    obtain ⟨e1, p1, w2⟩ := w1.pk
    obtain ⟨dd, e3, q⟩ := w2.ro
    exact ⟨v, rfl, Av, m1, h1, e1, dd, s1, peek_rp s1 r1 p1, e3, fun p H' s' k' n c => q p m1 H' s' k' n c⟩⟩
theorem f2_tr (f : D → D → Option D) {Q : VK} (nr : ∀ x y d, f x y = some d → (∀ i, x ≠ .ref i) ∧ ∀ i, y ≠ .ref i) : tE C T W (fun ρ h => (ra ρ h).bind fun x h => (rb ρ h).bind fun y h => Ro (f x y) h) σ H Q → tCB (rA2 C f) (tCons (tE C T W ra) (tCons (tE C T W rb) tNil)) σ H Q :=
  fun ⟨Av, ρ, h, m, a, w⟩ => tE.bind a w fun d v h1 m1 H1 a1 k1 r1 w1 => tE.bind a1 w1 fun d2 v2 h2 m2 H2 a2 k2 r2 w2 => by
    obtain ⟨dd, e3, q⟩ := w2.ro
    obtain ⟨n1, n2⟩ := nr _ _ _ e3
    exact ⟨v, v2, rfl, Av, m2, h2, d, d2, dd, a2.sr, RP.of (k2.rv r1) n1, RP.of r2 n2, e3, q⟩
theorem evF2_nr {f : F2} {x y d : D} (e : evF2 f x y = some d) : (∀ i, x ≠ .ref i) ∧ ∀ i, y ≠ .ref i := by
  unfold evF2 at e
  split at e
  · exact ⟨fun i z => (nomatch z), fun i z => (nomatch z)⟩
  · exact ⟨fun i z => (nomatch z), fun i z => (nomatch z)⟩
  · cases e
theorem isi_tr (t : Ty) {Q : VK} : tE C T W (fun ρ h => (ra ρ h).bind fun x h => Ro ((isTy x t).map .bl) h) σ H Q →
    tCB (fun xs H Q => ∃ x, xs = [x, .ty (tyN t)] ∧ ∃ Av m h ex d, SR C Av m h H ∧ RV C (lvs Av m h) m H ex x ∧ isT t ex = some d ∧ Q (match d with | .bl b => .bl b | _ => .non) H) (tCons (tE C T W ra) (tCons (tC (.ty (tyN t))) tNil)) σ H Q :=
  fun ⟨Av, ρ, h, m, a, w⟩ => tE.bind a w fun d v h1 m1 H1 a1 k1 r1 w1 => by
    · obtain ⟨dd, e3, q⟩ := w1.ro
      obtain ⟨k, e4, rfl⟩ := Option.map_eq_some_iff.mp e3
      exact ⟨v, rfl, Av, m1, h1, d, .bl k, a1.sr, r1, by unfold isT; rw [e4]; rfl, q _ m1 H1 a1.sr Keep.refl (.bl k)⟩
/-! ### fields -/
theorem lookup_fld (hn : C.attrs.Nodup) {k : Nat} (hk : k < C.attrs.length) : ∀ {as : List Nat} {vs : List D} {fs : List (Str × V)} {d : D}, fs.map (·.1) = as.map C.nm → (∀ j ∈ as, j < C.attrs.length) → RVs C lv m H vs (fs.map (·.2)) → fldOf as vs k = some d → ∃ v, fs.lookup (C.nm k) = some v ∧ RV C lv m H d v
  | [], vs, fs, d, e, _, _, f => by simp [fldOf] at f
  | j :: as, [], fs, d, e, _, _, f => by simp [fldOf] at f
  | j :: as, v :: vs, [], d, e, _, _, f => by simp at e
  | j :: as, v :: vs, (x, u) :: fs, d, e, l, r, f => by
    rw [List.map_cons, List.map_cons] at e
    injection e with e1 e2
    cases r with
    | cons r1 r2 =>
    unfold fldOf at f
    have e1' : x = C.nm j := e1
    by_cases hj : j = k
    · rw [if_pos hj] at f
      cases f
      refine ⟨u, ?_, r1⟩
      rw [List.lookup_cons, e1', hj]
      simp
    · rw [if_neg hj] at f
      have ne : (C.nm k == x) = false := by
        rw [e1']
        refine beq_eq_false_iff_ne.mpr fun z => hj ?_
        have lj := l j (by simp)
        unfold Pc.nm at z
        rw [List.getD_eq_getElem?_getD, List.getD_eq_getElem?_getD, List.getElem?_eq_getElem hk, List.getElem?_eq_getElem lj] at z
        exact ((List.getElem_inj (h₀ := hk) (h₁ := lj) hn).mp z).symm
      obtain ⟨w, h1, h2⟩ := lookup_fld hn hk (fs := fs) e2 (fun j hj => l j (by simp [hj])) r2 f
      exact ⟨w, by rw [List.lookup_cons, ne]; exact h1, h2⟩
/-- what stands of the classes with instances -/
structure ClsOk (X : Cx) (C : Pc) (T : Tb) : Prop where
  nd : C.attrs.Nodup
  at_ : ∀ (c : Nat) (Cl : M.Cl), T.cls[c]? = some Cl → Cl.exc = false → L2.Cls X.K (C.cad c) ∧ ∀ k ∈ Cl.flds, k < C.attrs.length ∧ NoAttr X.K (C.cad c) (C.nm k)
theorem pe_fldC (ck : ClsOk X C T) {k : Nat} {e : Expr} (he : PE X e (tE C T W ra)) (hb : attributeBase e (C.nm k) X.env (eval e X.env) = eval e X.env) : PE X (.Attribute e (C.nm k) pos) (tE C T W fun ρ h => (ra ρ h).bind fun x h => pk h x fun x => Ro (evFld T x k) h) :=
  peImp (pe_fld he hb) fun σ H Q ⟨Av, ρ, h, m, a, w⟩ => tE.bind a w fun d v h1 m1 H1 a1 k1 r1 w1 => by
    obtain ⟨e1, p1, w2⟩ := w1.pk
    obtain ⟨dd, e3, q⟩ := w2.ro
    have rp := peek_rp a1.sr r1 p1
    unfold evFld at e3
    split at e3
    · rename_i c as vs
      obtain ⟨Cl, e4, e5⟩ := Option.bind_eq_some_iff.mp e3
      split at e5
      · rename_i hc
        obtain ⟨c1, c2⟩ := ck.at_ c Cl e4 hc.1
        obtain ⟨c3, c4⟩ := c2 k hc.2
        cases rp with
        | ins b1 b2 b3 b4 =>
          obtain ⟨u, l1, l2⟩ := lookup_fld ck.nd c3 b2 b3 b4 e5
          exact ⟨_, _, _, _, u, rfl, b1, c1, c4, l1, q _ m1 H1 a1.sr Keep.refl l2⟩
      · cases e5
    · cases e3
/-! ### calls of defs -/
/-- what a def promises -/
def spF (C : Pc) (T : Tb) (g : List D → Hs → RE) : Sp := fun vs H Q E => ∃ Av m h ds, SR C Av m h H ∧ RVs C (lvs Av m h) m H ds vs ∧ Aft C T (fun c d _ H => E c d H) Av m h H [] (g ds h) Q
theorem Aft.ws {W' : WX} {σ' : L2.St} {r : RE} {Q : VK} (w : ∀ c d H, W c d σ H → W' c d σ' H) (a : Aft C T W Av m h H σ r Q) : Aft C T W' Av m h H σ' r Q := by
  cases r with
  | ok d h' => exact a
  | exc c vs h' => exact fun cls d m' H' s k x => w _ _ _ (a cls d m' H' s k x)
  | bad => exact a
theorem call_tr (g : List D → Hs → RE) {Q : VK} : tE C T W (fun ρ h => (rl ρ h).bind fun xs h => g xs h) σ H Q → tCallS (spF C T g) (WE W) (tL C T W rl) σ H Q :=
  fun ⟨Av, ρ, h, m, a, w⟩ => tL.bind a w fun d v h1 m1 H1 a1 k1 r1 w1 => ⟨Av, m1, h1, d, a1.sr, r1, w1.ws fun _ _ _ z => z⟩
end
end M
end

section
set_option Elab.async false
set_option linter.all false
set_option maxRecDepth 100000
set_option maxHeartbeats 4000000
/-! Snd9: what is walked; comprehensions. -/
namespace M
open PySem PySem.Spec PyProof.Rows L2
section
variable {C : Pc} {T : Tb} {W : WX} {Av Av' : Addr → Prop} {m m1 m' : List Addr} {h h1 h' : Hs} {H H1 H' : Hp} {σ : L2.St} {ρ : Rho} {lv : Addr → Prop} {X : Cx}
variable {ra rb rc : Rho → Hs → RE} {a b c : Expr} {pos : Pos} {es : List Expr} {rl : Rho → Hs → RL}
theorem Stay.trans {lv1 lv2 lv3 : Addr → Prop} {m1 m2 m3 : List Addr} {H1 H2 H3 : Hp} (a : Stay lv1 lv2 m1 m2 H1 H2) (b : Stay lv2 lv3 m2 m3 H2 H3) : Stay lv1 lv3 m1 m3 H1 H3 := ⟨by
  obtain ⟨r, e⟩ := a.pre
  obtain ⟨r', e'⟩ := b.pre
  exact ⟨r ++ r', by rw [e', e, List.append_assoc]⟩, fun c o e n => (fun z => b.keep c o z.1 z.2) (a.keep c o e n), fun c xs e => b.tup c xs (a.tup c xs e), fun c o u e => b.frz c o u (a.frz c o u e)⟩
theorem Keep.stayA (k : Keep m h H m' h' H') (hA : ∀ a, Av' a → Av a ∨ H a = none) : Stay (lvs Av m h) (lvs Av' m' h') m m' H H' := ⟨k.pre, fun a o e n => by
  obtain ⟨e1, n1⟩ := k.keep a o e fun z => n (.inr z)
  exact ⟨e1, fun z => z.elim (fun z => (hA a z).elim (fun z => n (.inl z)) fun z => by rw [e] at z; cases z) n1⟩, k.tup, k.frz⟩
/-! ### what is walked -/
def WkAt (C : Pc) (Av : Addr → Prop) (J : L2.It) (xs : List D) (m : List Addr) (h : Hs) (H : Hp) : Prop := ∀ i, (∀ d, xs[i]? = some d → J.go i H ∧ ∀ x H', J.yld i H x H' → H' = H ∧ RV C (lvs Av m h) m H d x) ∧ (xs.length ≤ i → J.stop i H)
def Walks (C : Pc) (Av : Addr → Prop) (J : L2.It) (s : Src) (m : List Addr) (h : Hs) (H : Hp) : Prop := ∀ Av' m' h' H', SR C Av' m' h' H' → Stay (lvs Av m h) (lvs Av' m' h') m m' H H' → srcOk s.at_ h' = true → WkAt C Av' J s.xs m' h' H'
def tI (C : Pc) (T : Tb) (W : WX) (r : Rho → Hs → Option (Src × Hs)) : TI := fun σ H R => ∃ Av ρ h m, At C Av ρ h m σ H ∧ match r ρ h with
  | none => False
  | some (s, h') => ∀ J m' H', SR C Av m' h' H' → Keep m h H m' h' H' → Walks C Av J s m' h' H' → R J H'
def iSeq (K : PySem.W.Frag) (tl : TE) : TI := fun σ H R => tl σ H fun x H1 => ∃ a, x = .ref a ∧ (((∃ xs, SqL K H1 a xs) ∧ R (Itl K a) H1) ∨ ((∃ xs, SqT K H1 a xs) ∧ R (Itt K a) H1))
theorem pi_seq {tg l : Expr} {tl : TE} (hl : PE X l tl) : PI X tg l (iSeq X.K tl) := by
  refine ⟨fun pins s σ H R I h => ?_⟩
  refine thn (hl.run pins s σ H _ I h) fun v s1 ⟨x, H1, I1, r1, q1⟩ => ?_
  obtain ⟨a, e, q⟩ := q1
  subst e
  cases r1
  have fin : ∀ b, b ∈ [s1.heap.objs.size] → FpOk X pins H1 b := fun b hb => by
    have e : b = s1.heap.objs.size := by simpa using hb
    subst e
    exact I1.fpOk (Nat.le_refl _) (I1.hok.fresh (Nat.le_refl _))
  rcases q with ⟨⟨xs, hq⟩, q⟩ | ⟨⟨xs, hq⟩, q⟩
  · obtain ⟨its, rv, p, hz⟩ := I1.list hq
    refine wpAny_pyIter_list p.isList ?_
    exact ⟨s1.heap.objs.size, [s1.heap.objs.size], _, _, H1, rfl, I1.kept (t' := s1.toks) fun b o e => Heap.get?_push_of_some _ e, turn_list a _, ⟨_, Heap.get?_push_size _ rfl, rfl, rfl⟩, fin, q⟩
  · obtain ⟨its, rv, p, hz⟩ := I1.tuple hq
    refine wpAny_pyIter_tuple (show s1.heap.IsTuple a its.toArray from p) ?_
    exact ⟨s1.heap.objs.size, [s1.heap.objs.size], _, _, H1, rfl, I1.kept (t' := s1.toks) fun b o e => Heap.get?_push_of_some _ e, turn_tuple a _, ⟨_, Heap.get?_push_size _ rfl, rfl, rfl⟩, fin, q⟩
theorem piImp {tg e : Expr} {t t' : TI} (p : PI X tg e t) (w : ∀ σ H R, t' σ H R → t σ H R) : PI X tg e t' := ⟨fun pins s σ H R I hw => p.run pins s σ H R I (w σ H R hw)⟩
/-- a list, a tuple that is walked yields what stands there -/
theorem wk_list {K : PySem.W.Frag} {a : Addr} {vs : List V} {xs : List D} (q : SqL K H a vs) (r : RVs C (lvs Av m h) m H xs vs) : WkAt C Av (Itl K a) xs m h H := fun i => ⟨fun d e => by
  obtain ⟨v, e1, r1⟩ := r.get e
  exact ⟨⟨vs, v, q, e1⟩, fun x H' ⟨e2, y⟩ => by
    have := y vs q
    rw [e1] at this
    cases this
    exact ⟨e2, r1⟩⟩, fun l => ⟨vs, q, by rw [← r.length]; exact l⟩⟩
theorem wk_tup {K : PySem.W.Frag} {a : Addr} {vs : List V} {xs : List D} (q : SqT K H a vs) (r : RVs C (lvs Av m h) m H xs vs) : WkAt C Av (Itt K a) xs m h H := fun i => ⟨fun d e => by
  obtain ⟨v, e1, r1⟩ := r.get e
  exact ⟨⟨vs, v, q, e1⟩, fun x H' ⟨e2, y⟩ => by
    have := y vs q
    rw [e1] at this
    cases this
    exact ⟨e2, r1⟩⟩, fun l => ⟨vs, q, by rw [← r.length]; exact l⟩⟩
theorem src_walks (o : X.K = C.K) {x w : D} {xs : List D} {v : V} (S : SR C Av m h H) (r : RV C (lvs Av m h) m H x v) (p : peek h x = some w) (e : itemsOf w = some xs) :
    ∃ a, v = .ref a ∧ (((∃ vs, SqL X.K H a vs) ∧ Walks C Av (Itl X.K a) ⟨xs, srcOf x w⟩ m h H) ∨ ((∃ vs, SqT X.K H a vs) ∧ Walks C Av (Itt X.K a) ⟨xs, srcOf x w⟩ m h H)) := by
  have key : ∀ Av' m' h' H', SR C Av' m' h' H' → Stay (lvs Av m h) (lvs Av' m' h') m m' H H' → srcOk (srcOf x w) h' = true → RP C (lvs Av' m' h') m' H' w v := fun Av' m' h' H' S' k ok => by
    have r' := r.stay k
    by_cases hx : ∃ n, x = .ref n
    · obtain ⟨n, rfl⟩ := hx
      have e1 : cont h' n = some w := by simpa [srcOk, srcOf] using ok
      exact peek_rp S' r' (show peek h' (.ref n) = some w from e1)
    · have e1 : x = w := by
        unfold peek at p
        split at p
        · exact absurd ⟨_, rfl⟩ hx
        · exact Option.some.inj p
      subst e1
      exact RP.of r' fun i z => hx ⟨i, z⟩
  have rp := peek_rp S r p
  cases w with
  | tup ys =>
    cases e
    cases rp with
    | tup a b =>
      refine ⟨_, rfl, .inr ⟨⟨_, by rw [o]; exact a⟩, fun Av' m' h' H' S' k ok => ?_⟩⟩
      have rp' := key Av' m' h' H' S' k ok
      cases rp' with
      | tup a b =>
        rw [← o] at a
        exact wk_tup a b
  | lst ys =>
    cases e
    cases rp with
    | lst a b =>
      refine ⟨_, rfl, .inl ⟨⟨_, SqL.of a⟩, fun Av' m' h' H' S' k ok => ?_⟩⟩
      have rp' := key Av' m' h' H' S' k ok
      cases rp' with
      | lst a b => exact wk_list (SqL.of a) b
  | rol ys =>
    cases e
    cases rp with
    | rol a b =>
      refine ⟨_, rfl, .inl ⟨⟨_, by rw [o]; exact a⟩, fun Av' m' h' H' S' k ok => ?_⟩⟩
      have rp' := key Av' m' h' H' S' k ok
      cases rp' with
      | rol a b =>
        rw [← o] at a
        exact wk_list a b
  | _ => cases e
theorem wk_rng {lo : Int} {n : Nat} : Walks C Av (Itr lo n) ⟨(List.range n).map fun (k : Nat) => D.int (lo + (k : Int)), none⟩ m h H := fun Av' m' h' H' S' k ok i => ⟨fun d e => by
  have e' : ((List.range n).map fun (k : Nat) => D.int (lo + (k : Int)))[i]? = some d := e
  rw [List.getElem?_map] at e'
  obtain ⟨j, e1, e2⟩ := Option.map_eq_some_iff.mp e'
  obtain ⟨l, e3⟩ := List.getElem?_eq_some_iff.mp e1
  rw [List.getElem_range] at e3
  subst e3 e2
  rw [List.length_range] at l
  exact ⟨l, fun x H2 ⟨y1, y2⟩ => by subst y2; exact ⟨y1, .int _⟩⟩, fun l => by
  have l' : ((List.range n).map fun (k : Nat) => D.int (lo + (k : Int))).length ≤ i := l
  rw [List.length_map, List.length_range] at l'
  exact l'⟩
theorem pi_seqC (o : X.K = C.K) {tg e : Expr} (he : PE X e (tE C T W ra)) : PI X tg e (tI C T W fun ρ h => (match ra ρ h with
    | .ok x h => (peek h x).bind fun w => (itemsOf w).map fun xs => (⟨xs, srcOf x w⟩, h)
    | _ => none)) := piImp (pi_seq he) fun σ H R ⟨Av, ρ, h, m, a, w⟩ => ⟨Av, ρ, h, m, a, by
  dsimp only at w
  generalize ra ρ h = r at w ⊢
  cases r with
  | bad => exact w
  | exc c vs h' => exact w.elim
  | ok x h1 =>
    dsimp only at w
    cases p : peek h1 x with
    | none => rw [p] at w; exact w.elim
    | some u =>
      rw [p] at w
      cases e : itemsOf u with
      | none => rw [Option.bind_some, e] at w; exact w.elim
      | some xs =>
        rw [Option.bind_some, e] at w
        intro v m1 H1 s1 k1 r1
        obtain ⟨a, ea, q⟩ := src_walks o s1 r1 p e
        refine ⟨a, ea, ?_⟩
        rcases q with ⟨q, z⟩ | ⟨q, z⟩
        · exact .inl ⟨q, w _ m1 H1 s1 k1 z⟩
        · exact .inr ⟨q, w _ m1 H1 s1 k1 z⟩⟩
theorem rng1_tr : ∀ (σ : L2.St) (H : Hp) (R : L2.It → Hp → Prop), tI C T W (fun ρ h => (match ra ρ h with
    | .ok (.int j) h => (rngD 0 j).map fun xs => (⟨xs, none⟩, h)
    | _ => none)) σ H R → iRng1 (tCons (tE C T W ra) tNil) σ H R := fun σ H R ⟨Av, ρ, h, m, a, w⟩ => ⟨Av, ρ, h, m, a, by
  dsimp only at w
  generalize ra ρ h = r at w ⊢
  cases r with
  | bad => exact w
  | exc c vs h' => exact w.elim
  | ok x h1 =>
    cases x with
    | int j =>
      dsimp only at w
      cases e : rngD 0 j with
      | none => rw [e] at w; exact w.elim
      | some xs =>
        rw [e] at w
        intro v m1 H1 s1 k1 r1
        cases r1
        unfold rngD at e
        split at e
        · rename_i hc
          cases e
          refine ⟨j, rfl, hc.2.2.1, hc.2.2.2.1, w _ m1 H1 s1 k1 ?_⟩
          rw [Int.sub_zero]
          exact wk_rng
        · cases e
    | _ => exact w.elim⟩
theorem pi_rng1C {tg e : Expr} {p pos : Pos} (hg : Gl X "range") (hm : X.mg "range" = none) (he : PE X e (tE C T W ra)) (hs : starEach [e] X.env = [(false, eval e X.env)]) : PI X tg (.Call (.Name "range" p) [e] [] pos) (tI C T W fun ρ h => (match ra ρ h with
    | .ok (.int j) h => (rngD 0 j).map fun xs => (⟨xs, none⟩, h)
    | _ => none)) := piImp (pi_range1 hg hm (pa_cons he pa_nil hs) hs) rng1_tr
theorem pih_rng1C {tg e : Expr} {p pos : Pos} (hg : Gl X "range") (hm : X.mg "range" = none) (he : PE X e (tE C T W ra)) (hs : starEach [e] X.env = [(false, eval e X.env)]) : L2H.PIH X tg (.Call (.Name "range" p) [e] [] pos) (tI C T W fun ρ h => (match ra ρ h with
    | .ok (.int j) h => (rngD 0 j).map fun xs => (⟨xs, none⟩, h)
    | _ => none)) := ⟨fun pins s σ H R I z => (L2H.pi_range1H hg hm (pa_cons he pa_nil hs) hs).run pins s σ H R I (rng1_tr σ H R z)⟩
theorem pi_rng2C {tg e f : Expr} {p pos : Pos} (hg : Gl X "range") (hm : X.mg "range" = none) (he : PE X e (tE C T W ra)) (hf : PE X f (tE C T W rb)) (hs : starEach [e, f] X.env = [(false, eval e X.env), (false, eval f X.env)]) (hs2 : starEach [f] X.env = [(false, eval f X.env)]) :
    PI X tg (.Call (.Name "range" p) [e, f] [] pos) (tI C T W fun ρ h => (match ra ρ h with
    | .ok (.int i) h => (match rb ρ h with
      | .ok (.int j) h => (rngD i j).map fun xs => (⟨xs, none⟩, h)
      | _ => none)
    | _ => none)) := piImp (pi_range2 hg hm (pa_cons he (pa_cons hf pa_nil hs2) (by rw [hs, hs2])) hs hs2) fun σ H R ⟨Av, ρ, h, m, a, w⟩ => ⟨Av, ρ, h, m, a, by
  dsimp only at w
  generalize ra ρ h = r at w ⊢
  cases r with
  | bad => exact w
  | exc c vs h' => exact w.elim
  | ok x h1 =>
    cases x with
    | int i =>
      dsimp only at w
      intro v m1 H1 s1 k1 r1
      cases r1
      refine ⟨Av, ρ, h1, m1, a.keep k1 s1, ?_⟩
      generalize rb ρ h1 = r at w ⊢
      cases r with
      | bad => exact w
      | exc c vs h' => exact w.elim
      | ok y h2 =>
        cases y with
        | int j =>
          dsimp only at w
          cases e : rngD i j with
          | none => rw [e] at w; exact w.elim
          | some xs =>
            rw [e] at w
            intro v m2 H2 s2 k2 r2
            cases r2
            unfold rngD at e
            split at e
            · rename_i hc
              cases e
              exact ⟨i, j, rfl, ⟨hc.1, hc.2.1, hc.2.2.1, hc.2.2.2.1⟩, w _ m2 H2 s2 (k1.trans k2) wk_rng⟩
            · cases e
        | _ => exact w.elim
    | _ => exact w.elim⟩
end
end M
end

section
set_option Elab.async false
set_option linter.all false
set_option maxRecDepth 100000
set_option maxHeartbeats 4000000
/-! Snd10: comprehensions. -/
namespace M
open PySem PySem.Spec PyProof.Rows L2
section
variable {C : Pc} {T : Tb} {W : WX} {Av Av' : Addr → Prop} {m m1 m' : List Addr} {h h1 h' : Hs} {H H1 H' : Hp} {σ : L2.St} {ρ : Rho} {lv : Addr → Prop} {X : Cx}
variable {ra rb rc : Rho → Hs → RE} {a b c : Expr} {pos : Pos} {es : List Expr} {rl : Rho → Hs → RL}
/-- what is not ours is written: nobody of ours looks at it -/
theorem SR.wr (s : SR C Av m h H) {p : Addr} {xs : List V} {o : HO} (a : Av p) (e : H p = some (.lst xs)) : SR C Av m h (upd H p o) ∧ Stay (lvs Av m h) (lvs Av m h) m m H (upd H p o) := by
  have ne : ∀ {b u}, H b = some u → (∀ xs, u ≠ .lst xs) → b ≠ p := fun hb hn z => by rw [z, e] at hb; cases hb; exact hn _ rfl
  have st : Stay (lvs Av m h) (lvs Av m h) m m H (upd H p o) := ⟨⟨[], by simp⟩, fun b u hb l => ⟨by rw [upd_ne (fun z => l (.inl (by rw [z]; exact a)))]; exact hb, l⟩, fun b ys hb => by rw [upd_ne (ne hb fun _ z => nomatch z)]; exact hb, fun b u v hb => by rw [upd_ne (ne hb fun _ z => nomatch z)]; exact hb⟩
  refine ⟨⟨s.len, s.nd, fun i b w e1 e2 => (s.cell i b w e1 e2).stay st (fun u hb => by rw [upd_ne (fun z => s.sep i b e1 (by rw [z]; exact a))]; exact hb), fun i b e1 => ?_, fun b e1 => ?_, s.sep⟩, st⟩
  · obtain ⟨u, q⟩ := s.there i b e1
    exact ⟨u, by rw [upd_ne (fun z => s.sep i b e1 (by rw [z]; exact a))]; exact q⟩
  · by_cases z : b = p
    · rw [z]; exact ⟨_, upd_same⟩
    · obtain ⟨u, q⟩ := s.avd b e1
      exact ⟨u, by rw [upd_ne z]; exact q⟩
theorem Keep.wr (k : Keep m h H m' h' H') {p : Addr} {o : HO} (n : H p = none) : Keep m h H m' h' (upd H' p o) := by
  have ne : ∀ {b u}, H b = some u → b ≠ p := fun hb z => by rw [z, n] at hb; cases hb
  exact ⟨fun b xs e => by rw [upd_ne (ne e)]; exact k.tup b xs e, fun b u v e => by rw [upd_ne (ne e)]; exact k.frz b u v e, k.pre, fun b u e l => by rw [upd_ne (ne e)]; exact k.keep b u e l, fun b u e => by rw [upd_ne (ne e)]; exact k.there b u e⟩
theorem At.stay (a : At C Av ρ h m σ H) (s : SR C Av' m' h' H') (st : Stay (lvs Av m h) (lvs Av' m' h') m m' H H') : At C Av' ρ h' m' σ H' := ⟨s, fun i d e => by
  obtain ⟨v, e1, r⟩ := a.sl i d e
  exact ⟨v, e1, r.stay st⟩, a.ln⟩
/-- one slot more -/
theorem At.put (a : At C Av ρ h m σ H) {i : Nat} {d : D} {v : V} (r : RV C (lvs Av m h) m H d v) : At C Av (ρ.set i (some d)) h m (σ.set i (some v)) H := ⟨a.sr, fun j e hj => by
  by_cases z : i = j
  · subst z
    by_cases l : i < ρ.length
    · rw [List.getElem?_set_self l] at hj
      cases hj
      exact ⟨v, List.getElem?_set_self (by rw [← a.ln]; exact l), r⟩
    · rw [List.getElem?_eq_none (by rw [List.length_set]; omega)] at hj; cases hj
  · rw [List.getElem?_set_ne z] at hj ⊢
    exact a.sl j e hj, by rw [List.length_set, List.length_set]; exact a.ln⟩
theorem At.drop (a : At C Av ρ h m σ H) {i : Nat} : At C Av (ρ.set i none) h m (σ.set i none) H := ⟨a.sr, fun j e hj => by
  by_cases z : i = j
  · subst z
    by_cases l : i < ρ.length
    · rw [List.getElem?_set_self l] at hj; cases hj
    · rw [List.getElem?_eq_none (by rw [List.length_set]; omega)] at hj; cases hj
  · rw [List.getElem?_set_ne z] at hj ⊢
    exact a.sl j e hj, by rw [List.length_set, List.length_set]; exact a.ln⟩
/-- the slot's value need not be known -/
theorem At.dropL (a : At C Av ρ h m σ H) {i : Nat} {o : Option V} : At C Av (ρ.set i none) h m (σ.set i o) H := ⟨a.sr, fun j e hj => by
  by_cases z : i = j
  · subst z
    by_cases l : i < ρ.length
    · rw [List.getElem?_set_self l] at hj; cases hj
    · rw [List.getElem?_eq_none (by rw [List.length_set]; omega)] at hj; cases hj
  · rw [List.getElem?_set_ne z] at hj ⊢
    exact a.sl j e hj, by rw [List.length_set, List.length_set]; exact a.ln⟩
/-- the state of a comprehension: D its list, acc what it holds; base: (Av0, m0, h0, H0), H0 ahead of D -/
structure Lc (C : Pc) (Av : Addr → Prop) (m0 : List Addr) (h0 : Hs) (H0 : Hp) (D : Addr) (acc : List M.D) (m : List Addr) (h : Hs) (H : Hp) : Prop where
  sr : SR C (avp Av D) m h H
  keep : Keep m0 h0 H0 m h H
  new : H0 D = none
  cell : CellOk C (lvs (avp Av D) m h) m H D (.lst acc)
theorem Lc.av {Dd : Addr} {acc : List D} {m0 : List Addr} {h0 : Hs} {H0 : Hp} (l : Lc C Av m0 h0 H0 Dd acc m h H) : ∀ a, avp Av Dd a → Av a ∨ H0 a = none := fun a z => z.elim .inl fun z => .inr (by rw [z]; exact l.new)
/-- an item is evaluated: D stays -/
theorem Lc.go {Dd : Addr} {acc : List D} {m0 : List Addr} {h0 : Hs} {H0 : Hp} (l : Lc C Av m0 h0 H0 Dd acc m h H) (s : SR C (avp Av Dd) m1 h1 H1) (k : Keep m h H m1 h1 H1) : Lc C Av m0 h0 H0 Dd acc m1 h1 H1 := by
  refine ⟨s, l.keep.trans k, l.new, ?_⟩
  obtain ⟨vs, e, r⟩ := l.cell
  have nl : ¬ live m h Dd := fun ⟨i, w, e1, _⟩ => l.sr.sep i Dd e1 (.inr rfl)
  exact ⟨vs, (k.keep Dd _ e nl).1, k.rvs r⟩
theorem Lc.add {Dd : Addr} {acc : List D} {m0 : List Addr} {h0 : Hs} {H0 : Hp} (l : Lc C Av m0 h0 H0 Dd acc m h H) {d : D} {v : V} (r : RV C (lvs (avp Av Dd) m h) m H d v) (z : acc.length < LIM) :
    ∃ vs, H Dd = some (.lst vs) ∧ vs.length < sizeLine ∧ Lc C Av m0 h0 H0 Dd (acc ++ [d]) m h (upd H Dd (.lst (vs ++ [v]))) ∧ Stay (lvs (avp Av Dd) m h) (lvs (avp Av Dd) m h) m m H (upd H Dd (.lst (vs ++ [v]))) := by
  obtain ⟨vs, e, rr⟩ := l.cell
  obtain ⟨s, st⟩ := l.sr.wr (p := Dd) (o := .lst (vs ++ [v])) (.inr rfl) e
  exact ⟨vs, e, by rw [← rr.length, ← limEq]; exact z, ⟨s, l.keep.wr l.new, l.new, vs ++ [v], upd_same, (rr.append (.cons r .nil)).stay st⟩, st⟩
theorem wipe1 (σ : L2.St) (i : Nat) : wipe σ [i] = σ.set i none := rfl
/-- one clause, from its source on -/
theorem lc_go {J : L2.It} {s : Src} {i : Nat} {Dd : Addr} {m0 : List Addr} {h0 : Hs} {H0 : Hp} {ρ0 : Rho} {σ0 : L2.St} {rt re : Rho → Hs → RE} {Fin : Hp → Prop} {Wt : WX} {Aw : Addr → Prop} {mw : List Addr} {hw : Hs} {Hw : Hp}
    (wk : Walks C Aw J s mw hw Hw) (ha : At C Aw ρ0 hw mw σ0 Hw) {acc : List D} (l : Lc C Av m0 h0 H0 Dd acc m h H) (st0 : Stay (lvs Aw mw hw) (lvs (avp Av Dd) m h) mw m Hw H)
    (hf : ∀ acc' h', compGo (srcOk s.at_) (fun x h => re (ρ0.set i (some x)) h) (fun x h => rt (ρ0.set i (some x)) h) s.xs acc h = .ok (.lst acc') h' → ∀ m' H', Lc C Av m0 h0 H0 Dd acc' m' h' H' → Stay (lvs Aw mw hw) (lvs (avp Av Dd) m' h') mw m' Hw H' → Fin H')
    (ho : ∃ acc' h', compGo (srcOk s.at_) (fun x h => re (ρ0.set i (some x)) h) (fun x h => rt (ρ0.set i (some x)) h) s.xs acc h = .ok (.lst acc') h') :
    ∃ Wq : Nat → Nat → Hp → Prop, (∃ mm, Wq 0 mm H) ∧ ∀ n mm H, Wq n mm H → (J.stop n H ∧ Fin H) ∨ (J.go n H ∧ ∃ Nx : Hp → Prop, (∀ H', Nx H' → ∃ m', m' < mm ∧ Wq (n + 1) m' H') ∧ ∀ x H', J.yld n H x H' → gName i x (wipe σ0 [i]) H' fun σ2 H2 => wipe σ2 [i] = wipe σ0 [i] ∧
      tB (tE C T Wt rt) σ2 H2 fun b H3 => if b = true then tE C T Wt re σ2 H3 fun y H4 => ∃ acc, H4 Dd = some (.lst acc) ∧ acc.length < sizeLine ∧ Nx (upd H4 Dd (.lst (acc ++ [y]))) else Nx H3) := by
  let St : Nat → Hp → Prop := fun n H' => ∃ m' h' acc', Lc C Av m0 h0 H0 Dd acc' m' h' H' ∧ Stay (lvs Aw mw hw) (lvs (avp Av Dd) m' h') mw m' Hw H' ∧
    compGo (srcOk s.at_) (fun x h => re (ρ0.set i (some x)) h) (fun x h => rt (ρ0.set i (some x)) h) (s.xs.drop n) acc' h' = compGo (srcOk s.at_) (fun x h => re (ρ0.set i (some x)) h) (fun x h => rt (ρ0.set i (some x)) h) s.xs acc h
  refine ⟨fun n mm H' => mm = s.xs.length - n ∧ n ≤ s.xs.length ∧ St n H', ⟨_, rfl, Nat.zero_le _, m, h, acc, l, st0, rfl⟩, ?_⟩
  rintro n mm H1 ⟨rfl, hn, m1, h1, acc1, l1, st1, e1⟩
  obtain ⟨accF, hF, eF⟩ := ho
  rw [eF] at e1
  by_cases hlt : n < s.xs.length
  · right
    rw [List.drop_eq_getElem_cons hlt] at e1
    unfold compGo at e1
    split at e1
    · rename_i hck
      obtain ⟨g1, g2⟩ := (wk _ m1 h1 H1 l1.sr st1 hck n).1 s.xs[n] (List.getElem?_eq_getElem hlt)
      refine ⟨g1, St (n + 1), fun H' q => ⟨s.xs.length - (n + 1), by omega, rfl, hlt, q⟩, fun x H' y => ?_⟩
      obtain ⟨rfl, rx⟩ := g2 x H' y
      have a1 : At C (avp Av Dd) (ρ0.set i (some s.xs[n])) h1 m1 ((wipe σ0 [i]).set i (some x)) H' := by
        have q := (ha.stay l1.sr st1).put (i := i) rx
        rw [wipe1, List.set_set]
        exact q
      refine ⟨by rw [wipe1, wipe1, List.set_set, List.set_set], _, _, _, _, a1, ?_⟩
      try dsimp only at e1
      generalize eT : rt (ρ0.set i (some s.xs[n])) h1 = r at e1 ⊢
      cases r with
      | bad => cases e1
      | exc c vs h' => cases e1
      | ok d h2 =>
        cases d with
        | bl b =>
          intro v m2 H2 s2 k2 r2
          refine ⟨b, r2.bl_inv, ?_⟩
          have l2 := l1.go s2 k2
          have a2 := a1.keep k2 s2
          have st2 := st1.trans k2.stay
          cases b with
          | true =>
            show if true = true then _ else _
            rw [if_pos rfl]
            try dsimp only at e1
            refine ⟨_, _, _, _, a2, ?_⟩
            generalize eE : re (ρ0.set i (some s.xs[n])) h2 = r at e1 ⊢
            cases r with
            | bad => cases e1
            | exc c vs h' => cases e1
            | ok d h3 =>
              intro v3 m3 H3 s3 k3 r3
              try dsimp only at e1
              split at e1
              · rename_i hz
                obtain ⟨vs, w1, w2, l3, st3⟩ := (l2.go s3 k3).add r3 hz
                exact ⟨vs, w1, w2, m3, h3, acc1 ++ [d], l3, (st2.trans k3.stay).trans st3, e1.trans eF.symm⟩
              · cases e1
          | false =>
            show if false = true then _ else St (n + 1) H2
            rw [if_neg Bool.false_ne_true]
            exact ⟨m2, h2, acc1, l2, st2, e1.trans eF.symm⟩
        | _ => cases e1
    · cases e1
  · left
    have e : n = s.xs.length := by omega
    subst e
    rw [List.drop_length] at e1
    unfold compGo at e1
    split at e1
    · rename_i hck
      cases e1
      exact ⟨(wk _ m1 h1 H1 l1.sr st1 hck s.xs.length).2 (Nat.le_refl _), hf _ _ eF m1 H1 l1 st1⟩
    · cases e1
theorem compGo_cases (ck : Hs → Bool) (f t : D → Hs → RE) : ∀ (xs acc : List D) (h : Hs), compGo ck f t xs acc h = .bad ∨ ∃ acc' h', compGo ck f t xs acc h = .ok (.lst acc') h'
  | [], acc, h => by
    unfold compGo
    split
    · exact .inr ⟨_, _, rfl⟩
    · exact .inl rfl
  | x :: xs, acc, h => by
    unfold compGo
    split
    · split
      · split
        · split
          · exact compGo_cases ck f t xs _ _
          · exact .inl rfl
        · exact .inl rfl
      · exact compGo_cases ck f t xs _ _
      · exact .inl rfl
    · exact .inl rfl
/-- [el for i in it if cd] -/
theorem lc_tr {i : Nat} {ri : Rho → Hs → Option (Src × Hs)} {rt re : Rho → Hs → RE} {Wt : WX} {Q : VK} : tF C T W (fun ρ h => (match ri ρ h with
    | some (s, h) => compGo (srcOk s.at_) (fun x h => re (ρ.set i (some x)) h) (fun x h => rt (ρ.set i (some x)) h) s.xs [] h
    | none => .bad)) σ H Q → tLc (tI C T W ri) (gName i) (tB (tE C T Wt rt)) (tE C T Wt re) [i] σ H Q := fun ⟨Av, ρ, h, m, a, w⟩ => ⟨Av, ρ, h, m, a, by
  dsimp only at w
  generalize ri ρ h = r at w ⊢
  cases r with
  | none => exact w.elim
  | some p =>
    obtain ⟨s, h1⟩ := p
    intro J m1 H1 s1 k1 wk Dd nD
    dsimp only at w
    rcases compGo_cases (srcOk s.at_) (fun x h => re (ρ.set i (some x)) h) (fun x h => rt (ρ.set i (some x)) h) s.xs [] h1 with e | ⟨acc, hF, e⟩
    · rw [e] at w; exact w.elim
    · have nD0 : H Dd = none := by
        cases q : H Dd with
        | none => rfl
        | some o =>
          obtain ⟨o', e'⟩ := k1.there Dd o q
          rw [nD] at e'; cases e'
      have l0 : Lc C Av m h H Dd [] m1 h1 (upd H1 Dd (.lst [])) := ⟨s1.newA nD, k1.trans (keep_new nD), nD0, [], upd_same, .nil⟩
      refine lc_go (Fin := Q (.ref Dd)) wk (a.keep k1 s1) l0 (s1.stayA nD) (fun acc' h' e' m' H' l' st' => ?_) ⟨acc, hF, e⟩
      rw [e'] at w
      exact w Dd m' H' l'.sr l'.keep nD0 l'.cell⟩
theorem Stay.refl {lv : Addr → Prop} {m : List Addr} {H : Hp} : Stay lv lv m m H H := ⟨⟨[], by simp⟩, fun _ _ e n => ⟨e, n⟩, fun _ _ e => e, fun _ _ _ e => e⟩
theorem comp2Go_cases (ck : Hs → Bool) (f : D → Hs → List D → RE) : ∀ (xs acc : List D) (h : Hs), comp2Go ck f xs acc h = .bad ∨ ∃ acc' h', comp2Go ck f xs acc h = .ok (.lst acc') h'
  | [], acc, h => by
    unfold comp2Go
    split
    · exact .inr ⟨_, _, rfl⟩
    · exact .inl rfl
  | x :: xs, acc, h => by
    unfold comp2Go
    split
    · split
      · exact comp2Go_cases ck f xs _ _
      · exact .inl rfl
    · exact .inl rfl
theorem wipe2 (σ : L2.St) (i j : Nat) : wipe σ [i, j] = (σ.set j none).set i none := rfl
/-- [el for i in it for j in jt if cd] -/
theorem lc2_tr {i j : Nat} (hij : i ≠ j) {ri rj : Rho → Hs → Option (Src × Hs)} {rt re : Rho → Hs → RE} {Wt : WX} {Q : VK} : tF C T W (fun ρ h => (match ri ρ h with
    | some (s, h) => comp2Go (srcOk s.at_) (fun x h acc => match rj ((ρ.set j none).set i (some x)) h with
      | some (r, h) => compGo (srcOk r.at_) (fun y h => re (((ρ.set j none).set i (some x)).set j (some y)) h) (fun y h => rt (((ρ.set j none).set i (some x)).set j (some y)) h) r.xs acc h
      | none => .bad) s.xs [] h
    | none => .bad)) σ H Q → tLc2 (tI C T W ri) (gName i) tYes (tI C T Wt rj) (gName j) (tB (tE C T Wt rt)) (tE C T Wt re) [i, j] [j] σ H Q := fun ⟨Av, ρ, h, m, a, w⟩ => ⟨Av, ρ, h, m, a, by
  dsimp only at w
  generalize ri ρ h = r at w ⊢
  cases r with
  | none => exact w.elim
  | some p =>
    obtain ⟨s, h1⟩ := p
    intro J m1 H1 s1 k1 wk Dd nD
    dsimp only at w
    generalize ef : (fun (x : D) (h : Hs) (acc : List D) => (match rj ((ρ.set j none).set i (some x)) h with
      | some (r, h) => compGo (srcOk r.at_) (fun y h => re (((ρ.set j none).set i (some x)).set j (some y)) h) (fun y h => rt (((ρ.set j none).set i (some x)).set j (some y)) h) r.xs acc h
      | none => RE.bad)) = f at w
    rcases comp2Go_cases (srcOk s.at_) f s.xs [] h1 with e | ⟨accF, hF, eF⟩
    · rw [e] at w; exact w.elim
    · have nD0 : H Dd = none := by
        cases q : H Dd with
        | none => rfl
        | some o =>
          obtain ⟨o', e'⟩ := k1.there Dd o q
          rw [nD] at e'; cases e'
      have a1 := a.keep k1 s1
      let St : Nat → Hp → Prop := fun n H' => ∃ m' h' acc', Lc C Av m h H Dd acc' m' h' H' ∧ Stay (lvs Av m1 h1) (lvs (avp Av Dd) m' h') m1 m' H1 H' ∧ comp2Go (srcOk s.at_) f (s.xs.drop n) acc' h' = .ok (.lst accF) hF
      refine ⟨fun n mm H' => mm = s.xs.length - n ∧ n ≤ s.xs.length ∧ St n H', ⟨_, rfl, Nat.zero_le _, m1, h1, [], ⟨s1.newA nD, k1.trans (keep_new nD), nD0, [], upd_same, .nil⟩, s1.stayA nD, eF⟩, ?_⟩
      rintro n mm H2 ⟨rfl, hn, m2, h2, acc2, l2, st2, e2⟩
      by_cases hlt : n < s.xs.length
      · right
        rw [List.drop_eq_getElem_cons hlt] at e2
        unfold comp2Go at e2
        split at e2
        · rename_i hck
          obtain ⟨g1, g2⟩ := (wk _ m2 h2 H2 l2.sr st2 hck n).1 s.xs[n] (List.getElem?_eq_getElem hlt)
          refine ⟨g1, St (n + 1), fun H' q => ⟨s.xs.length - (n + 1), by omega, rfl, hlt, q⟩, fun x H' y => ?_⟩
          obtain ⟨rfl, rx⟩ := g2 x H' y
          have a2 : At C (avp Av Dd) ((ρ.set j none).set i (some s.xs[n])) h2 m2 ((wipe σ [i, j]).set i (some x)) H' := by
            have q := ((a1.stay l2.sr st2).drop (i := j)).put (i := i) rx
            rw [wipe2, List.set_set]
            exact q
          refine ⟨?_, ?_⟩
          · rw [wipe2, wipe2, List.set_set, List.set_comm _ _ hij, List.set_set, List.set_set]
          · unfold tYes
            dsimp only
            rw [if_pos rfl]
            refine ⟨_, _, _, _, a2, ?_⟩
            rw [← ef] at e2
            dsimp only at e2
            generalize eR : rj ((ρ.set j none).set i (some s.xs[n])) h2 = rr at e2 ⊢
            cases rr with
            | none => cases e2
            | some p =>
              obtain ⟨r, h3⟩ := p
              intro J1 m3 H3 s3 k3 wk1
              dsimp only at e2
              rcases compGo_cases (srcOk r.at_) (fun y h => re (((ρ.set j none).set i (some s.xs[n])).set j (some y)) h) (fun y h => rt (((ρ.set j none).set i (some s.xs[n])).set j (some y)) h) r.xs acc2 h3 with e | ⟨acc3, h4, e⟩
              · rw [e] at e2; cases e2
              · rw [e] at e2
                refine lc_go (Fin := St (n + 1)) (ρ0 := (ρ.set j none).set i (some s.xs[n])) wk1 (a2.keep k3 s3) (l2.go s3 k3) Stay.refl (fun acc' h' e' m' H' l' st' => ?_) ⟨acc3, h4, e⟩
                rw [e] at e'
                cases e'
                refine ⟨m', _, _, l', (st2.trans k3.stay).trans st', ?_⟩
                rw [← ef]
                exact e2
        · cases e2
      · left
        have e : n = s.xs.length := by omega
        subst e
        rw [List.drop_length] at e2
        unfold comp2Go at e2
        split at e2
        · rename_i hck
          cases e2
          rw [eF] at w
          exact ⟨(wk _ m2 _ H2 l2.sr st2 hck s.xs.length).2 (Nat.le_refl _), w Dd m2 H2 l2.sr l2.keep nD0 l2.cell⟩
        · cases e2⟩
end
end M
end

section
set_option Elab.async false
set_option linter.all false
set_option maxRecDepth 100000
set_option maxHeartbeats 4000000
/-! Snd11: statements. -/
namespace M
open PySem PySem.Spec PyProof.Rows L2
section
variable {C : Pc} {T : Tb} {W : WX} {Av Av' : Addr → Prop} {m m1 m' : List Addr} {h h1 h' : Hs} {H H1 H' : Hp} {σ : L2.St} {ρ : Rho} {lv : Addr → Prop} {X : Cx}
variable {ra rb rc : Rho → Hs → RE} {a b c : Expr} {pos : Pos} {es : List Expr} {rl : Rho → Hs → RL}
def AftS (C : Pc) (T : Tb) (W : WX) (Av : Addr → Prop) (m : List Addr) (h : Hs) (H : Hp) (r : RS) (D : Ends) : Prop := match r with
  | .nx ρ' h' => ∀ σ' m' H', At C Av ρ' h' m' σ' H' → Keep m h H m' h' H' → D.nx σ' H'
  | .bk ρ' h' => ∀ σ' m' H', At C Av ρ' h' m' σ' H' → Keep m h H m' h' H' → D.bk σ' H'
  | .ct ρ' h' => ∀ σ' m' H', At C Av ρ' h' m' σ' H' → Keep m h H m' h' H' → D.ct σ' H'
  | .rt d h' => ∀ v m' H', SR C Av m' h' H' → Keep m h H m' h' H' → RV C (lvs Av m' h') m' H' d v → D.rt v H'
  | .exc c vs ρ' h' => ∀ cls d σ' m' H', At C Av ρ' h' m' σ' H' → Keep m h H m' h' H' → ExR C T (lvs Av m' h') m' H' c vs cls d → W cls d σ' H'
  | .bad => False
def tS (C : Pc) (T : Tb) (W : WX) (r : Rho → Hs → RS) : TS := fun D σ H => ∃ Av ρ h m, At C Av ρ h m σ H ∧ AftS C T W Av m h H (r ρ h) D
theorem psImp {s : Stmt} {t t' : TS} (p : PS X s t) (w : ∀ D σ H, t' D σ H → t D σ H) : PS X s t' := ⟨fun pins s σ H D I hw => p.run pins s σ H D I (w D σ H hw)⟩
theorem pssImp {s : List Stmt} {t t' : TS} (p : PSs X s t) (w : ∀ D σ H, t' D σ H → t D σ H) : PSs X s t' := ⟨fun pins s σ H D I hw => p.run pins s σ H D I (w D σ H hw)⟩
theorem AftS.keep {r : RS} {D : Ends} (k : Keep m h H m1 h1 H1) (a : AftS C T W Av m h H r D) : AftS C T W Av m1 h1 H1 r D := by
  cases r with
  | nx ρ' h' => exact fun σ' m' H' s k' => a σ' m' H' s (k.trans k')
  | bk ρ' h' => exact fun σ' m' H' s k' => a σ' m' H' s (k.trans k')
  | ct ρ' h' => exact fun σ' m' H' s k' => a σ' m' H' s (k.trans k')
  | rt d h' => exact fun v m' H' s k' r => a v m' H' s (k.trans k') r
  | exc c vs ρ' h' => exact fun cls d σ' m' H' s k' x => a cls d σ' m' H' s (k.trans k') x
  | bad => exact a
/-- other ends -/
theorem AftS.ends {r : RS} {D D' : Ends} (a : AftS C T W Av m h H r D) (n : ∀ ρ' h' σ' m' H', r = .nx ρ' h' → At C Av ρ' h' m' σ' H' → Keep m h H m' h' H' → D.nx σ' H' → D'.nx σ' H') (hb : D.bk = D'.bk) (hc : D.ct = D'.ct) (hr : D.rt = D'.rt) : AftS C T W Av m h H r D' := by
  cases r with
  | nx ρ' h' => exact fun σ' m' H' s k' => n ρ' h' σ' m' H' rfl s k' (a σ' m' H' s k')
  | bk ρ' h' => exact fun σ' m' H' s k' => hb ▸ a σ' m' H' s k'
  | ct ρ' h' => exact fun σ' m' H' s k' => hc ▸ a σ' m' H' s k'
  | rt d h' => exact fun v m' H' s k' r => hr ▸ a v m' H' s k' r
  | exc c vs ρ' h' => exact a
  | bad => exact a
/-- an expression first -/
theorem st_tr {k : Rho → D → Hs → RS} {D : Ends} {Q : VK} (at_ : At C Av ρ h m σ H) (a : AftS C T W Av m h H ((ra ρ h).st ρ (k ρ)) D)
    (w : ∀ d v h1 m1 H1, At C Av ρ h1 m1 σ H1 → Keep m h H m1 h1 H1 → RV C (lvs Av m1 h1) m1 H1 d v → AftS C T W Av m1 h1 H1 (k ρ d h1) D → Q v H1) : tE C T W ra σ H Q := ⟨Av, ρ, h, m, at_, by
  unfold RE.st at a
  generalize ra ρ h = r at a ⊢
  cases r with
  | ok d h' => exact fun v m' H' s k' x => w d v h' m' H' (at_.keep k' s) k' x (a.keep k')
  | exc c vs h' => exact fun cls d m' H' s k' x => a cls d σ m' H' (at_.keep k' s) k' x
  | bad => exact a⟩
theorem pss_nilC : PSs X [] (tS C T W fun ρ h => .nx ρ h) := pssImp pss_nil fun D σ H ⟨Av, ρ, h, m, a, w⟩ => w σ m H a Keep.refl
theorem pss_consC {s : Stmt} {r : List Stmt} {rs rr : Rho → Hs → RS} (hs : PS X s (tS C T W rs)) (hr : PSs X r (tS C T W rr)) : PSs X (s :: r) (tS C T W fun ρ h => (match rs ρ h with
    | .nx ρ h => rr ρ h
    | x => x)) := pssImp (pss_cons hs hr) fun D σ H ⟨Av, ρ, h, m, a, w⟩ => ⟨Av, ρ, h, m, a, by
  dsimp only at w
  generalize rs ρ h = r at w ⊢
  cases r with
  | nx ρ' h' => exact fun σ' m' H' s k' => ⟨Av, ρ', h', m', s, w.keep k'⟩
  | bk ρ' h' => exact w
  | ct ρ' h' => exact w
  | rt d h' => exact w
  | exc c vs ρ' h' => exact w
  | bad => exact w⟩
theorem ps_passC : PS X (.Pass pos) (tS C T W fun ρ h => .nx ρ h) := psImp ps_pass fun D σ H ⟨Av, ρ, h, m, a, w⟩ => w σ m H a Keep.refl
theorem ps_brkC : PS X (.Break pos) (tS C T W fun ρ h => .bk ρ h) := psImp ps_break fun D σ H ⟨Av, ρ, h, m, a, w⟩ => w σ m H a Keep.refl
theorem ps_ctC : PS X (.Continue pos) (tS C T W fun ρ h => .ct ρ h) := psImp ps_continue fun D σ H ⟨Av, ρ, h, m, a, w⟩ => w σ m H a Keep.refl
theorem ps_ret0C : PS X (.Return none pos) (tS C T W fun _ h => .rt .non h) := psImp ps_retN fun D σ H ⟨Av, ρ, h, m, a, w⟩ => w .non m H a.sr Keep.refl .non
theorem ps_retC (ha : PE X a (tE C T W ra)) : PS X (.Return (some a) pos) (tS C T W fun ρ h => (ra ρ h).st ρ fun d h => .rt d h) := psImp (ps_ret ha) fun D σ H ⟨Av, ρ, h, m, a, w⟩ =>
  st_tr (k := fun _ d h => .rt d h) a w fun d v h1 m1 H1 a1 k1 r1 w1 => w1 v m1 H1 a1.sr Keep.refl r1
theorem ps_exprC (ha : PE X a (tE C T W ra)) (hs : swapsWith a none pos.line X.env = pure false) : PS X (.Expr a pos) (tS C T W fun ρ h => (ra ρ h).st ρ fun _ h => .nx ρ h) := psImp (ps_expr ha hs) fun D σ H ⟨Av, ρ, h, m, a, w⟩ =>
  st_tr (k := fun ρ _ h => .nx ρ h) a w fun d v h1 m1 H1 a1 k1 r1 w1 => w1 σ m1 H1 a1 Keep.refl
theorem ps_ifC {c : Expr} {ss tt : List Stmt} {rs rt : Rho → Hs → RS} (hc : PT X c (tB (tE C T W rc))) (hs : PSs X ss (tS C T W rs)) (ht : PSs X tt (tS C T W rt)) : PS X (.If c ss tt pos) (tS C T W fun ρ h => (rc ρ h).st ρ fun d h => (match d with
    | .bl true => rs ρ h
    | .bl false => rt ρ h
    | _ => .bad)) := psImp (ps_if hc hs ht) fun D σ H ⟨Av, ρ, h, m, a, w⟩ =>
  st_tr (k := fun ρ d h => (match d with
    | .bl true => rs ρ h
    | .bl false => rt ρ h
    | _ => .bad)) a w fun d v h1 m1 H1 a1 k1 r1 w1 => by
    split at w1
    · exact ⟨true, r1.bl_inv, by dsimp only; rw [if_pos rfl]; exact ⟨Av, ρ, h1, m1, a1, w1⟩⟩
    · exact ⟨false, r1.bl_inv, by dsimp only; rw [if_neg Bool.false_ne_true]; exact ⟨Av, ρ, h1, m1, a1, w1⟩⟩
    · exact w1.elim
/-! ### a name is set -/
theorem set_tr {i : Nat} {D : Ends} : tS C T W (fun ρ h => (ra ρ h).st ρ fun d h => .nx (ρ.set i (some d)) h) D σ H → tAsg (tE C T W ra) (gName i) D σ H := fun ⟨Av, ρ, h, m, a, w⟩ =>
  st_tr (k := fun ρ d h => .nx (ρ.set i (some d)) h) a w fun d v h1 m1 H1 a1 k1 r1 w1 => w1 (σ.set i (some v)) m1 H1 (a1.put r1) Keep.refl
theorem ps_setC {i : Nat} {x : Str} {pos' : Pos} (hN : X.N.Nodup) (hi : X.N[i]? = some x) (hx : Loc X.env.scope x) (ha : PE X a (tE C T W ra)) (hs : swapsWith a (some (.Name x pos')) pos.line X.env = pure false) (hf : X.fn x = true ∨ X.env.scope.names.lookup x = some .local) :
    PS X (.Assign [.Name x pos'] a pos) (tS C T W fun ρ h => (ra ρ h).st ρ fun d h => .nx (ρ.set i (some d)) h) := psImp (ps_set hN hi hx ha hs hf) fun D σ H z => set_tr z
/-- a list that was just made becomes a cell -/
theorem new_tr {Q : VK} : tE C T W (fun ρ h => (ra ρ h).bind fun x h => .ok (.ref h.length) (h ++ [.opn x])) σ H Q → tF C T W ra σ H Q := fun ⟨Av, ρ, h, m, a, w⟩ => ⟨Av, ρ, h, m, a, by
  dsimp only at w
  generalize ra ρ h = r at w ⊢
  cases r with
  | bad => exact w
  | exc c vs h' => exact w
  | ok d h1 =>
    intro p m1 H1 s1 k1 nD c1
    have len := s1.len
    have lw : ∀ b, live (m1 ++ [p]) (h1 ++ [.opn d]) b → live m1 h1 b ∨ b = p := fun b ⟨j, u, e1, e2⟩ => by
      by_cases hj : j < m1.length
      · rw [List.getElem?_append_left hj] at e1
        rw [List.getElem?_append_left (by omega)] at e2
        exact .inl ⟨j, u, e1, e2⟩
      · by_cases hj2 : j = m1.length
        · subst hj2
          rw [List.getElem?_append_right (Nat.le_refl _), Nat.sub_self] at e1
          exact .inr (by simpa using e1.symm)
        · rw [List.getElem?_eq_none (by rw [List.length_append, List.length_singleton]; omega)] at e1
          cases e1
    have st : Stay (lvs (avp Av p) m1 h1) (lvs Av (m1 ++ [p]) (h1 ++ [.opn d])) m1 (m1 ++ [p]) H1 H1 := ⟨⟨[p], rfl⟩, fun b o e n => ⟨e, fun z => by
      rcases z with z | z
      · exact n (.inl (.inl z))
      · rcases lw b z with z | z
        · exact n (.inr z)
        · exact n (.inl (.inr z))⟩, fun _ _ e => e, fun _ _ _ e => e⟩
    have s' : SR C Av (m1 ++ [p]) (h1 ++ [.opn d]) H1 := by
      refine ⟨by rw [List.length_append, List.length_append, len]; rfl, ?_, fun j b u e1 e2 => ?_, fun j b e1 => ?_, fun b e => s1.avd b (.inl e), fun j b e1 z => ?_⟩
      · rw [List.nodup_append]
        refine ⟨s1.nd, by simp, fun x hx y hy z => ?_⟩
        have hy' : y = p := by simpa using hy
        obtain ⟨j, hj⟩ := List.mem_iff_getElem?.mp hx
        exact s1.sep j x hj (.inr (z.trans hy'))
      · by_cases hj : j < m1.length
        · rw [List.getElem?_append_left hj] at e1
          rw [List.getElem?_append_left (by omega)] at e2
          exact (s1.cell j b u e1 e2).stay st (fun _ e => e)
        · by_cases hj2 : j = m1.length
          · subst hj2
            rw [List.getElem?_append_right (Nat.le_refl _), Nat.sub_self] at e1
            rw [List.getElem?_append_right (by omega), len, Nat.sub_self] at e2
            have e1' : p = b := by simpa using e1
            have e2' : d = u := by simpa using e2
            subst e1' e2'
            exact c1.stay st (fun _ e => e)
          · rw [List.getElem?_eq_none (by rw [List.length_append, List.length_singleton]; omega)] at e1
            cases e1
      · by_cases hj : j < m1.length
        · rw [List.getElem?_append_left hj] at e1
          exact s1.there j b e1
        · by_cases hj2 : j = m1.length
          · subst hj2
            rw [List.getElem?_append_right (Nat.le_refl _), Nat.sub_self] at e1
            have e1' : p = b := by simpa using e1
            subst e1'
            exact s1.avd p (.inr rfl)
          · rw [List.getElem?_eq_none (by rw [List.length_append, List.length_singleton]; omega)] at e1
            cases e1
      · by_cases hj : j < m1.length
        · rw [List.getElem?_append_left hj] at e1
          exact s1.sep j b e1 (.inl z)
        · by_cases hj2 : j = m1.length
          · subst hj2
            rw [List.getElem?_append_right (Nat.le_refl _), Nat.sub_self] at e1
            have e1' : p = b := by simpa using e1
            subst e1'
            obtain ⟨o, e⟩ := a.sr.avd p z
            rw [nD] at e; cases e
          · rw [List.getElem?_eq_none (by rw [List.length_append, List.length_singleton]; omega)] at e1
            cases e1
    refine w (.ref p) (m1 ++ [p]) H1 s' ⟨k1.tup, k1.frz, ?_, fun b o e n => ?_, k1.there⟩ (.ref (by rw [List.getElem?_append_right (by omega), ← len, Nat.sub_self]; rfl))
    · obtain ⟨r, e⟩ := k1.pre
      exact ⟨r ++ [p], by rw [e, List.append_assoc]⟩
    · obtain ⟨e1, n1⟩ := k1.keep b o e n
      refine ⟨e1, fun z => ?_⟩
      rcases lw b z with z | z
      · exact n1 z
      · rw [z, nD] at e; cases e⟩
theorem pe_newC (ha : PE X a (tF C T W ra)) : PE X a (tE C T W fun ρ h => (ra ρ h).bind fun x h => .ok (.ref h.length) (h ++ [.opn x])) := peImp ha fun σ H Q z => new_tr z
/-! ### a cell is written -/
theorem SR.store (s : SR C Av m h H) {n : Nat} {p : Addr} {w w' : D} {u o : HO} (e1 : m[n]? = some p) (e2 : h[n]? = some (.opn w)) (e3 : H p = some u) (mu : (∀ xs, u ≠ .tup xs) ∧ ∀ q v, u ≠ .frz q v) (c : CellOk C (lvs Av m h) m (upd H p o) p w') :
    SR C Av m (h.set n (.opn w')) (upd H p o) ∧ Keep m h H m (h.set n (.opn w')) (upd H p o) := by
  have hn : n < h.length := (List.getElem?_eq_some_iff.mp e2).1
  have lw : ∀ b, live m (h.set n (.opn w')) b ↔ live m h b := fun b => by
    constructor
    · rintro ⟨j, z, k1, k2⟩
      by_cases hj : n = j
      · subst hj
        exact ⟨n, w, k1, e2⟩
      · rw [List.getElem?_set_ne hj] at k2
        exact ⟨j, z, k1, k2⟩
    · rintro ⟨j, z, k1, k2⟩
      by_cases hj : n = j
      · subst hj
        exact ⟨n, w', k1, List.getElem?_set_self hn⟩
      · exact ⟨j, z, k1, by rw [List.getElem?_set_ne hj]; exact k2⟩
  have lp : live m h p := ⟨n, w, e1, e2⟩
  have nt : ∀ {b v}, H b = some v → ((∃ xs, v = .tup xs) ∨ ∃ q z, v = .frz q z) → b ≠ p := fun hb hv z => by
    rw [z, e3] at hb
    cases hb
    rcases hv with ⟨xs, hv⟩ | ⟨q, z, hv⟩
    · exact mu.1 _ hv
    · exact mu.2 _ _ hv
  have st : Stay (lvs Av m h) (lvs Av m (h.set n (.opn w'))) m m H (upd H p o) := ⟨⟨[], by simp⟩, fun b v hb l => ⟨by rw [upd_ne (fun z => l (.inr (by rw [z]; exact lp)))]; exact hb, fun z => l (z.elim .inl fun z => .inr ((lw b).mp z))⟩,
    fun b xs hb => by rw [upd_ne (nt hb (.inl ⟨_, rfl⟩))]; exact hb, fun b q v hb => by rw [upd_ne (nt hb (.inr ⟨_, _, rfl⟩))]; exact hb⟩
  have st2 : Stay (lvs Av m h) (lvs Av m (h.set n (.opn w'))) m m (upd H p o) (upd H p o) := Stay.weak (C := C) fun b z => z.elim .inl fun z => .inr ((lw b).mp z)
  refine ⟨⟨by rw [List.length_set]; exact s.len, s.nd, fun j b z k1 k2 => ?_, fun j b k1 => ?_, fun b k1 => ?_, s.sep⟩, ⟨fun b xs hb => by rw [upd_ne (nt hb (.inl ⟨_, rfl⟩))]; exact hb, fun b q v hb => by rw [upd_ne (nt hb (.inr ⟨_, _, rfl⟩))]; exact hb, ⟨[], by simp⟩, fun b v hb l => ?_, fun b v hb => ?_⟩⟩
  · by_cases hj : n = j
    · subst hj
      rw [List.getElem?_set_self hn] at k2
      rw [e1] at k1
      cases k1
      cases k2
      exact c.stay st2 (fun _ e => e)
    · rw [List.getElem?_set_ne hj] at k2
      have hb : b ≠ p := fun z => hj (nd_inj s.nd e1 (by rw [← z]; exact k1))
      exact (s.cell j b z k1 k2).stay st (fun v hv => by rw [upd_ne hb]; exact hv)
  · by_cases hb : b = p
    · rw [hb]; exact ⟨_, upd_same⟩
    · obtain ⟨v, q⟩ := s.there j b k1
      exact ⟨v, by rw [upd_ne hb]; exact q⟩
  · have hb : b ≠ p := fun z => s.sep n p e1 (by rw [← z]; exact k1)
    obtain ⟨v, q⟩ := s.avd b k1
    exact ⟨v, by rw [upd_ne hb]; exact q⟩
  · exact ⟨by rw [upd_ne (fun z => l (by rw [z]; exact lp))]; exact hb, fun z => l ((lw b).mp z)⟩
  · by_cases hb' : b = p
    · rw [hb']; exact ⟨_, upd_same⟩
    · exact ⟨v, by rw [upd_ne hb']; exact hb⟩
theorem SR.stW (s : SR C Av m h H) {n : Nat} {p : Addr} {w : D} {u o : HO} (e1 : m[n]? = some p) (e2 : h[n]? = some (.opn w)) (e3 : H p = some u) (mu : (∀ xs, u ≠ .tup xs) ∧ ∀ q v, u ≠ .frz q v) : Stay (lvs Av m h) (lvs Av m h) m m H (upd H p o) := by
  have lp : live m h p := ⟨n, w, e1, e2⟩
  have nt : ∀ {b v}, H b = some v → ((∃ xs, v = .tup xs) ∨ ∃ q z, v = .frz q z) → b ≠ p := fun hb hv z => by
    rw [z, e3] at hb
    cases hb
    rcases hv with ⟨xs, hv⟩ | ⟨q, z, hv⟩
    · exact mu.1 _ hv
    · exact mu.2 _ _ hv
  exact ⟨⟨[], by simp⟩, fun b v hb l => ⟨by rw [upd_ne (fun z => l (.inr (by rw [z]; exact lp)))]; exact hb, l⟩, fun b xs hb => by rw [upd_ne (nt hb (.inl ⟨_, rfl⟩))]; exact hb, fun b q v hb => by rw [upd_ne (nt hb (.inr ⟨_, _, rfl⟩))]; exact hb⟩
theorem mu_lst {xs : List V} : (∀ ys, HO.lst xs ≠ .tup ys) ∧ ∀ q v, HO.lst xs ≠ .frz q v := ⟨fun _ z => (nomatch z), fun _ _ z => (nomatch z)⟩
theorem mu_dic {P : Program} {w : World} {a : Addr} {xs : List KE3} : (∀ ys, dHO P w a xs ≠ .tup ys) ∧ ∀ q v, dHO P w a xs ≠ .frz q v := ⟨fun _ z => (nomatch (show HO.ext _ = HO.tup _ from z)), fun _ _ z => (nomatch (show HO.ext _ = HO.frz _ _ from z))⟩
theorem mu_ins {a b : Addr} {fs : List (Str × V)} : (∀ ys, HO.ins a b fs ≠ .tup ys) ∧ ∀ q v, HO.ins a b fs ≠ .frz q v := ⟨fun _ z => (nomatch z), fun _ _ z => (nomatch z)⟩
def rPut (C : Pc) : V → V → V → Hp → (Hp → Prop) → Prop := fun o i v H Q => ∃ Av m h dd di dv h', SR C Av m h H ∧ RV C (lvs Av m h) m H dd o ∧ RV C (lvs Av m h) m H di i ∧ RV C (lvs Av m h) m H dv v ∧ storeIx h dd di dv = some h' ∧ ∀ H', SR C Av m h' H' → Keep m h H m h' H' → Q H'
theorem set_C (o : On X C) : PSet X (rPut C) := by
  intro pins s σ H oo i v ov iv u Q I ro ri rv ⟨Av, m, h, dd, di, dv, h', S, r1, r2, r3, e, q⟩
  unfold storeIx at e
  split at e
  · rename_i n
    cases r1 with
    | ref e1 =>
    rename_i p
    split at e
    · rename_i xs j ec
      have e2 := cont_some ec
      obtain ⟨k, e3, rfl⟩ := Option.map_eq_some_iff.mp e
      cases r2
      obtain ⟨vs, e4, r4⟩ := S.cell n p _ e1 e2
      have st := S.stW (o := .lst (vs.set k v)) e1 e2 e4 mu_lst
      obtain ⟨s', k'⟩ := S.store (w' := .lst (xs.set k dv)) e1 e2 e4 mu_lst ⟨vs.set k v, upd_same, (RVs.set r3 k r4).stay st⟩
      exact set_list pins s σ H _ _ v ov iv u Q I ro ri rv ⟨p, vs, j, k, rfl, rfl, e4, by rw [← r4.length]; exact e3, q _ s' k'⟩
    · rename_i t ks vs ec
      have e2 := cont_some ec
      split at e
      · rename_i hk
        cases e
        rw [Bool.and_eq_true, decide_eq_true_eq] at hk
        obtain ⟨rfl, kk, rfl⟩ := keyOk_ft hk.1
        obtain ⟨ds, e4, r4⟩ := S.cell n p _ e1 e2
        cases ro
        obtain ⟨b, rfl, rb⟩ := (RP.of r2 (fun _ z => nomatch z)).tupr
        cases ri
        have e5 := o.dn e4
        have st := S.stW (o := dHO X.prog X.w p (putE ds (nkey (.tup kk)) b v)) e1 e2 e4 mu_dic
        obtain ⟨s', k'⟩ := S.store (w' := .dic true (dput ks vs (.tup kk) dv).1 (dput ks vs (.tup kk) dv).2) (o := dHO X.prog X.w p (putE ds (nkey (.tup kk)) b v)) e1 e2 e4 mu_dic
          ⟨putE ds (nkey (.tup kk)) b v, by rw [upd_same, o.P, o.w], (r4.put hk.1 rb r3).stay st⟩
        refine dN_setItem (by have := o.u; omega) I o.K e5 r4 hk.1 rb rv (by rw [r4.lens.2, ← limEq]; exact hk.2) fun s2 I2 => ⟨_, I2, q _ s' k'⟩
      · cases e
    · cases e
  · cases e
theorem ps_setIxC (o : On X C) {e : Expr} {p2 : Pos} (he : PE X e (tE C T W rc)) (ha : PE X a (tE C T W ra)) (hb : PE X b (tE C T W rb))
    (hg : ∀ v, assign (.Subscript a b p2) X.env v = (do
      let ov ← holding [v] (eval a X.env)
      let iv ← holding [v, ov] (eval b X.env)
      standAt p2
      holding [v, ov, iv] (setItem ov iv v)
      release [v, ov, iv] [])) (hs : swapsWithSole [.Subscript a b p2] e pos.line X.env = pure false) : PS X (.Assign [.Subscript a b p2] e pos) (tS C T W fun ρ h => (rc ρ h).st ρ fun d h => (ra ρ h).st ρ fun o h => (rb ρ h).st ρ fun i h => nxo ρ (storeIx h o i d)) :=
  psImp (ps_asg he (pg_sub ha hb (set_C o) hg) hs) fun D σ H ⟨Av, ρ, h, m, a, w⟩ =>
  st_tr (k := fun ρ d h => (ra ρ h).st ρ fun o h => (rb ρ h).st ρ fun i h => nxo ρ (storeIx h o i d)) a w fun d v h1 m1 H1 a1 k1 r1 w1 =>
  st_tr (k := fun ρ o h => (rb ρ h).st ρ fun i h => nxo ρ (storeIx h o i d)) a1 w1 fun d2 v2 h2 m2 H2 a2 k2 r2 w2 =>
  st_tr (k := fun ρ i h => nxo ρ (storeIx h d2 i d)) a2 w2 fun d3 v3 h3 m3 H3 a3 k3 r3 w3 => by
    unfold nxo at w3
    split at w3
    · rename_i h4 e
      exact ⟨Av, m3, h3, d2, d3, d, h4, a3.sr, k3.rv r2, r3, k3.rv (k2.rv r1), e, fun H' s' k' => w3 σ m3 H' (a3.keep k' s') k'⟩
    · exact w3.elim
end
end M
end

section
set_option Elab.async false
set_option linter.all false
set_option maxRecDepth 100000
set_option maxHeartbeats 4000000
/-! Snd12: append, fields, for. -/
namespace M
open PySem PySem.Spec PyProof.Rows L2
section
variable {C : Pc} {T : Tb} {W : WX} {Av Av' : Addr → Prop} {m m1 m' : List Addr} {h h1 h' : Hs} {H H1 H' : Hp} {σ : L2.St} {ρ : Rho} {lv : Addr → Prop} {X : Cx}
variable {ra rb rc : Rho → Hs → RE} {a b c : Expr} {pos : Pos} {es : List Expr} {rl : Rho → Hs → RL}
theorem ps_appC {e : Expr} {apos cpos : Pos} (ha : PE X a (tE C T W ra)) (he : PE X e (tE C T W rc)) (hsw : swapsWith (.Call (.Attribute a "append" apos) [e] [] cpos) none pos.line X.env = pure false) (hbase : attributeBase a "append" X.env (eval a X.env) = eval a X.env) (hline : (apos.endLine == cpos.line) = true)
    (hfew : ((backTo cpos (starEach [e] X.env)).all (fun x => !x.1) && (backToKw cpos (keywordEach [] X.env)).all (fun x => x.1.isSome)
      && decide ([e].length + ([] : List Keyword).length + (if ([] : List Keyword).isEmpty then 0 else 1) < 30)) = true) (hs : starEach [e] X.env = (false, eval e X.env) :: starEach [] X.env) (hpl : (backTo cpos (starEach [] X.env)).any (·.1) = false) :
    PS X (.Expr (.Call (.Attribute a "append" apos) [e] [] cpos) pos) (tS C T W fun ρ h => (ra ρ h).st ρ fun o h => if isLst h o then (rc ρ h).st ρ fun d h => nxo ρ (pushTo h o d) else .bad) :=
  psImp (ps_expr (pe_bm PySem.F.plainAttrs_list PySem.F.slot_list_append PySem.F.type_list_append mt_append ha (pa_cons he pa_nil hs) hbase hfew hline hs hpl) hsw) fun D σ H ⟨Av, ρ, h, m, a, w⟩ =>
  st_tr (k := fun ρ o h => if isLst h o then (rc ρ h).st ρ fun d h => nxo ρ (pushTo h o d) else .bad) a w fun d v h1 m1 H1 a1 k1 r1 w1 => by
    split at w1
    · rename_i hl
      unfold isLst at hl
      split at hl
      · rename_i n
        cases r1 with
        | ref e1 =>
        rename_i p
        split at hl
        · rename_i xs ec
          obtain ⟨vs, e4, r4⟩ := a1.sr.cell n p _ e1 (cont_some ec)
          refine ⟨.inl ⟨rfl, _, SqL.of e4⟩, ?_⟩
          refine st_tr (k := fun ρ d h => nxo ρ (pushTo h (.ref n) d)) a1 w1 fun d2 v2 h2 m2 H2 a2 k2 r2 w2 => ?_
          unfold nxo pushTo at w2
          split at w2
          · rename_i h3 e3
            dsimp only at e3
            split at e3
            · rename_i ys ec2
              split at e3
              · rename_i hz
                cases e3
                have q1 : m2[n]? = some p := by
                  obtain ⟨r, e⟩ := k2.pre
                  rw [e]; exact get_pre e1
                have q2 := cont_some ec2
                obtain ⟨us, e5, r5⟩ := a2.sr.cell n p _ q1 q2
                have st := a2.sr.stW (o := .lst (us ++ [v2])) q1 q2 e5 mu_lst
                obtain ⟨s', k'⟩ := a2.sr.store (w' := .lst (ys ++ [d2])) q1 q2 e5 mu_lst ⟨us ++ [v2], upd_same, (r5.append (.cons r2 .nil)).stay st⟩
                exact ⟨p, us, v2, rfl, rfl, e5, by rw [← r5.length, ← limEq]; exact hz, w2 σ m2 _ (a2.keep k' s') k'⟩
              · cases e3
            · cases e3
          · exact w2.elim
        · cases hl
      · cases hl
    · exact w1.elim
/-! ### a field is stored -/
theorem nm_ne (hn : C.attrs.Nodup) {j k : Nat} (hj : j < C.attrs.length) (hk : k < C.attrs.length) (n : j ≠ k) : C.nm j ≠ C.nm k := fun z => n (by
  unfold Pc.nm at z
  rw [List.getD_eq_getElem?_getD, List.getD_eq_getElem?_getD, List.getElem?_eq_getElem hk, List.getElem?_eq_getElem hj] at z
  exact (List.getElem_inj (h₀ := hj) (h₁ := hk) hn).mp z)
theorem put_fld (hn : C.attrs.Nodup) {k : Nat} (hk : k < C.attrs.length) {d : D} {v : V} (r : RV C lv m H d v) : ∀ {as : List Nat} {vs : List D} {fs : List (Str × V)}, fs.map (·.1) = as.map C.nm → (∀ j ∈ as, j < C.attrs.length) → RVs C lv m H vs (fs.map (·.2)) →
    (putF (C.nm k) v fs).map (·.1) = (putFld as vs k d).1.map C.nm ∧ (∀ j ∈ (putFld as vs k d).1, j < C.attrs.length) ∧ RVs C lv m H (putFld as vs k d).2 ((putF (C.nm k) v fs).map (·.2))
  | [], vs, [], e, _, rs => by
    cases rs
    exact ⟨rfl, fun j hj => by have : j = k := by simpa [putFld] using hj
                               rw [this]; exact hk, .cons r .nil⟩
  | [], vs, f :: fs, e, _, _ => by simp at e
  | j :: as, vs, [], e, _, _ => by simp at e
  | j :: as, vs, (x, u) :: fs, e, l, rs => by
    rw [List.map_cons, List.map_cons] at e
    injection e with e1 e2
    have e1' : x = C.nm j := e1
    cases rs with
    | cons r1 r2 =>
    have lj := l j (by simp)
    unfold putFld putF
    by_cases hj : j = k
    · subst hj
      rw [if_pos rfl, if_pos e1']
      exact ⟨by rw [List.map_cons, List.map_cons, e2, e1'], l, .cons r r2⟩
    · rw [if_neg hj, if_neg (fun z => nm_ne hn lj hk hj (e1'.symm.trans z))]
      obtain ⟨i1, i2, i3⟩ := put_fld hn hk r (fs := fs) e2 (fun j hj => l j (by simp [hj])) r2
      refine ⟨by rw [List.map_cons, List.map_cons, i1, e1'], fun i hi => ?_, .cons r1 i3⟩
      rcases List.mem_cons.mp hi with z | z
      · rw [z]; exact lj
      · exact i2 i z
theorem ps_fldC (ck : ClsOk X C T) {k : Nat} {e : Expr} {pos' : Pos} (he : PE X e (tE C T W rc)) (ha : PE X a (tE C T W ra)) (hs : swapsWith e (some (.Attribute a (C.nm k) pos')) pos.line X.env = pure false) :
    PS X (.Assign [.Attribute a (C.nm k) pos'] e pos) (tS C T W fun ρ h => (rc ρ h).st ρ fun d h => (ra ρ h).st ρ fun o h => nxo ρ (storeFld T h o k d)) :=
  psImp (ps_fld ha he hs) fun D σ H ⟨Av, ρ, h, m, a, w⟩ =>
  st_tr (k := fun ρ d h => (ra ρ h).st ρ fun o h => nxo ρ (storeFld T h o k d)) a w fun d v h1 m1 H1 a1 k1 r1 w1 =>
  st_tr (k := fun ρ o h => nxo ρ (storeFld T h o k d)) a1 w1 fun d2 v2 h2 m2 H2 a2 k2 r2 w2 => by
    unfold nxo storeFld at w2
    split at w2
    · rename_i h3 e3
      split at e3
      · rename_i n
        cases r2 with
        | ref q1 =>
        rename_i p
        split at e3
        · rename_i c as vs ec
          have q2 := cont_some ec
          obtain ⟨Cl, e4, e5⟩ := Option.bind_eq_some_iff.mp e3
          split at e5
          · rename_i hc
            cases e5
            obtain ⟨c1, c2⟩ := ck.at_ c Cl e4 hc.1
            obtain ⟨c3, c4⟩ := c2 k hc.2.1
            obtain ⟨dx, fs, b1, b2, b3, b4⟩ := a2.sr.cell n p _ q1 q2
            have st := a2.sr.stW (o := .ins (C.cad c) dx (putF (C.nm k) v fs)) q1 q2 b1 mu_ins
            obtain ⟨i1, i2, i3⟩ := put_fld ck.nd c3 (k2.rv r1) b2 b3 b4
            obtain ⟨s', k'⟩ := a2.sr.store (w' := .ins c (putFld as vs k d).1 (putFld as vs k d).2) q1 q2 b1 mu_ins ⟨dx, _, upd_same, i1, i2, i3.stay st⟩
            refine ⟨p, _, dx, fs, rfl, b1, c1, c4, ?_, w2 σ m2 _ (a2.keep k' s') k'⟩
            have := congrArg List.length b2
            rw [List.length_map, List.length_map] at this
            omega
          · cases e5
        · cases e3
      · cases e3
    · exact w2.elim
/-! ### for -/
mutual
theorem RV.trim {n : Nat} : ∀ {d : D} {v : V}, rlt n d = true → RV C lv m H d v → RV C lv (m.take n) H d v
  | _, _, _, .non => .non
  | _, _, _, .bl b => .bl b
  | _, _, _, .int i => .int i
  | _, _, _, .str x => .str x
  | _, _, i, .tup h r => .tup h (RVs.trim (by simpa [rlt] using i) r)
  | _, _, i, .lst n h r => .lst n h (RVs.trim (by simpa [rlt] using i) r)
  | _, _, i, .rol h r => .rol h (RVs.trim (by simpa [rlt] using i) r)
  | _, _, i, .dicK n h r => .dicK n h (RVd.trim (by simp only [rlt, Bool.and_eq_true] at i; exact i.2) r)
  | _, _, i, .dicT n h r => .dicT n h (RVk.trim (by simp only [rlt, Bool.and_eq_true] at i; exact i.1) (by simp only [rlt, Bool.and_eq_true] at i; exact i.2) r)
  | _, _, i, .ins n h e l r => .ins n h e l (RVs.trim (by simpa [rlt] using i) r)
  | _, _, i, .exn x n h q r => .exn x n h q (RVs.trim (by simpa [rlt] using i) r)
  | .ref k, _, i, .ref h => .ref (by
    have hl : k < n := by simpa [rlt] using i
    rw [List.getElem?_take_of_lt hl]; exact h)
theorem RVs.trim {n : Nat} : ∀ {d : List D} {v : List V}, rlts n d = true → RVs C lv m H d v → RVs C lv (m.take n) H d v
  | _, _, _, .nil => .nil
  | _, _, i, .cons h r => by
    simp only [rlts, Bool.and_eq_true] at i
    exact .cons (RV.trim i.1 h) (RVs.trim i.2 r)
theorem RVd.trim {n : Nat} : ∀ {k d : List D} {v : List (Key × V)}, rlts n d = true → RVd C lv m H k d v → RVd C lv (m.take n) H k d v
  | _, _, _, _, .nil => .nil
  | _, _, _, i, .int h r => by
    simp only [rlts, Bool.and_eq_true] at i
    exact .int (RV.trim i.1 h) (RVd.trim i.2 r)
  | _, _, _, i, .str h r => by
    simp only [rlts, Bool.and_eq_true] at i
    exact .str (RV.trim i.1 h) (RVd.trim i.2 r)
theorem RVk.trim {n : Nat} : ∀ {k d : List D} {v : List KE3}, rlts n k = true → rlts n d = true → RVk C lv m H k d v → RVk C lv (m.take n) H k d v
  | _, _, _, _, _, .nil => .nil
  | _, _, _, j, i, .cons o k h r => by
    simp only [rlts, Bool.and_eq_true] at i j
    exact .cons o (RV.trim j.1 k) (RV.trim i.1 h) (RVk.trim j.2 i.2 r)
end
theorem CellOk.trim {n : Nat} {w : D} {p : Addr} (i : rlt n w = true) (c : CellOk C lv m H p w) : CellOk C lv (m.take n) H p w := by
  cases w with
  | lst xs => obtain ⟨vs, h, r⟩ := c; exact ⟨vs, h, r.trim (by simpa [rlt] using i)⟩
  | dic t ks xs =>
    simp only [rlt, Bool.and_eq_true] at i
    cases t with
    | false => obtain ⟨vs, h, r⟩ := c; exact ⟨vs, h, r.trim i.2⟩
    | true => obtain ⟨vs, h, r⟩ := c; exact ⟨vs, h, r.trim i.1 i.2⟩
  | ins c as xs => obtain ⟨dx, fs, h, l1, l2, r⟩ := c; exact ⟨dx, fs, h, l1, l2, r.trim (by simpa [rlt] using i)⟩
  | _ => exact c.elim
theorem live_take {n : Nat} {b : Addr} : live (m.take n) (h.take n) b → live m h b := fun ⟨j, w, e1, e2⟩ => by
  by_cases hj : j < n
  · rw [List.getElem?_take_of_lt hj] at e1 e2
    exact ⟨j, w, e1, e2⟩
  · rw [List.getElem?_eq_none (by rw [List.length_take]; omega)] at e1; cases e1
/-- the cells from n on let go -/
theorem trim_at {n : Nat} (a : At C Av ρ h m σ H) (hc : (h.take n).all (rltc n) = true) : At C Av (ρ.map fun o => o.bind fun d => if rlt n d then some d else none) (h.take n) (m.take n) σ H := by
  have wk : ∀ b, lvs Av (m.take n) (h.take n) b → lvs Av m h b := fun b z => z.elim .inl fun z => .inr (live_take z)
  refine ⟨⟨by rw [List.length_take, List.length_take, a.sr.len], a.sr.nd.sublist (List.take_sublist _ _), fun j b w e1 e2 => ?_, fun j b e1 => ?_, a.sr.avd, fun j b e1 => ?_⟩, fun j d e => ?_, by rw [List.length_map]; exact a.ln⟩
  · have hj : j < n := by
      by_cases hj : j < n
      · exact hj
      · rw [List.getElem?_eq_none (by rw [List.length_take]; omega)] at e1; cases e1
    have hw : rlt n w = true := List.all_eq_true.mp hc _ (List.mem_of_getElem? e2)
    rw [List.getElem?_take_of_lt hj] at e1 e2
    exact ((a.sr.cell j b w e1 e2).trim hw).stay (Stay.weak (C := C) wk) (fun _ e => e)
  · have hj : j < n := by
      by_cases hj : j < n
      · exact hj
      · rw [List.getElem?_eq_none (by rw [List.length_take]; omega)] at e1; cases e1
    rw [List.getElem?_take_of_lt hj] at e1
    exact a.sr.there j b e1
  · have hj : j < n := by
      by_cases hj : j < n
      · exact hj
      · rw [List.getElem?_eq_none (by rw [List.length_take]; omega)] at e1; cases e1
    rw [List.getElem?_take_of_lt hj] at e1
    exact a.sr.sep j b e1
  · rw [List.getElem?_map] at e
    obtain ⟨o, e1, e2⟩ := Option.map_eq_some_iff.mp e
    obtain ⟨d', e3, e4⟩ := Option.bind_eq_some_iff.mp e2
    split at e4
    · rename_i hd
      cases e4
      subst e3
      obtain ⟨v, e5, r⟩ := a.sl j _ e1
      exact ⟨v, e5, (r.trim hd).stay (Stay.weak (C := C) wk)⟩
    · cases e4
theorem trim_keep {n : Nat} (k : Keep m h H m1 h1 H1) (hl : m.length = n) : Keep m h H (m1.take n) (h1.take n) H1 := ⟨k.tup, k.frz, by
  obtain ⟨r, e⟩ := k.pre
  exact ⟨[], by rw [e, List.append_nil, ← hl, List.take_left']; rfl⟩, fun b o e l => (fun z => ⟨z.1, fun y => z.2 (live_take y)⟩) (k.keep b o e l), k.there⟩
theorem trim_aft {n : Nat} {kk : Rho → Hs → RS} {D : Ends} (a : At C Av ρ h1 m1 σ H1) (k : Keep m h H m1 h1 H1) (hl : m.length = n) (w : AftS C T W Av m h H (trim n ρ h1 kk) D) :
    ∃ ρ' h' m', At C Av ρ' h' m' σ H1 ∧ Keep m h H m' h' H1 ∧ AftS C T W Av m h H (kk ρ' h') D := by
  unfold trim at w
  split at w
  · exact ⟨ρ, h1, m1, a, k, w⟩
  · split at w
    · rename_i hc
      exact ⟨_, _, _, trim_at a hc, trim_keep k hl, w⟩
    · exact w.elim
theorem for_tr {i : Nat} {ri : Rho → Hs → Option (Src × Hs)} {rs : Rho → Hs → RS} {D : Ends} : tS C T W (fun ρ h => (match ri ρ h with
    | some (s, h) => forGo (srcOk s.at_) h.length (fun x ρ h => rs (ρ.set i (some x)) h) s.xs ρ h
    | none => .bad)) D σ H → tFor (tI C T W ri) (gName i) (tS C T W rs) D σ H := fun ⟨Av, ρ, h, m, a, w⟩ => ⟨Av, ρ, h, m, a, by
  dsimp only at w
  generalize ri ρ h = r at w ⊢
  cases r with
  | none => exact w.elim
  | some p =>
    obtain ⟨s, h1⟩ := p
    intro J m1 H1 s1 k1 wk
    dsimp only at w
    have hl : m1.length = h1.length := s1.len
    refine ⟨fun n mm σ' H' => mm = s.xs.length - n ∧ n ≤ s.xs.length ∧ ∃ ρ' h' m', At C Av ρ' h' m' σ' H' ∧ Keep m1 h1 H1 m' h' H' ∧ AftS C T W Av m1 h1 H1 (forGo (srcOk s.at_) h1.length (fun x ρ h => rs (ρ.set i (some x)) h) (s.xs.drop n) ρ' h') D,
      ⟨_, rfl, Nat.zero_le _, ρ, h1, m1, a.keep k1 s1, Keep.refl, w.keep k1⟩, ?_⟩
    rintro n mm σ2 H2 ⟨rfl, hn, ρ2, h2, m2, a2, k2, w2⟩
    by_cases hlt : n < s.xs.length
    · right
      rw [List.drop_eq_getElem_cons hlt] at w2
      unfold forGo at w2
      split at w2
      · rename_i hck
        obtain ⟨g1, g2⟩ := (wk _ m2 h2 H2 a2.sr k2.stay hck n).1 s.xs[n] (List.getElem?_eq_getElem hlt)
        refine ⟨g1, fun σ' H' => n + 1 ≤ s.xs.length ∧ ∃ ρ' h' m', At C Av ρ' h' m' σ' H' ∧ Keep m1 h1 H1 m' h' H' ∧ AftS C T W Av m1 h1 H1 (forGo (srcOk s.at_) h1.length (fun x ρ h => rs (ρ.set i (some x)) h) (s.xs.drop (n + 1)) ρ' h') D,
          fun σ' H' q => ⟨s.xs.length - (n + 1), by omega, rfl, q⟩, fun x H' y => ?_⟩
        obtain ⟨rfl, rx⟩ := g2 x H' y
        refine ⟨Av, ρ2.set i (some s.xs[n]), h2, m2, a2.put rx, ?_⟩
        try dsimp only at w2
        generalize rs (ρ2.set i (some s.xs[n])) h2 = r at w2 ⊢
        cases r with
        | nx ρ3 h3 =>
          intro σ4 m4 H4 a4 k4
          obtain ⟨ρ5, h5, m5, a5, k5, w5⟩ := trim_aft a4 (k2.trans k4) hl w2
          exact ⟨hlt, ρ5, h5, m5, a5, k5, w5⟩
        | ct ρ3 h3 =>
          intro σ4 m4 H4 a4 k4
          obtain ⟨ρ5, h5, m5, a5, k5, w5⟩ := trim_aft a4 (k2.trans k4) hl w2
          exact ⟨hlt, ρ5, h5, m5, a5, k5, w5⟩
        | bk ρ3 h3 => exact fun σ4 m4 H4 a4 k4 => w2 σ4 m4 H4 a4 (k2.trans k4)
        | rt d h3 => exact fun v m4 H4 s4 k4 r4 => w2 v m4 H4 s4 (k2.trans k4) r4
        | exc c vs ρ3 h3 => exact fun cls d σ4 m4 H4 a4 k4 x4 => w2 cls d σ4 m4 H4 a4 (k2.trans k4) x4
        | bad => exact w2
      · exact w2.elim
    · left
      have e : n = s.xs.length := by omega
      subst e
      rw [List.drop_length] at w2
      unfold forGo at w2
      split at w2
      · rename_i hck
        exact ⟨(wk _ m2 h2 H2 a2.sr k2.stay hck s.xs.length).2 (Nat.le_refl _), w2 σ2 m2 H2 a2 k2⟩
      · exact w2.elim⟩
end
end M
end

section
set_option Elab.async false
set_option linter.all false
set_option autoImplicit false
set_option maxRecDepth 100000
set_option maxHeartbeats 4000000
/-! Lend: values handed to a def that runs on cells of its own. -/
namespace M
open PySem PySem.Spec PyProof.Rows L2
section
variable {C : Pc} {T : Tb} {call : Nat → List D → Hs → RE} {W : WX} {X : Cx} {sc : Scope}
variable {Av Av' : Addr → Prop} {m m1 m' : List Addr} {h h1 h' : Hs} {H H1 H' : Hp} {σ : L2.St} {ρ : Rho} {lv lv' : Addr → Prop}
/-! ### values without cells -/
mutual
theorem RV.nor : ∀ {d : D} {v : V}, noref d = true → RV C lv m H d v → RV C lv m' H d v
  | _, _, _, .non => .non
  | _, _, _, .bl b => .bl b
  | _, _, _, .int i => .int i
  | _, _, _, .str x => .str x
  | _, _, i, .tup h r => .tup h (RVs.nor (by simpa [noref] using i) r)
  | _, _, i, .lst n h r => .lst n h (RVs.nor (by simpa [noref] using i) r)
  | _, _, i, .rol h r => .rol h (RVs.nor (by simpa [noref] using i) r)
  | _, _, i, .dicK n h r => .dicK n h (RVd.nor (by simp only [noref, Bool.and_eq_true] at i; exact i.2) r)
  | _, _, i, .dicT n h r => .dicT n h (RVk.nor (by simp only [noref, Bool.and_eq_true] at i; exact i.1) (by simp only [noref, Bool.and_eq_true] at i; exact i.2) r)
  | _, _, i, .ins n h e l r => .ins n h e l (RVs.nor (by simpa [noref] using i) r)
  | _, _, i, .exn x n h q r => .exn x n h q (RVs.nor (by simpa [noref] using i) r)
  | _, _, i, .ref h => by simp [noref] at i
theorem RVs.nor : ∀ {d : List D} {v : List V}, norefs d = true → RVs C lv m H d v → RVs C lv m' H d v
  | _, _, _, .nil => .nil
  | _, _, i, .cons h r => by
    simp only [norefs, Bool.and_eq_true] at i
    exact .cons (RV.nor i.1 h) (RVs.nor i.2 r)
theorem RVd.nor : ∀ {k d : List D} {v : List (Key × V)}, norefs d = true → RVd C lv m H k d v → RVd C lv m' H k d v
  | _, _, _, _, .nil => .nil
  | _, _, _, i, .int h r => by
    simp only [norefs, Bool.and_eq_true] at i
    exact .int (RV.nor i.1 h) (RVd.nor i.2 r)
  | _, _, _, i, .str h r => by
    simp only [norefs, Bool.and_eq_true] at i
    exact .str (RV.nor i.1 h) (RVd.nor i.2 r)
theorem RVk.nor : ∀ {k d : List D} {v : List KE3}, norefs k = true → norefs d = true → RVk C lv m H k d v → RVk C lv m' H k d v
  | _, _, _, _, _, .nil => .nil
  | _, _, _, j, i, .cons o k h r => by
    simp only [norefs, Bool.and_eq_true] at i j
    exact .cons o (RV.nor j.1 k) (RV.nor i.1 h) (RVk.nor j.2 i.2 r)
end
/-- the result of a def that ran on its own cells -/
theorem res_back {b : Bool} {d : D} {v : V} (e : okRes b d = true) (hb : b = false → ∀ a, lv' a → lv a) (r : RV C lv m' H d v) : RV C lv' m H d v := by
  unfold okRes at e
  rw [Bool.and_eq_true] at e
  cases b with
  | false => exact (r.nor e.1).stay (Stay.weak (C := C) (hb rfl))
  | true => exact r.imm ⟨fun _ _ e => e, fun _ _ _ e => e⟩ (by simpa using e.2)
theorem ress_back {b : Bool} {d : List D} {v : List V} (e : okRess b d = true) (hb : b = false → ∀ a, lv' a → lv a) (r : RVs C lv m' H d v) : RVs C lv' m H d v := by
  unfold okRess at e
  rw [Bool.and_eq_true] at e
  cases b with
  | false => exact (r.nor e.1).stay (Stay.weak (C := C) (hb rfl))
  | true => exact r.imm ⟨fun _ _ e => e, fun _ _ _ e => e⟩ (by simpa using e.2)
/-- the dict of an exception is no cell -/
theorem SR.noxd (S : SR C Av m h H) {a : Addr} {fs : List (Str × V)} (e : H a = some (.xd fs)) : ¬ live m h a := fun ⟨n, w, e1, e2⟩ => by
  have c := S.cell n a w e1 e2
  cases w with
  | lst xs => obtain ⟨vs, z, _⟩ := c; rw [e] at z; cases z
  | dic t ks xs =>
    cases t with
    | false => obtain ⟨vs, z, _⟩ := c; rw [e] at z; cases z
    | true => obtain ⟨vs, z, _⟩ := c; rw [e] at z; cases z
  | ins k as xs => obtain ⟨dx, fs, z, _⟩ := c; rw [e] at z; cases z
  | _ => exact c
theorem xd_back {b : Bool} (S : SR C Av m h H) {mm : List Addr} {hh : Hs} {a : Addr} {fs : List (Str × V)} (e : H a = some (.xd fs)) (n : ¬ lvs (if b = true then Av else lvs Av m h) mm hh a) : ¬ lvs Av m h a := fun z => by
  rcases z with z | z
  · refine n (.inl ?_)
    cases b with
    | true => exact z
    | false => exact .inl z
  · exact S.noxd e z
/-- arguments are lent -/
theorem lend_rv (S : SR C Av m h H) : ∀ {ds us : List D} {vs : List V} {b : Bool}, lend h ds = some (us, b) → RVs C (lvs Av m h) m H ds vs → RVs C (if b = true then Av else lvs Av m h) [] H us vs ∧ us.length = ds.length
  | [], us, vs, b, e, r => by
    cases e
    cases r
    exact ⟨.nil, rfl⟩
  | d :: ds, us, vs, b, e, r => by
    cases r with
    | cons r1 r2 =>
    by_cases hd : ∃ n, d = .ref n
    · obtain ⟨n, rfl⟩ := hd
      unfold lend at e
      split at e
      · rename_i w ws b' e1 e2
        split at e
        · rename_i hn
          cases e
          obtain ⟨i1, i2⟩ := lend_rv S e2 r2
          rw [if_pos rfl]
          refine ⟨.cons ?_ ?_, by simp [i2]⟩
          · cases r1 with
            | ref q =>
              have c := S.cell _ _ _ q (cont_some e1)
              exact ((c.stay (Stay.weak (C := C) (lv' := Av) fun _ z => .inl z) (fun _ e => e)).rv (fun z => S.sep _ _ q z)).nor hn
          · cases b' with
            | true => rw [if_pos rfl] at i1; exact i1
            | false =>
              rw [if_neg Bool.false_ne_true] at i1
              exact i1.stay (Stay.weak (C := C) fun _ z => .inl z)
        · cases e
      · cases e
    · have e' : (match lend h ds with
          | some (ws, b) => if noref d then some (d :: ws, b) else none
          | none => none) = some (us, b) := by
        cases d <;> first | exact e | exact absurd ⟨_, rfl⟩ hd
      split at e'
      · rename_i ws b' e2
        split at e'
        · rename_i hn
          cases e'
          obtain ⟨i1, i2⟩ := lend_rv S e2 r2
          refine ⟨.cons ?_ i1, by simp [i2]⟩
          have r1' : RV C (lvs Av m h) [] H d _ := r1.nor hn
          cases b with
          | true =>
            rw [if_pos rfl]
            exact r1'.stay (Stay.weak (C := C) fun _ z => .inl z)
          | false =>
            rw [if_neg Bool.false_ne_true]
            exact r1'
        · cases e'
      · cases e'
/-- own cells: nobody of the caller's is touched -/
theorem SR.own (S : SR C Av m h H) (b : Bool) : SR C (if b = true then Av else lvs Av m h) [] [] H := by
  refine ⟨rfl, List.nodup_nil, fun n a w e => by simp at e, fun n a e => by simp at e, fun a z => ?_, fun n a e => by simp at e⟩
  cases b with
  | true => exact S.avd a (by simpa using z)
  | false =>
    have z' : lvs Av m h a := by simpa using z
    rcases z' with z | ⟨i, w, z, _⟩
    · exact S.avd a z
    · exact S.there i a z
theorem live_nil {a : Addr} : ¬ live [] [] a := fun ⟨i, w, e, _⟩ => by simp at e
theorem SR.back (S : SR C Av m h H) (k : ∀ a o, H a = some o → H' a = some o) : SR C Av m h H' ∧ Keep m h H m h H' := by
  have st : Stay (lvs Av m h) (lvs Av m h) m m H H' := ⟨⟨[], by simp⟩, fun a o e n => ⟨k a o e, n⟩, fun a xs e => k a _ e, fun a o u e => k a _ e⟩
  exact ⟨⟨S.len, S.nd, fun n a w e1 e2 => (S.cell n a w e1 e2).stay st (fun o e => k a o e), fun n a e => let ⟨o, q⟩ := S.there n a e; ⟨o, k a o q⟩, fun a e => let ⟨o, q⟩ := S.avd a e; ⟨o, k a o q⟩, S.sep⟩,
    ⟨fun a xs e => k a _ e, fun a o u e => k a _ e, ⟨[], by simp⟩, fun a o e n => ⟨k a o e, n⟩, fun a o e => ⟨o, k a o e⟩⟩⟩
end
end M
end

section
set_option Elab.async false
set_option linter.all false
set_option autoImplicit false
set_option maxRecDepth 100000
set_option maxHeartbeats 4000000
/-! Mk: instances made, called. -/
namespace M
open PySem PySem.Spec PyProof.Rows L2
theorem passN {X : Cx} : Passes (L2N.CX X.prog X.w) X E0 := fun _ _ _ _ _ _ _ h => by
  obtain ⟨_, _, _, _, _, _, _, _, _, _, _, _, z⟩ := h
  exact z.elim
theorem takes0 {X : Cx} : L2N.Takes X (fun _ _ _ _ => False) := fun _ _ x => by
  obtain ⟨_, _, _, _, _, _, _, _, _, _, _, _, _, _, _, _, z⟩ := x
  exact z.elim
section
variable {X : Cx} {CX : CXT} {k : Nat} {f Ca : Addr} {fd : FuncData} {ps : List Str} {sp : Sp} {E : L2.St → XK} {x : Str} {p pos : Pos} {e : Expr} {es : List Expr} {t : TA}
/-- as L2.run_make, what is let out told by the slots -/
theorem run_makeS {pins : List (Addr × Obj)} {σ : L2.St} {H : Hp} {s : Shared} {Q : VK} {us : List Value} {vs : List V} (M : L2.Mk X.K Ca f) (F : FnOk X.prog X.w X.K X.mg X.base CX k f fd ps sp) (hr : Room (k + 1) X.A) (hb : Binds X.K fd ps [])
    (hx : PassesAt CX X σ (E σ)) (I : Inv X pins σ H s) (r : Vals vs us)
    (h : ∀ x dx, H x = none → H dx = none → dx ≠ x → sp (.ref x :: vs) (upd (upd H dx (.own x)) x (.ins Ca dx [])) (fun v H2 => v = .non ∧ Q (.ref x) H2) (E σ)) :
    wpAny (model X.prog X.w) X.A (call (.ref Ca) us) (EP X pins σ Q) X.xe s := by
  have hq := h (s.heap.objs.size + 1) s.heap.objs.size (I.hok.fresh (Nat.le_succ _)) (I.hok.fresh (Nat.le_refl _)) (Nat.ne_of_lt (Nat.lt_succ_self _))
  have I2 := Inv.made (C := Ca) I
  have r2 : Vals (V.ref (s.heap.objs.size + 1) :: vs) (Value.ref (s.heap.objs.size + 1) :: us) := .cons rfl r
  have hl : (Value.ref (s.heap.objs.size + 1) :: us).length = ps.length := by
    have e := r2.length
    rw [F.len _ _ _ _ hq] at e
    exact e.symm
  have bt := hb _ (Value.ref (s.heap.objs.size + 1) :: us) I2.kIn (by rw [List.append_nil]; exact hl)
  rw [List.append_nil] at bt
  refine wpAny_call (make_map (f := f) I.kIn M.makes M.init (beq_iff_eq.mp M.fn) (codeAny_mono (F.run _ X.stack _ _ ⟨Value.ref (s.heap.objs.size + 1) :: us, []⟩ (Value.ref (s.heap.objs.size + 1) :: us) _ _ (E σ) (hr.make Ca us [])
    (I2.env0.make Ca us []) bt r2 hq) fun r s' hq' => ?_))
  cases r with
  | error e => exact hx pins _ _ e s' I2 hq'
  | ok fl =>
    cases fl with
    | ret u =>
      obtain ⟨v, H', I3, rv, ev, q3⟩ := I2.after hq'
      subst ev
      exact ⟨rv, ⟨V.ref (s.heap.objs.size + 1), H', I3, rfl, q3⟩⟩
    | next => exact False.elim hq'
    | brk => exact False.elim hq'
    | cont => exact False.elim hq'
theorem run_codeS {pins : List (Addr × Obj)} {σ : L2.St} {H : Hp} {s : Shared} {Q : VK} {us : List Value} {vs : List V} (F : FnOk X.prog X.w X.K X.mg X.base CX k f fd ps sp) (hr : Room k X.A) (hb : Binds X.K fd ps []) (hx : PassesAt CX X σ (E σ))
    (I : Inv X pins σ H s) (r : Vals vs us) (h : sp vs H Q (E σ)) : codeAny (model X.prog X.w) X.A (.call (.ref f) ⟨us, []⟩) (fun r s' => match r with
      | .ok (.ret v) => EP X pins σ Q v s'
      | .ok _ => False
      | .error e => X.xe e s') s := by
  have hl : us.length = ps.length := by rw [← r.length]; exact F.len _ _ _ _ h
  have b := hb s us I.kIn (by rw [List.append_nil]; exact hl)
  rw [List.append_nil] at b
  refine codeAny_mono (F.run X.A X.stack s H ⟨us, []⟩ us vs Q (E σ) hr I.env0 b r h) fun r s' hq => ?_
  cases r with
  | error e => exact hx pins H s e s' I hq
  | ok fl =>
    cases fl with
    | ret u => exact I.after hq
    | next => exact False.elim hq
    | brk => exact False.elim hq
    | cont => exact False.elim hq
def tMakeS (Ca : Addr) (sp : Sp) (E : L2.St → XK) (t : TA) : TE := fun σ H Q => t σ H fun vs H1 => ∀ x dx, H1 x = none → H1 dx = none → dx ≠ x → sp (.ref x :: vs) (upd (upd H1 dx (.own x)) x (.ins Ca dx [])) (fun v H2 => v = .non ∧ Q (.ref x) H2) (E σ)
theorem pe_makeS (M : L2.Mk X.K Ca f) (F : FnOk X.prog X.w X.K X.mg X.base CX k f fd ps sp) (hr : Room (k + 1) X.A) (hg : Gl X x) (hm : X.mg x = some (.ref Ca)) (hb : Binds X.K fd ps []) (hx : ∀ σ, PassesAt CX X σ (E σ))
    (ha : PA X (e :: es) t) (hdb : (x == ("__debug__" : Str)) = false) (he : starEach (e :: es) X.env = (false, eval e X.env) :: starEach es X.env) (hpl : (backTo pos (starEach es X.env)).any (·.1) = false) :
    PE X (.Call (.Name x p) (e :: es) [] pos) (tMakeS Ca sp E t) := by
  refine ⟨fun pins s σ H Q I h => ?_⟩
  refine wpAny_Call_Name_kw (ld_glob I hg hm ?_ hdb)
  refine PySem.W.callWith_K (h₀ := X.base) I.ok.mod.kin M.kp (thn (ha.run pos pins s σ H _ I h) fun us s1 ⟨vs, H1, I1, r, q⟩ => ⟨I1.kIn, ?_⟩) he hpl
  exact run_makeS M F hr hb (hx σ) I1 r q
/-- an instance called: its class is found at the run -/
def tInst (X : Cx) (W : WX) (tf : TE) (t : TA) : TE := fun σ H Q => tf σ H fun y H1 => ∃ a, y = V.ref a ∧ t σ H1 fun vs H2 => ∃ (Ca g : Addr) (fd : FuncData) (ps : List Str) (k : Nat) (sp : Sp), StX.InsC X H2 a Ca ∧ StX.CallO X.K Ca g ∧
  FnOk X.prog X.w X.K X.mg X.base (L2N.CX X.prog X.w) k g fd ps sp ∧ Binds X.K fd ps [] ∧ Room k X.A ∧ sp (V.ref a :: vs) H2 Q (WE W σ)
theorem pe_inst {W : WX} {px : Pos} {tf : TE} (tk : L2N.Takes X W) (hf : PE X (.Name x px) tf) (ha : PA X (e :: es) t)
    (he : starEach (e :: es) X.env = (false, eval e X.env) :: starEach es X.env) (hpl : (backTo pos (starEach es X.env)).any (·.1) = false) : PE X (.Call (.Name x px) (e :: es) [] pos) (tInst X W tf t) := by
  refine ⟨fun pins s σ H Q I h => ?_⟩
  refine wpAny_Call_Name_kw (thn (hf.run pins s σ H _ I h) fun u s1 ⟨y, H1, I1, ry, a, ey, q⟩ => ?_)
  subst ey
  obtain rfl : u = Value.ref a := ry
  refine StX.callO_with (thn (ha.run pos pins s1 σ H1 _ I1 q) fun us s2 ⟨vs, H2, I2, r, Ca, g, fd, ps, k, sp, hi, c, F, hb, hr, q2⟩ => ?_) he hpl
  obtain ⟨ox, od, J, hd⟩ := StX.insC_at I2 hi
  refine ⟨⟨Ca, ox, od, J, hd⟩, ?_⟩
  exact wpAny_call (PySem.W.kco_code I2.kIn J hd c.at_ c.fn c.fi (run_codeS (E := WE W) (us := .ref a :: us) (vs := .ref a :: vs) F hr hb (L2N.passAt tk σ) I2 (.cons rfl r) q2))
end
section
variable {C : Pc} {T : Tb} {call : Nat → List D → Hs → RE} {W : WX} {X : Cx} {rl : Rho → Hs → RL} {σ : L2.St} {H : Hp} {ra rb : Rho → Hs → RE}
theorem make_tr {c : Nat} {g : List D → Hs → RE} {Q : VK} : tE C T W (fun ρ h => (rl ρ h).bind fun xs h => mkFn g c xs h) σ H Q → tMakeS (C.cad c) (spF C T g) (WE W) (tL C T W rl) σ H Q :=
  fun ⟨Av, ρ, h, m, a, w⟩ => tL.bind a w fun ds vs h1 m1 H1 a1 k1 r1 w1 x dx nx ndx hne => by
    have S := a1.sr
    unfold mkFn at w1
    split at w1
    · rename_i us b el
      obtain ⟨rl', ul⟩ := lend_rv S el r1
      have up : ∀ a o, H1 a = some o → upd (upd H1 dx (.own x)) x (.ins (C.cad c) dx []) a = some o := fun a o e => by
        rw [upd_ne (ne_of_none e nx), upd_ne (ne_of_none e ndx)]; exact e
      have ax : ∀ a, (if b = true then Av else lvs Av m1 h1) a → ∃ o, H1 a = some o := fun a z => (S.own b).avd a z
      have nax : ¬ (if b = true then Av else lvs Av m1 h1) x := fun z => by
        obtain ⟨o, e⟩ := ax x z
        rw [nx] at e; cases e
      have S2 : SR C (if b = true then Av else lvs Av m1 h1) [x] [.opn (.ins c [] [])] (upd (upd H1 dx (.own x)) x (.ins (C.cad c) dx [])) := by
        refine ⟨rfl, by simp, fun n a w e1 e2 => ?_, fun n a e => ?_, fun a z => ?_, fun n a e z => ?_⟩
        · cases n with
          | zero =>
            cases e1
            cases e2
            exact ⟨dx, [], upd_same, rfl, fun _ h => (nomatch h), .nil⟩
          | succ n => simp at e1
        · cases n with
          | zero => cases e; exact ⟨_, upd_same⟩
          | succ n => simp at e
        · obtain ⟨o, e⟩ := ax a z
          exact ⟨o, up a o e⟩
        · cases n with
          | zero => cases e; exact nax z
          | succ n => simp at e
      have lx : ∀ a, live [x] [Ce.opn (.ins c [] [])] a → a = x := fun a ⟨n, w, e1, _⟩ => by
        cases n with
        | zero => cases e1; rfl
        | succ n => simp at e1
      have st : Stay (if b = true then Av else lvs Av m1 h1) (lvs (if b = true then Av else lvs Av m1 h1) [x] [Ce.opn (.ins c [] [])]) [] [x] H1 (upd (upd H1 dx (.own x)) x (.ins (C.cad c) dx [])) :=
        ⟨⟨[x], rfl⟩, fun a o e n => ⟨up a o e, fun z => z.elim n fun z => by rw [lx a z, nx] at e; cases e⟩, fun a xs e => up a _ e, fun a o u e => up a _ e⟩
      refine ⟨_, [x], [.opn (.ins c [] [])], .ref 0 :: us, S2, .cons (.ref rfl) (rl'.stay st), ?_⟩
      generalize g (.ref 0 :: us) [.opn (.ins c [] [])] = re at w1 ⊢
      have kp : ∀ {m2 : List Addr} {h2 : Hs} {H2 : Hp}, Keep [x] [Ce.opn (.ins c [] [])] (upd (upd H1 dx (.own x)) x (.ins (C.cad c) dx [])) m2 h2 H2 → ∀ a o, H1 a = some o → H2 a = some o := fun k a o e =>
        (k.keep a o (up a o e) fun z => by rw [lx a z, nx] at e; cases e).1
      have hb : ∀ (mm : List Addr) (hh' : Hs), b = false → ∀ a, lvs Av m1 h1 a → lvs (if b = true then Av else lvs Av m1 h1) mm hh' a := fun mm hh' e a z => by
        subst e
        exact .inl (by rw [if_neg Bool.false_ne_true]; exact z)
      cases re with
      | bad => exact w1
      | ok d h2 =>
        intro v m2 H2 s2 k2 r2
        unfold mkRes at w1
        split at w1
        · rename_i heq
          cases heq
          split at w1
          · rename_i w ec
            split at w1
            · rename_i hk
              cases r2
              refine ⟨rfl, ?_⟩
              obtain ⟨s3, k3⟩ := S.back (kp k2)
              have q0 : m2[0]? = some x := by
                obtain ⟨r, e⟩ := k2.pre
                rw [e]; rfl
              have c2 := s2.cell 0 x w q0 (cont_some ec)
              have nl : ¬ lvs Av m1 h1 x := fun z => by
                rcases z with z | ⟨i, u, z, _⟩
                · obtain ⟨o, e⟩ := S.avd x z
                  rw [nx] at e; cases e
                · obtain ⟨o, e⟩ := S.there i x z
                  rw [nx] at e; cases e
              refine w1 (.ref x) m1 H2 s3 k3 ?_
              unfold okRes at hk
              rw [Bool.and_eq_true] at hk
              cases b with
              | false => exact ((c2.stay (Stay.weak (C := C) (hb m2 _ rfl)) fun _ e => e).rv nl).nor hk.1
              | true =>
                have hi : imm w = true := by simpa using hk.2
                cases w <;> first | (simp [imm] at hi; done) | exact c2.elim
            · exact w1.elim
          · exact w1.elim
        · rename_i heq; cases heq
        · exact w1.elim
      | exc c' xs h2 =>
        intro cls dd m2 H2 s2 k2 x2
        unfold mkRes at w1
        dsimp only at w1
        split at w1
        · rename_i hk
          obtain ⟨s3, k3⟩ := S.back (kp k2)
          refine w1 cls dd m1 H2 s3 k3 ⟨x2.1, ?_⟩
          obtain ⟨Cl, e1, e2⟩ := x2.2
          exact ⟨Cl, e1, e2.imp id fun ⟨d2, fs, us2, q1, q0, q2, q3, q4⟩ => ⟨d2, fs, us2, q1, xd_back s3 q2 q0, q2, ress_back hk (hb m2 h2) q3, q4⟩⟩
        · exact w1.elim
    · exact w1.elim
theorem inst_tr (o : On X C) {Q : VK} (hi : ∀ (c : Nat) (Cl : M.Cl) (f : Nat), T.cls[c]? = some Cl → Cl.mets.lookup 0 = some f → ∃ fd ps k, StX.CallO X.K (C.cad c) (C.fad f) ∧ Binds X.K fd ps [] ∧ FnOk X.prog X.w X.K X.mg X.base (L2N.CX X.prog X.w) k (C.fad f) fd ps (spF C T (call f)) ∧ Room k X.A) :
    tE C T W (fun ρ h => (ra ρ h).bind fun x h => (match x with
    | .ins c _ _ => (rb ρ h).bind fun y h => (match T.cls[c]? with
      | some C => (match C.mets.lookup 0 with
        | some f => call f [x, y] h
        | none => .bad)
      | none => .bad)
    | _ => .bad)) σ H Q → tInst X W (tE C T W ra) (tCons (tE C T W rb) tNil) σ H Q :=
  fun ⟨Av, ρ, h, m, a, w⟩ => tE.bind a w fun d v h1 m1 H1 a1 k1 r1 w1 => by
    split at w1
    · rename_i c as vs
      have hv : ∃ a, v = .ref a := by cases r1; exact ⟨_, rfl⟩
      obtain ⟨b, rfl⟩ := hv
      refine ⟨b, rfl, ?_⟩
      exact tE.bind a1 w1 fun d2 v2 h2 m2 H2 a2 k2 r2 w2 => by
        try dsimp only at w2
        split at w2
        · rename_i Cl e1
          split at w2
          · rename_i f e2
            obtain ⟨fd, ps, k, i1, i2, i3, i4⟩ := hi c Cl f e1 e2
            have r3 := k2.rv r1
            refine ⟨C.cad c, C.fad f, fd, ps, k, _, ?_, i1, i3, i2, i4, ⟨Av, m2, h2, [.ins c as vs, d2], a2.sr, .cons r3 (.cons r2 .nil), w2.ws fun _ _ _ z => z⟩⟩
            cases r3 with
            | ins _ q _ _ _ => exact .inr ⟨_, _, q⟩
          · exact w2.elim
        · exact w2.elim
    · exact w1.elim
end
end M
end

section
set_option Elab.async false
set_option linter.all false
set_option autoImplicit false
set_option maxRecDepth 100000
set_option maxHeartbeats 4000000
/-! Sk: sorted(xs, key=f), f a def «return (len(q), q)». -/
namespace M
open PySem PySem.Spec PyProof.Rows L2
/-- the body of such a def -/
def skBody (b : List Stmt) (q : Str) : Bool := match b with
  | [.Return (some (.Tuple [.Call (.Name l _) [.Name x _] [] _, .Name y _] _ _)) _] => decide (l = ("len" : Str)) && decide (x = q) && decide (y = q)
  | _ => false
theorem execs_one {M : Model} {A : Around} {E : Value → Shared → Prop} {s : Shared} {st : Stmt} {env : Env} {Q : Flow → Shared → Prop} (h : wpAny M A (exec st env) (fun f s' => ∃ v, f = .ret v ∧ Q f s') E s) : wpAny M A (execs [st] env) Q E s := by
  refine wpAny_execs_cons (thn h fun f s' ⟨v, e, q⟩ => ?_)
  subst e
  exact q
section
variable {K : PySem.W.Frag} {name qual : Str} {params : Arguments} {body : List Stmt} {scope : Scope} {f : Addr} {fd : FuncData} {q : Str} {N : List Str}
/-- a call of it: nothing that stood is touched -/
theorem sk_call {X : Cx} {pins : List (Addr × Obj)} {σ : L2.St} {H : Hp} {s : Shared} {A : Around} {a : Addr} {its : Array Value} (fu : FunD X.K name qual params body scope [] [] f fd) (S : FnScope N [q] scope) (hb : skBody body q = true) (hbd : Binds X.K fd [q] [])
    (hq : scope.names.lookup q = some .local) (hl : scope.names.lookup ("len" : Str) = some .globalImplicit) (hml : X.mg "len" = none) (hd1 : (q == ("__debug__" : Str)) = false) (hr : Room 2 A) (hA : A.frames = X.A.frames) (I : Inv X pins σ H s) (hfr : A.frames = some X.stack) (ht : IsTup s.heap a its) (hz : its.size ≤ sizeLine) :
    wpAny (model X.prog X.w) A (call (.ref f) [.ref a]) (fun v s2 => ∃ h' tk b t, s2 = { s with heap := h', toks := tk } ∧ (∀ c o, s.heap.get? c = some o → h'.get? c = some o) ∧ v = .ref b ∧ IsTup h' b #[.int its.size t, .ref a]) (fun _ _ => False) s := by
  obtain ⟨oc, od, dV, kV, doc, pm, an, cdv, ct, osl, rfl, lk, hcd, _, _⟩ := fu.ex
  have e0 : Env0 X.prog X.w X.K X.mg X.base A X.stack s H := ⟨hfr, I.env0.mod, I.env0.bs, I.env0.bsz, I.env0.funs, I.env0.frf, I.env0.hok, I.env0.bare⟩
  have KX : X.K.In s.heap := I.kIn
  have lim : s.heap.NoLimit := I.nolimit
  have bt := hbd s [.ref a] I.kIn rfl
  have hkind : ∀ y ∈ [q].zip [Value.ref a], scope.names.lookup y.1 = some .local ∨ (scope.names.lookup y.1 = some .cell ∧ ((cellsFrom (s.heap.objs.size + 1) scope.names []).lookup y.1).isSome = true) := fun y hy => by
    have : y = (q, Value.ref a) := by simpa using hy
    rw [this]; exact .inl hq
  refine wpAny_call ?_
  refine codeAny_call_function hr.depth (KX _ _ lk) rfl S.co S.gen rfl (PySem.W.codeRec_of KX hcd) (bt _ _ _ _ ?_)
  refine wpAny_newFunctionEnv_cells S.kind hkind fun env he s1 x => ?_
  subst he
  refine ⟨lim.keeps x.toInCall.keep, codeAny_func ?_⟩
  have J : Inv (cxOf (L2N.CX X.prog X.w) X.prog X.w X.K X.mg X.base N qual scope f cdv A X.stack s H (fun _ _ _ => False)) [] (L2.start N [.ref a]) H s1 := inv_start S hr.hd e0 rfl (.cons rfl .nil) x
  obtain ⟨h1, tk1, rfl, hk⟩ := x.done
  unfold skBody at hb
  split at hb
  · rename_i l p1 x p2 p3 y p4 k5 p5 p6
    simp only [Bool.and_eq_true, decide_eq_true_eq] at hb
    obtain ⟨⟨rfl, rfl⟩, rfl⟩ := hb
    have g1 : Gl (cxOf (L2N.CX X.prog X.w) X.prog X.w X.K X.mg X.base N qual scope f cdv A X.stack s H (fun _ _ _ => False)) "len" := hl
    obtain ⟨mm, hns, hloc⟩ := J.loc
    have hN0 : N[0]? = some y := by
      have e := S.pre
      cases N with
      | nil => simp at e
      | cons n N' => simp at e; simp [e]
    have ld : ∀ (pins' : List (Addr × Obj)) (σ' : L2.St) (H' : Hp) (t : Shared) (pp : Pos) (Q : Value → Shared → Prop) (E : Value → Shared → Prop), t.heap = h1 → Q (.ref a) t → wpAny (model X.prog X.w) (A.deeper (envOfC qual scope s.heap.objs.size (f) cdv)) (eval (.Name y pp) (envOfC qual scope s.heap.objs.size f cdv)) Q E t := fun pins' σ' H' t pp Q E ht hQ => by
      obtain ⟨u, r, l⟩ := hloc 0 y (.ref a) hN0 (by unfold L2.start; rfl) (.inl hq)
      cases (show u = Value.ref a from r)
      rcases l with ⟨hk2, hm⟩ | ⟨hk2, _⟩
      · exact wpAny_Name (wpAny_loadName_local J.ok.kind hk2 (by rw [ht]; exact hns) hm hQ) hd1
      · have hk3 : scope.names.lookup y = some .cell ∨ scope.names.lookup y = some .free := hk2
        rw [hq] at hk3
        rcases hk3 with z | z <;> cases z
    have keep : ∀ c o, s.heap.get? c = some o → h1.get? c = some o := hk
    refine execs_one (wpAny_Return_some (wpAny_Tuple_spliced ?_))
    show wpAny _ _ (spliced [(false, eval (.Call (.Name ("len" : Str) p1) [.Name y p2] [] p3) _), (false, eval (.Name y p4) _)]) _ _ _
    refine Calls.spliced_cons ?_
    refine wpAny_Call_Name_kw (ld_blt (X := cxOf (L2N.CX X.prog X.w) X.prog X.w X.K X.mg X.base N qual scope f cdv A X.stack s H (fun _ _ _ => False)) J g1 hml boot_len ?_ (by decide +kernel) (by decide +kernel))
    refine PyProof.Rows.callWith_builtin1 ?_ rfl rfl
    show wpAny _ _ (spliced [(false, eval (.Name y p2) _)]) _ _ _
    refine Calls.spliced_cons (ld [] [] H _ p2 _ _ rfl (Calls.spliced_nil ?_))
    have ht1 : IsTup h1 a its := by
      obtain ⟨o, e1, e2, e3⟩ := ht
      exact ⟨o, keep _ _ e1, e2, e3⟩
    refine len_tuple ht1 (by rw [sizeLine_eq] at hz; omega) ?_
    refine Calls.spliced_cons (ld [] [] H _ p4 _ _ rfl (Calls.spliced_nil ?_))
    refine ⟨by show 2 ≤ sizeLine; rw [sizeLine_eq]; decide, _, rfl, ?_⟩
    exact ⟨h1.push { cls := .type "tuple", data := .seq [Value.int its.size (tk1 + 1), .ref a].toArray }, tk1 + 1 + 1, h1.objs.size, tk1 + 1, rfl, fun c o e => Heap.get?_push_of_some _ (keep c o e), rfl, _, Heap.get?_push_size _ rfl, rfl, 0, rfl⟩
  · cases hb
end
/-- (len, the tuple itself) -/
def kd (d : D) : D := match d with
  | .tup xs => .tup [.int xs.length, .tup xs]
  | _ => d
/-- the def number f is such a one -/
structure SkOk (X : Cx) (C : Pc) (call : Nat → List D → Hs → RE) (f : Nat) : Prop where
  ex : ∃ (name qual : Str) (params : Arguments) (body : List Stmt) (scope : Scope) (fd : FuncData) (q : Str) (N : List Str), FunD X.K name qual params body scope [] [] (C.fad f) fd ∧ FnScope N [q] scope ∧ skBody body q = true ∧ Binds X.K fd [q] [] ∧
    scope.names.lookup q = some .local ∧ scope.names.lookup ("len" : Str) = some .globalImplicit ∧ (q == ("__debug__" : Str)) = false
  val : ∀ xs k h, call f [.tup xs] [] = .ok k h → k = kd (.tup xs)
theorem keysGo_map {g : D → RE} (hg : ∀ xs k h, g (.tup xs) = .ok k h → k = kd (.tup xs)) : ∀ {xs ks : List D}, keysGo g xs = some ks → ks = xs.map kd ∧ ∀ d ∈ xs, ∃ ys, d = .tup ys
  | [], ks, e => by
    cases e
    exact ⟨rfl, fun d h => nomatch h⟩
  | x :: xs, ks, e => by
    unfold keysGo at e
    split at e
    · rename_i ys
      split at e
      · rename_i k h1 ks' e1 e2
        cases e
        have q2 := hg _ _ _ e1
        obtain ⟨i1, i2⟩ := keysGo_map hg e2
        refine ⟨by rw [i1, q2]; rfl, fun d hd => ?_⟩
        rcases List.mem_cons.mp hd with z | z
        · rw [z]; exact ⟨ys, rfl⟩
        · exact i2 d z
      · cases e
    · cases e
mutual
theorem reads_pl {h : Heap} : ∀ {d : D} {v : Value} {as : List Addr}, pl d = true → Reads h v (toPy d) as → as = []
  | .non, _, _, _, r => by cases r; rfl
  | .int i, _, _, _, r => by cases r; rfl
  | .str x, _, _, _, r => by cases r; rfl
  | .tup xs, _, _, p, r => by
    cases r with
    | tuple _ _ _ q => exact readsAll_pl (by simpa [pl] using p) q
  | .bl _, _, _, p, _ => by simp [pl] at p
  | .lst _, _, _, p, _ => by simp [pl] at p
  | .rol _, _, _, p, _ => by simp [pl] at p
  | .dic _ _ _, _, _, p, _ => by simp [pl] at p
  | .ins _ _ _, _, _, p, _ => by simp [pl] at p
  | .ref _, _, _, p, _ => by simp [pl] at p
  | .exn _ _, _, _, p, _ => by simp [pl] at p
theorem readsAll_pl {h : Heap} : ∀ {ds : List D} {vs : List Value} {as : List Addr}, pls ds = true → ReadsAll h vs (toPys ds) as → as = []
  | [], _, _, _, r => by cases r; rfl
  | d :: ds, _, _, p, r => by
    simp only [pls, Bool.and_eq_true] at p
    cases r with
    | cons a b => rw [reads_pl p.1 a, readsAll_pl p.2 b]; rfl
end
section
variable {C : Pc} {T : Tb} {call : Nat → List D → Hs → RE} {W : WX} {X : Cx} {ra : Rho → Hs → RE} {σ : L2.St} {H : Hp} {lv : Addr → Prop} {m : List Addr}
theorem zip_kd : ∀ (xs : List D), ∀ p ∈ xs.zip (xs.map kd), p.2 = kd p.1
  | [] => fun p h => nomatch h
  | x :: xs => fun p h => by
    rw [List.map_cons, List.zip_cons_cons] at h
    rcases List.mem_cons.mp h with e | h
    · subst e; rfl
    · exact zip_kd xs p h
mutual
theorem pl_pd : ∀ {d : D}, pl d = true → pd d = true
  | .non, _ => rfl
  | .int _, _ => rfl
  | .str _, _ => rfl
  | .tup xs, p => pls_pds (xs := xs) (by simpa [pl] using p)
  | .bl _, p => by simp [pl] at p
  | .lst _, p => by simp [pl] at p
  | .rol _, p => by simp [pl] at p
  | .dic _ _ _, p => by simp [pl] at p
  | .ins _ _ _, p => by simp [pl] at p
  | .ref _, p => by simp [pl] at p
  | .exn _ _, p => by simp [pl] at p
theorem pls_pds : ∀ {xs : List D}, pls xs = true → pds xs = true
  | [], _ => rfl
  | d :: ds, p => by
    simp only [pls, Bool.and_eq_true] at p
    simp only [pds, Bool.and_eq_true]
    exact ⟨pl_pd p.1, pls_pds p.2⟩
end
theorem sortK_kd (xs : List D) : sortK xs (xs.map kd) = xs.mergeSort fun a b => !pyLt (kd b) (kd a) := by
  unfold sortK
  have hz := zip_kd xs
  refine (List.map_mergeSort (s := fun a b => !pyLt (kd b) (kd a)) (f := fun x : D × D => x.1) (fun a ha b hb => ?_)).trans ?_
  · rw [hz a ha, hz b hb]
  · congr 1
    rw [List.map_fst_zip]
    simp
theorem call_sk (o : On X C) (hr : Room 4 X.A) (hml : X.mg "len" = none) {f : Nat} (sk : SkOk X C call f) : CallRK X (.builtin "sorted") [Str.ofString "key"] (fun xs zs H Q => zs = [.ref (C.fad f)] ∧ rA1F C (evSk (call f)) xs H Q) := by
  intro pins s σ H xs zs us ws Q I rx rz ⟨ez, x, ex, Av, m, h, e0, d, S, px, e, q⟩
  subst ez ex
  obtain ⟨w1, rfl, e1⟩ := vals1 rz
  cases (show w1 = Value.ref (C.fad f) from e1)
  unfold evSk at e
  split at e
  · rename_i ds
    split at e
    · rename_i ks ek
      split at e
      · rename_i hpl
        obtain ⟨ds', e2, rfl⟩ := Option.map_eq_some_iff.mp e
        obtain ⟨ek1, tups⟩ := keysGo_map (fun xs k h e => sk.val xs k h e) ek
        subst ek1
        unfold evSortK at e2
        split at e2
        · rename_i hk
          cases e2
          rw [Bool.and_eq_true] at hk
          obtain ⟨k1, k2, k3, k4⟩ := ordOk_inv hk.2
          cases px with
          | lst a b =>
            rename_i p vs
            rw [Vals.ref1 rx]
            obtain ⟨its, rv, hl, hz⟩ := I.list (SqL.of a)
            have ef := zip_fst b
            have hm := zip_mem b
            have hf : ∀ p ∈ ds.zip vs, p.1 ∈ ds := fun p hp => by rw [← ef]; exact List.mem_map.mpr ⟨p, hp, rfl⟩
            have em : (ds.zip vs).map (fun b => toPy (kd b.1)) = (ds.map kd).map toPy := by
              have h1 := congrArg (List.map fun d => toPy (kd d)) ef
              rw [List.map_map] at h1
              rw [List.map_map]
              exact h1
            have hzl : (ds.zip vs).length = ds.length := by have h1 := congrArg List.length ef; rw [List.length_map] at h1; exact h1
            obtain ⟨name, qual, params, body, scope, fd, qn, N, fu, SC, hb, hbd, hq1, hq2, hq3⟩ := sk.ex
            have r2 : Room 2 X.A.in1.in1 := (hr.mono (show 2 + 1 + 1 ≤ 4 by omega)).in1.in1
            refine PySem.W.sorted_key_data (b := false) (R := fun u (b : D × V) => RelV b.2 u) (fun b : D × V => toPy (kd b.1)) hl.isList (zip_each b rv) (by rw [em]; exact k2) (by rw [em]; exact k4) (by rw [hzl, b.length]; exact hz)
              (fun p hp => by have h1 := k3 (kd p.1) (List.mem_map.mpr ⟨_, hf p hp, rfl⟩); have h2 := o.u; unfold dpt at h1; omega) (PyProof.Rows.ksk_s1 _ _) (fun _ => PyProof.Rows.ksk_l1 _ _) (fun _ => PyProof.Rows.ksk_t1 _ _) (fun u p hru hp hh tk kp => ?_) fun out c h' tk kp _ hD hol heo => ?_
            · obtain ⟨ys, ey⟩ := tups p.1 (hf p hp)
              have rp := hm p hp
              have hplp : pl p.1 = true := List.all_eq_true.mp hpl _ (hf p hp)
              obtain ⟨pd', pv⟩ := p
              dsimp only at ey rp hru hplp ⊢
              subst ey
              have I' : Inv X pins σ H { s with heap := hh, toks := tk } := I.kept kp
              obtain ⟨as, rd⟩ := RV.reads I' o.K (pl_pd hplp) rp hru
              have eas := reads_pl hplp rd
              subst eas
              cases rp with
              | tup ta tb =>
                cases (show u = Value.ref _ from hru)
                rw [← o.K] at ta
                obtain ⟨its2, rv2, ht2, hz2⟩ := I'.tuple ta
                have hl2 : its2.length = ys.length := by rw [← rv2.length, tb.length]
                refine thn (sk_call fu SC hb hbd hq1 hq2 hml hq3 r2 rfl I' (by show X.A.frames = _; exact I.ok.frames) ht2 (by rw [List.size_toArray, ← rv2.length]; exact hz2)) fun v s2 ⟨h2, tk2, b2, t2, e1, e2, e3, ob, o1, o2, n2, o3⟩ => ?_
                subst e1 e3
                refine ⟨h2, tk2, rfl, e2, ?_⟩
                have q1 : Reads h2 (.ref b2) (.tuple [.int ((its2.toArray.size : Nat) : Int), toPy (.tup ys)]) ([] ++ ([] ++ [])) := .tuple o1 o2 o3 (.cons (.int _ _) (.cons (PyProof.Rows.Reads.keeps e2 rd) .nil))
                rw [List.size_toArray, hl2] at q1
                exact q1
            · have ev := vals_pairs heo
              have hperm := List.mergeSort_perm (ds.zip vs) (PySem.W.dataLe false fun b : D × V => toPy (kd b.1))
              have hrr : RVs C (lvs Av m h) m H (sortK ds (ds.map kd)) (((ds.zip vs).mergeSort (PySem.W.dataLe false fun b : D × V => toPy (kd b.1))).map (·.2)) := by
                have h1 := RVs.of_pairs (C := C) (lv := lvs Av m h) (m := m) (H := H) (ps := (ds.zip vs).mergeSort (PySem.W.dataLe false fun b : D × V => toPy (kd b.1))) fun p hp => hm p (hperm.mem_iff.mp hp)
                have h2 : ((ds.zip vs).mergeSort (PySem.W.dataLe false fun b : D × V => toPy (kd b.1))).map (·.1) = sortK ds (ds.map kd) := by
                  rw [sortK_kd]
                  refine (List.map_mergeSort (s := fun a b => !pyLt (kd b) (kd a)) (f := fun x : D × V => x.1) (fun a _ b _ => rfl)).trans ?_
                  rw [ef]
                rw [h2] at h1
                exact h1
              have np : H (s.heap.objs.size + 1) = none := I.hok.fresh (Nat.le_succ _)
              have hz2 : (((ds.zip vs).mergeSort (PySem.W.dataLe false fun b : D × V => toPy (kd b.1))).map (·.2)).length ≤ sizeLine := by
                rw [List.length_map, hperm.length_eq, hzl, b.length]; exact hz
              exact ⟨.ref _, upd H (s.heap.objs.size + 1) (.lst (((ds.zip vs).mergeSort (PySem.W.dataLe false fun b : D × V => toPy (kd b.1))).map (·.2))), I.laid (t' := tk) kp (Nat.le_succ _) ⟨hz2, out, c, ev, hD⟩, rfl, q _ _ (S.newA np) (keep_new np) np (S.cellL np hrr)⟩
        · cases e2
      · cases e
    · cases e
  · cases e
theorem pe_sk (o : On X C) (hr : Room 4 X.A) {f : Nat} (sk : SkOk X C call f) {y : Expr} {z kn : Str} {p kp kpos pos : Pos} (hk : kn = "key") (hg : Gl X "sorted") (hm : X.mg "sorted" = none) (hml : X.mg "len" = none) (hgf : Gl X z) (hmf : X.mg z = some (.ref (C.fad f))) (hz : (z == ("__debug__" : Str)) = false) (ha : PE X y (tE C T W ra)) (hy : starEach [y] X.env = (false, eval y X.env) :: starEach [] X.env) :
    PE X (.Call (.Name "sorted" p) [y] [⟨some kn, .Name z kp, kpos⟩] pos) (tF C T W fun ρ h => (ra ρ h).bind fun x h => pk h x fun x => Ro (evSk (call f) x) h) := by
  subst hk
  refine peImp (pe_callBK (call_sk o hr hml sk) hg hm PyProof.Rows.boot_sorted (pa_cons ha pa_nil hy) (pk_cons (pe_glob (v := .ref (C.fad f)) hgf hmf rfl hz) pk_nil) (by decide +kernel) (by decide +kernel) (by rw [hy]; rfl) (by rw [hy]; rfl)) fun σ H Q z => ?_
  have := f1_trF (evSk (call f)) z
  exact tE.imp (fun v H1 q => ⟨rfl, q⟩) this
end
end M
end

section
set_option Elab.async false
set_option linter.all false
set_option autoImplicit false
set_option maxRecDepth 100000
set_option maxHeartbeats 4000000
/-! Exn: exceptions of one's own, raised. -/
namespace M
open PySem PySem.Spec PyProof.Rows L2
theorem pmk_oexN {X : Cx} {CX : CXT} {x : Str} {e : Expr} {es : List Expr} {ta : TA} {p pos : Pos} {C fI : Addr} {k : Nat} {fd : FuncData} {ps : List Str} {sp : Sp} {ds : List Value} {dvs : List V} (T : OexC X.K C) (iC : PySem.W.findIn X.K (.ref C) "__init__" = some (some (.ref fI))) (tI : PySem.W.typeIn X.K (.ref fI) = some (.type "function"))
    (F1 : FnOk X.prog X.w X.K X.mg X.base CX k fI fd ps sp) (hr : Room (k + 1) X.A) (hb : Binds X.K fd ps ds) (hd : Vals dvs ds) (hx : Passes CX X (fun _ _ _ => False)) (hg : Gl X x) (hm : X.mg x = some (.ref C)) (ha : PA X (e :: es) ta)
    (hdb : (x == ("__debug__" : Str)) = false) (he : starEach (e :: es) X.env = (false, eval e X.env) :: starEach es X.env) (hpl : (backTo pos (starEach es X.env)).any (·.1) = false) :
    L2N.PMk X (.Call (.Name x p) (e :: es) [] pos) (tMkO C sp dvs ta) := by
  intro pins s σ H Q I h
  obtain ⟨nm, q, N, bs, bm, sn, sub, ab, col, dd, k0, k1, k2, k3, k5, hC, hbm⟩ := T.cls
  refine wpAny_Call_Name_kw (ld_glob I hg hm ?_ hdb)
  refine PySem.W.callWith_K (h₀ := X.base) I.ok.mod.kin T.kC (thn (ha.run pos pins s σ H _ I h) fun us s1 ⟨vs, H1, I1, r1, hz, q1⟩ => ⟨I1.kIn, ?_⟩) he hpl
  show wpAny _ _ (call (.ref C) us) _ _ _
  obtain ⟨hp, g, dr, tk, os⟩ := s1
  have hsz : hp.objs.size ≤ hp.objs.size + 1 := Nat.le_succ _
  have hn : H1 (hp.objs.size + 1) = none := I1.hok.fresh hsz
  have hq := q1 (hp.objs.size + 1) hn
  have kk : ∀ b o, hp.get? b = some o → ((hp.push (PySem.W.kdv_tup us)).push (PySem.HandSPX.excO C hp.objs.size)).get? b = some o := fun b o e => Heap.get?_push_of_some _ (Heap.get?_push_of_some _ e)
  have hget : ((hp.push (PySem.W.kdv_tup us)).push (PySem.HandSPX.excO C hp.objs.size)).get? (hp.objs.size + 1) = some (PySem.HandSPX.excO C hp.objs.size) := by heap_get
  have I2 : Inv X pins σ (upd H1 (hp.objs.size + 1) (exo (hp.objs.size + 1) C none)) ⟨(hp.push (PySem.W.kdv_tup us)).push (PySem.HandSPX.excO C hp.objs.size), g, dr, tk, os⟩ :=
    I1.laid (t' := tk) (a := hp.objs.size + 1) (o := exo (hp.objs.size + 1) C none) (h' := (hp.push (PySem.W.kdv_tup us)).push (PySem.HandSPX.excO C hp.objs.size)) kk hsz (exo_ok hget)
  have r2 : Vals (V.ref (hp.objs.size + 1) :: (vs ++ dvs)) (Value.ref (hp.objs.size + 1) :: (us ++ ds)) := .cons rfl (r1.append hd)
  have hl : (Value.ref (hp.objs.size + 1) :: us ++ ds).length = ps.length := by
    have e := r2.length
    rw [F1.len _ _ _ _ hq] at e
    exact e.symm
  have hus : us.length ≤ sizeLine := by
    rw [← Paired.length r1, sizeLine_eq]
    omega
  refine wpAny_call (PySem.HandSPX.call_own F.excBase_ValueError (fun Y => PySem.HandSPX.refsVE_contains Y bm hbm) (I1.kIn _ _ hC) (PySem.W.looks_findIn I1.kIn iC) (fun self => PySem.W.bind_fn I1.kIn self tI) hus
    (codeAny_mono (F1.run _ X.stack _ _ ⟨Value.ref (hp.objs.size + 1) :: us, []⟩ (Value.ref (hp.objs.size + 1) :: (us ++ ds)) _ _ (fun _ _ _ => False) (hr.make C us []) (I2.env0.make C us []) (hb _ (Value.ref (hp.objs.size + 1) :: us) I2.kIn hl) r2 hq) fun r s' hq' => ?_))
  cases r with
  | error er => exact hx pins σ _ _ er s' I2 hq'
  | ok fl =>
    cases fl with
    | ret u =>
      obtain ⟨v, H2, os2, bare2, un2, hok2, rv, ev, d, fs, ea, ed, hd1, q2⟩ := hq'
      subst ev
      obtain ⟨h2, g2, d2, t2, os'⟩ := s'
      obtain ⟨t0, G, J, kG, ge, hoe, na⟩ := mk_end0 (d2 := d2) (t2 := t2) I1 hsz kk un2 hok2 os2 bare2 ea ed hd1
      refine ⟨rv, hp.objs.size + 1, _, _, ⟨G, g2, d2, t2, os'⟩, _, .ref C, some d, rfl, J, kG, ge, hoe, ⟨rfl, rfl, fun vs hv => ?_⟩, rfl, rfl, na, rfl, bare2, raises_own T.exC T.tyC, q2⟩
      cases hv
      rfl
    | next => exact False.elim hq'
    | brk => exact False.elim hq'
    | cont => exact False.elim hq'
def pushes (C : Pc) : List Nat → List V → List (Str × V) → List (Str × V)
  | k :: fl, w :: ws, fs => pushes C fl ws ((C.nm k, w) :: fs)
  | _, _, fs => fs
theorem pushes_keep {C : Pc} {x : Str} {u : V} : ∀ {fl : List Nat} {ws : List V} {fs : List (Str × V)}, (∀ k ∈ fl, C.nm k ≠ x) → fs.lookup x = some u → (pushes C fl ws fs).lookup x = some u
  | [], ws, fs, _, e => by unfold pushes; exact e
  | k :: fl, [], fs, _, e => by unfold pushes; exact e
  | k :: fl, w :: ws, fs, n, e => by
    unfold pushes
    refine pushes_keep (fun j hj => n j (by simp [hj])) ?_
    rw [lookup_put, if_neg (fun z => n k (by simp) z.symm)]
    exact e
theorem pushes_get {C : Pc} : ∀ {fl : List Nat} {ws : List V} {fs : List (Str × V)}, (∀ (i j : Nat) (a b : Nat), fl[i]? = some a → fl[j]? = some b → i ≠ j → C.nm a ≠ C.nm b) → ∀ (i k : Nat) (u : V), fl[i]? = some k → ws[i]? = some u → (pushes C fl ws fs).lookup (C.nm k) = some u
  | [], ws, fs, _, i, k, u, e, _ => by simp at e
  | k0 :: fl, [], fs, _, i, k, u, _, e => by simp at e
  | k0 :: fl, w :: ws, fs, n, i, k, u, e1, e2 => by
    unfold pushes
    cases i with
    | zero =>
      simp at e1 e2
      subst e1 e2
      refine pushes_keep (fun j hj => ?_) (by rw [lookup_put, if_pos rfl])
      obtain ⟨l, hl⟩ := List.mem_iff_getElem?.mp hj
      exact fun z => n 0 (l + 1) k0 j rfl (by simpa using hl) (by omega) z.symm
    | succ i =>
      refine pushes_get (fun i j a b h1 h2 h3 => n (i + 1) (j + 1) a b (by simpa using h1) (by simpa using h2) (by omega)) i k u (by simpa using e1) (by simpa using e2)
theorem upd_upd {H : Hp} {a : Addr} {o o' : HO} : upd (upd H a o) a o' = upd H a o' := by
  funext b
  by_cases h : b = a
  · rw [h, upd_same, upd_same]
  · rw [upd_ne h, upd_ne h, upd_ne h]
theorem upd_comm {H : Hp} {a b : Addr} {o o' : HO} (n : a ≠ b) : upd (upd H a o) b o' = upd (upd H b o') a o := by
  funext c
  by_cases h : c = a
  · rw [h, upd_ne n, upd_same, upd_same]
  · by_cases h' : c = b
    · rw [h', upd_same, upd_ne (Ne.symm n), upd_same]
    · rw [upd_ne h', upd_ne h, upd_ne h, upd_ne h']
/-- the body of such an __init__: self.f = p, for each -/
def xOne (ats : List Str) (N : List Str) (k i : Nat) (st : Stmt) : Bool := match st with
  | .Assign [.Attribute (.Name s _) f _] (.Name p _) _ => decide (N[0]? = some s) && decide (N[i]? = some p) && !(s == ("__debug__" : Str)) && !(s == ("__classdict__" : Str)) && !(p == ("__debug__" : Str)) && !(p == ("__classdict__" : Str)) && decide (ats[k]? = some f)
  | _ => false
def xBody (ats : List Str) (N : List Str) : List Nat → Nat → List Stmt → Bool
  | [], _, b => b.isEmpty
  | k :: fl, i, b => match b with
    | [] => false
    | st :: r => xOne ats N k i st && xBody ats N fl (i + 1) r
theorem xOne_inv {C : Pc} {N : List Str} {k i : Nat} {st : Stmt} (h : xOne C.attrs N k i st = true) : ∃ s p1 p2 p p3 p4, st = .Assign [.Attribute (.Name s p1) (C.nm k) p2] (.Name p p3) p4 ∧ N[0]? = some s ∧ N[i]? = some p ∧ (s == ("__debug__" : Str)) = false ∧ (s == ("__classdict__" : Str)) = false ∧ (p == ("__debug__" : Str)) = false ∧ (p == ("__classdict__" : Str)) = false := by
  unfold xOne at h
  split at h
  · simp only [Bool.and_eq_true, decide_eq_true_eq, Bool.not_eq_true'] at h
    obtain ⟨⟨⟨⟨⟨⟨h1, h2⟩, h3⟩, h4⟩, h5⟩, h6⟩, h7⟩ := h
    rename_i s p1 f p2 p p3 p4
    have hf : f = C.nm k := by
      unfold Pc.nm
      rw [List.getD_eq_getElem?_getD, h7]
      rfl
    subst hf
    exact ⟨s, p1, p2, p, p3, p4, rfl, h1, h2, h3, h4, h5, h6⟩
  · cases h
section
variable {X : Cx} {C : Pc} {N : List Str} {σ : L2.St}
/-- the fields behind the first -/
def tXt (X : Cx) (C : Pc) (fl : List Nat) (i : Nat) : TS := fun D σ H => ∃ (a Ca d : Addr) (ws : List V) (fs : List (Str × V)), σ[0]? = some (some (.ref a)) ∧ OexC X.K Ca ∧ (∀ k ∈ fl, PySem.W.findIn X.K (.ref Ca) (C.nm k) = some none) ∧ ws.length = fl.length ∧ (∀ j u, ws[j]? = some u → σ[i + j]? = some (some u)) ∧
  H a = some (exo a Ca (some d)) ∧ H d = some (exd d fs) ∧ d ≠ a ∧ fs.length + fl.length ≤ 900 ∧ D.nx σ (upd H d (exd d (pushes C fl ws fs)))
theorem upd_id {H : Hp} {a : Addr} {o : HO} (e : H a = some o) : upd H a o = H := by
  funext b
  by_cases h : b = a
  · rw [h, upd_same, e]
  · rw [upd_ne h]
theorem xt_ok (hN : X.N = N) (hv : ∀ x ∈ N, Vis X.env.scope x) : ∀ {fl : List Nat} {i : Nat} {body : List Stmt}, xBody C.attrs N fl i body = true → PSs X body (tXt X C fl i)
  | [], i, [], _ => pssImp pss_nil fun D σ H ⟨a, Ca, d, ws, fs, _, _, _, l, _, _, e2, _, _, q⟩ => by
    have : ws = [] := by cases ws <;> simp_all
    subst this
    unfold pushes at q
    rw [upd_id e2] at q
    exact q
  | [], i, _ :: _, h => by unfold xBody at h; cases h
  | k :: fl, i, body, h => by
    cases body with
    | nil => unfold xBody at h; cases h
    | cons st r =>
      have h' : (xOne C.attrs N k i st && xBody C.attrs N fl (i + 1) r) = true := h
      rw [Bool.and_eq_true] at h'
      obtain ⟨h0, h8⟩ := h'
      obtain ⟨s, p1, p2, p, p3, p4, rfl, h1, h2, h3, h4, h5, h6⟩ := xOne_inv h0
      refine pssImp (pss_cons (ps_ost (pe_var (i := 0) (by rw [hN]; exact h1) (hv _ (List.mem_of_getElem? h1)) h3 h4) (pe_var (i := i) (by rw [hN]; exact h2) (hv _ (List.mem_of_getElem? h2)) h5 h6) rfl) (xt_ok hN hv h8)) fun D σ H ⟨a, Ca, d, ws, fs, s0, T, hno, l, hw, e1, e2, hd, hl, q⟩ => ?_
      cases ws with
      | nil => simp at l
      | cons w ws =>
        refine ⟨w, by simpa using hw 0 w rfl, .ref a, s0, a, Ca, rfl, T, hno k (by simp), .inr ⟨d, fs, e1, e2, by simp at hl; omega, ?_⟩⟩
        refine ⟨a, Ca, d, ws, (C.nm k, w) :: fs, s0, T, fun j hj => hno j (by simp [hj]), by simpa using l, fun j u hj => ?_, by rw [upd_ne (Ne.symm hd)]; exact e1, upd_same, hd, by simp at hl ⊢; omega, ?_⟩
        · have := hw (j + 1) u (by simpa using hj)
          rw [show i + (j + 1) = i + 1 + j by omega] at this
          exact this
        · rw [upd_upd]
          exact q
/-- all of them -/
def tXa (X : Cx) (C : Pc) (fl : List Nat) : TS := fun D σ H => ∃ (a Ca : Addr) (ws : List V), σ[0]? = some (some (.ref a)) ∧ OexC X.K Ca ∧ (∀ k ∈ fl, PySem.W.findIn X.K (.ref Ca) (C.nm k) = some none) ∧ fl ≠ [] ∧ ws.length = fl.length ∧ (∀ j u, ws[j]? = some u → σ[1 + j]? = some (some u)) ∧
  H a = some (exo a Ca none) ∧ fl.length ≤ 900 ∧ ∀ d, H d = none → d ≠ a → D.nx σ (upd (upd H d (exd d (pushes C fl ws []))) a (exo a Ca (some d)))
theorem xa_ok (hN : X.N = N) (hv : ∀ x ∈ N, Vis X.env.scope x) {fl : List Nat} {body : List Stmt} (h : xBody C.attrs N fl 1 body = true) : PSs X body (tXa X C fl) := by
  cases fl with
  | nil => exact pssImp pss_never fun D σ H ⟨_, _, _, _, _, _, n, _⟩ => absurd rfl n
  | cons k fl =>
    cases body with
    | nil => unfold xBody at h; cases h
    | cons st r =>
      have h' : (xOne C.attrs N k 1 st && xBody C.attrs N fl (1 + 1) r) = true := h
      rw [Bool.and_eq_true] at h'
      obtain ⟨h0, h8⟩ := h'
      obtain ⟨s, p1, p2, p, p3, p4, rfl, h1, h2, h3, h4, h5, h6⟩ := xOne_inv h0
      refine pssImp (pss_cons (ps_ost (pe_var (i := 0) (by rw [hN]; exact h1) (hv _ (List.mem_of_getElem? h1)) h3 h4) (pe_var (i := 1) (by rw [hN]; exact h2) (hv _ (List.mem_of_getElem? h2)) h5 h6) rfl) (xt_ok hN hv h8)) fun D σ H ⟨a, Ca, ws, s0, T, hno, _, l, hw, e1, hl, q⟩ => ?_
      cases ws with
      | nil => simp at l
      | cons w ws =>
        refine ⟨w, by simpa using hw 0 w rfl, .ref a, s0, a, Ca, rfl, T, hno k (by simp), .inl ⟨e1, fun d nd hd => ?_⟩⟩
        refine ⟨a, Ca, d, ws, [(C.nm k, w)], s0, T, fun j hj => hno j (by simp [hj]), by simpa using l, fun j u hj => ?_, upd_same, by rw [upd_ne hd, upd_same], hd, by simp at hl ⊢; omega, ?_⟩
        · have := hw (j + 1) u (by simpa using hj)
          rw [show 1 + (j + 1) = 1 + 1 + j by omega] at this
          exact this
        · rw [upd_comm (Ne.symm hd), upd_upd]
          exact q d nd hd
/-- what such an __init__ promises -/
def spX (C : Pc) (Ca : Addr) (fl : List Nat) : Sp := fun vs H Q _ => ∃ (a : Addr) (ws : List V), vs = .ref a :: ws ∧ ws.length = fl.length ∧ H a = some (exo a Ca none) ∧ ∀ d fs, H d = none → d ≠ a → (∀ (i k : Nat) (u : V), fl[i]? = some k → ws[i]? = some u → fs.lookup (C.nm k) = some u) → Q .non (upd (upd H d (exd d fs)) a (exo a Ca (some d)))
theorem xinit_ok {P : Program} {w : World} {K : PySem.W.Frag} {mg : Str → Option Value} {base : Heap} {name qual : Str} {params : Arguments} {body : List Stmt} {scope : Scope} {f Ca : Addr} {fd : FuncData} {fl : List Nat} {ps : List Str} (fu : FunD K name qual params body scope [] [] f fd) (S : FnScope N ps scope)
    (hb : xBody C.attrs N fl 1 body = true) (hne : fl ≠ []) (hps : ps.length = fl.length + 1) (hv : ∀ x ∈ N, Vis scope x) (T : OexC K Ca) (hno : ∀ k ∈ fl, PySem.W.findIn K (.ref Ca) (C.nm k) = some none) (hl : fl.length ≤ 900) (hd : ∀ (i j : Nat) (a b : Nat), fl[i]? = some a → fl[j]? = some b → i ≠ j → C.nm a ≠ C.nm b) :
    FnOk P w K mg base (L2N.CX P w) 1 f fd ps (spX C Ca fl) := by
  refine fu.ok S (fun vs H Q E ⟨a, ws, e, l, _⟩ => by rw [e, List.length_cons, l, hps]) fun cdv A outer s H vs Q E hr ⟨a, ws, e, l, ea, q⟩ => ?_
  subst e
  refine ⟨_, xa_ok (X := cxOf (L2N.CX P w) P w K mg base N qual scope f cdv A outer s H E) (C := C) rfl hv hb, a, Ca, ws, rfl, T, hno, hne, l, fun j u hj => ?_, ea, hl, fun d nd hd' => q d _ nd hd' (pushes_get hd)⟩
  unfold L2.start
  have hj' : j < ws.length := (List.getElem?_eq_some_iff.mp hj).1
  rw [List.getElem?_append_left (by rw [List.length_map, List.length_cons]; omega), List.getElem?_map, show 1 + j = j + 1 by omega, List.getElem?_cons_succ, hj]
  rfl
end
section
variable {X : Cx} {C : Pc} {T : Tb} {W : WX} {rl : Rho → Hs → RL} {σ : L2.St} {H : Hp}
theorem raise_tr {c : Nat} {Cl : M.Cl} {D : Ends} (hc : T.cls[c]? = some Cl) : tS C T W (fun ρ h => (match rl ρ h with
    | .ok vs h => if exOk T c vs then .exc c vs ρ h else .bad
    | .exc c vs h => .exc c vs ρ h
    | .bad => .bad)) D σ H → tMkO (C.cad c) (spX C (C.cad c) Cl.flds) [] (tL C T W rl) σ H (fun cls d H' => W cls d σ H') := fun ⟨Av, ρ, h, m, a, w⟩ => ⟨Av, ρ, h, m, a, by
  dsimp only at w
  generalize rl ρ h = r at w ⊢
  cases r with
  | bad => exact w
  | exc c vs h' => exact fun cls d m' H' s k x => w cls d σ m' H' (a.keep k s) k x
  | ok ds h1 =>
    intro vs m1 H1 s1 k1 r1
    dsimp only at w
    split at w
    · rename_i hk
      unfold exOk at hk
      rw [hc] at hk
      simp only [Bool.and_eq_true, decide_eq_true_eq] at hk
      obtain ⟨⟨h2, h3⟩, h4⟩ := hk
      refine ⟨by rw [← r1.length]; omega, fun x nx => ⟨x, vs, by rw [List.append_nil], by rw [← r1.length]; exact h3, upd_same, fun d fs nd hd hfs => ?_⟩⟩
      have nd1 : H1 d = none := by rw [upd_ne hd] at nd; exact nd
      refine ⟨rfl, d, fs, upd_same, by rw [upd_ne hd, upd_same], nd1, ?_⟩
      have eH : upd (del (upd (upd (upd H1 x (exo x (C.cad c) none)) d (exd d fs)) x (exo x (C.cad c) (some d))) x) d (.xd fs) = upd H1 d (.xd fs) := by
        funext b
        by_cases hb : b = d
        · rw [hb, upd_same, upd_same]
        · rw [upd_ne hb, upd_ne hb]
          by_cases hx : b = x
          · rw [hx, del_same, nx]
          · rw [del_ne hx, upd_ne hx, upd_ne hb, upd_ne hx]
      rw [eH]
      exact w (.ref (C.cad c)) (some d) σ m1 _ (a.keep (k1.trans (keep_new nd1)) (s1.new nd1)) (k1.trans (keep_new nd1)) ⟨rfl, Cl, hc, .inr ⟨d, fs, vs, rfl, (fun z => z.elim (fun z => by obtain ⟨o, e⟩ := s1.avd d z; rw [nd1] at e; cases e) fun ⟨n, w, e1, _⟩ => by obtain ⟨o, e⟩ := s1.there n d e1; rw [nd1] at e; cases e), upd_same, (keep_new (m := m1) (h := h1) nd1).rvs r1, hfs⟩⟩
    · exact w.elim⟩
end
end M
end

section
set_option Elab.async false
set_option linter.all false
set_option autoImplicit false
set_option maxRecDepth 100000
set_option maxHeartbeats 4000000
/-! Xc: the exception that is caught: its fields, isinstance. -/
namespace M
open PySem PySem.Spec PyProof.Rows L2
/-- what stands in a suite: where the exception is, what its class says -/
structure XsAt (X : Cx) (C : Pc) (T : Tb) (xn : List (Option Str)) (a dd : Addr) (c : Nat) (fl : List Nat) : Prop where
  xa : C.xa = some (a, dd, c, fl)
  ex : ∃ (X0 : Cx) (oe : Obj) (pn : List (Addr × Obj)), X = X0.suite a ((a, oe) :: pn) ∧ Zc (.ref (C.cad c)) (some dd) oe ∧ ∃ vs, oe.data = .fields vs
  cl : ∃ Cl, T.cls[c]? = some Cl ∧ fl = Cl.flds ∧ (∀ (c2 : Nat) (z : Str), xn[c2]? = some (some z) → PySem.W.kitOne X.K (.ref (C.cad c)) (.ref (C.cad c2)) = some (Cl.up.contains c2))
  ve : PySem.W.kitOne X.K (.ref (C.cad c)) (.type "ValueError") = some true
  xf : XfC X.K (C.cad c)
  xc : ExcC X.K (C.cad c)
  no : ∀ k ∈ fl, PySem.W.findIn X.K (.ref (C.cad c)) (C.nm k) = some none
section
variable {C : Pc} {T : Tb} {W : WX} {X : Cx} {σ : L2.St} {H : Hp} {ra : Rho → Hs → RE} {pos : Pos} {lv : Addr → Prop} {m : List Addr} {xn : List (Option Str)} {a dd : Addr} {c : Nat} {fl : List Nat}
theorem fld_at : ∀ {fl : List Nat} {ds : List D} {us : List V} {k : Nat} {d : D}, RVs C lv m H ds us → fldOf fl ds k = some d → ∃ (i : Nat) (u : V), fl[i]? = some k ∧ us[i]? = some u ∧ RV C lv m H d u
  | [], ds, us, k, d, _, e => by simp [fldOf] at e
  | j :: fl, [], us, k, d, _, e => by simp [fldOf] at e
  | j :: fl, x :: ds, _, k, d, .cons r rs, e => by
    unfold fldOf at e
    by_cases hj : j = k
    · rw [if_pos hj] at e
      cases e
      exact ⟨0, _, by rw [hj]; rfl, rfl, r⟩
    · rw [if_neg hj] at e
      obtain ⟨i, u, e1, e2, r2⟩ := fld_at rs e
      exact ⟨i + 1, u, by simpa using e1, by simpa using e2, r2⟩
theorem pe_xfC (xs : XsAt X C T xn a dd c fl) {k : Nat} {e : Expr} (he : PE X e (tE C T W ra)) (hb : attributeBase e (C.nm k) X.env (eval e X.env) = eval e X.env) :
    PE X (.Attribute e (C.nm k) pos) (tE C T W fun ρ h => (ra ρ h).bind fun x h => Ro (evXf T x k) h) := by
  obtain ⟨X0, oe, pn, eX, hz, hf⟩ := xs.ex
  by_cases hk : k ∈ fl
  · have hno := xs.no k hk
    have T' := xs.xf
    obtain ⟨Cl, e1, e2, _⟩ := xs.cl
    have xa := xs.xa
    clear xs
    subst eX
    exact peImp (pe_xf T' hno hz hf he hb) fun σ H Q ⟨Av, ρ, h, m, at_, w⟩ => tE.bind at_ w fun d v h1 m1 H1 a1 k1 r1 w1 => by
      obtain ⟨d2, e3, q⟩ := w1.ro
      unfold evXf at e3
      split at e3
      · rename_i ce vs
        cases r1 with
        | exn x n hd hl rs =>
          rw [xa] at x
          cases x
          rw [e1, Option.bind_some] at e3
          subst e2
          obtain ⟨i, u, f1, f2, f3⟩ := fld_at rs e3
          exact ⟨rfl, rfl, _, _, u, rfl, hd, hl i k u f1 f2, q _ m1 H1 a1.sr Keep.refl f3⟩
      · cases e3
  · obtain ⟨Cl, e1, e2, _⟩ := xs.cl
    exact peImp (pe_fld he hb) fun σ H Q ⟨Av, ρ, h, m, at_, w⟩ => tE.bind at_ w fun d v h1 m1 H1 a1 k1 r1 w1 => by
      obtain ⟨d2, e3, q⟩ := w1.ro
      unfold evXf at e3
      split at e3
      · rename_i ce vs
        cases r1 with
        | exn x n hd hl rs =>
          rw [xs.xa] at x
          cases x
          rw [e1, Option.bind_some] at e3
          subst e2
          obtain ⟨i, u, f1, f2, f3⟩ := fld_at rs e3
          exact absurd (List.mem_of_getElem? f1) hk
      · cases e3
/-- isinstance(e, t), e the exception that the suite holds -/
theorem call_xi (xs : XsAt X C T xn a dd c fl) {cv : Value} {cc : V} {b : Bool} (hcv : ∀ u, RelV cc u → u = cv) (hk : PySem.W.kitOne X.K (.ref (C.cad c)) cv = some b) :
    CallR X (.builtin "isinstance") fun vs H Q => ∃ fs, vs = [.ref a, cc] ∧ H dd = some (.xd fs) ∧ Q (.bl b) H := by
  obtain ⟨X0, oe, pn, eX, hz, hf⟩ := xs.ex
  have xc := xs.xc
  clear xs
  subst eX
  intro pins s σ H us ws Q I r ⟨fs, e, ea, q⟩
  subst e
  cases r with
  | cons rx rr =>
    cases rr with
    | cons rt rr =>
      cases rr
      cases rx
      have ec := hcv _ rt
      subst ec
      obtain ⟨hget, _⟩ := I.pin (a, oe) (List.mem_append.mpr (.inl List.mem_cons_self))
      obtain ⟨vs, hv⟩ := hf
      have hx : ObjOk X0.prog X0.w H s.heap dd (.xd fs) := I.hok dd _ ea
      obtain ⟨mA, hns, hr⟩ := hx
      obtain ⟨od, ho, hl⟩ := lookIn_ns hns
      have J : PySem.W.InstAt s.heap a oe (C.cad c) (some od) := ⟨hget, hz.1, by unfold PySem.W.notCls; rw [hv] <;> rfl, by rw [hz.2]; exact ho⟩
      obtain ⟨cd, hc1, _⟩ := PySem.W.any_some xc.hd
      exact PySem.W.kia_one (PySem.W.kitx_exc (by rw [hc1]; rfl) xc.hg xc.hk xc.hs xc.ha xc.hn xc.ht xc.hm) I.kIn J hk (fun z => nomatch z) fun tk => ⟨.bl b, H, I.kept (t' := tk) fun _ _ z => z, rfl, q⟩
end
end M
end

section
set_option Elab.async false
set_option linter.all false
set_option autoImplicit false
set_option maxRecDepth 100000
set_option maxHeartbeats 4000000
/-! Tr: into a suite and back. -/
namespace M
open PySem PySem.Spec PyProof.Rows L2
abbrev Pc.at_ (C : Pc) (a dd : Addr) (c : Nat) (fl : List Nat) : Pc := { C with xa := some (a, dd, c, fl) }
section
variable {C : Pc} {T : Tb} {W : WX} {lv : Addr → Prop} {m m' : List Addr} {h h' : Hs} {H H' : Hp} {a dd : Addr} {c : Nat} {fl : List Nat} {Av : Addr → Prop} {σ : L2.St} {ρ : Rho}
mutual
theorem RV.into (n : C.xa = none) : ∀ {d : D} {v : V}, RV C lv m H d v → RV (C.at_ a dd c fl) lv m H d v
  | _, _, .non => .non
  | _, _, .bl b => .bl b
  | _, _, .int i => .int i
  | _, _, .str x => .str x
  | _, _, .tup h r => .tup h (RVs.into n r)
  | _, _, .lst k h r => .lst k h (RVs.into n r)
  | _, _, .rol h r => .rol h (RVs.into n r)
  | _, _, .dicK k h r => .dicK k h (RVd.into n r)
  | _, _, .dicT k h r => .dicT k h (RVk.into n r)
  | _, _, .ins k h e l r => .ins k h e l (RVs.into n r)
  | _, _, .ref h => .ref h
  | _, _, .exn x _ _ _ _ => by rw [n] at x; cases x
theorem RVs.into (n : C.xa = none) : ∀ {d : List D} {v : List V}, RVs C lv m H d v → RVs (C.at_ a dd c fl) lv m H d v
  | _, _, .nil => .nil
  | _, _, .cons h r => .cons (RV.into n h) (RVs.into n r)
theorem RVd.into (n : C.xa = none) : ∀ {k d : List D} {v : List (Key × V)}, RVd C lv m H k d v → RVd (C.at_ a dd c fl) lv m H k d v
  | _, _, _, .nil => .nil
  | _, _, _, .int h r => .int (RV.into n h) (RVd.into n r)
  | _, _, _, .str h r => .str (RV.into n h) (RVd.into n r)
theorem RVk.into (n : C.xa = none) : ∀ {k d : List D} {v : List KE3}, RVk C lv m H k d v → RVk (C.at_ a dd c fl) lv m H k d v
  | _, _, _, .nil => .nil
  | _, _, _, .cons o k h r => .cons o (RV.into n k) (RV.into n h) (RVk.into n r)
end
mutual
theorem RV.outof : ∀ {d : D} {v : V}, noX d = true → RV (C.at_ a dd c fl) lv m H d v → RV C lv m H d v
  | _, _, _, .non => .non
  | _, _, _, .bl b => .bl b
  | _, _, _, .int i => .int i
  | _, _, _, .str x => .str x
  | _, _, i, .tup h r => .tup h (RVs.outof (by simpa [noX] using i) r)
  | _, _, i, .lst k h r => .lst k h (RVs.outof (by simpa [noX] using i) r)
  | _, _, i, .rol h r => .rol h (RVs.outof (by simpa [noX] using i) r)
  | _, _, i, .dicK k h r => .dicK k h (RVd.outof (by simp only [noX, Bool.and_eq_true] at i; exact i.2) r)
  | _, _, i, .dicT k h r => .dicT k h (RVk.outof (by simp only [noX, Bool.and_eq_true] at i; exact i.1) (by simp only [noX, Bool.and_eq_true] at i; exact i.2) r)
  | _, _, i, .ins k h e l r => .ins k h e l (RVs.outof (by simpa [noX] using i) r)
  | _, _, _, .ref h => .ref h
  | _, _, i, .exn _ _ _ _ _ => by simp [noX] at i
theorem RVs.outof : ∀ {d : List D} {v : List V}, noXs d = true → RVs (C.at_ a dd c fl) lv m H d v → RVs C lv m H d v
  | _, _, _, .nil => .nil
  | _, _, i, .cons h r => by
    simp only [noXs, Bool.and_eq_true] at i
    exact .cons (RV.outof i.1 h) (RVs.outof i.2 r)
theorem RVd.outof : ∀ {k d : List D} {v : List (Key × V)}, noXs d = true → RVd (C.at_ a dd c fl) lv m H k d v → RVd C lv m H k d v
  | _, _, _, _, .nil => .nil
  | _, _, _, i, .int h r => by
    simp only [noXs, Bool.and_eq_true] at i
    exact .int (RV.outof i.1 h) (RVd.outof i.2 r)
  | _, _, _, i, .str h r => by
    simp only [noXs, Bool.and_eq_true] at i
    exact .str (RV.outof i.1 h) (RVd.outof i.2 r)
theorem RVk.outof : ∀ {k d : List D} {v : List KE3}, noXs k = true → noXs d = true → RVk (C.at_ a dd c fl) lv m H k d v → RVk C lv m H k d v
  | _, _, _, _, _, .nil => .nil
  | _, _, _, j, i, .cons o k h r => by
    simp only [noXs, Bool.and_eq_true] at i j
    exact .cons o (RV.outof j.1 k) (RV.outof i.1 h) (RVk.outof j.2 i.2 r)
end
theorem SR.into (n : C.xa = none) (s : SR C Av m h H) : SR (C.at_ a dd c fl) Av m h H := ⟨s.len, s.nd, fun i b w e1 e2 => by
  have q := s.cell i b w e1 e2
  cases w with
  | lst xs => obtain ⟨vs, z, r⟩ := q; exact ⟨vs, z, r.into n⟩
  | dic t ks xs =>
    cases t with
    | false => obtain ⟨vs, z, r⟩ := q; exact ⟨vs, z, r.into n⟩
    | true => obtain ⟨vs, z, r⟩ := q; exact ⟨vs, z, r.into n⟩
  | ins k as xs => obtain ⟨dx, fs, z, z1, z2, r⟩ := q; exact ⟨dx, fs, z, z1, z2, r.into n⟩
  | _ => exact q, s.there, s.avd, s.sep⟩
theorem noXh_at : ∀ {h : Hs} {i : Nat} {w : D}, noXh h = true → h[i]? = some (Ce.opn w) → noX w = true
  | [], i, w, _, e => by simp at e
  | .opn d :: r, 0, w, n, e => by
    simp at e
    subst e
    simp only [noXh, Bool.and_eq_true] at n
    exact n.1
  | .gone :: r, 0, w, n, e => by simp at e
  | .opn d :: r, i + 1, w, n, e => by
    simp only [noXh, Bool.and_eq_true] at n
    exact noXh_at (i := i) n.2 (by simpa using e)
  | .gone :: r, i + 1, w, n, e => by
    simp only [noXh] at n
    exact noXh_at (i := i) n (by simpa using e)
theorem noXr_at : ∀ {ρ : Rho} {i : Nat} {w : D}, noXr ρ = true → ρ[i]? = some (some w) → noX w = true
  | [], i, w, _, e => by simp at e
  | some d :: r, 0, w, n, e => by
    simp at e
    subst e
    simp only [noXr, Bool.and_eq_true] at n
    exact n.1
  | none :: r, 0, w, n, e => by simp at e
  | some d :: r, i + 1, w, n, e => by
    simp only [noXr, Bool.and_eq_true] at n
    exact noXr_at (i := i) n.2 (by simpa using e)
  | none :: r, i + 1, w, n, e => by
    simp only [noXr] at n
    exact noXr_at (i := i) n (by simpa using e)
theorem SR.outof (n : noXh h = true) (s : SR (C.at_ a dd c fl) Av m h H) : SR C Av m h H := ⟨s.len, s.nd, fun i b w e1 e2 => by
  have q := s.cell i b w e1 e2
  have nw := noXh_at n e2
  cases w with
  | lst xs => obtain ⟨vs, z, r⟩ := q; exact ⟨vs, z, r.outof (by simpa [noX] using nw)⟩
  | dic t ks xs =>
    simp only [noX, Bool.and_eq_true] at nw
    cases t with
    | false => obtain ⟨vs, z, r⟩ := q; exact ⟨vs, z, r.outof nw.2⟩
    | true => obtain ⟨vs, z, r⟩ := q; exact ⟨vs, z, r.outof nw.1 nw.2⟩
  | ins k as xs => obtain ⟨dx, fs, z, z1, z2, r⟩ := q; exact ⟨dx, fs, z, z1, z2, r.outof (by simpa [noX] using nw)⟩
  | _ => exact q, s.there, s.avd, s.sep⟩
/-- into the suite: the exception in its slot -/
theorem At.into {i : Nat} {vs : List D} {fs : List (Str × V)} {us : List V} (n : C.xa = none) (s : At C Av ρ h m σ H) (hn : ¬ lvs Av m h dd) (e : H dd = some (.xd fs)) (hl : ∀ (i k : Nat) (u : V), fl[i]? = some k → us[i]? = some u → fs.lookup (C.nm k) = some u) (r : RVs C (lvs Av m h) m H vs us) :
    At (C.at_ a dd c fl) Av (ρ.set i (some (.exn c vs))) h m (σ.set i (some (.ref a))) H := ⟨s.sr.into n, fun j d ej => by
  by_cases hj : i = j
  · subst hj
    rw [List.getElem?_set] at ej
    rw [if_pos rfl] at ej
    split at ej
    · rename_i hlt
      cases ej
      exact ⟨.ref a, by rw [List.getElem?_set, if_pos rfl, if_pos (by rw [← s.ln]; exact hlt)], .exn rfl hn e hl (r.into n)⟩
    · cases ej
  · rw [List.getElem?_set, if_neg hj] at ej
    obtain ⟨v, e1, r1⟩ := s.sl j d ej
    exact ⟨v, by rw [List.getElem?_set, if_neg hj]; exact e1, r1.into n⟩, by rw [List.length_set, List.length_set]; exact s.ln⟩
theorem At.outof {i : Nat} (nr : noXr (ρ.set i none) = true) (nh : noXh h = true) (s : At (C.at_ a dd c fl) Av ρ h m σ H) : At C Av (ρ.set i none) h m (σ.set i none) H := ⟨s.sr.outof nh, fun j d ej => by
  have nd := noXr_at nr ej
  by_cases hj : i = j
  · subst hj
    rw [List.getElem?_set, if_pos rfl] at ej
    split at ej <;> cases ej
  · rw [List.getElem?_set, if_neg hj] at ej
    obtain ⟨v, e1, r1⟩ := s.sl j d ej
    exact ⟨v, by rw [List.getElem?_set, if_neg hj]; exact e1, r1.outof nd⟩, by rw [List.length_set, List.length_set]; exact s.ln⟩
abbrev WN : WX := fun _ _ _ _ => False
/-- a suite, the exception at a, of the class cls, its dict d -/
def tsX (C : Pc) (T : Tb) (rs : Rho → Hs → RS) (a : Addr) (cls : Value) (d : Option Addr) : TS := fun D σ H => ∃ (dd : Addr) (e : Nat) (Cl : M.Cl), d = some dd ∧ cls = .ref (C.cad e) ∧ T.cls[e]? = some Cl ∧ Cl.exc = true ∧ tS (C.at_ a dd e Cl.flds) T WN rs D σ H
theorem try_tr {K : PySem.W.Frag} {cx i : Nat} {rb rs : Rho → Hs → RS} {D : Ends} {H : Hp} {σ : L2.St} (n : C.xa = none) (hx : ∀ (e : Nat) (Cl : M.Cl), T.cls[e]? = some Cl → Cl.exc = true → PySem.W.exmOne K (.ref (C.cad e)) (.ref (C.cad cx)) = some (Cl.up.contains cx)) :
    tS C T W (fun ρ h => (match rb ρ h with
    | .exc e vs ρ h => (match T.cls[e]? with
      | some C => if exOk T e vs then (if C.up.contains cx then (match rs (ρ.set i (some (.exn e vs))) h with
        | .nx ρ h => if noXr (ρ.set i none) && noXh h then .nx (ρ.set i none) h else .bad
        | .rt d h => if noX d && noXh h then .rt d h else .bad
        | _ => .bad) else .exc e vs ρ h) else .bad
      | none => .bad)
    | r => r)) D σ H → tS C T (wAs K (.ref (C.cad cx)) i (tsX C T rs) W D) rb D σ H := fun ⟨Av, ρ, h, m, at_, w⟩ => ⟨Av, ρ, h, m, at_, by
  dsimp only at w
  generalize rb ρ h = r at w ⊢
  cases r with
  | nx ρ' h' => exact w
  | bk ρ' h' => exact w
  | ct ρ' h' => exact w
  | rt d h' => exact w
  | bad => exact w
  | exc e vs ρ1 h1 =>
    intro cls d σ1 m1 H1 a1 k1 x1
    obtain ⟨ec, Cl, e1, e2⟩ := x1
    subst ec
    dsimp only at w
    rw [e1] at w
    dsimp only at w
    split at w
    · rename_i hok
      unfold exOk at hok
      rw [e1] at hok
      simp only [Bool.and_eq_true, decide_eq_true_eq] at hok
      obtain ⟨⟨o1, o2⟩, o3⟩ := hok
      refine ⟨Cl.up.contains cx, hx e Cl e1 o1, fun hb a na => ?_, fun hb => ?_⟩
      · rw [if_pos hb] at w
        rcases e2 with e2 | ⟨dd, fs, us, q1, q0, q2, q3, q4⟩
        · subst e2
          simp at o3
        refine ⟨dd, e, Cl, q1, rfl, e1, o1, Av, _, h1, m1, At.into n a1 q0 q2 q4 q3, ?_⟩
        generalize rs (ρ1.set i (some (.exn e vs))) h1 = r at w ⊢
        cases r with
        | nx ρ2 h2 =>
          dsimp only at w
          split at w
          · rename_i hn
            rw [Bool.and_eq_true] at hn
            exact fun σ2 m2 H2 a2 k2 => w _ m2 H2 (a2.outof hn.1 hn.2) (k1.trans k2)
          · exact w.elim
        | rt d2 h2 =>
          dsimp only at w
          split at w
          · rename_i hn
            rw [Bool.and_eq_true] at hn
            exact fun v m2 H2 s2 k2 r2 => w v m2 H2 (s2.outof hn.2) (k1.trans k2) (r2.outof hn.1)
          · exact w.elim
        | bk ρ2 h2 => exact w.elim
        | ct ρ2 h2 => exact w.elim
        | exc e2 vs2 ρ2 h2 => exact w.elim
        | bad => exact w.elim
      · rw [if_neg (by rw [hb]; exact Bool.false_ne_true)] at w
        exact w (.ref (C.cad e)) d σ1 m1 H1 a1 k1 ⟨rfl, Cl, e1, e2⟩
    · exact w.elim⟩
end
end M
end

section
set_option Elab.async false
set_option linter.all false
set_option maxRecDepth 100000
set_option maxHeartbeats 4000000
/-! Chk: the program's text against the syntax. -/
namespace M
open PySem PySem.Spec PyProof.Rows L2
structure Nm where
  fn : List (Option Str)
  cl : List (Option Str)
  ex : List (Option Str)
  ats : List Str
  sk : List Nat
  /-- an exception is handled; in its suite -/
  hot : Bool := false
  su : Bool := false
  /-- the exception classes' names; the defs that are called there -/
  xn : List (Option Str) := []
  hs : List Nat := []
def Nm.heat (M : Nm) (su : Bool) : Nm := { M with hot := true, su := su, fn := M.fn.zipIdx.map fun p => if M.hs.contains p.2 then p.1 else none, cl := [], ex := [], sk := [] }
def visB (sc : Scope) (x : Str) : Bool := match sc.names.lookup x with
  | some .local => true
  | some .cell => true
  | some .free => true
  | _ => false
def glB (sc : Scope) (x : Str) : Bool := match sc.names.lookup x with
  | some .globalImplicit => true
  | _ => false
def locB (sc : Scope) (x : Str) : Bool := match sc.names.lookup x with
  | some .local => true
  | some .cell => true
  | _ => false
def ownB (sc : Scope) (x : Str) : Bool := match sc.names.lookup x with
  | some .local => true
  | _ => false
def okN (x : Str) : Bool := !(x == ("__debug__" : Str)) && !(x == ("__classdict__" : Str))
def okE (e : Expr) : Bool := match e with
  | .Starred _ _ => false
  | .Slice _ _ _ _ => false
  | .Set _ _ _ => false
  | .Call (.Name _ _) [] [] _ => false
  | .ListComp _ _ _ _ => true
  | .SetComp _ _ _ _ => false
  | .DictComp _ _ _ _ _ => false
  | .GeneratorExp _ _ _ _ => false
  | _ => true
/-- no comprehension -/
def okC (e : Expr) : Bool := match e with
  | .ListComp _ _ _ _ => false
  | .SetComp _ _ _ _ => false
  | .DictComp _ _ _ _ _ => false
  | _ => true
def noIte : E → Bool
  | .ite _ _ _ => false
  | .new _ => false
  | .nev => false
  | .not a => noIte a
  | .and a b => noIte a && noIte b
  | .or a b => noIte a && noIte b
  | _ => true
def isBo : Expr → Bool
  | .BoolOp _ _ _ => true
  | _ => false
def b2Of : Operator → Option B2
  | .Add => some .add | .Sub => some .sub | .Mult => some .mul | .FloorDiv => some .fdiv | .Mod => some .mod | .Pow => some .pow | .BitOr => some .bor | .LShift => some .shl
  | _ => none
def c2Of : CmpOp → Option C2
  | .Eq => some .eq | .NotEq => some .ne | .Lt => some .lt | .LtE => some .le | .Gt => some .gt | .GtE => some .ge | .Is => some .isn | .IsNot => some .notn | .In => some .inn | .NotIn => some .nin
theorem b2_ok {op : Operator} {o : B2} (h : b2Of op = some o) : op = astB2 o := by cases op <;> simp [b2Of] at h <;> subst h <;> rfl
theorem c2_ok {op : CmpOp} {o : C2} (h : c2Of op = some o) : op = astC2 o := by cases op <;> simp [c2Of] at h <;> subst h <;> rfl
def f1N : F1 → Str
  | .len => "len" | .tuple => "tuple" | .list => "list" | .sorted => "sorted" | .max => "max" | .min => "min" | .sum => "sum" | .int => "int"
def okHot : F1 → Bool
  | .len => true | .tuple => true | .int => true | .sorted => true | _ => false
def f2N : F2 → Str
  | .max => "max" | .min => "min"
def tyS : Ty → Option Str
  | .int => some "int" | .bool => some "bool" | .str => some "str" | .tuple => some "tuple" | _ => none
mutual
def chkE (M : Nm) (N : List Str) : E → Scope → Expr → Bool
  | .var i => fun sc e => match e with
    | .Name x _ => decide (N[i]? = some x) && visB sc x && okN x
    | _ => false
  | .frz i => fun sc e => match e with
    | .Name x _ => decide (N[i]? = some x) && visB sc x && okN x
    | _ => false
  | .int i => fun _ e => match e with
    | .Constant (.int j) _ _ => decide (j = i)
    | _ => false
  | .bl b => fun _ e => match e with
    | .Constant (.bool c) _ _ => c == b
    | _ => false
  | .non => fun _ e => match e with
    | .Constant .none _ _ => true
    | _ => false
  | .str cs => fun _ e => match e with
    | .Constant (.str x) _ _ => decide (x = ⟨cs.toArray⟩)
    | _ => false
  | .glb _ => fun _ _ => false
  | .omit => fun _ _ => false
  | .nev => fun _ e => okE e
  | .bin o a b => fun sc e => match e with
    | .BinOp x op y _ => decide (b2Of op = some o) && chkE M N a sc x && chkE M N b sc y
    | _ => false
  | .neg a => fun sc e => match e with
    | .UnaryOp .USub x _ => chkE M N a sc x
    | _ => false
  | .cmp o a b => fun sc e => match e with
    | .Compare x [op] [y] _ => decide (c2Of op = some o) && chkE M N a sc x && chkE M N b sc y && okE y
    | _ => false
  | .chn o p a b c => fun sc e => match e with
    | .Compare x [op, op'] [y, z] _ => decide (c2Of op = some o) && decide (c2Of op' = some p) && chkE M N a sc x && chkE M N b sc y && chkE M N c sc z && okE z
    | _ => false
  | .and a b => fun sc e => match e with
    | .BoolOp .And (x :: y :: r) pos => chkE M N a sc x && (match r with
      | [] => chkE M N b sc y
      | _ => chkE M N b sc (.BoolOp .And (y :: r) pos))
    | _ => false
  | .or a b => fun sc e => match e with
    | .BoolOp .Or (x :: y :: r) pos => chkE M N a sc x && (match r with
      | [] => chkE M N b sc y
      | _ => chkE M N b sc (.BoolOp .Or (y :: r) pos))
    | _ => false
  | .not a => fun sc e => match e with
    | .UnaryOp .Not x _ => chkE M N a sc x
    | _ => false
  | .ite c a b => fun sc e => match e with
    | .IfExp z x y _ => chkE M N c sc z && noIte c && chkE M N a sc x && chkE M N b sc y
    | _ => false
  | .tup es => fun sc e => match e with
    | .Tuple xs _ _ => chkEs M N es sc xs
    | _ => false
  | .lst es => fun sc e => match e with
    | .List xs _ => chkEs M N es sc xs
    | _ => false
  | .dict0 t => fun _ e => match e with
    | .Dict [] [] _ => t
    | _ => false
  | .dict1 _ _ => fun _ _ => false
  | .idx a b => fun sc e => match e with
    | .Subscript x y _ => chkE M N a sc x && chkE M N b sc y && okE y
    | _ => false
  | .slc a l u => fun sc e => match e with
    | .Subscript x (.Slice lo hi none _) _ => chkE M N a sc x && (match lo with
      | none => isOm l
      | some y => !isOm l && chkE M N l sc y) && (match hi with
      | none => isOm u
      | some y => !isOm u && chkE M N u sc y)
    | _ => false
  | .rev _ => fun _ _ => false
  | .call f es => fun sc e => match e with
    | .Call (.Name x _) (y :: ys) [] _ => decide (M.fn[f]? = some (some x)) && glB sc x && okN x && chkEs M N es sc (y :: ys)
    | _ => false
  | .meth _ _ _ => fun _ _ => false
  | .inst a b => fun sc e => match e with
    | .Call (.Name x p) [y] [] _ => !M.hot && chkE M N a sc (.Name x p) && okE y && chkE M N b sc y
    | _ => false
  | .make c es => fun sc e => match e with
    | .Call (.Name x _) (y :: ys) [] _ => decide (M.cl[c]? = some (some x)) && glB sc x && okN x && chkEs M N es sc (y :: ys)
    | _ => false
  | .f1 f a => fun sc e => match e with
    | .Call (.Name x _) [y] [] _ => decide (x = f1N f) && glB sc x && okE y && chkE M N a sc y && (!M.hot || okHot f)
    | _ => false
  | .f2 f a b => fun sc e => match e with
    | .Call (.Name x _) [y, z] [] _ => decide (x = f2N f) && glB sc x && okE y && okE z && chkE M N a sc y && chkE M N b sc z && !M.hot
    | _ => false
  | .sortk f a => fun sc e => match e with
    | .Call (.Name x _) [y] [⟨some k, .Name z _, _⟩] _ => decide (x = ("sorted" : Str)) && decide (k = ("key" : Str)) && glB sc x && glB sc z && okN z && decide (M.fn[f]? = some (some z)) && decide (f ∈ M.sk) && okE y && chkE M N a sc y && !M.hot
    | _ => false
  | .get _ _ => fun _ _ => false
  | .isi a tys => fun sc e => match e with
    | .Call (.Name x _) [y, .Name z _] [] _ => decide (x = ("isinstance" : Str)) && glB sc x && okE y && chkE M N a sc y && (match tys with
      | [t] => decide (tyS t = some z) && glB sc z
      | _ => false)
    | _ => false
  | .fld a k => fun sc e => match e with
    | .Attribute x f _ => chkE M N a sc x && okE x && decide (M.ats[k]? = some f)
    | _ => false
  | .xfld a k => fun sc e => match e with
    | .Attribute x f _ => M.hot && M.su && chkE M N a sc x && okE x && decide (M.ats[k]? = some f)
    | _ => false
  | .xisi a t => fun sc e => match e with
    | .Call (.Name x _) [y, .Name z _] [] _ => M.hot && M.su && decide (x = ("isinstance" : Str)) && glB sc x && okE y && chkE M N a sc y && glB sc z && okN z && (match t with
      | .cls c => decide (M.xn[c]? = some (some z))
      | .ve => decide (z = ("ValueError" : Str))
      | _ => false)
    | _ => false
  | .comp i it cd el => fun sc e => match e with
    | .ListComp elt [⟨.Name x _, iter, ifs, 0⟩] scope _ => !M.hot && chkI M N it sc iter && blkC N sc scope [(x, i)] && locB (relS scope sc) x && (ownB (relS scope sc) x || scope.names.lookup x == some .cell) && decide (N[i]? = some x) && (match ifs with
      | [] => (match cd with
        | .bl true => true
        | _ => false)
      | [c] => chkE M N cd (relS scope sc) c && noIte cd
      | _ => false) && chkE M N el (relS scope sc) elt
    | _ => false
  | .comp2 i it j jt cd el => fun sc e => match e with
    | .ListComp elt [⟨.Name x _, iter, [], 0⟩, ⟨.Name y _, iter2, ifs, 0⟩] scope _ => !M.hot && decide (i ≠ j) && chkI M N it sc iter && blkC N sc scope [(x, i), (y, j)] && locB (relS scope sc) x && (ownB (relS scope sc) x || scope.names.lookup x == some .cell) && decide (N[i]? = some x) &&
      locB (relS scope sc) y && (ownB (relS scope sc) y || scope.names.lookup y == some .cell) && decide (N[j]? = some y) && chkI M N jt (relS scope sc) iter2 && (match ifs with
      | [] => (match cd with
        | .bl true => true
        | _ => false)
      | [c] => chkE M N cd (relS scope sc) c && noIte cd
      | _ => false) && chkE M N el (relS scope sc) elt
    | _ => false
  | .new a => fun sc e => fresh a && chkE M N a sc e
def chkEs (M : Nm) (N : List Str) : Es → Scope → List Expr → Bool
  | .nil => fun _ es => match es with
    | [] => true
    | _ => false
  | .cons s ss => fun sc es => match es with
    | e :: es => chkE M N s sc e && okE e && chkEs M N ss sc es
    | _ => false
def chkI (M : Nm) (N : List Str) : It → Scope → Expr → Bool
  | .seq a => fun sc e => okE e && chkE M N a sc e
  | .rng1 a => fun sc e => match e with
    | .Call (.Name x _) [y] [] _ => decide (x = ("range" : Str)) && glB sc x && okE y && chkE M N a sc y
    | _ => false
  | .rng2 a b => fun sc e => match e with
    | .Call (.Name x _) [y, z] [] _ => decide (x = ("range" : Str)) && glB sc x && okE y && okE z && chkE M N a sc y && chkE M N b sc z
    | _ => false
  | .rng3 _ _ _ => fun _ _ => false
end
/-! ### the equations -/
theorem cE_var {M : Nm} {N : List Str} : ∀ i sc e, chkE M N (.var i) sc e = (match e with
    | .Name x _ => decide (N[i]? = some x) && visB sc x && okN x
    | _ => false) := fun _ _ _ => rfl
theorem cE_frz {M : Nm} {N : List Str} : ∀ i sc e, chkE M N (.frz i) sc e = (match e with
    | .Name x _ => decide (N[i]? = some x) && visB sc x && okN x
    | _ => false) := fun _ _ _ => rfl
theorem cE_int {M : Nm} {N : List Str} : ∀ i z1 e, chkE M N (.int i) z1 e = (match e with
    | .Constant (.int j) _ _ => decide (j = i)
    | _ => false) := fun _ _ _ => rfl
theorem cE_bl {M : Nm} {N : List Str} : ∀ b z1 e, chkE M N (.bl b) z1 e = (match e with
    | .Constant (.bool c) _ _ => c == b
    | _ => false) := fun _ _ _ => rfl
theorem cE_non {M : Nm} {N : List Str} : ∀ z1 e, chkE M N .non z1 e = (match e with
    | .Constant .none _ _ => true
    | _ => false) := fun _ _ => rfl
theorem cE_str {M : Nm} {N : List Str} : ∀ cs z1 e, chkE M N (.str cs) z1 e = (match e with
    | .Constant (.str x) _ _ => decide (x = ⟨cs.toArray⟩)
    | _ => false) := fun _ _ _ => rfl
theorem cE_glb {M : Nm} {N : List Str} : ∀ a0 z1 z2, chkE M N (.glb a0) z1 z2 = (false) := fun _ _ _ => rfl
theorem cE_omit {M : Nm} {N : List Str} : ∀ z1 z2, chkE M N .omit z1 z2 = (false) := fun _ _ => rfl
theorem cE_nev {M : Nm} {N : List Str} : ∀ z1 e, chkE M N .nev z1 e = (okE e) := fun _ _ => rfl
theorem cE_bin {M : Nm} {N : List Str} : ∀ o a b sc e, chkE M N (.bin o a b) sc e = (match e with
    | .BinOp x op y _ => decide (b2Of op = some o) && chkE M N a sc x && chkE M N b sc y
    | _ => false) := fun _ _ _ _ _ => rfl
theorem cE_neg {M : Nm} {N : List Str} : ∀ a sc e, chkE M N (.neg a) sc e = (match e with
    | .UnaryOp .USub x _ => chkE M N a sc x
    | _ => false) := fun _ _ _ => rfl
theorem cE_cmp {M : Nm} {N : List Str} : ∀ o a b sc e, chkE M N (.cmp o a b) sc e = (match e with
    | .Compare x [op] [y] _ => decide (c2Of op = some o) && chkE M N a sc x && chkE M N b sc y && okE y
    | _ => false) := fun _ _ _ _ _ => rfl
theorem cE_chn {M : Nm} {N : List Str} : ∀ o p a b c sc e, chkE M N (.chn o p a b c) sc e = (match e with
    | .Compare x [op, op'] [y, z] _ => decide (c2Of op = some o) && decide (c2Of op' = some p) && chkE M N a sc x && chkE M N b sc y && chkE M N c sc z && okE z
    | _ => false) := fun _ _ _ _ _ _ _ => rfl
theorem cE_and {M : Nm} {N : List Str} : ∀ a b sc e, chkE M N (.and a b) sc e = (match e with
    | .BoolOp .And (x :: y :: r) pos => chkE M N a sc x && (match r with
      | [] => chkE M N b sc y
      | _ => chkE M N b sc (.BoolOp .And (y :: r) pos))
    | _ => false) := fun _ _ _ _ => rfl
theorem cE_or {M : Nm} {N : List Str} : ∀ a b sc e, chkE M N (.or a b) sc e = (match e with
    | .BoolOp .Or (x :: y :: r) pos => chkE M N a sc x && (match r with
      | [] => chkE M N b sc y
      | _ => chkE M N b sc (.BoolOp .Or (y :: r) pos))
    | _ => false) := fun _ _ _ _ => rfl
theorem cE_not {M : Nm} {N : List Str} : ∀ a sc e, chkE M N (.not a) sc e = (match e with
    | .UnaryOp .Not x _ => chkE M N a sc x
    | _ => false) := fun _ _ _ => rfl
theorem cE_ite {M : Nm} {N : List Str} : ∀ c a b sc e, chkE M N (.ite c a b) sc e = (match e with
    | .IfExp z x y _ => chkE M N c sc z && noIte c && chkE M N a sc x && chkE M N b sc y
    | _ => false) := fun _ _ _ _ _ => rfl
theorem cE_tup {M : Nm} {N : List Str} : ∀ es sc e, chkE M N (.tup es) sc e = (match e with
    | .Tuple xs _ _ => chkEs M N es sc xs
    | _ => false) := fun _ _ _ => rfl
theorem cE_lst {M : Nm} {N : List Str} : ∀ es sc e, chkE M N (.lst es) sc e = (match e with
    | .List xs _ => chkEs M N es sc xs
    | _ => false) := fun _ _ _ => rfl
theorem cE_dict0 {M : Nm} {N : List Str} : ∀ t z1 e, chkE M N (.dict0 t) z1 e = (match e with
    | .Dict [] [] _ => t
    | _ => false) := fun _ _ _ => rfl
theorem cE_dict1 {M : Nm} {N : List Str} : ∀ a0 a1 z1 z2, chkE M N (.dict1 a0 a1) z1 z2 = (false) := fun _ _ _ _ => rfl
theorem cE_idx {M : Nm} {N : List Str} : ∀ a b sc e, chkE M N (.idx a b) sc e = (match e with
    | .Subscript x y _ => chkE M N a sc x && chkE M N b sc y && okE y
    | _ => false) := fun _ _ _ _ => rfl
theorem cE_slc {M : Nm} {N : List Str} : ∀ a l u sc e, chkE M N (.slc a l u) sc e = (match e with
    | .Subscript x (.Slice lo hi none _) _ => chkE M N a sc x && (match lo with
      | none => isOm l
      | some y => !isOm l && chkE M N l sc y) && (match hi with
      | none => isOm u
      | some y => !isOm u && chkE M N u sc y)
    | _ => false) := fun _ _ _ _ _ => rfl
theorem cE_rev {M : Nm} {N : List Str} : ∀ a0 z1 z2, chkE M N (.rev a0) z1 z2 = (false) := fun _ _ _ => rfl
theorem cE_call {M : Nm} {N : List Str} : ∀ f es sc e, chkE M N (.call f es) sc e = (match e with
    | .Call (.Name x _) (y :: ys) [] _ => decide (M.fn[f]? = some (some x)) && glB sc x && okN x && chkEs M N es sc (y :: ys)
    | _ => false) := fun _ _ _ _ => rfl
theorem cE_meth {M : Nm} {N : List Str} : ∀ a0 a1 a2 z1 z2, chkE M N (.meth a0 a1 a2) z1 z2 = (false) := fun _ _ _ _ _ => rfl
theorem cE_inst {M : Nm} {N : List Str} : ∀ a b sc e, chkE M N (.inst a b) sc e = (match e with
    | .Call (.Name x p) [y] [] _ => !M.hot && chkE M N a sc (.Name x p) && okE y && chkE M N b sc y
    | _ => false) := fun _ _ _ _ => rfl
theorem cE_make {M : Nm} {N : List Str} : ∀ c es sc e, chkE M N (.make c es) sc e = (match e with
    | .Call (.Name x _) (y :: ys) [] _ => decide (M.cl[c]? = some (some x)) && glB sc x && okN x && chkEs M N es sc (y :: ys)
    | _ => false) := fun _ _ _ _ => rfl
theorem cE_f1 {M : Nm} {N : List Str} : ∀ f a sc e, chkE M N (.f1 f a) sc e = (match e with
    | .Call (.Name x _) [y] [] _ => decide (x = f1N f) && glB sc x && okE y && chkE M N a sc y && (!M.hot || okHot f)
    | _ => false) := fun _ _ _ _ => rfl
theorem cE_f2 {M : Nm} {N : List Str} : ∀ f a b sc e, chkE M N (.f2 f a b) sc e = (match e with
    | .Call (.Name x _) [y, z] [] _ => decide (x = f2N f) && glB sc x && okE y && okE z && chkE M N a sc y && chkE M N b sc z && !M.hot
    | _ => false) := fun _ _ _ _ _ => rfl
theorem cE_sortk {M : Nm} {N : List Str} : ∀ f a sc e, chkE M N (.sortk f a) sc e = (match e with
    | .Call (.Name x _) [y] [⟨some k, .Name z _, _⟩] _ => decide (x = ("sorted" : Str)) && decide (k = ("key" : Str)) && glB sc x && glB sc z && okN z && decide (M.fn[f]? = some (some z)) && decide (f ∈ M.sk) && okE y && chkE M N a sc y && !M.hot
    | _ => false) := fun _ _ _ _ => rfl
theorem cE_get {M : Nm} {N : List Str} : ∀ a0 a1 z1 z2, chkE M N (.get a0 a1) z1 z2 = (false) := fun _ _ _ _ => rfl
theorem cE_isi {M : Nm} {N : List Str} : ∀ a tys sc e, chkE M N (.isi a tys) sc e = (match e with
    | .Call (.Name x _) [y, .Name z _] [] _ => decide (x = ("isinstance" : Str)) && glB sc x && okE y && chkE M N a sc y && (match tys with
      | [t] => decide (tyS t = some z) && glB sc z
      | _ => false)
    | _ => false) := fun _ _ _ _ => rfl
theorem cE_fld {M : Nm} {N : List Str} : ∀ a k sc e, chkE M N (.fld a k) sc e = (match e with
    | .Attribute x f _ => chkE M N a sc x && okE x && decide (M.ats[k]? = some f)
    | _ => false) := fun _ _ _ _ => rfl
theorem cE_xfld {M : Nm} {N : List Str} : ∀ a k sc e, chkE M N (.xfld a k) sc e = (match e with
    | .Attribute x f _ => M.hot && M.su && chkE M N a sc x && okE x && decide (M.ats[k]? = some f)
    | _ => false) := fun _ _ _ _ => rfl
theorem cE_xisi {M : Nm} {N : List Str} : ∀ a t sc e, chkE M N (.xisi a t) sc e = (match e with
    | .Call (.Name x _) [y, .Name z _] [] _ => M.hot && M.su && decide (x = ("isinstance" : Str)) && glB sc x && okE y && chkE M N a sc y && glB sc z && okN z && (match t with
      | .cls c => decide (M.xn[c]? = some (some z))
      | .ve => decide (z = ("ValueError" : Str))
      | _ => false)
    | _ => false) := fun _ _ _ _ => rfl
theorem cE_comp {M : Nm} {N : List Str} : ∀ i it cd el sc e, chkE M N (.comp i it cd el) sc e = (match e with
    | .ListComp elt [⟨.Name x _, iter, ifs, 0⟩] scope _ => !M.hot && chkI M N it sc iter && blkC N sc scope [(x, i)] && locB (relS scope sc) x && (ownB (relS scope sc) x || scope.names.lookup x == some .cell) && decide (N[i]? = some x) && (match ifs with
      | [] => (match cd with
        | .bl true => true
        | _ => false)
      | [c] => chkE M N cd (relS scope sc) c && noIte cd
      | _ => false) && chkE M N el (relS scope sc) elt
    | _ => false) := fun _ _ _ _ _ _ => rfl
theorem cE_comp2 {M : Nm} {N : List Str} : ∀ i it j jt cd el sc e, chkE M N (.comp2 i it j jt cd el) sc e = (match e with
    | .ListComp elt [⟨.Name x _, iter, [], 0⟩, ⟨.Name y _, iter2, ifs, 0⟩] scope _ => !M.hot && decide (i ≠ j) && chkI M N it sc iter && blkC N sc scope [(x, i), (y, j)] && locB (relS scope sc) x && (ownB (relS scope sc) x || scope.names.lookup x == some .cell) && decide (N[i]? = some x) &&
      locB (relS scope sc) y && (ownB (relS scope sc) y || scope.names.lookup y == some .cell) && decide (N[j]? = some y) && chkI M N jt (relS scope sc) iter2 && (match ifs with
      | [] => (match cd with
        | .bl true => true
        | _ => false)
      | [c] => chkE M N cd (relS scope sc) c && noIte cd
      | _ => false) && chkE M N el (relS scope sc) elt
    | _ => false) := fun _ _ _ _ _ _ _ _ => rfl
theorem cE_new {M : Nm} {N : List Str} : ∀ a sc e, chkE M N (.new a) sc e = (fresh a && chkE M N a sc e) := fun _ _ _ => rfl
theorem cEs_nil {M : Nm} {N : List Str} : ∀ z1 es, chkEs M N .nil z1 es = (match es with
    | [] => true
    | _ => false) := fun _ _ => rfl
theorem cEs_cons {M : Nm} {N : List Str} : ∀ s ss sc es, chkEs M N (.cons s ss) sc es = (match es with
    | e :: es => chkE M N s sc e && okE e && chkEs M N ss sc es
    | _ => false) := fun _ _ _ _ => rfl
theorem cI_seq {M : Nm} {N : List Str} : ∀ a sc e, chkI M N (.seq a) sc e = (okE e && chkE M N a sc e) := fun _ _ _ => rfl
theorem cI_rng1 {M : Nm} {N : List Str} : ∀ a sc e, chkI M N (.rng1 a) sc e = (match e with
    | .Call (.Name x _) [y] [] _ => decide (x = ("range" : Str)) && glB sc x && okE y && chkE M N a sc y
    | _ => false) := fun _ _ _ => rfl
theorem cI_rng2 {M : Nm} {N : List Str} : ∀ a b sc e, chkI M N (.rng2 a b) sc e = (match e with
    | .Call (.Name x _) [y, z] [] _ => decide (x = ("range" : Str)) && glB sc x && okE y && okE z && chkE M N a sc y && chkE M N b sc z
    | _ => false) := fun _ _ _ _ => rfl
theorem cI_rng3 {M : Nm} {N : List Str} : ∀ a0 a1 a2 z1 z2, chkI M N (.rng3 a0 a1 a2) z1 z2 = (false) := fun _ _ _ _ _ => rfl
/-! ### what the text's forms give by themselves -/
theorem star_ok {e : Expr} {es : List Expr} {env : Env} (h : okE e = true) : starEach (e :: es) env = (false, eval e env) :: starEach es env := by
  cases e <;> first | rfl | cases h
theorem base_ok {e : Expr} {f : Str} {env : Env} (h : okE e = true) : attributeBase e f env (eval e env) = eval e env := by
  cases e with
  | Call f as ks p =>
    cases f with
    | Name x q =>
      cases as with
      | nil =>
        cases ks with
        | nil => cases h
        | cons => rfl
      | cons => rfl
    | _ => rfl
  | _ => rfl
theorem ix_ok {e : Expr} (h : okE e = true) : PlainIx e := fun o i => by cases e <;> first | rfl | cases h
theorem mark_ok {e : Expr} {op : CmpOp} (h : okE e = true) : behindInMarks op e = false := by cases e <;> first | rfl | cases h
theorem lmark_ok {e f : Expr} {op op' : CmpOp} (h : okE f = true) : lastMarks [op, op'] [e, f] = false := by cases f <;> first | rfl | cases h
theorem folded_ok {e : Expr} {env : Env} (h : okE e = true) (x : Value) : foldedSetIterable e env x = pure x := by cases e <;> first | rfl | cases h
theorem sw_ok {e : Expr} {t : Option Expr} {l : Nat} {env : Env} (h : okC e = true) : swapsWith e t l env = pure false := by cases e <;> first | rfl | cases h
theorem vis_ok {sc : Scope} {x : Str} (h : visB sc x = true) : Vis sc x := by
  unfold visB at h
  split at h <;> first | exact .inl (by assumption) | exact .inr (.inl (by assumption)) | exact .inr (.inr (by assumption)) | cases h
theorem loc_ok {sc : Scope} {x : Str} (h : locB sc x = true) : Loc sc x := by
  unfold locB at h
  split at h <;> first | exact .inl (by assumption) | exact .inr (by assumption) | cases h
theorem own_ok {sc : Scope} {x : Str} (h : ownB sc x = true) : sc.names.lookup x = some .local := by
  unfold ownB at h
  split at h <;> first | assumption | cases h
theorem gl_ok {X : Cx} {sc : Scope} {x : Str} (e : X.env.scope = sc) (h : glB sc x = true) : Gl X x := by
  unfold glB at h
  split at h
  · subst e; assumption
  · cases h
theorem okN_ok {x : Str} (h : okN x = true) : (x == ("__debug__" : Str)) = false ∧ (x == ("__classdict__" : Str)) = false := by
  unfold okN at h
  simpa using h
end M
end

section
set_option Elab.async false
set_option linter.all false
set_option autoImplicit false
set_option maxRecDepth 100000
set_option maxHeartbeats 4000000
/-! Snd13: expressions: the evaluator says what the text does. -/
namespace M
open PySem PySem.Spec PyProof.Rows L2
def blts : List Str := ["len", "tuple", "list", "sorted", "max", "min", "sum", "int", "bool", "str", "isinstance", "range"]
/-- what an exception class must say to be caught -/
structure Xk (K : PySem.W.Frag) (C : Pc) (xn : List (Option Str)) (e : Nat) (Cl : M.Cl) : Prop where
  kit : ∀ (c2 : Nat) (z : Str), xn[c2]? = some (some z) → PySem.W.kitOne K (.ref (C.cad e)) (.ref (C.cad c2)) = some (Cl.up.contains c2)
  exm : ∀ (c2 : Nat) (z : Str), xn[c2]? = some (some z) → PySem.W.exmOne K (.ref (C.cad e)) (.ref (C.cad c2)) = some (Cl.up.contains c2)
  ve : PySem.W.kitOne K (.ref (C.cad e)) (.type "ValueError") = some true
  xf : XfC K (C.cad e)
  xc : ExcC K (C.cad e)
  no : ∀ k ∈ Cl.flds, PySem.W.findIn K (.ref (C.cad e)) (C.nm k) = some none
structure Wd (X : Cx) (C : Pc) (T : Tb) (Mn : Nm) (call : Nat → List D → Hs → RE) : Prop where
  on : On X C
  calm : Mn.hot = false → X.calm = true
  ck : ClsOk X C T
  ats : Mn.ats = C.attrs
  bl : ∀ x, x ∈ blts → X.mg x = none
  fn : ∀ (f : Nat) (x : Str), Mn.fn[f]? = some (some x) → ∃ fd ps, X.mg x = some (.ref (C.fad f)) ∧ PySem.W.keepIn X.K (.ref (C.fad f)) = true ∧ Binds X.K fd ps [] ∧
    ((Mn.hot = false ∧ ∃ k, FnOk X.prog X.w X.K X.mg X.base (L2N.CX X.prog X.w) k (C.fad f) fd ps (spF C T (call f)) ∧ Room k X.A) ∨ (Mn.hot = true ∧ ∃ k, L2H.FnH X.prog X.w X.K X.mg X.base (L2N.CX X.prog X.w) k (C.fad f) fd ps (spF C T (call f)) ∧ L2H.RoomH k X.A))
  mak : ∀ (c : Nat) (x : Str), Mn.cl[c]? = some (some x) → ∃ f fd ps k g, X.mg x = some (.ref (C.cad c)) ∧ L2.Mk X.K (C.cad c) f ∧ Binds X.K fd ps [] ∧ FnOk X.prog X.w X.K X.mg X.base (L2N.CX X.prog X.w) k f fd ps (spF C T g) ∧ Room (k + 1) X.A ∧ ∀ ds h, call (1000000 + c) ds h = mkFn g c ds h
  inst : Mn.hot = false → ∀ (c : Nat) (Cl : M.Cl) (f : Nat), T.cls[c]? = some Cl → Cl.mets.lookup 0 = some f → ∃ fd ps k, StX.CallO X.K (C.cad c) (C.fad f) ∧ Binds X.K fd ps [] ∧ FnOk X.prog X.w X.K X.mg X.base (L2N.CX X.prog X.w) k (C.fad f) fd ps (spF C T (call f)) ∧ Room k X.A
  sk : ∀ (f : Nat) (x : Str), Mn.fn[f]? = some (some x) → f ∈ Mn.sk → SkOk X C call f
  rm : Mn.hot = false → Room 4 X.A
  hotc : Mn.hot = true → L2H.HotC X
  xg : ∀ (c : Nat) (z : Str), Mn.xn[c]? = some (some z) → X.mg z = some (.ref (C.cad c))
  xs : Mn.hot = true → Mn.su = true → X.mg "ValueError" = none ∧ ∃ a dd c fl, XsAt X C T Mn.xn a dd c fl
  cn : Mn.hot = false → C.xa = none
  xk : Mn.hot = false → ∀ (e : Nat) (Cl : M.Cl), T.cls[e]? = some Cl → Cl.exc = true → Xk X.K C Mn.xn e Cl
  xv : Mn.hot = false → X.mg "ValueError" = none
  hf : Mn.hot = false → ∀ (a dd : Addr) (e : Nat) (fl : List Nat) (f : Nat) (x : Str), (Mn.heat true).fn[f]? = some (some x) → ∃ fd ps, X.mg x = some (.ref (C.fad f)) ∧ PySem.W.keepIn X.K (.ref (C.fad f)) = true ∧ Binds X.K fd ps [] ∧
    ∃ k, L2H.FnH X.prog X.w X.K X.mg X.base (L2N.CX X.prog X.w) k (C.fad f) fd ps (spF (C.at_ a dd e fl) T (call f)) ∧ L2H.RoomH k X.A
  exc : ∀ (c : Nat) (x : Str), Mn.ex[c]? = some (some x) → ∃ Cl fI fd ps, T.cls[c]? = some Cl ∧ X.mg x = some (.ref (C.cad c)) ∧ OexC X.K (C.cad c) ∧ PySem.W.findIn X.K (.ref (C.cad c)) "__init__" = some (some (.ref fI)) ∧ PySem.W.typeIn X.K (.ref fI) = some (.type "function") ∧
    Binds X.K fd ps [] ∧ FnOk X.prog X.w X.K X.mg X.base (L2N.CX X.prog X.w) 1 fI fd ps (spX C (C.cad c) Cl.flds)
structure Rt (X : Cx) (C : Pc) (T : Tb) (M : Nm) (N : List Str) (call : Nat → List D → Hs → RE) (W : WX) (sc : Scope) : Prop where
  wd : Wd X C T M call
  hsc : X.env.scope = sc
  hN : X.N = N
  nd : N.Nodup
  tk : L2N.Takes X W
abbrev WF : WX := fun _ _ _ _ => False
section
variable {C : Pc} {T : Tb} {M : Nm} {N : List Str} {call : Nat → List D → Hs → RE} {W : WX} {X : Cx} {sc : Scope}
theorem Rt.blk (r : Rt X C T M N call W sc) (h0 : M.hot = false) (s : Shared) (H : Hp) (scope : Scope) (cl : List (Str × Addr)) (c : Addr) (fp : List Addr) : Rt (X.blk s H scope (compEnvC scope cl c X.env) fp) C T M N call WF (relS scope sc) :=
  ⟨⟨⟨r.wd.on.P, r.wd.on.w, r.wd.on.K, r.wd.on.u⟩, (fun _ => r.wd.calm h0), ⟨r.wd.ck.nd, r.wd.ck.at_⟩, r.wd.ats, r.wd.bl, fun f x hx => (by obtain ⟨fd, ps, e1, e2, e3, e4⟩ := r.wd.fn f x hx; exact ⟨fd, ps, e1, e2, e3, e4.imp id fun z => absurd (z.1.symm.trans h0) (by decide)⟩), r.wd.mak, (fun _ => r.wd.inst h0), fun f x h1 h2 => ⟨(r.wd.sk f x h1 h2).ex, (r.wd.sk f x h1 h2).val⟩, (fun _ => r.wd.rm h0), (fun z => absurd (z.symm.trans h0) (by decide)), r.wd.xg, (fun z => absurd (z.symm.trans h0) (by decide)), (fun _ => r.wd.cn h0), (fun _ => r.wd.xk h0), (fun _ => r.wd.xv h0), (fun _ => r.wd.hf h0), r.wd.exc⟩, by rw [← r.hsc]; rfl, r.hN, r.nd, _root_.M.takes0⟩
structure Rs (X : Cx) (C : Pc) (T : Tb) (W : WX) (e : Expr) (s : E) (r : Rho → Hs → RE) : Prop where
  pe : PE X e (tE C T W r)
  pf : fresh s = true → PE X e (tF C T W r)
  pt : noIte s = true → PT X e (tB (tE C T W r))
  pw : noIte s = true → isBo e = true → PW X e (tB (tE C T W r))
theorem Rs.plain {e : Expr} {s : E} {r : Rho → Hs → RE} (p : PE X e (tE C T W r)) (hf : fresh s = false) (hb : isBo e = false) (he : ∀ whole, isTrue e X.env whole = (do let v ← whole; standAt e.pos; holding [v] (truthy v))) : Rs X C T W e s r :=
  ⟨p, fun z => absurd z (by rw [hf]; exact Bool.false_ne_true), fun _ => pt_val p he, fun _ z => absurd z (by rw [hb]; exact Bool.false_ne_true)⟩
theorem Rs.fresh {e : Expr} {s : E} {r : Rho → Hs → RE} (p : PE X e (tF C T W r)) (hb : isBo e = false) (he : ∀ whole, isTrue e X.env whole = (do let v ← whole; standAt e.pos; holding [v] (truthy v))) : Rs X C T W e s r :=
  ⟨peF p, fun _ => p, fun _ => pt_val (peF p) he, fun _ z => absurd z (by rw [hb]; exact Bool.false_ne_true)⟩
theorem pts_yes : PTs X [] (tB (tE C T W fun _ h => .ok (.bl true) h)) := ⟨fun pins s σ H Q I ⟨Av, ρ, h, m, a, w⟩ => pts_nil.run pins s σ H Q I (by
  obtain ⟨c, e, q⟩ := w.val a.sr (.bl true)
  cases e
  exact q)⟩
theorem any_star : ∀ {es : List Expr} {env : Env} {pos : Pos}, (∀ e ∈ es, okE e = true) → (backTo pos (starEach es env)).any (·.1) = false
  | [], _, _, _ => rfl
  | e :: es, env, pos, h => by
    rw [star_ok (h e (by simp))]
    have ih := any_star (es := es) (env := env) (pos := pos) fun f hf => h f (by simp [hf])
    unfold backTo at ih ⊢
    rw [List.map_cons, List.any_cons, ih]
    rfl
theorem chkEs_ok {M : Nm} {N : List Str} : ∀ {es : Es} {sc : Scope} {xs : List Expr}, chkEs M N es sc xs = true → ∀ e ∈ xs, okE e = true
  | .nil, sc, xs, h => by
    cases xs with
    | nil => exact fun e he => nomatch he
    | cons => cases h
  | .cons s ss, sc, xs, h => by
    cases xs with
    | nil => cases h
    | cons x xs =>
      rw [cEs_cons] at h
      simp only [Bool.and_eq_true] at h
      intro e he
      rcases List.mem_cons.mp he with z | z
      · rw [z]; exact h.1.2
      · exact chkEs_ok h.2 e z
theorem ty_boot {t : Ty} {z : Str} (h : tyS t = some z) : bootBuiltins z = some (.type (tyN t)) ∧ z ∈ blts ∧ z ≠ "__name__" ∧ (z == ("__debug__" : Str)) = false := by
  cases t <;> simp only [tyS] at h <;> cases h <;> exact ⟨by decide +kernel, by decide +kernel, by decide +kernel, by decide +kernel⟩
theorem chkI_ok {M : Nm} {N : List Str} {it : It} {sc : Scope} {e : Expr} (h : chkI M N it sc e = true) : okE e = true := by
  cases it with
  | seq a =>
    rw [cI_seq] at h
    simp only [Bool.and_eq_true] at h
    exact h.1
  | rng1 a =>
    rw [cI_rng1] at h
    split at h
    · rfl
    · cases h
  | rng2 a b =>
    rw [cI_rng2] at h
    split at h
    · rfl
    · cases h
  | rng3 a b c => rw [cI_rng3] at h; cases h
theorem blk_pg (R : Rt X C T M N call W sc) (h0 : M.hot = false) {s : Shared} {H : Hp} {scope : Scope} {cl : List (Str × Addr)} {c : Addr} {fp : List Addr} {x : Str} {px : Pos} {i : Nat} (h3 : locB (relS scope sc) x = true) (h4 : (ownB (relS scope sc) x || scope.names.lookup x == some .cell) = true) (h5 : N[i]? = some x) :
    PG (X.blk s H scope (compEnvC scope cl c X.env) fp) (.Name x px) (gName i) := by
  have R' := R.blk h0 s H scope cl c fp
  refine pg_name (by rw [R'.hN]; exact R'.nd) (by rw [R'.hN]; exact h5) (by rw [R'.hsc]; exact loc_ok h3) ?_
  rw [Bool.or_eq_true] at h4
  rcases h4 with h4 | h4
  · exact .inr (by rw [R'.hsc]; exact own_ok h4)
  · exact .inl h4
mutual
theorem sndE : ∀ (s : E) (X : Cx) (W : WX) (sc : Scope) (e : Expr), Rt X C T M N call W sc → chkE M N s sc e = true → Rs X C T W e s (fun ρ h => evE T call s ρ h)
  | .var i, X, W, sc, e, R, hc => by
    rw [cE_var] at hc
    split at hc
    · simp only [Bool.and_eq_true, decide_eq_true_eq] at hc
      obtain ⟨⟨h1, h2⟩, h3⟩ := hc
      exact .plain (pe_varC (by rw [R.hN]; exact h1) (by rw [R.hsc]; exact vis_ok h2) (okN_ok h3).1 (okN_ok h3).2) rfl rfl (by intro _; rfl)
    · cases hc
  | .frz i, X, W, sc, e, R, hc => by
    rw [cE_frz] at hc
    split at hc
    · simp only [Bool.and_eq_true, decide_eq_true_eq] at hc
      obtain ⟨⟨h1, h2⟩, h3⟩ := hc
      exact .plain (pe_frzC (by rw [R.hN]; exact h1) (by rw [R.hsc]; exact vis_ok h2) (okN_ok h3).1 (okN_ok h3).2) rfl rfl (by intro _; rfl)
    · cases hc
  | .int i, X, W, sc, e, R, hc => by
    rw [cE_int] at hc
    split at hc
    · rw [decide_eq_true_eq] at hc
      subst hc
      exact .plain (pe_conC pe_int fun _ _ _ => .int _) rfl rfl (by intro _; rfl)
    · cases hc
  | .bl b, X, W, sc, e, R, hc => by
    rw [cE_bl] at hc
    split at hc
    · rw [beq_iff_eq] at hc
      subst hc
      exact .plain (pe_conC pe_bl fun _ _ _ => .bl _) rfl rfl (by intro _; rfl)
    · cases hc
  | .non, X, W, sc, e, R, hc => by
    rw [cE_non] at hc
    split at hc
    · exact .plain (pe_conC pe_non fun _ _ _ => .non) rfl rfl (by intro _; rfl)
    · cases hc
  | .str cs, X, W, sc, e, R, hc => by
    rw [cE_str] at hc
    split at hc
    · rw [decide_eq_true_eq] at hc
      subst hc
      exact .plain (pe_conC pe_str fun _ _ _ => .str _) rfl rfl (by intro _; rfl)
    · cases hc
  | .glb _, X, W, sc, e, R, hc => by rw [cE_glb] at hc; cases hc
  | .omit, X, W, sc, e, R, hc => by rw [cE_omit] at hc; cases hc
  | .nev, X, W, sc, e, R, hc => ⟨⟨fun pins s σ H Q I ⟨_, _, _, _, _, w⟩ => w.elim⟩, fun z => (nomatch z), fun z => (nomatch z), fun z => (nomatch z)⟩
  | .bin o a b, X, W, sc, e, R, hc => by
    rw [cE_bin] at hc
    split at hc
    · simp only [Bool.and_eq_true, decide_eq_true_eq] at hc
      obtain ⟨⟨h1, h2⟩, h3⟩ := hc
      rw [b2_ok h1]
      exact .plain (pe_binC R.wd.on o (sndE a X W sc _ R h2).pe (sndE b X W sc _ R h3).pe) rfl rfl (by intro _; rfl)
    · cases hc
  | .neg a, X, W, sc, e, R, hc => by
    rw [cE_neg] at hc
    split at hc
    · exact .plain (pe_negC (sndE a X W sc _ R hc).pe) rfl rfl (by intro _; rfl)
    · cases hc
  | .cmp o a b, X, W, sc, e, R, hc => by
    rw [cE_cmp] at hc
    split at hc
    · simp only [Bool.and_eq_true, decide_eq_true_eq] at hc
      obtain ⟨⟨⟨h1, h2⟩, h3⟩, h4⟩ := hc
      rw [c2_ok h1]
      exact ⟨pe_cmpC R.wd.on o (sndE a X W sc _ R h2).pe (sndE b X W sc _ R h3).pe (mark_ok h4), fun z => (nomatch z), fun _ => pt_cmpC R.wd.on o (sndE a X W sc _ R h2).pe (sndE b X W sc _ R h3).pe (mark_ok h4), fun _ z => (nomatch z)⟩
    · cases hc
  | .chn o p a b c, X, W, sc, e, R, hc => by
    rw [cE_chn] at hc
    split at hc
    · simp only [Bool.and_eq_true, decide_eq_true_eq] at hc
      obtain ⟨⟨⟨⟨⟨h1, h1'⟩, h2⟩, h3⟩, h5⟩, h4⟩ := hc
      rw [c2_ok h1, c2_ok h1']
      exact ⟨pe_chnC R.wd.on o p (sndE a X W sc _ R h2).pe (sndE b X W sc _ R h3).pe (sndE c X W sc _ R h5).pe (lmark_ok h4), fun z => (nomatch z), fun _ => pt_chnC R.wd.on o p (sndE a X W sc _ R h2).pe (sndE b X W sc _ R h3).pe (sndE c X W sc _ R h5).pe (lmark_ok h4), fun _ z => (nomatch z)⟩
    · cases hc
  | .and a b, X, W, sc, e, R, hc => by
    rw [cE_and] at hc
    split at hc
    · rename_i x y r pos
      rw [Bool.and_eq_true] at hc
      obtain ⟨h1, h2⟩ := hc
      have ha := sndE a X W sc _ R h1
      cases r with
      | nil =>
        have hb := sndE b X W sc _ R h2
        exact ⟨pe_andC ha.pe (pe_one hb.pe), fun z => (nomatch z), fun n => by
          simp only [noIte, Bool.and_eq_true] at n
          exact PW.pt (pw_andC (ha.pt n.1) (pw_and1 (hb.pt n.2))), fun n _ => by
          simp only [noIte, Bool.and_eq_true] at n
          exact pw_andC (ha.pt n.1) (pw_and1 (hb.pt n.2))⟩
      | cons z zs =>
        have hb := sndE b X W sc _ R h2
        exact ⟨pe_andC ha.pe hb.pe, fun z => (nomatch z), fun n => by
          simp only [noIte, Bool.and_eq_true] at n
          exact PW.pt (pw_andC (ha.pt n.1) (hb.pw n.2 rfl)), fun n _ => by
          simp only [noIte, Bool.and_eq_true] at n
          exact pw_andC (ha.pt n.1) (hb.pw n.2 rfl)⟩
    · cases hc
  | .or a b, X, W, sc, e, R, hc => by
    rw [cE_or] at hc
    split at hc
    · rename_i x y r pos
      rw [Bool.and_eq_true] at hc
      obtain ⟨h1, h2⟩ := hc
      have ha := sndE a X W sc _ R h1
      cases r with
      | nil =>
        have hb := sndE b X W sc _ R h2
        exact ⟨pe_orC ha.pe (pe_one hb.pe), fun z => (nomatch z), fun n => by
          simp only [noIte, Bool.and_eq_true] at n
          exact PW.pt (pw_orC (ha.pt n.1) (pw_or1 (hb.pt n.2))), fun n _ => by
          simp only [noIte, Bool.and_eq_true] at n
          exact pw_orC (ha.pt n.1) (pw_or1 (hb.pt n.2))⟩
      | cons z zs =>
        have hb := sndE b X W sc _ R h2
        exact ⟨pe_orC ha.pe hb.pe, fun z => (nomatch z), fun n => by
          simp only [noIte, Bool.and_eq_true] at n
          exact PW.pt (pw_orC (ha.pt n.1) (hb.pw n.2 rfl)), fun n _ => by
          simp only [noIte, Bool.and_eq_true] at n
          exact pw_orC (ha.pt n.1) (hb.pw n.2 rfl)⟩
    · cases hc
  | .not a, X, W, sc, e, R, hc => by
    rw [cE_not] at hc
    split at hc
    · have ha := sndE a X W sc _ R hc
      exact ⟨pe_notC ha.pe, fun z => (nomatch z), fun n => pt_notC (ha.pt (by simpa [noIte] using n)), fun _ z => (nomatch z)⟩
    · cases hc
  | .ite c a b, X, W, sc, e, R, hc => by
    rw [cE_ite] at hc
    split at hc
    · simp only [Bool.and_eq_true] at hc
      obtain ⟨⟨⟨h1, h2⟩, h3⟩, h4⟩ := hc
      exact ⟨pe_iteC ((sndE c X W sc _ R h1).pt h2) (sndE a X W sc _ R h3).pe (sndE b X W sc _ R h4).pe, fun z => (nomatch z), fun n => by simp [noIte] at n, fun _ z => (nomatch z)⟩
    · cases hc
  | .tup es, X, W, sc, e, R, hc => by
    rw [cE_tup] at hc
    split at hc
    · exact .plain (pe_tupC (sndEs es X W sc _ R hc)) rfl rfl (by intro _; rfl)
    · cases hc
  | .lst es, X, W, sc, e, R, hc => by
    rw [cE_lst] at hc
    split at hc
    · exact .fresh (pe_lstF (sndEs es X W sc _ R hc)) rfl (by intro _; rfl)
    · cases hc
  | .dict0 t, X, W, sc, e, R, hc => by
    rw [cE_dict0] at hc
    split at hc
    · subst hc
      exact .fresh (pe_dict0F R.wd.on) rfl (by intro _; rfl)
    · cases hc
  | .dict1 _ _, X, W, sc, e, R, hc => by rw [cE_dict1] at hc; cases hc
  | .idx a b, X, W, sc, e, R, hc => by
    rw [cE_idx] at hc
    split at hc
    · simp only [Bool.and_eq_true] at hc
      obtain ⟨⟨h1, h2⟩, h3⟩ := hc
      exact .plain (pe_idxC R.wd.on (sndE a X W sc _ R h1).pe (sndE b X W sc _ R h2).pe (ix_ok h3)) rfl rfl (by intro _; rfl)
    · cases hc
  | .slc a l u, X, W, sc, e, R, hc => by
    rw [cE_slc] at hc
    split at hc
    · rename_i x lo hi p2 pos
      simp only [Bool.and_eq_true] at hc
      obtain ⟨⟨h1, h2⟩, h3⟩ := hc
      have ha := (sndE a X W sc _ R h1).pe
      have om : ∀ {l : E}, isOm l = true → l = .omit := fun {l} h => by cases l <;> first | rfl | cases h
      have hl : PO X lo (tO C T W l fun ρ h => evE T call l ρ h) := by
        cases lo with
        | none => rw [om h2]; exact po_omC
        | some y =>
          simp only [Bool.and_eq_true, Bool.not_eq_true'] at h2
          exact po_soC h2.1 (sndE l X W sc _ R h2.2).pe
      have hu : PO X hi (tO C T W u fun ρ h => evE T call u ρ h) := by
        cases hi with
        | none => rw [om h3]; exact po_omC
        | some y =>
          simp only [Bool.and_eq_true, Bool.not_eq_true'] at h3
          exact po_soC h3.1 (sndE u X W sc _ R h3.2).pe
      exact .plain (pe_slcC R.wd.on ha hl hu) rfl rfl (by intro _; rfl)
    · cases hc
  | .rev _, X, W, sc, e, R, hc => by rw [cE_rev] at hc; cases hc
  | .call f es, X, W, sc, e, R, hc => by
    rw [cE_call] at hc
    split at hc
    · rename_i x px y ys pos
      simp only [Bool.and_eq_true, decide_eq_true_eq] at hc
      obtain ⟨⟨⟨h1, h2⟩, h3⟩, h4⟩ := hc
      have ok := chkEs_ok h4
      obtain ⟨fd, ps, f1, f2, f3, ⟨_, k, f4, f5⟩ | ⟨g0, k, f4, f5⟩⟩ := R.wd.fn f x h1
      · exact .plain (peImp (pe_callS f4 f5 (gl_ok R.hsc h2) f1 f2 f3 (fun σ => L2N.passAt R.tk σ) (sndEs es X W sc _ R h4) (okN_ok h3).1 (star_ok (ok y (by simp))) (any_star fun e he => ok e (by simp [he]))) fun σ H Q => call_tr (call f)) rfl rfl (by intro _; rfl)
      · exact .plain (peImp (L2H.pe_callH f4 f5 (R.wd.hotc g0) (gl_ok R.hsc h2) f1 f2 f3 (fun σ => L2N.passAt R.tk σ) (sndEs es X W sc _ R h4) (okN_ok h3).1 (star_ok (ok y (by simp))) (any_star fun e he => ok e (by simp [he]))) fun σ H Q => call_tr (call f)) rfl rfl (by intro _; rfl)
    · cases hc
  | .meth _ _ _, X, W, sc, e, R, hc => by rw [cE_meth] at hc; cases hc
  | .inst a b, X, W, sc, e, R, hc => by
    rw [cE_inst] at hc
    split at hc
    · rename_i x px y pos
      simp only [Bool.and_eq_true] at hc
      obtain ⟨⟨⟨h0, h1⟩, h2⟩, h3⟩ := hc
      exact .plain (peImp (pe_inst R.tk (sndE a X W sc _ R h1).pe (pa_cons (sndE b X W sc _ R h3).pe pa_nil (star_ok h2)) (star_ok h2) rfl) fun σ H Q => inst_tr R.wd.on (R.wd.inst (by simpa using h0))) rfl rfl (by intro _; rfl)
    · cases hc
  | .make c es, X, W, sc, e, R, hc => by
    rw [cE_make] at hc
    split at hc
    · rename_i x px y ys pos
      simp only [Bool.and_eq_true, decide_eq_true_eq] at hc
      obtain ⟨⟨⟨h1, h2⟩, h3⟩, h4⟩ := hc
      have ok := chkEs_ok h4
      obtain ⟨f, fd, ps, k, g, f1, f2, f3, f4, f5, f6⟩ := R.wd.mak c x h1
      have e1 : (fun (ρ : Rho) (h : Hs) => evE T call (.make c es) ρ h) = fun ρ h => (evEs T call es ρ h).bind fun xs h => mkFn g c xs h := by
        funext ρ h
        show ((evEs T call es ρ h).bind fun xs h => call (1000000 + c) xs h) = _
        congr 1
        funext xs h
        exact f6 xs h
      rw [e1]
      exact .plain (peImp (pe_makeS f2 f4 f5 (gl_ok R.hsc h2) f1 f3 (fun σ => L2N.passAt R.tk σ) (sndEs es X W sc _ R h4) (okN_ok h3).1 (star_ok (ok y (by simp))) (any_star fun e he => ok e (by simp [he]))) fun σ H Q => make_tr) rfl rfl (by intro _; rfl)
    · cases hc
  | .f1 f a, X, W, sc, e, R, hc => by
    rw [cE_f1] at hc
    split at hc
    · rename_i x px y pos
      simp only [Bool.and_eq_true, decide_eq_true_eq] at hc
      obtain ⟨⟨⟨⟨h1, h2⟩, h3⟩, h4⟩, h0⟩ := hc
      subst h1
      have hcalm : okHot f = false → X.calm = true := fun z => R.wd.calm (by rw [z] at h0; simpa using h0)
      have pa := pa_cons (sndE a X W sc _ R h4).pe pa_nil (star_ok h3)
      have g := gl_ok R.hsc h2
      have st : starEach [y] X.env = (false, eval y X.env) :: starEach [] X.env := star_ok h3
      cases f with
      | len => exact .plain (peImp (pe_callB (call_lenC R.wd.on) g (R.wd.bl _ (by decide +kernel)) boot_len pa (by decide +kernel) (by decide +kernel) st rfl) fun σ H Q => f1_tr evLen) rfl rfl (by intro _; rfl)
      | tuple => exact .plain (peImp (pe_callTy (call_tupleC R.wd.on) g (R.wd.bl _ (by decide +kernel)) PyProof.Rows.boot_tuple pa (by decide +kernel) (by decide +kernel) st rfl) fun σ H Q => f1_tr evTuple) rfl rfl (by intro _; rfl)
      | list => exact .fresh (peImp (pe_callTy (call_listC R.wd.on (hcalm rfl)) g (R.wd.bl _ (by decide +kernel)) PyProof.Rows.boot_list pa (by decide +kernel) (by decide +kernel) st rfl) fun σ H Q => f1_trF evList) rfl (by intro _; rfl)
      | sorted => exact .fresh (peImp (pe_callB (call_sortedC R.wd.on) g (R.wd.bl _ (by decide +kernel)) PyProof.Rows.boot_sorted pa (by decide +kernel) (by decide +kernel) st rfl) fun σ H Q => f1_trF (evF1 .sorted)) rfl (by intro _; rfl)
      | max => exact .plain (peImp (pe_callB (call_maxC (hcalm rfl)) g (R.wd.bl _ (by decide +kernel)) PyProof.Rows.boot_max pa (by decide +kernel) (by decide +kernel) st rfl) fun σ H Q => f1_tr (evF1 .max)) rfl rfl (by intro _; rfl)
      | min => exact .plain (peImp (pe_callB (call_minC (hcalm rfl)) g (R.wd.bl _ (by decide +kernel)) PyProof.Rows.boot_min pa (by decide +kernel) (by decide +kernel) st rfl) fun σ H Q => f1_tr (evF1 .min)) rfl rfl (by intro _; rfl)
      | sum => exact .plain (peImp (pe_callB (call_sumC (hcalm rfl)) g (R.wd.bl _ (by decide +kernel)) PyProof.Rows.boot_sum pa (by decide +kernel) (by decide +kernel) st rfl) fun σ H Q => f1_tr (evF1 .sum)) rfl rfl (by intro _; rfl)
      | int => exact .plain (peImp (pe_callTy call_intC g (R.wd.bl _ (by decide +kernel)) PyProof.Rows.boot_int pa (by decide +kernel) (by decide +kernel) st rfl) fun σ H Q => f1_tr evInt) rfl rfl (by intro _; rfl)
    · cases hc
  | .f2 f a b, X, W, sc, e, R, hc => by
    rw [cE_f2] at hc
    split at hc
    · rename_i x px y z pos
      simp only [Bool.and_eq_true, decide_eq_true_eq] at hc
      obtain ⟨⟨⟨⟨⟨⟨h1, h2⟩, h3⟩, h3'⟩, h4⟩, h5⟩, h0⟩ := hc
      subst h1
      have hcalm := R.wd.calm (by simpa using h0)
      have pa := pa_cons (sndE a X W sc _ R h4).pe (pa_cons (sndE b X W sc _ R h5).pe pa_nil (star_ok h3')) (star_ok h3)
      have g := gl_ok R.hsc h2
      have hz : (backTo pos (starEach [z] X.env)).any (·.1) = false := any_star fun e he => by
        have e1 : e = z := by simpa using he
        rw [e1]; exact h3'
      cases f with
      | max => exact .plain (peImp (pe_callB (call_max2C hcalm) g (R.wd.bl _ (by decide +kernel)) PyProof.Rows.boot_max pa (by decide +kernel) (by decide +kernel) (star_ok h3) hz) fun σ H Q => f2_tr (evF2 .max) fun _ _ _ => evF2_nr) rfl rfl (by intro _; rfl)
      | min => exact .plain (peImp (pe_callB (call_min2C hcalm) g (R.wd.bl _ (by decide +kernel)) PyProof.Rows.boot_min pa (by decide +kernel) (by decide +kernel) (star_ok h3) hz) fun σ H Q => f2_tr (evF2 .min) fun _ _ _ => evF2_nr) rfl rfl (by intro _; rfl)
    · cases hc
  | .sortk f a, X, W, sc, e, R, hc => by
    rw [cE_sortk] at hc
    split at hc
    · rename_i x px y k z kp kpos pos
      simp only [Bool.and_eq_true, decide_eq_true_eq] at hc
      obtain ⟨⟨⟨⟨⟨⟨⟨⟨⟨h1, h2⟩, h3⟩, h4⟩, h5⟩, h6⟩, h7⟩, h8⟩, h9⟩, h0⟩ := hc
      subst h1
      obtain ⟨fd, ps, f1, _⟩ := R.wd.fn f z h6
      exact .fresh (pe_sk R.wd.on (R.wd.rm (by simpa using h0)) (R.wd.sk f z h6 h7) h2 (gl_ok R.hsc h3) (R.wd.bl _ (by decide +kernel)) (R.wd.bl _ (by decide +kernel)) (gl_ok R.hsc h4) f1 (okN_ok h5).1 (sndE a X W sc _ R h9).pe (star_ok h8)) rfl (by intro _; rfl)
    · cases hc
  | .get _ _, X, W, sc, e, R, hc => by rw [cE_get] at hc; cases hc
  | .isi a tys, X, W, sc, e, R, hc => by
    rw [cE_isi] at hc
    split at hc
    · rename_i x px y z pz pos
      simp only [Bool.and_eq_true, decide_eq_true_eq] at hc
      obtain ⟨⟨⟨⟨h1, h2⟩, h3⟩, h4⟩, h5⟩ := hc
      subst h1
      split at h5
      · rename_i t
        simp only [Bool.and_eq_true, decide_eq_true_eq] at h5
        obtain ⟨b1, b2, b3, b4⟩ := ty_boot h5.1
        have pz : PE X (.Name z pz) (tC (.ty (tyN t))) := pe_bltn (gl_ok R.hsc h5.2) (R.wd.bl _ b2) b1 rfl b3 b4
        have pa := pa_cons (sndE a X W sc _ R h4).pe (pa_cons pz pa_nil rfl) (star_ok h3)
        exact .plain (peImp (pe_callB (call_isiC R.wd.on t) (gl_ok R.hsc h2) (R.wd.bl _ (by decide +kernel)) PyProof.Rows.boot_isinstance pa (by decide +kernel) (by decide +kernel) (star_ok h3) rfl) fun σ H Q => isi_tr t) rfl rfl (by intro _; rfl)
      · cases h5
    · cases hc
  | .fld a k, X, W, sc, e, R, hc => by
    rw [cE_fld] at hc
    split at hc
    · rename_i x f pos
      simp only [Bool.and_eq_true, decide_eq_true_eq] at hc
      obtain ⟨⟨h1, h2⟩, h3⟩ := hc
      have hf : f = C.nm k := by
        rw [R.wd.ats] at h3
        unfold Pc.nm
        rw [List.getD_eq_getElem?_getD, h3]
        rfl
      subst hf
      exact .plain (pe_fldC R.wd.ck (sndE a X W sc _ R h1).pe (base_ok h2)) rfl rfl (by intro _; rfl)
    · cases hc
  | .xfld a k, X, W, sc, e, R, hc => by
    rw [cE_xfld] at hc
    split at hc
    · rename_i x f pos
      simp only [Bool.and_eq_true, decide_eq_true_eq] at hc
      obtain ⟨⟨⟨⟨h0, h00⟩, h1⟩, h2⟩, h3⟩ := hc
      have hf : f = C.nm k := by
        rw [R.wd.ats] at h3
        unfold Pc.nm
        rw [List.getD_eq_getElem?_getD, h3]
        rfl
      subst hf
      obtain ⟨_, _, _, _, _, xs⟩ := R.wd.xs h0 h00
      exact .plain (pe_xfC xs (sndE a X W sc _ R h1).pe (base_ok h2)) rfl rfl (by intro _; rfl)
    · cases hc
  | .xisi a t, X, W, sc, e, R, hc => by
    rw [cE_xisi] at hc
    split at hc
    · rename_i x px y z pz pos
      simp only [Bool.and_eq_true, decide_eq_true_eq] at hc
      obtain ⟨⟨⟨⟨⟨⟨⟨⟨h0, h00⟩, h1⟩, h2⟩, h3⟩, h4⟩, h5⟩, h6⟩, h7⟩ := hc
      subst h1
      obtain ⟨gV, a0, dd, c0, fl, xs⟩ := R.wd.xs h0 h00
      have main : ∀ (cc : V) (cv : Value) (b : Bool), (∀ u, RelV cc u → u = cv) → PySem.W.kitOne X.K (.ref (C.cad c0)) cv = some b → PE X (.Name z pz) (tC cc) → (∀ vs, evXi T (.exn c0 vs) t = some b) → Rs X C T W (.Call (.Name "isinstance" px) [y, .Name z pz] [] pos) (.xisi a t) fun ρ h => evE T call (.xisi a t) ρ h := fun cc cv b hcv hk pz hb =>
        .plain (peImp (pe_callB (call_xi xs hcv hk) (gl_ok R.hsc h2) (R.wd.bl _ (by decide +kernel)) PyProof.Rows.boot_isinstance (pa_cons (sndE a X W sc _ R h4).pe (pa_cons pz pa_nil rfl) (star_ok h3)) (by decide +kernel) (by decide +kernel) (star_ok h3) rfl) fun σ H Q ⟨Av, ρ, h, m, at_, w⟩ => tE.bind at_ w fun d v h1 m1 H1 a1 k1 r1 w1 => by
          obtain ⟨d2, e3, q⟩ := w1.ro
          obtain ⟨b2, e4, rfl⟩ := Option.map_eq_some_iff.mp e3
          cases d with
          | exn ce vs =>
            cases r1 with
            | exn x n hd hl rs =>
              rw [xs.xa] at x
              cases x
              have e5 := (hb vs).symm.trans e4
              cases e5
              exact ⟨_, rfl, hd, q _ m1 H1 a1.sr Keep.refl (.bl b)⟩
          | _ => cases e4) rfl rfl (by intro _; rfl)
      cases t with
      | cls c2 =>
        have h7 : M.xn[c2]? = some (some z) := by simpa using h7
        obtain ⟨Cl, e1, e2, e3⟩ := xs.cl
        exact main (.ref (C.cad c2)) (.ref (C.cad c2)) _ (fun u r => r) (e3 c2 z h7) (pe_glob (gl_ok R.hsc h5) (R.wd.xg c2 z h7) rfl (okN_ok h6).1) fun vs => by
          show Option.map (fun C => C.up.contains c2) T.cls[c0]? = _
          rw [e1]
          rfl
      | ve =>
        have h7 : z = ("ValueError" : Str) := by simpa using h7
        subst h7
        exact main (.ty "ValueError") (.type "ValueError") true (fun u r => r) xs.ve (pe_bltn (gl_ok R.hsc h5) gV (by rfl) rfl (by decide +kernel) (by decide +kernel)) fun vs => rfl
      | _ => cases h7
    · cases hc
  | .comp i it cd el, X, W, sc, e, R, hc => by
    rw [cE_comp] at hc
    split at hc
    · rename_i elt x px iter ifs scope pos
      simp only [Bool.and_eq_true, decide_eq_true_eq] at hc
      obtain ⟨⟨⟨⟨⟨⟨⟨h0, h1⟩, h2⟩, h3⟩, h4⟩, h5⟩, h6⟩, h7⟩ := hc
      have h0 : M.hot = false := by simpa using h0
      obtain ⟨hi, hio⟩ := sndI it X W sc _ R h1
      have hg : ∀ (s : Shared) (H : Hp) (c : Addr) (cl : List (Str × Addr)) (fp : List Addr), PG (X.blk s H scope (compEnvC scope cl c X.env) fp) (.Name x px) (gName i) := fun s H c cl fp =>
        blk_pg R h0 h3 h4 h5
      have ht : ∀ (s : Shared) (H : Hp) (c : Addr) (cl : List (Str × Addr)) (fp : List Addr), PTs (X.blk s H scope (compEnvC scope cl c X.env) fp) ifs (tB (tE C T WF fun ρ h => evE T call cd ρ h)) := fun s H c cl fp => by
        split at h6
        · split at h6
          · exact pts_yes
          · cases h6
        · rw [Bool.and_eq_true] at h6
          exact pts_one ((sndE cd _ WF _ _ (R.blk h0 s H scope cl c fp) h6.1).pt h6.2)
        · cases h6
      have he : ∀ (s : Shared) (H : Hp) (c : Addr) (cl : List (Str × Addr)) (fp : List Addr), PE (X.blk s H scope (compEnvC scope cl c X.env) fp) elt (tE C T WF fun ρ h => evE T call el ρ h) := fun s H c cl fp => (sndE el _ WF _ _ (R.blk h0 s H scope cl c fp) h7).pe
      exact .fresh (peImp (pe_lc (R.wd.calm h0) (by rw [R.hN]; exact R.nd) (hi (.Name x px)) (blkOk_by (own := [(x, i)]) (by rw [R.hN, R.hsc]; exact h2)) hg ht he (folded_ok hio)) fun σ H Q => lc_tr) rfl (by intro _; rfl)
    · cases hc
  | .comp2 i it j jt cd el, X, W, sc, e, R, hc => by
    rw [cE_comp2] at hc
    split at hc
    · rename_i elt x px iter y py iter2 ifs scope pos
      simp only [Bool.and_eq_true, decide_eq_true_eq] at hc
      obtain ⟨⟨⟨⟨⟨⟨⟨⟨⟨⟨⟨⟨h0, hij⟩, h1⟩, h2⟩, h3⟩, h4⟩, h5⟩, k3⟩, k4⟩, k5⟩, k1⟩, h6⟩, h7⟩ := hc
      have h0 : M.hot = false := by simpa using h0
      obtain ⟨hi, hio⟩ := sndI it X W sc _ R h1
      have hg : ∀ (s : Shared) (H : Hp) (c : Addr) (cl : List (Str × Addr)) (fp : List Addr), PG (X.blk s H scope (compEnvC scope cl c X.env) fp) (.Name x px) (gName i) := fun s H c cl fp =>
        blk_pg R h0 h3 h4 h5
      have hg1 : ∀ (s : Shared) (H : Hp) (c : Addr) (cl : List (Str × Addr)) (fp : List Addr), PG (X.blk s H scope (compEnvC scope cl c X.env) fp) (.Name y py) (gName j) := fun s H c cl fp =>
        blk_pg R h0 k3 k4 k5
      have hj : ∀ (s : Shared) (H : Hp) (c : Addr) (cl : List (Str × Addr)) (fp : List Addr), PI (X.blk s H scope (compEnvC scope cl c X.env) fp) (.Name y py) iter2 (tI C T WF fun ρ h => evI T call jt ρ h) ∧ okE iter2 = true := fun s H c cl fp =>
        (fun z => ⟨z.1 _, z.2⟩) (sndI jt _ WF _ _ (R.blk h0 s H scope cl c fp) k1)
      have ht : ∀ (s : Shared) (H : Hp) (c : Addr) (cl : List (Str × Addr)) (fp : List Addr), PTs (X.blk s H scope (compEnvC scope cl c X.env) fp) ifs (tB (tE C T WF fun ρ h => evE T call cd ρ h)) := fun s H c cl fp => by
        split at h6
        · split at h6
          · exact pts_yes
          · cases h6
        · rw [Bool.and_eq_true] at h6
          exact pts_one ((sndE cd _ WF _ _ (R.blk h0 s H scope cl c fp) h6.1).pt h6.2)
        · cases h6
      have he : ∀ (s : Shared) (H : Hp) (c : Addr) (cl : List (Str × Addr)) (fp : List Addr), PE (X.blk s H scope (compEnvC scope cl c X.env) fp) elt (tE C T WF fun ρ h => evE T call el ρ h) := fun s H c cl fp => (sndE el _ WF _ _ (R.blk h0 s H scope cl c fp) h7).pe
      have hio2 : okE iter2 = true := chkI_ok k1
      have hv : ∀ k ∈ [j], k ∈ [(x, i), (y, j)].map (·.2) := fun k hk => by
        have e1 : k = j := by simpa using hk
        simp [e1]
      exact .fresh (peImp (pe_lc2 (vs1 := [j]) (R.wd.calm h0) (by rw [R.hN]; exact R.nd) (hi (.Name x px)) (blkOk_by (own := [(x, i), (y, j)]) (by rw [R.hN, R.hsc]; exact h2)) hv hg (fun _ _ _ _ _ => pts_nil) (fun s H c cl fp => (hj s H c cl fp).1) hg1 ht he (folded_ok hio) (fun env => folded_ok hio2)) fun σ H Q => lc2_tr hij) rfl (by intro _; rfl)
    · cases hc
  | .new a, X, W, sc, e, R, hc => by
    rw [cE_new] at hc
    simp only [Bool.and_eq_true] at hc
    have ha := sndE a X W sc _ R hc.2
    have hn := pe_newC (ha.pf hc.1)
    have he : (fun (ρ : Rho) (h : Hs) => evE T call (.new a) ρ h) = fun ρ h => (evE T call a ρ h).bind fun x h => .ok (.ref h.length) (h ++ [.opn x]) := by
      funext ρ h
      show (if fresh a then (evE T call a ρ h).bind fun x h => .ok (.ref h.length) (h ++ [.opn x]) else .bad) = _
      rw [if_pos hc.1]
    rw [he]
    exact ⟨hn, fun z => (nomatch z), fun z => (nomatch z), fun z => (nomatch z)⟩
theorem sndEs : ∀ (s : Es) (X : Cx) (W : WX) (sc : Scope) (es : List Expr), Rt X C T M N call W sc → chkEs M N s sc es = true → PA X es (tL C T W fun ρ h => evEs T call s ρ h)
  | .nil, X, W, sc, es, R, hc => by
    rw [cEs_nil] at hc
    split at hc
    · exact pa_nilC
    · cases hc
  | .cons s ss, X, W, sc, es, R, hc => by
    rw [cEs_cons] at hc
    split at hc
    · simp only [Bool.and_eq_true] at hc
      obtain ⟨⟨h1, h2⟩, h3⟩ := hc
      exact pa_consC (sndE s X W sc _ R h1).pe (sndEs ss X W sc _ R h3) (star_ok h2)
    · cases hc
theorem sndI : ∀ (s : It) (X : Cx) (W : WX) (sc : Scope) (e : Expr), Rt X C T M N call W sc → chkI M N s sc e = true → (∀ tg, PI X tg e (tI C T W fun ρ h => evI T call s ρ h)) ∧ okE e = true
  | .seq a, X, W, sc, e, R, hc => by
    rw [cI_seq] at hc
    simp only [Bool.and_eq_true] at hc
    exact ⟨fun tg => pi_seqC R.wd.on.K (sndE a X W sc _ R hc.2).pe, hc.1⟩
  | .rng1 a, X, W, sc, e, R, hc => by
    rw [cI_rng1] at hc
    split at hc
    · simp only [Bool.and_eq_true, decide_eq_true_eq] at hc
      obtain ⟨⟨⟨h1, h2⟩, h3⟩, h4⟩ := hc
      subst h1
      exact ⟨fun tg => pi_rng1C (gl_ok R.hsc h2) (R.wd.bl _ (by decide +kernel)) (sndE a X W sc _ R h4).pe (star_ok h3), rfl⟩
    · cases hc
  | .rng2 a b, X, W, sc, e, R, hc => by
    rw [cI_rng2] at hc
    split at hc
    · simp only [Bool.and_eq_true, decide_eq_true_eq] at hc
      obtain ⟨⟨⟨⟨⟨h1, h2⟩, h3⟩, h3'⟩, h4⟩, h5⟩ := hc
      subst h1
      exact ⟨fun tg => pi_rng2C (gl_ok R.hsc h2) (R.wd.bl _ (by decide +kernel)) (sndE a X W sc _ R h4).pe (sndE b X W sc _ R h5).pe (by rw [star_ok h3, star_ok h3']; rfl) (star_ok h3'), rfl⟩
    · cases hc
  | .rng3 _ _ _, X, W, sc, e, R, hc => by rw [cI_rng3] at hc; cases hc
end
end
end M
end

section
set_option Elab.async false
set_option linter.all false
set_option autoImplicit false
set_option maxRecDepth 100000
set_option maxHeartbeats 4000000
/-! Snd14: statements: the evaluator says what the text does. -/
namespace M
open PySem PySem.Spec PyProof.Rows L2
def lcS : E → Bool
  | .comp _ _ _ _ => true
  | .comp2 _ _ _ _ _ _ => true
  | _ => false
def lcN : E → Bool
  | .new a => lcS a
  | s => lcS s
def isR1 : It → Bool
  | .rng1 _ => true
  | _ => false
mutual
def chkS (M : Nm) (N : List Str) : S → Scope → Stmt → Bool
  | .set i s => fun sc st => match st with
    | .Assign [.Name x _] v _ => decide (N[i]? = some x) && locB sc x && chkE M N s sc v && (okC v || lcN s)
    | _ => false
  | .setIx a b s => fun sc st => match st with
    | .Assign [.Subscript x y _] v _ => chkE M N a sc x && chkE M N b sc y && okE y && chkE M N s sc v && okE v
    | _ => false
  | .setFld a k s => fun sc st => match st with
    | .Assign [.Attribute x f _] v _ => chkE M N a sc x && decide (M.ats[k]? = some f) && chkE M N s sc v && okE v
    | _ => false
  | .app a s => fun sc st => match st with
    | .Expr (.Call (.Attribute x f p) [y] [] q) _ => decide (f = ("append" : Str)) && okE x && okE y && (p.endLine == q.line) && chkE M N a sc x && chkE M N s sc y
    | _ => false
  | .expr s => fun sc st => match st with
    | .Expr v _ => okC v && chkE M N s sc v
    | _ => false
  | .ret s => fun sc st => match st with
    | .Return (some v) _ => chkE M N s sc v
    | _ => false
  | .ret0 => fun _ st => match st with
    | .Return none _ => true
    | _ => false
  | .pass => fun _ st => match st with
    | .Pass _ => true
    | _ => false
  | .brk => fun _ st => match st with
    | .Break _ => true
    | _ => false
  | .cont => fun _ st => match st with
    | .Continue _ => true
    | _ => false
  | .ife c a b => fun sc st => match st with
    | .If z x y _ => chkE M N c sc z && noIte c && chkSs M N a sc x && chkSs M N b sc y
    | _ => false
  | .fore i it b => fun sc st => match st with
    | .For (.Name x _) z y [] _ => decide (N[i]? = some x) && locB sc x && chkI M N it sc z && chkSs M N b sc y && (!M.hot || isR1 it)
    | _ => false
  | .whil _ _ _ => fun _ _ => false
  | .nev => fun _ _ => true
  | .raise c es => fun sc st => match st with
    | .Raise (some (.Call (.Name x _) (y :: ys) [] _)) none _ => decide (M.ex[c]? = some (some x)) && glB sc x && okN x && chkEs M N es sc (y :: ys) && !M.hot
    | _ => false
  | .trye _ _ _ _ => fun _ _ => false
def chkSs (M : Nm) (N : List Str) : Ss → Scope → List Stmt → Bool
  | .nil => fun _ l => match l with
    | [] => true
    | _ => false
  | .cons s r => fun sc l => match l with
    | x :: xs => chkS M N s sc x && chkSs M N r sc xs
    | _ => false
end
/-! ### the equations of chkS -/
--EQS
theorem cS_set {M : Nm} {N : List Str} : ∀ i s sc st, chkS M N (.set i s) sc st = (match st with
    | .Assign [.Name x _] v _ => decide (N[i]? = some x) && locB sc x && chkE M N s sc v && (okC v || lcN s)
    | _ => false) := fun _ _ _ _ => rfl
theorem cS_setIx {M : Nm} {N : List Str} : ∀ a b s sc st, chkS M N (.setIx a b s) sc st = (match st with
    | .Assign [.Subscript x y _] v _ => chkE M N a sc x && chkE M N b sc y && okE y && chkE M N s sc v && okE v
    | _ => false) := fun _ _ _ _ _ => rfl
theorem cS_setFld {M : Nm} {N : List Str} : ∀ a k s sc st, chkS M N (.setFld a k s) sc st = (match st with
    | .Assign [.Attribute x f _] v _ => chkE M N a sc x && decide (M.ats[k]? = some f) && chkE M N s sc v && okE v
    | _ => false) := fun _ _ _ _ _ => rfl
theorem cS_app {M : Nm} {N : List Str} : ∀ a s sc st, chkS M N (.app a s) sc st = (match st with
    | .Expr (.Call (.Attribute x f p) [y] [] q) _ => decide (f = ("append" : Str)) && okE x && okE y && (p.endLine == q.line) && chkE M N a sc x && chkE M N s sc y
    | _ => false) := fun _ _ _ _ => rfl
theorem cS_expr {M : Nm} {N : List Str} : ∀ s sc st, chkS M N (.expr s) sc st = (match st with
    | .Expr v _ => okC v && chkE M N s sc v
    | _ => false) := fun _ _ _ => rfl
theorem cS_ret {M : Nm} {N : List Str} : ∀ s sc st, chkS M N (.ret s) sc st = (match st with
    | .Return (some v) _ => chkE M N s sc v
    | _ => false) := fun _ _ _ => rfl
theorem cS_ret0 {M : Nm} {N : List Str} : ∀ z1 st, chkS M N .ret0 z1 st = (match st with
    | .Return none _ => true
    | _ => false) := fun _ _ => rfl
theorem cS_pass {M : Nm} {N : List Str} : ∀ z1 st, chkS M N .pass z1 st = (match st with
    | .Pass _ => true
    | _ => false) := fun _ _ => rfl
theorem cS_brk {M : Nm} {N : List Str} : ∀ z1 st, chkS M N .brk z1 st = (match st with
    | .Break _ => true
    | _ => false) := fun _ _ => rfl
theorem cS_cont {M : Nm} {N : List Str} : ∀ z1 st, chkS M N .cont z1 st = (match st with
    | .Continue _ => true
    | _ => false) := fun _ _ => rfl
theorem cS_ife {M : Nm} {N : List Str} : ∀ c a b sc st, chkS M N (.ife c a b) sc st = (match st with
    | .If z x y _ => chkE M N c sc z && noIte c && chkSs M N a sc x && chkSs M N b sc y
    | _ => false) := fun _ _ _ _ _ => rfl
theorem cS_fore {M : Nm} {N : List Str} : ∀ i it b sc st, chkS M N (.fore i it b) sc st = (match st with
    | .For (.Name x _) z y [] _ => decide (N[i]? = some x) && locB sc x && chkI M N it sc z && chkSs M N b sc y && (!M.hot || isR1 it)
    | _ => false) := fun _ _ _ _ _ => rfl
theorem cS_whil {M : Nm} {N : List Str} : ∀ a0 a1 a2 z1 z2, chkS M N (.whil a0 a1 a2) z1 z2 = (false) := fun _ _ _ _ _ => rfl
theorem cS_nev {M : Nm} {N : List Str} : ∀ z1 z2, chkS M N .nev z1 z2 = (true) := fun _ _ => rfl
theorem cS_raise {M : Nm} {N : List Str} : ∀ c es sc st, chkS M N (.raise c es) sc st = (match st with
    | .Raise (some (.Call (.Name x _) (y :: ys) [] _)) none _ => decide (M.ex[c]? = some (some x)) && glB sc x && okN x && chkEs M N es sc (y :: ys) && !M.hot
    | _ => false) := fun _ _ _ _ => rfl
theorem cS_trye {M : Nm} {N : List Str} : ∀ a0 a1 a2 a3 z1 z2, chkS M N (.trye a0 a1 a2 a3) z1 z2 = (false) := fun _ _ _ _ _ _ => rfl
theorem cSs_nil {M : Nm} {N : List Str} : ∀ z1 l, chkSs M N .nil z1 l = (match l with
    | [] => true
    | _ => false) := fun _ _ => rfl
theorem cSs_cons {M : Nm} {N : List Str} : ∀ s r sc l, chkSs M N (.cons s r) sc l = (match l with
    | x :: xs => chkS M N s sc x && chkSs M N r sc xs
    | _ => false) := fun _ _ _ _ => rfl
--EQE
/-- a def's body: besides, every name may be stored -/
structure Rb (X : Cx) (C : Pc) (T : Tb) (M : Nm) (N : List Str) (call : Nat → List D → Hs → RE) (W : WX) (sc : Scope) : Prop where
  rt : Rt X C T M N call W sc
  fnT : ∀ x, X.fn x = true
  own : PassesOwn (model X.prog X.w) X.A X.env X.xe
  kind : sc.kind = .function
  hs : X.stack = X.env :: X.outer
  hf : X.env.frame = some X.env.locals
theorem sw_att {e o : Expr} {f : Str} {p : Pos} {l : Nat} {env : Env} (h : okE e = true) : swapsWith e (some (.Attribute o f p)) l env = pure false := by cases e <;> first | rfl | cases h
theorem sw_sub {e a b : Expr} {p : Pos} {l : Nat} {env : Env} (h : okE e = true) : swapsWithSole [.Subscript a b p] e l env = pure false := by cases e <;> first | rfl | cases h
theorem asg_ok {a b : Expr} {p : Pos} {env : Env} (h : okE b = true) (v : Value) : assign (.Subscript a b p) env v = (do
      let ov ← holding [v] (eval a env)
      let iv ← holding [v, ov] (eval b env)
      standAt p
      holding [v, ov, iv] (setItem ov iv v)
      release [v, ov, iv] []) := by cases b <;> first | rfl | cases h
theorem sw_lc {elt : Expr} {gs : List Comprehension} {scope : Scope} {pos py : Pos} {y : Str} {l : Nat} {env : Env} (hk : env.scope.kind = .function) :
    swapsWith (.ListComp elt gs scope pos) (some (.Name y py)) l env = pure (decide (env.scope.names.lookup y = some .local) && (py.line == pos.line) && !(scope.names.any fun (n, k) => n == y && (k == .local || k == .cell))) := by
  have hb : env.blockKind = .function := by unfold Env.blockKind; rw [hk]; rfl
  unfold swapsWith
  simp only [hb, Expr.pos]
  have e1 : (env.kindOf y == some .local) = decide (env.scope.names.lookup y = some .local) := by
    unfold Env.kindOf
    cases env.scope.names.lookup y with
    | none => rfl
    | some k => cases k <;> rfl
  rw [e1]
  rfl
section
variable {C : Pc} {T : Tb} {M : Nm} {N : List Str} {call : Nat → List D → Hs → RE} {W : WX} {X : Cx} {sc : Scope}
theorem set_lc {s : E} (hs : lcS s = true) {elt : Expr} {gs : List Comprehension} {scope : Scope} {pos py spos : Pos} {y : Str} {k : Nat} (R : Rt X C T M N call W sc) (hc : chkE M N s sc (.ListComp elt gs scope pos) = true) (hy : X.N[k]? = some y) (hyl : X.env.scope.names.lookup y = some .local)
    (hsw : swapsWith (.ListComp elt gs scope pos) (some (.Name y py)) spos.line X.env = pure true) : PS X (.Assign [.Name y py] (.ListComp elt gs scope pos) spos) (tAsg (tF C T W fun ρ h => evE T call s ρ h) (gName k)) := by
  cases s <;> first | (exact absurd hs Bool.false_ne_true) | skip
  · rename_i i it cd el
    rw [cE_comp] at hc
    split at hc
    · rename_i elt x px iter ifs scope pos heq
      cases heq
      simp only [Bool.and_eq_true, decide_eq_true_eq] at hc
      obtain ⟨⟨⟨⟨⟨⟨⟨h0, h1⟩, h2⟩, h3⟩, h4⟩, h5⟩, h6⟩, h7⟩ := hc
      have h0 : M.hot = false := by simpa using h0
      obtain ⟨hi, hio⟩ := sndI it X W sc _ R h1
      have ht : ∀ (s : Shared) (H : Hp) (c : Addr) (cl : List (Str × Addr)) (fp : List Addr), PTs (X.blk s H scope (compEnvC scope cl c X.env) fp) ifs (tB (tE C T WF fun ρ h => evE T call cd ρ h)) := fun s H c cl fp => by
        split at h6
        · split at h6
          · exact pts_yes
          · cases h6
        · rw [Bool.and_eq_true] at h6
          exact pts_one ((sndE cd _ WF _ _ (R.blk h0 s H scope cl c fp) h6.1).pt h6.2)
        · cases h6
      exact psImp (ps_setLc (R.wd.calm h0) (by rw [R.hN]; exact R.nd) hy hyl hsw (hi (.Name x px)) (blkOk_by (own := [(x, i)]) (by rw [R.hN, R.hsc]; exact h2)) (fun s H c cl fp => blk_pg R h0 h3 h4 h5) ht
        (fun s H c cl fp => (sndE el _ WF _ _ (R.blk h0 s H scope cl c fp) h7).pe) (folded_ok hio)) fun D σ H z => lc_tr z
    · cases hc
  · rename_i i it j jt cd el
    rw [cE_comp2] at hc
    split at hc
    · rename_i elt x px iter y2 py2 iter2 ifs scope pos heq
      cases heq
      simp only [Bool.and_eq_true, decide_eq_true_eq] at hc
      obtain ⟨⟨⟨⟨⟨⟨⟨⟨⟨⟨⟨⟨h0, hij⟩, h1⟩, h2⟩, h3⟩, h4⟩, h5⟩, k3⟩, k4⟩, k5⟩, k1⟩, h6⟩, h7⟩ := hc
      have h0 : M.hot = false := by simpa using h0
      obtain ⟨hi, hio⟩ := sndI it X W sc _ R h1
      have ht : ∀ (s : Shared) (H : Hp) (c : Addr) (cl : List (Str × Addr)) (fp : List Addr), PTs (X.blk s H scope (compEnvC scope cl c X.env) fp) ifs (tB (tE C T WF fun ρ h => evE T call cd ρ h)) := fun s H c cl fp => by
        split at h6
        · split at h6
          · exact pts_yes
          · cases h6
        · rw [Bool.and_eq_true] at h6
          exact pts_one ((sndE cd _ WF _ _ (R.blk h0 s H scope cl c fp) h6.1).pt h6.2)
        · cases h6
      have hv : ∀ k ∈ [j], k ∈ [(x, i), (y2, j)].map (·.2) := fun k hk => by
        have e1 : k = j := by simpa using hk
        simp [e1]
      exact psImp (ps_setLc2 (vs1 := [j]) (R.wd.calm h0) (by rw [R.hN]; exact R.nd) hy hyl hsw (hi (.Name x px)) (blkOk_by (own := [(x, i), (y2, j)]) (by rw [R.hN, R.hsc]; exact h2)) hv (fun s H c cl fp => blk_pg R h0 h3 h4 h5) (fun _ _ _ _ _ => pts_nil)
        (fun s H c cl fp => (sndI jt _ WF _ _ (R.blk h0 s H scope cl c fp) k1).1 (.Name y2 py2)) (fun s H c cl fp => blk_pg R h0 k3 k4 k5) ht
        (fun s H c cl fp => (sndE el _ WF _ _ (R.blk h0 s H scope cl c fp) h7).pe) (folded_ok hio) (fun env => folded_ok (chkI_ok k1))) fun D σ H z => lc2_tr hij z
    · cases hc
theorem tF_of {r : Rho → Hs → RE} {σ : L2.St} {H : Hp} {Q : VK} : tE C T W r σ H Q → tF C T W r σ H Q := fun ⟨Av, ρ, h, m, a, w⟩ => ⟨Av, ρ, h, m, a, AftF.of a.sr w⟩
theorem evE_new {a : E} (h : fresh a = true) : (fun (ρ : Rho) (h : Hs) => evE T call (.new a) ρ h) = fun ρ h => (evE T call a ρ h).bind fun x h => .ok (.ref h.length) (h ++ [.opn x]) := by
  funext ρ hh
  show (if fresh a then (evE T call a ρ hh).bind fun x h => .ok (.ref h.length) (h ++ [.opn x]) else .bad) = _
  rw [if_pos h]
theorem lcS_fresh {s : E} (h : lcS s = true) : fresh s = true := by cases s <;> first | rfl | cases h
theorem snd_set {i : Nat} {s : E} {x : Str} {px : Pos} {v : Expr} {pos : Pos} (R : Rb X C T M N call W sc) (h1 : N[i]? = some x) (h2 : locB sc x = true) (h3 : chkE M N s sc v = true) (h4 : (okC v || lcN s) = true) :
    PS X (.Assign [.Name x px] v pos) (tS C T W fun ρ h => (evE T call s ρ h).st ρ fun d h => .nx (ρ.set i (some d)) h) := by
  have hN : X.N.Nodup := by rw [R.rt.hN]; exact R.rt.nd
  have hi : X.N[i]? = some x := by rw [R.rt.hN]; exact h1
  have hx : Loc X.env.scope x := by rw [R.rt.hsc]; exact loc_ok h2
  have rs := sndE s X W sc v R.rt h3
  by_cases ho : okC v = true
  · exact ps_setC hN hi hx rs.pe (sw_ok ho) (.inl (R.fnT x))
  · have hl : lcN s = true := by
      rw [Bool.or_eq_true] at h4
      exact h4.resolve_left ho
    by_cases hw : swapsWith v (some (.Name x px)) pos.line X.env = pure false
    · exact ps_setC hN hi hx rs.pe hw (.inl (R.fnT x))
    · cases v <;> first | (exact absurd rfl ho) | skip
      · rename_i elt gs scope p
        rw [sw_lc (by rw [R.rt.hsc]; exact R.kind)] at hw
        have hb : (decide (X.env.scope.names.lookup x = some .local) && (px.line == p.line) && !(scope.names.any fun (n, k) => n == x && (k == .local || k == .cell))) = true := by
          cases q : (decide (X.env.scope.names.lookup x = some .local) && (px.line == p.line) && !(scope.names.any fun (n, k) => n == x && (k == .local || k == .cell))) with
          | true => rfl
          | false => rw [q] at hw; exact absurd rfl hw
        have hsw : swapsWith (.ListComp elt gs scope p) (some (.Name x px)) pos.line X.env = pure true := by
          rw [sw_lc (by rw [R.rt.hsc]; exact R.kind), hb]
        have hyl : X.env.scope.names.lookup x = some .local := by
          rw [Bool.and_eq_true, Bool.and_eq_true] at hb
          exact of_decide_eq_true hb.1.1
        by_cases hn : lcS s = true
        · exact psImp (set_lc hn R.rt h3 hi hyl hsw) fun D σ H z => tF_of (set_tr z)
        · cases s <;> first | (exact absurd hl (by first | exact hn | exact Bool.false_ne_true)) | skip
          rename_i a
          rw [cE_new, Bool.and_eq_true] at h3
          have ha : lcS a = true := hl
          refine psImp (set_lc ha R.rt h3.2 hi hyl hsw) fun D σ H z => ?_
          have z2 := set_tr (C := C) (T := T) (W := W) (ra := fun ρ h => evE T call (.new a) ρ h) z
          rw [evE_new h3.1] at z2
          exact new_tr z2
      · rename_i elt gs scope p
        exact absurd (show swapsWith (.SetComp elt gs scope p) (some (.Name x px)) pos.line X.env = swapsWith (.SetComp elt gs scope p) (some (.Name x px)) pos.line X.env from rfl) (fun _ => by
          cases s <;> first
            | (exact absurd hl Bool.false_ne_true)
            | (rw [cE_comp] at h3; exact absurd h3 Bool.false_ne_true)
            | (rw [cE_comp2] at h3; exact absurd h3 Bool.false_ne_true)
            | (rename_i a
               rw [cE_new, Bool.and_eq_true] at h3
               have ha : lcS a = true := hl
               have h3 := h3.2
               cases a <;> first
                 | (exact absurd ha Bool.false_ne_true)
                 | (rw [cE_comp] at h3; exact absurd h3 Bool.false_ne_true)
                 | (rw [cE_comp2] at h3; exact absurd h3 Bool.false_ne_true)))
      · rename_i elt gs scope p
        exact absurd rfl (fun (_ : (1 : Nat) = 1) => by
          cases s <;> first
            | (exact absurd hl Bool.false_ne_true)
            | (rw [cE_comp] at h3; exact absurd h3 Bool.false_ne_true)
            | (rw [cE_comp2] at h3; exact absurd h3 Bool.false_ne_true)
            | (rename_i a
               rw [cE_new, Bool.and_eq_true] at h3
               have ha : lcS a = true := hl
               have h3 := h3.2
               cases a <;> first
                 | (exact absurd ha Bool.false_ne_true)
                 | (rw [cE_comp] at h3; exact absurd h3 Bool.false_ne_true)
                 | (rw [cE_comp2] at h3; exact absurd h3 Bool.false_ne_true)))
theorem snd_forH {i : Nat} {it : It} {b : Ss} {x : Str} {px : Pos} {z : Expr} {y : List Stmt} {pos : Pos} (R : Rb X C T M N call W sc) (hot : M.hot = true) (h1 : N[i]? = some x) (h2 : locB sc x = true) (h3 : chkI M N it sc z = true) (h0 : isR1 it = true)
    (hb : PSs X y (tS C T W fun ρ h => evSs T call b ρ h)) : PS X (.For (.Name x px) z y [] pos) (tS C T W fun ρ h => evS T call (.fore i it b) ρ h) := by
  cases it with
  | rng1 a =>
    rw [cI_rng1] at h3
    split at h3
    · rename_i f pf e p2
      simp only [Bool.and_eq_true, decide_eq_true_eq] at h3
      obtain ⟨⟨⟨g1, g2⟩, g3⟩, g4⟩ := h3
      subst g1
      exact psImp (L2H.ps_forH R.own (R.rt.wd.hotc hot) (pih_rng1C (gl_ok R.rt.hsc g2) (R.rt.wd.bl _ (by decide +kernel)) (sndE a X W sc _ R.rt g4).pe (star_ok g3)) (pg_name (by rw [R.rt.hN]; exact R.rt.nd) (by rw [R.rt.hN]; exact h1) (by rw [R.rt.hsc]; exact loc_ok h2) (.inl (R.fnT _))) hb (folded_ok rfl)) fun D σ H z => for_tr z
    · cases h3
  | _ => cases h0
mutual
theorem sndS : ∀ (s : S) (X : Cx) (W : WX) (st : Stmt), Rb X C T M N call W sc → chkS M N s sc st = true → PS X st (tS C T W fun ρ h => evS T call s ρ h)
  | .set i s, X, W, st, R, hc => by
    rw [cS_set] at hc
    split at hc
    · simp only [Bool.and_eq_true, decide_eq_true_eq] at hc
      obtain ⟨⟨⟨h1, h2⟩, h3⟩, h4⟩ := hc
      exact snd_set R h1 h2 h3 h4
    · cases hc
  | .setIx a b s, X, W, st, R, hc => by
    rw [cS_setIx] at hc
    split at hc
    · simp only [Bool.and_eq_true, decide_eq_true_eq] at hc
      obtain ⟨⟨⟨⟨h1, h2⟩, h3⟩, h4⟩, h5⟩ := hc
      exact ps_setIxC R.rt.wd.on (sndE s X W sc _ R.rt h4).pe (sndE a X W sc _ R.rt h1).pe (sndE b X W sc _ R.rt h2).pe (asg_ok h3) (sw_sub h5)
    · cases hc
  | .setFld a k s, X, W, st, R, hc => by
    rw [cS_setFld] at hc
    split at hc
    · simp only [Bool.and_eq_true, decide_eq_true_eq] at hc
      obtain ⟨⟨⟨h1, h2⟩, h3⟩, h4⟩ := hc
      rename_i x f pf v pos
      have hf : f = C.nm k := by
        rw [R.rt.wd.ats] at h2
        unfold Pc.nm
        rw [List.getD_eq_getElem?_getD, h2]
        rfl
      subst hf
      exact ps_fldC R.rt.wd.ck (sndE s X W sc _ R.rt h3).pe (sndE a X W sc _ R.rt h1).pe (sw_att h4)
    · cases hc
  | .app a s, X, W, st, R, hc => by
    rw [cS_app] at hc
    split at hc
    · simp only [Bool.and_eq_true, decide_eq_true_eq] at hc
      obtain ⟨⟨⟨⟨⟨h1, h2⟩, h3⟩, h4⟩, h5⟩, h6⟩ := hc
      subst h1
      exact ps_appC (sndE a X W sc _ R.rt h5).pe (sndE s X W sc _ R.rt h6).pe rfl (base_ok h2) h4 (by rw [star_ok h3]; rfl) (star_ok h3) rfl
    · cases hc
  | .expr s, X, W, st, R, hc => by
    rw [cS_expr] at hc
    split at hc
    · rw [Bool.and_eq_true] at hc
      exact ps_exprC (sndE s X W sc _ R.rt hc.2).pe (sw_ok hc.1)
    · cases hc
  | .ret s, X, W, st, R, hc => by
    rw [cS_ret] at hc
    split at hc
    · exact ps_retC (sndE s X W sc _ R.rt hc).pe
    · cases hc
  | .ret0, X, W, st, R, hc => by
    rw [cS_ret0] at hc
    split at hc
    · exact ps_ret0C
    · cases hc
  | .pass, X, W, st, R, hc => by
    rw [cS_pass] at hc
    split at hc
    · exact ps_passC
    · cases hc
  | .brk, X, W, st, R, hc => by
    rw [cS_brk] at hc
    split at hc
    · exact ps_brkC
    · cases hc
  | .cont, X, W, st, R, hc => by
    rw [cS_cont] at hc
    split at hc
    · exact ps_ctC
    · cases hc
  | .ife c a b, X, W, st, R, hc => by
    rw [cS_ife] at hc
    split at hc
    · simp only [Bool.and_eq_true] at hc
      obtain ⟨⟨⟨h1, h2⟩, h3⟩, h4⟩ := hc
      exact ps_ifC ((sndE c X W sc _ R.rt h1).pt h2) (sndSs a X W _ R h3) (sndSs b X W _ R h4)
    · cases hc
  | .fore i it b, X, W, st, R, hc => by
    rw [cS_fore] at hc
    split at hc
    · simp only [Bool.and_eq_true, decide_eq_true_eq] at hc
      obtain ⟨⟨⟨⟨h1, h2⟩, h3⟩, h4⟩, h0⟩ := hc
      by_cases hot : M.hot = true
      · rw [hot] at h0
        exact snd_forH R hot h1 h2 h3 (by simpa using h0) (sndSs b X W _ R h4)
      have hot : M.hot = false := by simpa using hot
      obtain ⟨hi, hio⟩ := sndI it X W sc _ R.rt h3
      exact psImp (ps_for R.own (R.rt.wd.calm hot) (hi _) (pg_name (by rw [R.rt.hN]; exact R.rt.nd) (by rw [R.rt.hN]; exact h1) (by rw [R.rt.hsc]; exact loc_ok h2) (.inl (R.fnT _))) (sndSs b X W _ R h4) (folded_ok hio)) fun D σ H z => for_tr z
    · cases hc
  | .whil _ _ _, X, W, st, R, hc => by rw [cS_whil] at hc; cases hc
  | .nev, X, W, st, R, hc => ⟨fun pins s σ H D I ⟨_, _, _, _, _, w⟩ => w.elim⟩
  | .raise c es, X, W, st, R, hc => by
    rw [cS_raise] at hc
    split at hc
    · rename_i x px y ys p1 p2
      simp only [Bool.and_eq_true, decide_eq_true_eq] at hc
      obtain ⟨⟨⟨⟨h1, h2⟩, h3⟩, h4⟩, h0⟩ := hc
      have h0 : M.hot = false := by simpa using h0
      have ok := chkEs_ok h4
      obtain ⟨Cl, fI, fd, ps, f1, f2, f3, f4, f5, f6, f7⟩ := R.rt.wd.exc c x h1
      exact psImp (L2N.ps_raise (R.rt.wd.calm h0) R.rt.tk (pmk_oexN f3 f4 f5 f7 ((R.rt.wd.rm h0).mono (by omega)) f6 .nil passN (gl_ok R.rt.hsc h2) f2 (sndEs es X W sc _ R.rt h4) (okN_ok h3).1 (star_ok (ok y (by simp))) (any_star fun e he => ok e (by simp [he])))) fun D σ H z => raise_tr f1 z
    · cases hc
  | .trye _ _ _ _, X, W, st, R, hc => by rw [cS_trye] at hc; cases hc
theorem sndSs : ∀ (s : Ss) (X : Cx) (W : WX) (st : List Stmt), Rb X C T M N call W sc → chkSs M N s sc st = true → PSs X st (tS C T W fun ρ h => evSs T call s ρ h)
  | .nil, X, W, st, R, hc => by
    rw [cSs_nil] at hc
    split at hc
    · exact pss_nilC
    · cases hc
  | .cons s r, X, W, st, R, hc => by
    rw [cSs_cons] at hc
    split at hc
    · rw [Bool.and_eq_true] at hc
      exact pss_consC (sndS s X W _ R hc.1) (sndSs r X W _ R hc.2)
    · cases hc
end
end
end M
end

section
set_option Elab.async false
set_option linter.all false
set_option autoImplicit false
set_option maxRecDepth 100000
set_option maxHeartbeats 4000000
/-! Tryx: statements with try .. except X as n. -/
namespace M
open PySem PySem.Spec PyProof.Rows L2
mutual
def chkT (M : Nm) (N : List Str) : S → Scope → Stmt → Bool
  | .trye b c i s => fun sc st => match st with
    | .Try body [.ExceptHandler (some (.Name x _)) (some n) (b0 :: su) _] [] [] _ => !M.hot && decide (N[i]? = some n) && decide (sc.names.lookup n = some .local) && glB sc x && okN x && decide (M.xn[c]? = some (some x)) && chkTs M N b sc body && chkSs (M.heat true) N s sc (b0 :: su)
    | _ => false
  | .ife c a b => fun sc st => match st with
    | .If z x y _ => chkE M N c sc z && noIte c && chkTs M N a sc x && chkTs M N b sc y
    | _ => false
  | .fore i it b => fun sc st => match st with
    | .For (.Name x _) z y [] _ => decide (N[i]? = some x) && locB sc x && chkI M N it sc z && chkTs M N b sc y && (!M.hot || isR1 it)
    | _ => false
  | s => fun sc st => chkS M N s sc st
def chkTs (M : Nm) (N : List Str) : Ss → Scope → List Stmt → Bool
  | .nil => fun _ l => match l with
    | [] => true
    | _ => false
  | .cons s r => fun sc l => match l with
    | x :: xs => chkT M N s sc x && chkTs M N r sc xs
    | _ => false
end
section
variable {C : Pc} {T : Tb} {M : Nm} {N : List Str} {call : Nat → List D → Hs → RE} {W : WX} {X : Cx} {sc : Scope}
theorem cT_trye : ∀ b c i s sc st, chkT M N (.trye b c i s) sc st = (match st with
    | .Try body [.ExceptHandler (some (.Name x _)) (some n) (b0 :: su) _] [] [] _ => !M.hot && decide (N[i]? = some n) && decide (sc.names.lookup n = some .local) && glB sc x && okN x && decide (M.xn[c]? = some (some x)) && chkTs M N b sc body && chkSs (M.heat true) N s sc (b0 :: su)
    | _ => false) := fun _ _ _ _ _ _ => rfl
theorem cT_ife : ∀ c a b sc st, chkT M N (.ife c a b) sc st = (match st with
    | .If z x y _ => chkE M N c sc z && noIte c && chkTs M N a sc x && chkTs M N b sc y
    | _ => false) := fun _ _ _ _ _ => rfl
theorem cT_fore : ∀ i it b sc st, chkT M N (.fore i it b) sc st = (match st with
    | .For (.Name x _) z y [] _ => decide (N[i]? = some x) && locB sc x && chkI M N it sc z && chkTs M N b sc y && (!M.hot || isR1 it)
    | _ => false) := fun _ _ _ _ _ => rfl
theorem cTs_nil : ∀ sc l, chkTs M N .nil sc l = (match l with
    | [] => true
    | _ => false) := fun _ _ => rfl
theorem cTs_cons : ∀ s r sc l, chkTs M N (.cons s r) sc l = (match l with
    | x :: xs => chkT M N s sc x && chkTs M N r sc xs
    | _ => false) := fun _ _ _ _ => rfl
theorem Rb.tr {W' : WX} (R : Rb X C T M N call W sc) {pn : List (Addr × Obj)} {xe : Value → Shared → Prop} (tk : L2N.Takes (X.tr pn xe) W') (po : PassesOwn (model X.prog X.w) X.A X.env xe) (h0 : M.hot = false) : Rb (X.tr pn xe) C T M N call W' sc :=
  have r := R.rt
  ⟨⟨⟨⟨r.wd.on.P, r.wd.on.w, r.wd.on.K, r.wd.on.u⟩, (fun _ => r.wd.calm h0), ⟨r.wd.ck.nd, r.wd.ck.at_⟩, r.wd.ats, r.wd.bl, fun f x hx => (by obtain ⟨fd, ps, e1, e2, e3, e4⟩ := r.wd.fn f x hx; exact ⟨fd, ps, e1, e2, e3, e4.imp id fun z => absurd (z.1.symm.trans h0) (by decide)⟩), r.wd.mak, (fun _ => r.wd.inst h0), fun f x h1 h2 => ⟨(r.wd.sk f x h1 h2).ex, (r.wd.sk f x h1 h2).val⟩, (fun _ => r.wd.rm h0), (fun z => absurd (z.symm.trans h0) (by decide)), r.wd.xg, (fun z => absurd (z.symm.trans h0) (by decide)), (fun _ => r.wd.cn h0), (fun _ => r.wd.xk h0), (fun _ => r.wd.xv h0), (fun _ => r.wd.hf h0), r.wd.exc⟩, r.hsc, r.hN, r.nd, tk⟩, R.fnT, po, R.kind, R.hs, R.hf⟩
theorem Rb.kind_of (R : Rb X C T M N call W sc) {n : Str} (h : sc.names.lookup n = some .local) : X.env.kindOf n = some .local := by
  unfold Env.kindOf
  rw [R.rt.hsc, h]
/-- the suite -/
theorem snd_suite {s : Ss} {st : List Stmt} (R : Rb X C T M N call W sc) (h0 : M.hot = false) (hc : chkSs (M.heat true) N s sc st = true) (a : Addr) (oe : Obj) (cls : Value) (d : Option Addr) (pn : List (Addr × Obj)) (hz : L2N.Zn cls d oe) (hf : ∃ vs, oe.data = .fields vs) :
    PSs (X.suite a ((a, oe) :: pn)) st (tsX C T (fun ρ h => evSs T call s ρ h) a cls d) := ⟨fun pins sh σ H D I ⟨dd, e, Cl, ed, ec, e1, e2, z⟩ => by
  subst ed ec
  have K0 := R.rt.wd.xk h0 e Cl e1 e2
  obtain ⟨vs, hv⟩ := hf
  have hot : L2H.HotC (X.suite a ((a, oe) :: pn)) := ⟨(a, oe), ⟨rfl, vs, hv, hz.2.2 vs hv⟩, List.mem_cons_self⟩
  have wd : Wd (X.suite a ((a, oe) :: pn)) (C.at_ a dd e Cl.flds) T (M.heat true) call :=
    ⟨⟨R.rt.wd.on.P, R.rt.wd.on.w, R.rt.wd.on.K, R.rt.wd.on.u⟩, fun z => (nomatch z), ⟨R.rt.wd.ck.nd, R.rt.wd.ck.at_⟩, R.rt.wd.ats, R.rt.wd.bl, fun f x hx => by
        obtain ⟨fd, ps, f1, f2, f3, k, f4, f5⟩ := R.rt.wd.hf h0 a dd e Cl.flds f x hx
        exact ⟨fd, ps, f1, f2, f3, .inr ⟨rfl, k, f4, ⟨f5.dp, f5.un⟩⟩⟩,
      fun c x hx => (by simp [Nm.heat] at hx), fun z => (nomatch z), fun f' x h1 h2 => (by simp [Nm.heat] at h2), fun z => (nomatch z), fun _ => hot, R.rt.wd.xg,
      fun _ _ => ⟨R.rt.wd.xv h0, a, dd, e, Cl.flds, rfl, ⟨X, oe, pn, rfl, hz.zc, vs, hv⟩, ⟨Cl, e1, rfl, K0.kit⟩, K0.ve, K0.xf, K0.xc, K0.no⟩,
      fun z => (nomatch z), fun z => (nomatch z), fun z => (nomatch z), fun z => (nomatch z), fun c x hx => (by simp [Nm.heat] at hx)⟩
  exact (sndSs s _ _ st ⟨⟨wd, R.rt.hsc, R.rt.hN, R.rt.nd, _root_.M.takes0⟩, R.fnT, PassesOwn.never, R.kind, R.hs, R.hf⟩ hc).run pins sh σ H D I z⟩
mutual
theorem sndT : ∀ (s : S) (X : Cx) (W : WX) (st : Stmt), Rb X C T M N call W sc → chkT M N s sc st = true → PS X st (tS C T W fun ρ h => evS T call s ρ h)
  | .trye b c i s, X, W, st, R, hc => by
    rw [cT_trye] at hc
    split at hc
    · simp only [Bool.and_eq_true, decide_eq_true_eq, Bool.not_eq_true'] at hc
      obtain ⟨⟨⟨⟨⟨⟨⟨h0, h1⟩, h2⟩, h3⟩, h4⟩, h5⟩, h6⟩, h7⟩ := hc
      refine psImp (L2N.ps_try_as (i := i) (c := .ref (C.cad c)) R.hs R.hf (by rw [R.rt.hN]; exact R.rt.nd) (by rw [R.rt.hN]; exact h1) (R.kind_of h2) ⟨gl_ok R.rt.hsc h3, (okN_ok h4).1, .inl (R.rt.wd.xg c _ h5)⟩ R.rt.tk
        (fun W' pn xe tk po => sndTs b _ W' _ (R.tr tk po h0) h6) (fun a oe cls d pn hz hf => snd_suite R h0 h7 a oe cls d pn hz hf)) fun D σ H z => try_tr (R.rt.wd.cn h0) (fun e Cl e1 e2 => (R.rt.wd.xk h0 e Cl e1 e2).exm c _ h5) z
    · cases hc
  | .ife c a b, X, W, st, R, hc => by
    rw [cT_ife] at hc
    split at hc
    · simp only [Bool.and_eq_true] at hc
      obtain ⟨⟨⟨h1, h2⟩, h3⟩, h4⟩ := hc
      exact ps_ifC ((sndE c X W sc _ R.rt h1).pt h2) (sndTs a X W _ R h3) (sndTs b X W _ R h4)
    · cases hc
  | .fore i it b, X, W, st, R, hc => by
    rw [cT_fore] at hc
    split at hc
    · simp only [Bool.and_eq_true, decide_eq_true_eq] at hc
      obtain ⟨⟨⟨⟨h1, h2⟩, h3⟩, h4⟩, h0⟩ := hc
      by_cases hot : M.hot = true
      · rw [hot] at h0
        exact snd_forH R hot h1 h2 h3 (by simpa using h0) (sndTs b X W _ R h4)
      have hot : M.hot = false := by simpa using hot
      obtain ⟨hi, hio⟩ := sndI it X W sc _ R.rt h3
      exact psImp (ps_for R.own (R.rt.wd.calm hot) (hi _) (pg_name (by rw [R.rt.hN]; exact R.rt.nd) (by rw [R.rt.hN]; exact h1) (by rw [R.rt.hsc]; exact loc_ok h2) (.inl (R.fnT _))) (sndTs b X W _ R h4) (folded_ok hio)) fun D σ H z => for_tr z
    · cases hc
  | .set i s, X, W, st, R, hc => sndS _ X W st R hc
  | .setIx a b s, X, W, st, R, hc => sndS _ X W st R hc
  | .setFld a k s, X, W, st, R, hc => sndS _ X W st R hc
  | .app a s, X, W, st, R, hc => sndS _ X W st R hc
  | .expr s, X, W, st, R, hc => sndS _ X W st R hc
  | .ret s, X, W, st, R, hc => sndS _ X W st R hc
  | .ret0, X, W, st, R, hc => sndS _ X W st R hc
  | .pass, X, W, st, R, hc => sndS _ X W st R hc
  | .brk, X, W, st, R, hc => sndS _ X W st R hc
  | .cont, X, W, st, R, hc => sndS _ X W st R hc
  | .whil a b c, X, W, st, R, hc => sndS _ X W st R hc
  | .nev, X, W, st, R, hc => sndS _ X W st R hc
  | .raise c es, X, W, st, R, hc => sndS _ X W st R hc
theorem sndTs : ∀ (s : Ss) (X : Cx) (W : WX) (st : List Stmt), Rb X C T M N call W sc → chkTs M N s sc st = true → PSs X st (tS C T W fun ρ h => evSs T call s ρ h)
  | .nil, X, W, st, R, hc => by
    rw [cTs_nil] at hc
    split at hc
    · exact pss_nilC
    · cases hc
  | .cons s r, X, W, st, R, hc => by
    rw [cTs_cons] at hc
    split at hc
    · rw [Bool.and_eq_true] at hc
      exact pss_consC (sndT s X W _ R hc.1) (sndTs r X W _ R hc.2)
    · cases hc
end
end
end M
end

section
set_option Elab.async false
set_option linter.all false
set_option autoImplicit false
set_option maxRecDepth 100000
set_option maxHeartbeats 4000000
/-! Snd15: defs. -/
namespace M
open PySem PySem.Spec PyProof.Rows L2
section
variable {C : Pc} {T : Tb} {M : Nm} {N : List Str} {call : Nat → List D → Hs → RE} {W : WX} {X : Cx} {sc : Scope}
variable {Av Av' : Addr → Prop} {m m1 m' : List Addr} {h h1 h' : Hs} {H H1 H' : Hp} {σ : L2.St} {ρ : Rho} {lv lv' : Addr → Prop}
/-- the slots at a def's entry -/
theorem start_at {ns : Nat} {N : List Str} {ds : List D} {vs : List V} (S : SR C Av m h H) (r : RVs C (lvs Av m h) m H ds vs) (hn : ns = N.length) (hl : ds.length ≤ ns) : At C Av (_root_.M.start ns ds) h m (L2.start N vs) H := by
  have hlen := r.length
  refine ⟨S, fun i d e => ?_, ?_⟩
  · unfold _root_.M.start at e
    unfold L2.start
    by_cases hi : i < ds.length
    · rw [List.getElem?_append_left (by rw [List.length_map]; exact hi), List.getElem?_map] at e
      obtain ⟨d', e1, e2⟩ := Option.map_eq_some_iff.mp e
      cases e2
      obtain ⟨v, e3, r3⟩ := r.get e1
      exact ⟨v, by rw [List.getElem?_append_left (by rw [List.length_map, ← hlen]; exact hi), List.getElem?_map, e3]; rfl, r3⟩
    · rw [List.getElem?_append_right (by rw [List.length_map]; omega), List.getElem?_replicate] at e
      split at e <;> cases e
  · unfold _root_.M.start L2.start
    rw [List.length_append, List.length_append, List.length_map, List.length_map, List.length_replicate, List.length_replicate]
    omega
/-- behind a body -/
theorem body_end {r : RS} {Q : VK} {E : XK} (a : Aft C T (fun c d _ H => E c d H) Av m h H [] (fnRes r) Q) : AftS C T (fun c d _ H => E c d H) Av m h H r { nx := fun _ H' => Q .non H', rt := Q } := by
  cases r with
  | nx ρ' h' => exact fun σ' m' H' s k => a .non m' H' s.sr k .non
  | rt d h' => exact a
  | exc c vs ρ' h' => exact fun cls d σ' m' H' s k x => a cls d m' H' s.sr k x
  | bk => exact a.elim
  | ct => exact a.elim
  | bad => exact a
/-- what a def's row gives -/
structure DefOk (K : PySem.W.Frag) (C : Pc) (M : Nm) (f : Nat) (F : Fn) (fd : FuncData) (ps : List Str) : Prop where
  ex : ∃ (N : List Str) (name qual : Str) (params : Arguments) (body : List Stmt) (scope : Scope), FunD K name qual params body scope [] [] (C.fad f) fd ∧ FnScope N ps scope ∧ F.np = ps.length ∧ F.ns = N.length ∧ chkTs M N F.body scope body = true
  binds : Binds K fd ps []
structure Pg (P : Program) (w : World) (K : PySem.W.Frag) (mg : Str → Option Value) (base : Heap) (C : Pc) (T : Tb) (Mn : Nm) : Prop where
  hP : P = C.P
  hw : w = C.w
  hK : K = C.K
  ck : ∀ X : Cx, X.K = K → ClsOk X C T
  ats : Mn.ats = C.attrs
  bl : ∀ x, x ∈ blts → mg x = none
  hot : Mn.hot = false
  xg : ∀ (c : Nat) (z : Str), Mn.xn[c]? = some (some z) → mg z = some (.ref (C.cad c))
  dh : ∀ (f : Nat) (F : Fn), f ∈ Mn.hs → T.fns[f]? = some F → ∃ fd ps, DefOk K C (Mn.heat false) f F fd ps
  xk : ∀ (e : Nat) (Cl : _root_.M.Cl), T.cls[e]? = some Cl → Cl.exc = true → Xk K C Mn.xn e Cl
  xv : mg "ValueError" = none
  gl : ∀ (f : Nat) (x : Str), Mn.fn[f]? = some (some x) → f < 1000000 ∧ (∃ F, T.fns[f]? = some F) ∧ mg x = some (.ref (C.fad f))
  df : ∀ (f : Nat) (F : Fn), T.fns[f]? = some F → f < 1000000 ∧ ∃ fd ps, DefOk K C Mn f F fd ps
  /-- classes that are made: __init__ is the def's own -/
  mak : ∀ (c : Nat) (x : Str), Mn.cl[c]? = some (some x) → mg x = some (.ref (C.cad c)) ∧ ∃ Cl, T.cls[c]? = some Cl ∧ (∃ F, T.fns[Cl.ini]? = some F) ∧ L2.Mk K (C.cad c) (C.fad Cl.ini)
  inst : ∀ (c : Nat) (Cl : _root_.M.Cl) (f : Nat), T.cls[c]? = some Cl → Cl.mets.lookup 0 = some f → (∃ F, T.fns[f]? = some F) ∧ StX.CallO K (C.cad c) (C.fad f)
  exc : ∀ (c : Nat) (x : Str), Mn.ex[c]? = some (some x) → ∃ Cl fI fd ps, T.cls[c]? = some Cl ∧ mg x = some (.ref (C.cad c)) ∧ OexC K (C.cad c) ∧ PySem.W.findIn K (.ref (C.cad c)) "__init__" = some (some (.ref fI)) ∧ PySem.W.typeIn K (.ref fI) = some (.type "function") ∧
    Binds K fd ps [] ∧ FnOk P w K mg base (L2N.CX P w) 1 fI fd ps (spX C (C.cad c) Cl.flds)
  sk : ∀ (f : Nat) (x : Str), Mn.fn[f]? = some (some x) → f ∈ Mn.sk → ∀ (X : Cx) (n : Nat), X.K = K → SkOk X C (evFn T n) f
variable {P : Program} {w : World} {K : PySem.W.Frag} {mg : Str → Option Value} {base : Heap}
theorem spF_imp {g g' : List D → Hs → RE} (e : ∀ ds h, g ds h = g' ds h) (vs : List V) (H : Hp) (Q : VK) (E : XK) (h : spF C T g vs H Q E) : spF C T g' vs H Q E := by
  obtain ⟨Av, m, hh, ds, S, r, a⟩ := h
  exact ⟨Av, m, hh, ds, S, r, by rw [← e]; exact a⟩
theorem fn_bad {k : Nat} {f : Addr} {fd : FuncData} {ps : List Str} {CX : CXT} : FnOk P w K mg base CX k f fd ps (spF C T fun _ _ => .bad) :=
  ⟨fun vs H Q E h => by obtain ⟨_, _, _, _, _, _, a⟩ := h; exact a.elim, fun A outer s H args us vs Q E _ _ _ _ h => by obtain ⟨_, _, _, _, _, _, a⟩ := h; exact a.elim⟩
/-- a def's body in a context -/
theorem fn_core {X : Cx} {F : Fn} {vs : List V} {H : Hp} {Q : VK} {E : XK} {body : List Stmt} {ps : List Str} (R : Rb X C T M N call (fun cls d _ H => E cls d H) sc) (np : F.np = ps.length) (ns : F.ns = N.length) (hps : ps.length ≤ N.length) (chk : chkTs M N F.body sc body = true)
    (h : spF C T (runFn T call F) vs H Q E) : ∃ t, PSs X body t ∧ t { nx := fun _ H' => Q .non H', rt := Q } (L2.start N vs) H := by
  · obtain ⟨Av, m, hh, ds, SS, r, a⟩ := h
    refine ⟨_, sndTs F.body _ _ body R chk, ?_⟩
    unfold runFn at a
    split at a
    · rename_i hl
      split at a
      · split at a
        · rename_i us b el
          obtain ⟨rl, ul⟩ := lend_rv SS el r
          refine ⟨_, _, [], [], start_at (SS.own b) (rl.stay (Stay.weak (C := C) fun a z => z.elim id fun z => absurd z live_nil)) ns (by omega), body_end ?_⟩
          generalize fnRes (evSs T call F.body (_root_.M.start F.ns us) []) = re at a ⊢
          have hb : ∀ (mm : List Addr) (hh' : Hs), b = false → ∀ a, lvs Av m hh a → lvs (if b = true then Av else lvs Av m hh) mm hh' a := fun mm hh' e a z => by
            subst e
            exact .inl (by rw [if_neg Bool.false_ne_true]; exact z)
          cases re with
          | bad => exact a
          | ok d h2 =>
            intro v m2 H2 s2 k2 r2
            unfold pureRes at a
            dsimp only at a
            split at a
            · rename_i hk
              obtain ⟨s3, k3⟩ := SS.back fun a o e => (k2.keep a o e live_nil).1
              exact a v m H2 s3 k3 (res_back hk (hb m2 h2) r2)
            · exact a.elim
          | exc c xs h2 =>
            intro cls dd m2 H2 s2 k2 x2
            unfold pureRes at a
            dsimp only at a
            split at a
            · rename_i hk
              obtain ⟨s3, k3⟩ := SS.back fun a o e => (k2.keep a o e live_nil).1
              refine a cls dd m H2 s3 k3 ⟨x2.1, ?_⟩
              obtain ⟨Cl, e1, e2⟩ := x2.2
              refine ⟨Cl, e1, e2.imp id fun ⟨d2, fs, us2, q1, q0, q2, q3, q4⟩ => ⟨d2, fs, us2, q1, xd_back s3 q2 q0, q2, ress_back hk (hb m2 h2) q3, q4⟩⟩
            · exact a.elim
        · exact a.elim
      · exact ⟨Av, _, hh, m, start_at SS r ns (by omega), body_end a⟩
    · exact a.elim
/-- one def, its callees' promises given -/
theorem fn_step {f : Nat} {F : Fn} {fd : FuncData} {ps : List Str} {k : Nat} (d : DefOk K C M f F fd ps)
    (wd : ∀ X : Cx, X.prog = P → X.w = w → X.K = K → X.mg = mg → X.base = base → X.calm = true → Room k X.A → Wd X C T M call) : FnOk P w K mg base (L2N.CX P w) (k + 1) (C.fad f) fd ps (spF C T (runFn T call F)) := by
  obtain ⟨N, name, qual, params, body, scope, fu, S, np, ns, chk⟩ := d.ex
  have hps : ps.length ≤ N.length := by
    have := congrArg List.length S.pre
    rw [List.length_take] at this
    omega
  refine fu.ok S (fun vs H Q E h => ?_) fun cdv A outer s H vs Q E hr h => ?_
  · obtain ⟨Av, m, hh, ds, _, r, a⟩ := h
    unfold runFn at a
    split at a
    · rename_i hl
      rw [← r.length, hl, np]
    · exact a.elim
  · have R : Rb (cxOf (L2N.CX P w) P w K mg base N qual scope (C.fad f) cdv A outer s H E) C T M N call (fun cls d _ H => E cls d H) scope :=
      ⟨⟨wd _ rfl rfl rfl rfl rfl rfl hr, rfl, rfl, S.nd, L2N.takes_of rfl rfl rfl rfl⟩, fun _ => rfl, passes_of rfl, S.kind, rfl, rfl⟩
    exact fn_core R np ns hps chk h
/-- the same where an exception is handled -/
theorem fn_stepH {f : Nat} {F : Fn} {fd : FuncData} {ps : List Str} {k : Nat} (d : DefOk K C M f F fd ps)
    (wd : ∀ X : Cx, X.prog = P → X.w = w → X.K = K → X.mg = mg → X.base = base → L2H.HotC X → L2H.RoomH k X.A → Wd X C T M call) : L2H.FnH P w K mg base (L2N.CX P w) (k + 1) (C.fad f) fd ps (spF C T (runFn T call F)) := by
  obtain ⟨N, name, qual, params, body, scope, fu, S, np, ns, chk⟩ := d.ex
  have hps : ps.length ≤ N.length := by
    have := congrArg List.length S.pre
    rw [List.length_take] at this
    omega
  obtain ⟨oc, od, dV, kV, doc, pm, an, cdv, ct, osl, rfl, lk, hcd, _, _⟩ := fu.ex
  refine L2H.fn_ofH lk hcd S (fun vs H Q E h => ?_) fun A outer s H vs Q E p hot hr h => ?_
  · obtain ⟨Av, m, hh, ds, _, r, a⟩ := h
    unfold runFn at a
    split at a
    · rename_i hl
      rw [← r.length, hl, np]
    · exact a.elim
  · have R : Rb (L2H.cxH (L2N.CX P w) P w K mg base N qual scope (C.fad f) cdv A outer s H E p) C T M N call (fun cls d _ H => E cls d H) scope :=
      ⟨⟨wd _ rfl rfl rfl rfl rfl ⟨p, hot, by show p ∈ [p]; simp⟩ hr, rfl, rfl, S.nd, L2N.takes_of rfl rfl rfl rfl⟩, fun _ => rfl, passes_of rfl, S.kind, rfl, rfl⟩
    exact fn_core R np ns hps chk h
theorem heat_fn {M : Nm} {su : Bool} {f : Nat} {x : Str} (e : (M.heat su).fn[f]? = some (some x)) : f ∈ M.hs ∧ M.fn[f]? = some (some x) := by
  have e1 : (M.fn.zipIdx.map fun p => if M.hs.contains p.2 then p.1 else none)[f]? = some (some x) := e
  rw [List.getElem?_map, List.getElem?_zipIdx] at e1
  cases q : M.fn[f]? with
  | none => rw [q] at e1; cases e1
  | some o =>
    rw [q] at e1
    simp only [Option.map_some, Option.some.injEq, Nat.zero_add] at e1
    split at e1
    · rename_i h
      subst e1
      exact ⟨by simpa using h, rfl⟩
    · cases e1
theorem fn_badH {k : Nat} {f : Addr} {fd : FuncData} {ps : List Str} {CX : CXT} : L2H.FnH P w K mg base CX k f fd ps (spF C T fun _ _ => .bad) :=
  ⟨fun vs H Q E h => by obtain ⟨_, _, _, _, _, _, a⟩ := h; exact a.elim, fun A outer s H args us vs Q E p _ _ _ _ _ _ h => by obtain ⟨_, _, _, _, _, _, a⟩ := h; exact a.elim⟩
theorem FnH.imp {k : Nat} {f : Addr} {fd : FuncData} {ps : List Str} {CX : CXT} {sp sp' : Sp} (h : L2H.FnH P w K mg base CX k f fd ps sp) (i : ∀ vs H Q E, sp' vs H Q E → sp vs H Q E) : L2H.FnH P w K mg base CX k f fd ps sp' :=
  ⟨fun vs H Q E z => h.len vs H Q E (i vs H Q E z), fun A outer s H args us vs Q E p a b c d e g z => h.run A outer s H args us vs Q E p a b c d e g (i vs H Q E z)⟩
theorem fns_okH (G : Pg P w K mg base C T M) : ∀ (n f : Nat) (F : Fn), f ∈ M.hs → f < 1000000 → T.fns[f]? = some F → ∃ fd ps, Binds K fd ps [] ∧ PySem.W.keepIn K (.ref (C.fad f)) = true ∧ L2H.FnH P w K mg base (L2N.CX P w) (2 * n + 5) (C.fad f) fd ps (spF C T (evFn T n f))
  | 0, f, F, hm, hf, e => by
    obtain ⟨fd, ps, d⟩ := G.dh f F hm e
    obtain ⟨_, _, _, _, _, _, fu, _⟩ := d.ex
    exact ⟨fd, ps, d.binds, fu.kp, fn_badH⟩
  | n + 1, f, F, hm, hf, e => by
    obtain ⟨fd, ps, d⟩ := G.dh f F hm e
    obtain ⟨_, _, _, _, _, _, fu, _⟩ := d.ex
    refine ⟨fd, ps, d.binds, fu.kp, ?_⟩
    have ih := fns_okH G n
    have st : L2H.FnH P w K mg base (L2N.CX P w) (2 * n + 6 + 1) (C.fad f) fd ps (spF C T (runFn T (evFn T n) F)) := fn_stepH d fun X e1 e2 e3 e4 e5 hc hr => by
      subst e1 e2 e3 e4 e5
      refine ⟨⟨G.hP, G.hw, G.hK, by have := hr.un; omega⟩, fun z => (nomatch z), G.ck X rfl, G.ats, G.bl, fun f' x hx => ?_, fun c x hx => (by simp [Nm.heat] at hx), fun z => (nomatch z), fun f' x h1 h2 => (by simp [Nm.heat] at h2), fun z => (nomatch z), fun _ => hc, G.xg, fun _ z => (nomatch z), fun z => (nomatch z), fun z => (nomatch z), fun z => (nomatch z), fun z => (nomatch z), fun c x hx => (by simp [Nm.heat] at hx)⟩
      obtain ⟨hm', hx'⟩ := heat_fn hx
      obtain ⟨g1, ⟨F', g2⟩, g3⟩ := G.gl f' x hx'
      obtain ⟨fd', ps', i1, i2, i3⟩ := ih f' F' hm' g1 g2
      exact ⟨fd', ps', g3, i2, i1, .inr ⟨rfl, _, i3, hr.mono (by omega)⟩⟩
    refine FnH.imp st (spF_imp fun ds h => ?_)
    show (if f < 1000000 then (match T.fns[f]? with
      | some F => runFn T (evFn T n) F ds h
      | none => .bad) else _) = _
    rw [if_pos hf, e]
theorem Pg.move (G : Pg P w K mg base C T M) (a dd : Addr) (e : Nat) (fl : List Nat) : Pg P w K mg base (C.at_ a dd e fl) T M :=
  ⟨G.hP, G.hw, G.hK, fun X h => ⟨(G.ck X h).nd, (G.ck X h).at_⟩, G.ats, G.bl, G.hot, G.xg, fun f F h1 h2 => (by obtain ⟨fd, ps, d⟩ := G.dh f F h1 h2; exact ⟨fd, ps, d.ex, d.binds⟩), fun e' Cl h1 h2 => ⟨(G.xk e' Cl h1 h2).kit, (G.xk e' Cl h1 h2).exm, (G.xk e' Cl h1 h2).ve, (G.xk e' Cl h1 h2).xf, (G.xk e' Cl h1 h2).xc, (G.xk e' Cl h1 h2).no⟩, G.xv, G.gl,
    fun f F h => (by obtain ⟨h1, fd, ps, d⟩ := G.df f F h; exact ⟨h1, fd, ps, d.ex, d.binds⟩), G.mak, G.inst, G.exc, fun f x h1 h2 X n h3 => ⟨(G.sk f x h1 h2 X n h3).ex, (G.sk f x h1 h2 X n h3).val⟩⟩
theorem fn_at (G : Pg P w K mg base C T M) (cn : C.xa = none) : ∀ (n f : Nat) (F : Fn), f < 1000000 → T.fns[f]? = some F → ∀ fd ps, DefOk K C M f F fd ps → Binds K fd ps [] ∧ PySem.W.keepIn K (.ref (C.fad f)) = true ∧ FnOk P w K mg base (L2N.CX P w) (2 * n + 5) (C.fad f) fd ps (spF C T (evFn T n f))
  | 0, f, F, hf, e, fd, ps, d => by
    obtain ⟨_, _, _, _, _, _, fu, _⟩ := d.ex
    exact ⟨d.binds, fu.kp, fn_bad⟩
  | n + 1, f, F, hf, e, fd, ps, d => by
    obtain ⟨_, _, _, _, _, _, fu, _⟩ := d.ex
    refine ⟨d.binds, fu.kp, ?_⟩
    have ih : ∀ (f : Nat) (F : Fn), f < 1000000 → T.fns[f]? = some F → ∃ fd ps, Binds K fd ps [] ∧ PySem.W.keepIn K (.ref (C.fad f)) = true ∧ FnOk P w K mg base (L2N.CX P w) (2 * n + 5) (C.fad f) fd ps (spF C T (evFn T n f)) := fun f F hf e => by
      obtain ⟨_, fd, ps, d⟩ := G.df f F e
      exact ⟨fd, ps, fn_at G cn n f F hf e fd ps d⟩
    have ihp : ∀ n', n = n' + 1 → ∀ (f : Nat) (F : Fn), f < 1000000 → T.fns[f]? = some F → ∃ fd ps, Binds K fd ps [] ∧ PySem.W.keepIn K (.ref (C.fad f)) = true ∧ FnOk P w K mg base (L2N.CX P w) (2 * n' + 5) (C.fad f) fd ps (spF C T (evFn T n' f)) := fun n' hn => by
      subst hn
      exact fun f F hf e => by
        obtain ⟨_, fd, ps, d⟩ := G.df f F e
        exact ⟨fd, ps, fn_at G cn n' f F hf e fd ps d⟩
    have st : FnOk P w K mg base (L2N.CX P w) (2 * n + 6 + 1) (C.fad f) fd ps (spF C T (runFn T (evFn T n) F)) := fn_step d fun X e1 e2 e3 e4 e5 e6 hr => by
      subst e1 e2 e3 e4 e5
      refine ⟨⟨G.hP, G.hw, G.hK, by have := hr.un; omega⟩, fun _ => e6, G.ck X rfl, G.ats, G.bl, fun f' x hx => ?_, fun c x hx => ?_, fun _ c Cl f' e1 e2 => ?_, fun f' x h1 h2 => G.sk f' x h1 h2 X n rfl, fun _ => hr.mono (by omega), fun z => absurd (z.symm.trans G.hot) (by decide), G.xg, fun z => absurd (z.symm.trans G.hot) (by decide), fun _ => cn, fun _ => G.xk, fun _ => G.xv, fun _ a dd e fl f' x hx => ?_, G.exc⟩
      · obtain ⟨g1, ⟨F', g2⟩, g3⟩ := G.gl f' x hx
        obtain ⟨fd', ps', i1, i2, i3⟩ := ih f' F' g1 g2
        exact ⟨fd', ps', g3, i2, i1, .inl ⟨G.hot, _, i3, hr.mono (by omega)⟩⟩
      · obtain ⟨g1, Cl, g2, ⟨F', g3⟩, g4⟩ := G.mak c x hx
        cases n with
        | zero =>
          obtain ⟨_, fd', ps', d'⟩ := G.df _ _ g3
          refine ⟨C.fad Cl.ini, fd', ps', 0, fun _ _ => .bad, g1, g4, d'.binds, fn_bad, hr.mono (by omega), fun ds h => ?_⟩
          show RE.bad = _
          unfold mkFn
          cases lend h ds with
          | none => rfl
          | some p => rfl
        | succ n' =>
          obtain ⟨fd', ps', i1, i2, i3⟩ := ihp n' rfl Cl.ini F' (G.df _ _ g3).1 g3
          refine ⟨C.fad Cl.ini, fd', ps', _, evFn T n' Cl.ini, g1, g4, i1, i3, hr.mono (by omega), fun ds h => ?_⟩
          show (if 1000000 + c < 1000000 then _ else (match T.cls[1000000 + c - 1000000]? with
            | some Cl => mkFn (evFn T n' Cl.ini) (1000000 + c - 1000000) ds h
            | none => .bad)) = _
          rw [if_neg (by omega), Nat.add_sub_cancel_left, g2]
      · obtain ⟨⟨F', g1⟩, g2⟩ := G.inst c Cl f' e1 e2
        obtain ⟨fd', ps', i1, i2, i3⟩ := ih f' F' (G.df _ _ g1).1 g1
        exact ⟨fd', ps', _, g2, i1, i3, hr.mono (by omega)⟩
      · obtain ⟨hm', hx'⟩ := heat_fn hx
        obtain ⟨g1, ⟨F', g2⟩, g3⟩ := G.gl f' x hx'
        obtain ⟨fd', ps', i1, i2, i3⟩ := fns_okH (G.move a dd e fl) n f' F' hm' g1 g2
        exact ⟨fd', ps', g3, i2, i1, _, i3, (L2H.roomH_of hr).mono (by omega)⟩
    refine st.imp (spF_imp fun ds h => ?_)
    show (if f < 1000000 then (match T.fns[f]? with
      | some F => runFn T (evFn T n) F ds h
      | none => .bad) else _) = _
    rw [if_pos hf, e]
end
end M
end

section
set_option Elab.async false
set_option linter.all false
set_option autoImplicit false
set_option maxRecDepth 100000
set_option maxHeartbeats 4000000
/-! Hk: a head's Hook with any facts of the fragment; own exception classes read from it. -/
namespace M
open PySem PySem.Spec PyProof.Rows L2
/-! ### the Hook -/
def obsM (fb : PySem.W.Frag → Bool) (fn : List He.DefD) (K : PySem.W.Frag) : He.AlD := (fb K && fn.all fun d => d.ok K, fn.map fun d => He.fnW K d.at_)
def SaysM (fb : PySem.W.Frag → Bool) (fn : List He.DefD) (K : PySem.W.Frag) : Prop := obsM fb fn K = He.valD fn
def obsMG (n : Nat) (fb : PySem.W.Frag → Bool) (fn : List He.DefD) (g : Addr → Option Obj) : He.AlD := obsM fb fn (He.frG g (He.asD g n))
def hookM (n : Nat) (fb : PySem.W.Frag → Bool) (fn : List He.DefD) : PySem.W.Hook where
  α := He.AlD
  obs := fun s => obsMG n fb fn s.heap.get?
  val := fun _ => He.valD fn
  says := fun _ h => ∃ K : PySem.W.Frag, K.In h ∧ SaysM fb fn K
  of := fun _ _ e => ⟨_, He.frG_in, e⟩
  keeps := fun _ _ _ ⟨K, hK, c⟩ k => ⟨K, PySem.W.Frag.In.keeps hK k, c⟩
theorem obsMG_eq {n : Nat} {fb : PySem.W.Frag → Bool} {fn : List He.DefD} {g : Addr → Option Obj} {s : Shared} (h : ∀ a, g a = s.heap.get? a) : obsMG n fb fn g = (hookM n fb fn).obs s := by
  have e : g = s.heap.get? := funext h
  rw [e] <;> rfl
section
variable {fb : PySem.W.Frag → Bool} {fn : List He.DefD} {K : PySem.W.Frag}
theorem SaysM.fact (c : SaysM fb fn K) : fb K = true := (He.ba (show (fb K && fn.all fun d => d.ok K) = true from congrArg (fun z : He.AlD => z.1) c)).1
theorem SaysM.def_ (c : SaysM fb fn K) (i : Nat) {d : He.DefD} (h : fn[i]? = some d) : ∃ fd, FunD K d.name d.qual d.params d.body d.scope (d.dvs K) (d.kws K) (He.fAd K d.at_) fd := by
  have c2 := (He.ba (show (fb K && fn.all fun d => d.ok K) = true from congrArg (fun z : He.AlD => z.1) c)).2
  have e : fn.map (fun d => He.fnW K d.at_) = fn.map He.DefD.val := congrArg (fun z : He.AlD => z.2) c
  have e2 : (fn.map fun d => He.fnW K d.at_)[i]? = (fn.map He.DefD.val)[i]? := by rw [e]
  rw [List.getElem?_map, List.getElem?_map, h] at e2
  exact He.DefD.funD (Option.some.inj e2) (List.all_eq_true.mp c2 d (List.mem_of_getElem? h))
/-! ### own exception classes -/
def oexB (K : PySem.W.Frag) (C : Addr) : Bool := (match K.lookup C with
  | some ⟨.type t, _, .cls cd, sl⟩ => decide (t = "type") && (match cd.mro, sl.toList with
    | .ref C' :: bm, [_, _, _, _, some (.builtin n), _] => decide (C' = C) && decide (n = "ValueError.__new__") && !cd.hasDel && cd.hasDict && PySem.HandSPX.refsVE bm
    | _, _ => false)
  | _ => false) && decide (PySem.W.findIn K (.ref C) "__setattr__" = some (some (.builtin "object.__setattr__"))) && decide (PySem.W.subIn K (.ref C) (.type "BaseException") = some true) && decide (PySem.W.typeIn K (.ref C) = some (.type "type")) && PySem.W.keepIn K (.ref C)
theorem oexB_ok {C : Addr} (h : oexB K C = true) : OexC K C := by
  unfold oexB at h
  simp only [Bool.and_eq_true, decide_eq_true_eq] at h
  obtain ⟨⟨⟨⟨h1, h2⟩, h3⟩, h4⟩, h5⟩ := h
  refine ⟨?_, h2, h3, h4, h5⟩
  split at h1
  · rename_i t dd cd sl ho
    rw [Bool.and_eq_true, decide_eq_true_eq] at h1
    obtain ⟨rfl, h1⟩ := h1
    split at h1
    · rename_i C' bm k0 k1 k2 k3 n k5 hm hs
      simp only [Bool.and_eq_true, decide_eq_true_eq, Bool.not_eq_true'] at h1
      obtain ⟨⟨⟨⟨rfl, rfl⟩, hdel⟩, hd⟩, hv⟩ := h1
      obtain ⟨nm, bs, mro, ns, qn, hdct, sn, sub, ab, col, del⟩ := cd
      dsimp only at hm hdel hd
      subst hm hdel hd
      have hsl : sl = #[k0, k1, k2, k3, some (.builtin "ValueError.__new__"), k5] := by
        obtain ⟨l⟩ := sl
        simp only at hs
        rw [hs]
      subst hsl
      exact ⟨nm, qn, ns, bs, bm, sn, sub, ab, col, dd, k0, k1, k2, k3, k5, ho, hv⟩
    · cases h1
  · cases h1
def excCB (K : PySem.W.Frag) (D : Addr) : Bool := decide (PySem.W.findIn K (.ref D) "__getattribute__" = some (some (.builtin "BaseException.__getattribute__"))) && decide (PySem.W.findIn K (.ref D) "__getattr__" = some none) && decide (PySem.W.subIn K (.ref D) (.type "BaseException") = some true) && PySem.W.hasDictIn K D &&
  decide (PySem.W.findIn K (.ref D) "__class__" = some (some (.builtin "object.__class__"))) && decide (PySem.W.specialIn K (.builtin "object.__class__") "__get__" = some (some (.builtin "getset_descriptor.__get__"))) && decide (PySem.W.takesIn K (.builtin "object.__class__") = some true) && decide (PySem.W.mroIn K D (.type "object") = some true)
theorem excCB_ok {D : Addr} (h : excCB K D = true) : ExcC K D := by
  unfold excCB at h
  simp only [Bool.and_eq_true, decide_eq_true_eq] at h
  obtain ⟨⟨⟨⟨⟨⟨⟨h1, h2⟩, h3⟩, h4⟩, h5⟩, h6⟩, h7⟩, h8⟩ := h
  exact ⟨h1, h2, h3, h4, h5, h6, h7, h8⟩
end
end M
end

section
set_option Elab.async false
set_option linter.all false
set_option autoImplicit false
set_option maxRecDepth 100000
set_option maxHeartbeats 4000000
/-! End: from a head's facts to the defs by fuel. -/
namespace M
open PySem PySem.Spec PyProof.Rows L2
/-- a law's data: its defs as they stand (by number), each with its names and parameters; the classes' names; the table; the names for the checker -/
structure Dat where
  fn : List He.DefD
  nps : List (List Str × List Str)
  cl : List Str
  tb : Tb
  nm : Nm
def Dat.pc (D : Dat) (P : Program) (w : World) (K : PySem.W.Frag) : Pc := { P := P, w := w, K := K, attrs := D.nm.ats, cad := fun c => He.ga K (D.cl.getD c Str.empty), fad := fun f => match D.fn[f]? with
  | some d => He.fAd K d.at_
  | none => 0 }
/-! ### what is looked at once, without the heap -/
def scB (N ps : List Str) (sc : Scope) : Bool := decide (sc.kind = .function) && !sc.isCoroutine && !sc.isGenerator && decide N.Nodup && decide (N.take ps.length = ps) && ps.all (fun x => decide (sc.names.lookup x = some .local) || decide (sc.names.lookup x = some .cell)) && sc.names.all fun y => decide (y.2 ≠ .free)
theorem scB_ok {N ps : List Str} {sc : Scope} (h : scB N ps sc = true) : FnScope N ps sc := by
  unfold scB at h
  simp only [Bool.and_eq_true, decide_eq_true_eq, Bool.not_eq_true', List.all_eq_true, Bool.or_eq_true] at h
  obtain ⟨⟨⟨⟨⟨⟨h1, h2⟩, h3⟩, h4⟩, h5⟩, h6⟩, h7⟩ := h
  exact ⟨h1, h2, h3, h4, h5, h6, h7⟩
def defB (nm : Nm) (F : Fn) (d : He.DefD) (q : List Str × List Str) : Bool := scB q.1 q.2 d.scope && decide (F.np = q.2.length) && decide (F.ns = q.1.length) && chkTs nm q.1 F.body d.scope d.body && d.dfl.isEmpty && d.kwd.isEmpty
def zipB (nm : Nm) : List Fn → List He.DefD → List (List Str × List Str) → Bool
  | F :: Fs, d :: ds, q :: qs => defB nm F d q && zipB nm Fs ds qs
  | [], [], [] => true
  | _, _, _ => false
theorem zipB_at {nm : Nm} : ∀ {Fs : List Fn} {ds : List He.DefD} {qs : List (List Str × List Str)} {i : Nat} {F : Fn}, zipB nm Fs ds qs = true → Fs[i]? = some F → ∃ d q, ds[i]? = some d ∧ qs[i]? = some q ∧ defB nm F d q = true
  | [], _, _, i, F, _, e => by simp at e
  | F0 :: Fs, [], _, i, F, h, _ => by unfold zipB at h; cases h
  | F0 :: Fs, d :: ds, [], i, F, h, _ => by unfold zipB at h; cases h
  | F0 :: Fs, d :: ds, q :: qs, 0, F, h, e => by
    unfold zipB at h
    rw [Bool.and_eq_true] at h
    simp at e
    subst e
    exact ⟨d, q, rfl, rfl, h.1⟩
  | F0 :: Fs, d :: ds, q :: qs, i + 1, F, h, e => by
    unfold zipB at h
    rw [Bool.and_eq_true] at h
    obtain ⟨d', q', e1, e2, e3⟩ := zipB_at (i := i) h.2 (by simpa using e)
    exact ⟨d', q', by simpa using e1, by simpa using e2, e3⟩
/-- how a def's arguments come -/
def BQ (d : He.DefD) (ps : List Str) : Prop := ∀ (kV doc pm : Value) (an : Option Addr) (cdv ct : Value) (us : List Value), us.length = ps.length → bindArgs (PySem.W.fnOf d.name d.qual d.params d.body d.scope .none kV doc pm an cdv ct) ⟨us, []⟩ = pure (ps.zip us)
def AllB : List He.DefD → List (List Str × List Str) → Prop
  | d :: ds, q :: qs => BQ d q.2 ∧ AllB ds qs
  | _, _ => True
theorem AllB.at_ : ∀ {ds : List He.DefD} {qs : List (List Str × List Str)} {i : Nat} {d : He.DefD} {q : List Str × List Str}, AllB ds qs → ds[i]? = some d → qs[i]? = some q → BQ d q.2
  | [], _, i, d, q, _, e, _ => by simp at e
  | d0 :: ds, [], i, d, q, _, _, e => by simp at e
  | d0 :: ds, q0 :: qs, 0, d, q, h, e1, e2 => by
    simp at e1 e2
    subst e1 e2
    exact h.1
  | d0 :: ds, q0 :: qs, i + 1, d, q, h, e1, e2 => AllB.at_ (i := i) h.2 (by simpa using e1) (by simpa using e2)
/-- the def is size_order: its length and itself -/
def skF : Fn → Bool
  | ⟨1, 1, .cons (.ret (.tup (.cons (.f1 .len (.var 0)) (.cons (.var 0) .nil)))) .nil, true⟩ => true
  | _ => false
theorem skF_eq {F : Fn} (h : skF F = true) : F = ⟨1, 1, .cons (.ret (.tup (.cons (.f1 .len (.var 0)) (.cons (.var 0) .nil)))) .nil, true⟩ := by
  unfold skF at h
  split at h
  · rfl
  · cases h
theorem skF_run {T : Tb} {call : Nat → List D → Hs → RE} {F : Fn} (hF : skF F = true) {xs : List D} {k : D} {h : Hs} (e : runFn T call F [.tup xs] [] = .ok k h) : k = kd (.tup xs) := by
  rw [skF_eq hF] at e
  unfold runFn at e
  rw [if_pos (by rfl)] at e
  dsimp only at e
  have el : lend [] [D.tup xs] = if noref (.tup xs) then some ([.tup xs], false) else none := rfl
  rw [el] at e
  by_cases hn : noref (.tup xs) = true
  · rw [if_pos hn] at e
    have e2 : fnRes (evSs T call (.cons (.ret (.tup (.cons (.f1 .len (.var 0)) (.cons (.var 0) .nil)))) .nil) (_root_.M.start 1 [D.tup xs]) []) = .ok (.tup [.int xs.length, .tup xs]) [] := rfl
    dsimp only at e
    rw [e2] at e
    unfold pureRes at e
    dsimp only at e
    split at e
    · cases e
      rfl
    · cases e
  · rw [if_neg hn] at e
    cases e
section
variable {D : Dat} {P : Program} {w : World} {K : PySem.W.Frag} {fb : PySem.W.Frag → Bool}
theorem def_ok {nm : Nm} {f : Nat} {F : Fn} (hz : zipB nm D.tb.fns D.fn D.nps = true) (hb : AllB D.fn D.nps) (c : SaysM fb D.fn K) (e : D.tb.fns[f]? = some F) : ∃ fd ps, DefOk K (D.pc P w K) nm f F fd ps := by
  obtain ⟨d, q, e1, e2, e3⟩ := zipB_at hz e
  unfold defB at e3
  simp only [Bool.and_eq_true, decide_eq_true_eq, List.isEmpty_iff] at e3
  obtain ⟨⟨⟨⟨⟨h1, h2⟩, h3⟩, h4⟩, h5⟩, h6⟩ := e3
  obtain ⟨fd, fu⟩ := c.def_ f e1
  have e5 : d.dvs K = [] := by unfold He.DefD.dvs; rw [h5]; rfl
  have e6 : d.kws K = [] := by unfold He.DefD.kws; rw [h6]; rfl
  rw [e5, e6] at fu
  have ea : (D.pc P w K).fad f = He.fAd K d.at_ := by
    show (match D.fn[f]? with
      | some d => He.fAd K d.at_
      | none => 0) = _
    rw [e1]
  exact ⟨fd, q.2, ⟨q.1, d.name, d.qual, d.params, d.body, d.scope, by rw [ea]; exact fu, scB_ok h1, h2, h3, h4⟩, fu.bindsN (hb.at_ e1 e2)⟩
end
end M
end

section
set_option Elab.async false
set_option linter.all false
set_option autoImplicit false
set_option maxRecDepth 100000
set_option maxHeartbeats 4000000
/-! Fact: what the head must tell; the program's promise from it. -/
namespace M
open PySem PySem.Spec PyProof.Rows L2
def aB (D : Dat) (K : PySem.W.Frag) (c : Nat) : Addr := He.ga K (D.cl.getD c Str.empty)
def nmA (D : Dat) (k : Nat) : Str := D.nm.ats.getD k Str.empty
/-- an exception class -/
def excF (D : Dat) (K : PySem.W.Frag) (c : Nat) (Cl : Cl) : Bool := xfB K (aB D K c) && excCB K (aB D K c) && decide (PySem.W.kitOne K (.ref (aB D K c)) (.type "ValueError") = some true) &&
  Cl.flds.all (fun k => decide (PySem.W.findIn K (.ref (aB D K c)) (nmA D k) = some none)) &&
  (List.range D.cl.length).all fun c2 => (D.nm.xn[c2]?.join.isNone) || (decide (PySem.W.kitOne K (.ref (aB D K c)) (.ref (aB D K c2)) = some (Cl.up.contains c2)) && decide (PySem.W.exmOne K (.ref (aB D K c)) (.ref (aB D K c2)) = some (Cl.up.contains c2)))
/-- one that is raised -/
def raiF (D : Dat) (K : PySem.W.Frag) (c : Nat) (Cl : Cl) : Bool := oexB K (aB D K c) && (match D.fn[Cl.ini]? with
  | some d => decide (PySem.W.findIn K (.ref (aB D K c)) "__init__" = some (some (.ref (He.fAd K d.at_)))) && decide (PySem.W.typeIn K (.ref (He.fAd K d.at_)) = some (.type "function"))
  | none => false)
/-- a class of one's own -/
def clsF (D : Dat) (K : PySem.W.Frag) (c : Nat) (Cl : Cl) : Bool := (He.Fa.cls (D.cl.getD c Str.empty)).ok K && Cl.flds.all (fun k => decide (k < D.nm.ats.length) && (He.Fa.noat (D.cl.getD c Str.empty) (nmA D k)).ok K) &&
  (match Cl.mets.lookup 0 with
  | some f => (match D.fn[f]? with
    | some d => decide (PySem.W.findIn K (.ref (aB D K c)) "__call__" = some (some (.ref (He.fAd K d.at_)))) && PySem.W.isFn K (.ref (He.fAd K d.at_)) && PySem.W.fnIn K (He.fAd K d.at_)
    | none => false)
  | none => true)
/-- one that is made -/
def makF (D : Dat) (K : PySem.W.Frag) (c : Nat) (Cl : Cl) : Bool := (He.Fa.mkr (D.cl.getD c Str.empty)).ok K && (match D.fn[Cl.ini]? with
  | some d => decide (d.at_ = (D.cl.getD c Str.empty, some ("__init__" : Str)))
  | none => false)
def oneF (D : Dat) (K : PySem.W.Frag) (c : Nat) : Bool := match D.tb.cls[c]? with
  | some Cl => (if Cl.exc then excF D K c Cl && (Cl.mets.lookup 0).isNone else clsF D K c Cl) && ((D.nm.ex[c]?).join.isNone || raiF D K c Cl) && ((D.nm.cl[c]?).join.isNone || makF D K c Cl)
  | none => true
def factB (D : Dat) (K : PySem.W.Frag) : Bool := (("ValueError" : Str) :: blts).all (fun x => (He.Fa.free x).ok K) && D.cl.all (fun x => (He.Fa.glo x).ok K) && D.nm.fn.all (fun o => match o with
  | some x => (He.Fa.glo x).ok K
  | none => true) && (List.range D.tb.cls.length).all fun c => oneF D K c
/-- what is looked at without the heap -/
def nmB (D : Dat) : Bool := D.nm.hot == false && decide D.nm.ats.Nodup && decide (D.tb.fns.length < 1000000) &&
  (List.range D.nm.fn.length).all (fun f => match D.nm.fn[f]? with
    | some (some x) => (match D.fn[f]? with
      | some d => decide (d.at_ = (x, none)) && decide (f < D.tb.fns.length)
      | none => false)
    | _ => true) &&
  (List.range D.nm.cl.length).all (fun c => match D.nm.cl[c]? with
    | some (some x) => decide (D.cl[c]? = some x) && decide (c < D.tb.cls.length)
    | _ => true) &&
  (List.range D.nm.ex.length).all (fun c => match D.nm.ex[c]? with
    | some (some x) => decide (D.cl[c]? = some x) && decide (c < D.tb.cls.length)
    | _ => true) &&
  (List.range D.nm.xn.length).all (fun c => match D.nm.xn[c]? with
    | some (some x) => decide (D.cl[c]? = some x)
    | _ => true)
section
variable {D : Dat} {P : Program} {w : World} {K : PySem.W.Frag} {h base : Heap} {mg : Str → Option Value}
theorem fact_bl (f : factB D K = true) (X : K.In h) (G : h.Ns mainGlobals mg) : ∀ x, x ∈ ("ValueError" : Str) :: blts → mg x = none := fun x hx => by
  unfold factB at f
  simp only [Bool.and_eq_true, List.all_eq_true] at f
  exact He.free_ok X G (f.1.1.1 x hx)
theorem fact_cl (f : factB D K = true) (X : K.In h) (G : h.Ns mainGlobals mg) {c : Nat} {x : Str} (e : D.cl[c]? = some x) : mg x = some (.ref ((D.pc P w K).cad c)) := by
  unfold factB at f
  simp only [Bool.and_eq_true, List.all_eq_true] at f
  have q := He.glo_ok X G (f.1.1.2 x (List.mem_of_getElem? e))
  rw [q]
  show some (Value.ref (He.ga K x)) = some (Value.ref (He.ga K (D.cl.getD c Str.empty)))
  rw [List.getD_eq_getElem?_getD, e]
  rfl
theorem fact_fn (f : factB D K = true) (X : K.In h) (G : h.Ns mainGlobals mg) {x : Str} (e : some x ∈ D.nm.fn) : mg x = some (.ref (He.ga K x)) := by
  unfold factB at f
  simp only [Bool.and_eq_true, List.all_eq_true] at f
  exact He.glo_ok X G (f.1.2 (some x) e)
theorem fact_one (f : factB D K = true) {c : Nat} {Cl : Cl} (e : D.tb.cls[c]? = some Cl) : oneF D K c = true := by
  unfold factB at f
  simp only [Bool.and_eq_true, List.all_eq_true] at f
  exact f.2 c (List.mem_range.mpr (List.getElem?_eq_some_iff.mp e).1)
theorem all_range {n : Nat} {p : Nat → Bool} (h : (List.range n).all p = true) {i : Nat} (hi : i < n) : p i = true := List.all_eq_true.mp h i (List.mem_range.mpr hi)
end
end M
end

section
set_option Elab.async false
set_option linter.all false
set_option autoImplicit false
set_option maxRecDepth 100000
set_option maxHeartbeats 4000000
/-! PgOf: the defs' promises from the head's facts. -/
namespace M
open PySem PySem.Spec PyProof.Rows L2
def hotB (D : Dat) : Bool := D.nm.hs.all fun f => match D.tb.fns[f]?, D.fn[f]?, D.nps[f]? with
  | some F, some d, some q => defB (D.nm.heat false) F d q
  | _, _, _ => false
section
variable {D : Dat} {P : Program} {w : World} {K : PySem.W.Frag} {h base : Heap} {mg : Str → Option Value} {fb : PySem.W.Frag → Bool}
theorem def_one {nm : Nm} {f : Nat} {F : Fn} {d : He.DefD} {q : List Str × List Str} (hd : D.fn[f]? = some d) (hq : D.nps[f]? = some q) (e3 : defB nm F d q = true) (hb : AllB D.fn D.nps) (c : SaysM fb D.fn K) : ∃ fd ps, DefOk K (D.pc P w K) nm f F fd ps := by
  unfold defB at e3
  simp only [Bool.and_eq_true, decide_eq_true_eq, List.isEmpty_iff] at e3
  obtain ⟨⟨⟨⟨⟨h1, h2⟩, h3⟩, h4⟩, h5⟩, h6⟩ := e3
  obtain ⟨fd, fu⟩ := c.def_ f hd
  have e5 : d.dvs K = [] := by unfold He.DefD.dvs; rw [h5]; rfl
  have e6 : d.kws K = [] := by unfold He.DefD.kws; rw [h6]; rfl
  rw [e5, e6] at fu
  have ea : (D.pc P w K).fad f = He.fAd K d.at_ := by
    show (match D.fn[f]? with
      | some d => He.fAd K d.at_
      | none => 0) = _
    rw [hd]
  exact ⟨fd, q.2, ⟨q.1, d.name, d.qual, d.params, d.body, d.scope, by rw [ea]; exact fu, scB_ok h1, h2, h3, h4⟩, fu.bindsN (hb.at_ hd hq)⟩
theorem hot_ok {f : Nat} {F : Fn} (hh : hotB D = true) (hb : AllB D.fn D.nps) (c : SaysM fb D.fn K) (hm : f ∈ D.nm.hs) (e : D.tb.fns[f]? = some F) : ∃ fd ps, DefOk K (D.pc P w K) (D.nm.heat false) f F fd ps := by
  have q := List.all_eq_true.mp hh f hm
  rw [e] at q
  split at q
  · rename_i F' d q' e1 e2 e3
    cases e1
    exact def_one e2 e3 q hb c
  · cases q
theorem ck_ok (f : factB D K = true) (hn : nmB D = true) (X : Cx) (hX : X.K = K) : ClsOk X (D.pc P w K) D.tb := by
  unfold nmB at hn
  simp only [Bool.and_eq_true, decide_eq_true_eq] at hn
  refine ⟨hn.1.1.1.1.1.2, fun c Cl e ex => ?_⟩
  have q := fact_one f e
  unfold oneF at q
  rw [e] at q
  dsimp only at q
  rw [ex] at q
  simp only [Bool.and_eq_true, Bool.false_eq_true, if_false] at q
  have q := q.1.1
  unfold clsF at q
  simp only [Bool.and_eq_true, List.all_eq_true, decide_eq_true_eq] at q
  rw [hX]
  refine ⟨He.cls_ok q.1.1, fun k hk => ⟨(q.1.2 k hk).1, He.noat_ok (q.1.2 k hk).2⟩⟩
theorem xk_ok (f : factB D K = true) (hn : nmB D = true) (e : Nat) (Cl : M.Cl) (he : D.tb.cls[e]? = some Cl) (hx : Cl.exc = true) : Xk K (D.pc P w K) D.nm.xn e Cl := by
  have q := fact_one f he
  unfold oneF at q
  rw [he] at q
  dsimp only at q
  rw [hx] at q
  simp only [Bool.and_eq_true, if_true] at q
  have q := q.1.1.1
  unfold excF at q
  simp only [Bool.and_eq_true, List.all_eq_true, decide_eq_true_eq, Bool.or_eq_true] at q
  obtain ⟨⟨⟨⟨q1, q2⟩, q3⟩, q4⟩, q5⟩ := q
  unfold nmB at hn
  simp only [Bool.and_eq_true] at hn
  have both : ∀ (c2 : Nat) (z : Str), D.nm.xn[c2]? = some (some z) → PySem.W.kitOne K (.ref (aB D K e)) (.ref (aB D K c2)) = some (Cl.up.contains c2) ∧ PySem.W.exmOne K (.ref (aB D K e)) (.ref (aB D K c2)) = some (Cl.up.contains c2) := fun c2 z hz => by
    have h1 := all_range hn.2 (List.getElem?_eq_some_iff.mp hz).1
    rw [hz] at h1
    have h1 : D.cl[c2]? = some z := of_decide_eq_true h1
    rcases q5 c2 (List.mem_range.mpr (List.getElem?_eq_some_iff.mp h1).1) with h2 | h2
    · rw [hz] at h2
      cases h2
    · exact h2
  exact ⟨fun c2 z hz => (both c2 z hz).1, fun c2 z hz => (both c2 z hz).2, q3, xfB_ok q1, excCB_ok q2, fun k hk => q4 k hk⟩
theorem xg_ok (f : factB D K = true) (hn : nmB D = true) (X : K.In h) (G : h.Ns mainGlobals mg) (c : Nat) (z : Str) (e : D.nm.xn[c]? = some (some z)) : mg z = some (.ref ((D.pc P w K).cad c)) := by
  unfold nmB at hn
  simp only [Bool.and_eq_true] at hn
  have h1 := all_range hn.2 (List.getElem?_eq_some_iff.mp e).1
  rw [e] at h1
  exact fact_cl f X G (of_decide_eq_true h1)
theorem gl_ok' (f : factB D K = true) (hn : nmB D = true) (X : K.In h) (G : h.Ns mainGlobals mg) (i : Nat) (x : Str) (e : D.nm.fn[i]? = some (some x)) : i < 1000000 ∧ (∃ F, D.tb.fns[i]? = some F) ∧ mg x = some (.ref ((D.pc P w K).fad i)) := by
  unfold nmB at hn
  simp only [Bool.and_eq_true, decide_eq_true_eq] at hn
  have h1 := all_range hn.1.1.1.2 (List.getElem?_eq_some_iff.mp e).1
  rw [e] at h1
  dsimp only at h1
  split at h1
  · rename_i d hd
    simp only [Bool.and_eq_true, decide_eq_true_eq] at h1
    obtain ⟨h2, h3⟩ := h1
    refine ⟨by have := hn.1.1.1.1.2; omega, ⟨_, List.getElem?_eq_getElem h3⟩, ?_⟩
    rw [fact_fn f X G (List.mem_of_getElem? e)]
    show _ = some (Value.ref (match D.fn[i]? with
      | some d => He.fAd K d.at_
      | none => 0))
    rw [hd]
    dsimp only
    rw [h2]
    rfl
  · cases h1
theorem zipB_len {nm : Nm} : ∀ {Fs : List Fn} {ds : List He.DefD} {qs : List (List Str × List Str)}, zipB nm Fs ds qs = true → Fs.length = ds.length
  | [], [], [], _ => rfl
  | [], [], _ :: _, h => by unfold zipB at h; cases h
  | [], _ :: _, _, h => by unfold zipB at h; cases h
  | _ :: _, [], _, h => by unfold zipB at h; cases h
  | _ :: _, _ :: _, [], h => by unfold zipB at h; cases h
  | F :: Fs, d :: ds, q :: qs, h => by
    unfold zipB at h
    rw [Bool.and_eq_true] at h
    rw [List.length_cons, List.length_cons, zipB_len h.2]
theorem fad_at {f : Nat} {d : He.DefD} (hd : D.fn[f]? = some d) : (D.pc P w K).fad f = He.fAd K d.at_ := by
  show (match D.fn[f]? with
    | some d => He.fAd K d.at_
    | none => 0) = _
  rw [hd]
theorem fns_some {nm : Nm} (hz : zipB nm D.tb.fns D.fn D.nps = true) {f : Nat} {d : He.DefD} (hd : D.fn[f]? = some d) : ∃ F, D.tb.fns[f]? = some F := by
  have h1 := (List.getElem?_eq_some_iff.mp hd).1
  rw [← zipB_len hz] at h1
  exact ⟨_, List.getElem?_eq_getElem h1⟩
theorem inst_ok (f : factB D K = true) {nm : Nm} (hz : zipB nm D.tb.fns D.fn D.nps = true) (c : Nat) (Cl : M.Cl) (g : Nat) (e : D.tb.cls[c]? = some Cl) (hl : Cl.mets.lookup 0 = some g) : (∃ F, D.tb.fns[g]? = some F) ∧ StX.CallO K ((D.pc P w K).cad c) ((D.pc P w K).fad g) := by
  have q := fact_one f e
  unfold oneF at q
  rw [e] at q
  dsimp only at q
  simp only [Bool.and_eq_true] at q
  have q := q.1.1
  split at q
  · rw [hl] at q
    simp at q
  · unfold clsF at q
    rw [hl] at q
    rw [Bool.and_eq_true] at q
    have q := q.2
    dsimp only at q
    split at q
    · rename_i d hd
      simp only [Bool.and_eq_true, decide_eq_true_eq] at q
      refine ⟨fns_some hz hd, ?_⟩
      rw [fad_at hd]
      exact ⟨q.1.1, q.1.2, q.2⟩
    · cases q
theorem mak_ok (f : factB D K = true) (hn : nmB D = true) {nm : Nm} (hz : zipB nm D.tb.fns D.fn D.nps = true) (X : K.In h) (G : h.Ns mainGlobals mg) (c : Nat) (x : Str) (e : D.nm.cl[c]? = some (some x)) : mg x = some (.ref ((D.pc P w K).cad c)) ∧ ∃ Cl, D.tb.cls[c]? = some Cl ∧ (∃ F, D.tb.fns[Cl.ini]? = some F) ∧ L2.Mk K ((D.pc P w K).cad c) ((D.pc P w K).fad Cl.ini) := by
  unfold nmB at hn
  simp only [Bool.and_eq_true] at hn
  have h1 := all_range hn.1.1.2 (List.getElem?_eq_some_iff.mp e).1
  rw [e] at h1
  simp only [Bool.and_eq_true, decide_eq_true_eq] at h1
  obtain ⟨h2, h3⟩ := h1
  have e1 : D.tb.cls[c]? = some D.tb.cls[c] := List.getElem?_eq_getElem h3
  refine ⟨fact_cl f X G h2, _, e1, ?_⟩
  generalize D.tb.cls[c] = Cl at e1 ⊢
  have q := fact_one f e1
  unfold oneF at q
  rw [e1] at q
  dsimp only at q
  rw [e] at q
  simp only [Bool.and_eq_true, Bool.or_eq_true] at q
  rcases q.2 with q | q
  · cases q
  · unfold makF at q
    rw [Bool.and_eq_true] at q
    obtain ⟨q1, q2⟩ := q
    split at q2
    · rename_i d hd
      refine ⟨fns_some hz hd, ?_⟩
      rw [fad_at hd, of_decide_eq_true q2]
      exact He.mkr_ok q1
    · cases q2
def exsOne (D : Dat) (Cl : M.Cl) (d : He.DefD) (q : List Str × List Str) : Bool := xBody D.nm.ats q.1 Cl.flds 1 d.body && !Cl.flds.isEmpty && decide (q.2.length = Cl.flds.length + 1) && q.1.all (visB d.scope) && decide (Cl.flds.length ≤ 900) && decide Cl.flds.Nodup && Cl.flds.all (fun k => decide (k < D.nm.ats.length)) && scB q.1 q.2 d.scope && d.dfl.isEmpty && d.kwd.isEmpty
def exsB (D : Dat) : Bool := (List.range D.nm.ex.length).all fun c => match D.nm.ex[c]? with
  | some (some _) => (match D.tb.cls[c]? with
    | some Cl => Cl.exc && (match D.fn[Cl.ini]?, D.nps[Cl.ini]? with
      | some d, some q => exsOne D Cl d q
      | _, _ => false)
    | none => false)
  | _ => true
theorem exc_ok' (f : factB D K = true) (hn : nmB D = true) (hx : exsB D = true) (hb : AllB D.fn D.nps) (cc : SaysM fb D.fn K) (X : K.In h) (G : h.Ns mainGlobals mg) (c : Nat) (x : Str) (e : D.nm.ex[c]? = some (some x)) : ∃ Cl fI fd ps, D.tb.cls[c]? = some Cl ∧ mg x = some (.ref ((D.pc P w K).cad c)) ∧ OexC K ((D.pc P w K).cad c) ∧ PySem.W.findIn K (.ref ((D.pc P w K).cad c)) "__init__" = some (some (.ref fI)) ∧ PySem.W.typeIn K (.ref fI) = some (.type "function") ∧
    Binds K fd ps [] ∧ FnOk P w K mg base (L2N.CX P w) 1 fI fd ps (spX (D.pc P w K) ((D.pc P w K).cad c) Cl.flds) := by
  have h1 := all_range hx (List.getElem?_eq_some_iff.mp e).1
  rw [e] at h1
  dsimp only at h1
  split at h1
  · rename_i Cl e1
    rw [Bool.and_eq_true] at h1
    obtain ⟨hex, h1⟩ := h1
    split at h1
    · rename_i d q hd hq
      unfold exsOne at h1
      simp only [Bool.and_eq_true, decide_eq_true_eq, List.all_eq_true, List.isEmpty_iff, Bool.not_eq_true'] at h1
      obtain ⟨⟨⟨⟨⟨⟨⟨⟨⟨g1, g2⟩, g3⟩, g4⟩, g5⟩, g6⟩, g7⟩, g8⟩, g9⟩, g10⟩ := h1
      have h2 := fact_one f e1
      unfold oneF at h2
      rw [e1] at h2
      dsimp only at h2
      rw [e, hex] at h2
      simp only [Bool.and_eq_true, Bool.or_eq_true, if_true] at h2
      have no := (xk_ok (P := P) (w := w) f hn c Cl e1 hex).no
      unfold nmB at hn
      simp only [Bool.and_eq_true, decide_eq_true_eq] at hn
      have hats : D.nm.ats.Nodup := hn.1.1.1.1.1.2
      have h3 := all_range hn.1.2 (List.getElem?_eq_some_iff.mp e).1
      rw [e] at h3
      simp only [Bool.and_eq_true, decide_eq_true_eq] at h3
      rcases h2.1.2 with h4 | h4
      · cases h4
      · unfold raiF at h4
        rw [Bool.and_eq_true, hd] at h4
        simp only [Bool.and_eq_true, decide_eq_true_eq] at h4
        obtain ⟨h5, h6, h7⟩ := h4
        obtain ⟨fd, fu⟩ := cc.def_ Cl.ini hd
        have e5 : d.dvs K = [] := by unfold He.DefD.dvs; rw [g9]; rfl
        have e6 : d.kws K = [] := by unfold He.DefD.kws; rw [g10]; rfl
        rw [e5, e6] at fu
        refine ⟨Cl, He.fAd K d.at_, fd, q.2, e1, fact_cl f X G h3.1, oexB_ok h5, h6, h7, fu.bindsN (hb.at_ hd hq), ?_⟩
        refine xinit_ok (C := D.pc P w K) fu (scB_ok g8) g1 (fun z => by rw [z] at g2; cases g2) g3 (fun x hx => vis_ok (g4 x hx)) (oexB_ok h5) no g5 fun i j a b ea eb hij eq => ?_
        have ha := g7 a (List.mem_of_getElem? ea)
        have hb' := g7 b (List.mem_of_getElem? eb)
        have eq2 : D.nm.ats.getD a ⟨#[]⟩ = D.nm.ats.getD b ⟨#[]⟩ := eq
        rw [List.getD_eq_getElem?_getD, List.getD_eq_getElem?_getD, List.getElem?_eq_getElem ha, List.getElem?_eq_getElem hb'] at eq2
        have eab : a = b := (List.getElem_inj hats).mp eq2
        subst eab
        obtain ⟨hi, ei⟩ := List.getElem?_eq_some_iff.mp ea
        obtain ⟨hj, ej⟩ := List.getElem?_eq_some_iff.mp eb
        exact hij ((List.getElem_inj g6).mp (ei.trans ej.symm))
    · cases h1
  · cases h1
def skB (D : Dat) : Bool := (List.range D.nm.fn.length).all fun i => !D.nm.sk.contains i || (match D.tb.fns[i]?, D.fn[i]?, D.nps[i]? with
  | some F, some d, some q => skF F && decide (i < 1000000) && (match q.2 with
    | [y] => skBody d.body y && scB q.1 [y] d.scope && decide (d.scope.names.lookup y = some .local) && decide (d.scope.names.lookup ("len" : Str) = some .globalImplicit) && !(y == ("__debug__" : Str)) && d.dfl.isEmpty && d.kwd.isEmpty
    | _ => false)
  | _, _, _ => false)
theorem sk_ok' (hs : skB D = true) (hb : AllB D.fn D.nps) (cc : SaysM fb D.fn K) (i : Nat) (x : Str) (e : D.nm.fn[i]? = some (some x)) (hm : i ∈ D.nm.sk) (X : Cx) (n : Nat) (hX : X.K = K) : SkOk X (D.pc P w K) (evFn D.tb n) i := by
  have h1 := all_range hs (List.getElem?_eq_some_iff.mp e).1
  rw [Bool.or_eq_true] at h1
  rcases h1 with h1 | h1
  · rw [Bool.not_eq_true'] at h1
    exact absurd (List.contains_iff_mem.mpr hm) (by rw [h1]; exact Bool.false_ne_true)
  split at h1
  · rename_i F d q eF ed eq
    simp only [Bool.and_eq_true, decide_eq_true_eq] at h1
    obtain ⟨⟨hF, hi⟩, h1⟩ := h1
    split at h1
    · rename_i y ey
      simp only [Bool.and_eq_true, decide_eq_true_eq, List.isEmpty_iff, Bool.not_eq_true'] at h1
      obtain ⟨⟨⟨⟨⟨⟨g1, g2⟩, g3⟩, g4⟩, g5⟩, g6⟩, g7⟩ := h1
      obtain ⟨fd, fu⟩ := cc.def_ i ed
      have e5 : d.dvs K = [] := by unfold He.DefD.dvs; rw [g6]; rfl
      have e6 : d.kws K = [] := by unfold He.DefD.kws; rw [g7]; rfl
      rw [e5, e6] at fu
      have bq := hb.at_ ed eq
      rw [ey] at bq
      refine ⟨⟨d.name, d.qual, d.params, d.body, d.scope, fd, y, q.1, by rw [hX, fad_at ed]; exact fu, scB_ok g2, g1, by rw [hX]; exact fu.bindsN bq, g3, g4, g5⟩, fun xs k h he => ?_⟩
      cases n with
      | zero => cases he
      | succ n =>
        have he2 : (if i < 1000000 then (match D.tb.fns[i]? with
          | some F => runFn D.tb (evFn D.tb n) F [.tup xs] []
          | none => .bad) else (match D.tb.cls[i - 1000000]? with
          | some Cl => mkFn (evFn D.tb n Cl.ini) (i - 1000000) [.tup xs] []
          | none => .bad)) = RE.ok k h := he
        rw [if_pos hi, eF] at he2
        exact skF_run hF he2
    · cases h1
  · cases h1
/-- all that is looked at without the heap -/
def okB (D : Dat) : Bool := nmB D && zipB D.nm D.tb.fns D.fn D.nps && hotB D && exsB D && skB D
theorem pg_of (hk : okB D = true) (f : factB D K = true) (hb : AllB D.fn D.nps) (cc : SaysM fb D.fn K) (X : K.In h) (G : h.Ns mainGlobals mg) : Pg P w K mg base (D.pc P w K) D.tb D.nm := by
  unfold okB at hk
  simp only [Bool.and_eq_true] at hk
  obtain ⟨⟨⟨⟨hn, hz⟩, hh⟩, hx⟩, hs⟩ := hk
  have hn' := hn
  unfold nmB at hn'
  simp only [Bool.and_eq_true, decide_eq_true_eq] at hn'
  have bl := fact_bl f X G
  refine ⟨rfl, rfl, rfl, fun Y hY => ck_ok f hn Y hY, rfl, fun x hx => bl x (List.mem_cons_of_mem _ hx), by have := hn'.1.1.1.1.1.1; simpa using this, fun c z e => xg_ok f hn X G c z e, fun i F hm e => hot_ok hh hb cc hm e, fun e Cl h1 h2 => xk_ok f hn e Cl h1 h2, bl _ List.mem_cons_self, fun i x e => gl_ok' f hn X G i x e,
    fun i F e => ⟨?_, def_ok hz hb cc e⟩, fun c x e => mak_ok f hn hz X G c x e, fun c Cl g e1 e2 => inst_ok f hz c Cl g e1 e2, fun c x e => exc_ok' f hn hx hb cc X G c x e, fun i x e hm Y n hY => sk_ok' hs hb cc i x e hm Y n hY⟩
  have h1 := (List.getElem?_eq_some_iff.mp e).1
  have h2 := hn'.1.1.1.1.2
  omega
end
end M
end

section
set_option Elab.async false
set_option linter.all false
set_option autoImplicit false
set_option maxRecDepth 100000
set_option maxHeartbeats 4000000
/-! Top: the law's promise from its evaluation. -/
namespace M
open PySem PySem.Spec PyProof.Rows L2
section
variable {Dt : Dat} {P : Program} {w : World} {K : PySem.W.Frag} {h base : Heap} {mg : Str → Option Value} {fb : PySem.W.Frag → Bool}
theorem rvs_ints {C : Pc} {lv : Addr → Prop} {m : List Addr} {H : Hp} : ∀ (ns : List Int), RVs C lv m H (ns.map D.int) (ns.map V.int)
  | [] => .nil
  | n :: ns => .cons (.int n) (rvs_ints ns)
theorem sr_top {C : Pc} {H : Hp} : SR C (fun _ => False) [] [] H := ⟨rfl, List.nodup_nil, fun n a w e => by simp at e, fun n a e => by simp at e, fun a z => z.elim, fun n a e => by simp at e⟩
theorem only_rol {C : Pc} (hK : C.K = K) {H : Hp} {a : Addr} {ns : List Int} (hO : Only H) (hS : SqL K H a (ns.map V.int)) : RV C (lvs (fun _ => False) [] []) [] H (.rol (ns.map D.int)) (.ref a) := by
  refine .rol ?_ (rvs_ints ns)
  rcases hS with (h | ⟨o, h⟩) | h
  · rcases hO a with z | ⟨o, xs, z⟩
    · rw [z] at h; cases h
    · rw [z] at h; cases h
  · exact .inl ⟨o, h⟩
  · rw [hK]; exact .inr h
theorem top_of {n li : Nat} {fa : Addr} {x q : Str} {d : He.DefD} {N : List Str} (hk : okB Dt = true) (f : factB Dt K = true) (hb : AllB Dt.fn Dt.nps) (cc : SaysM fb Dt.fn K) (X : K.In h) (G : h.Ns mainGlobals mg)
    (hl : Dt.nm.fn[li]? = some (some x)) (hd : Dt.fn[li]? = some d) (hq : Dt.nps[li]? = some (N, [q])) (hfa : mg x = some (.ref fa)) (ev : ∀ ns : List Int, ns.length ≤ 63 → evFn Dt.tb n li [.rol (ns.map D.int)] [] = .ok (.bl true) []) :
    ∃ (fd : FuncData) (sp : Sp), (∀ (s : Shared) (u : Value), BindsTo s fd ⟨[u], []⟩ [(q, u)]) ∧
        (∀ (H : Hp) (a : Addr) (ns : List Int), ns.length ≤ 63 → Only H → SqL K H a (ns.map V.int) → sp [.ref a] H (fun v _ => v = .bl true) fun _ _ _ => False) ∧
        ∀ base : Heap, K.In base → base.Ns mainGlobals mg → FnOk P w K mg base (L2N.CX P w) (2 * n + 5) fa fd [q] sp := by
  have hk' := hk
  unfold okB at hk'
  simp only [Bool.and_eq_true] at hk'
  obtain ⟨⟨⟨⟨hn, hz⟩, hh⟩, hx⟩, hs⟩ := hk'
  obtain ⟨g1, ⟨F, g2⟩, g3⟩ := gl_ok' (P := P) (w := w) f hn X G li x hl
  rw [hfa] at g3
  injection g3 with g3
  injection g3 with g3
  subst g3
  obtain ⟨d', q', e1, e2, e3⟩ := zipB_at hz g2
  rw [hd] at e1
  cases e1
  rw [hq] at e2
  cases e2
  unfold defB at e3
  simp only [Bool.and_eq_true, decide_eq_true_eq, List.isEmpty_iff] at e3
  obtain ⟨⟨⟨⟨⟨h1, h2⟩, h3⟩, h4⟩, h5⟩, h6⟩ := e3
  obtain ⟨fd, fu⟩ := cc.def_ li hd
  have e5 : d.dvs K = [] := by unfold He.DefD.dvs; rw [h5]; rfl
  have e6 : d.kws K = [] := by unfold He.DefD.kws; rw [h6]; rfl
  rw [e5, e6] at fu
  have bq := hb.at_ hd hq
  have dk : DefOk K (Dt.pc P w K) Dt.nm li F fd [q] := ⟨⟨N, d.name, d.qual, d.params, d.body, d.scope, by rw [fad_at hd]; exact fu, scB_ok h1, h2, h3, h4⟩, fu.bindsN bq⟩
  refine ⟨fd, spF (Dt.pc P w K) Dt.tb (evFn Dt.tb n li), fun s u => fu.bindsA (ps := [q]) bq s [u] rfl, fun H a ns hns hO hS => ?_, fun base _ _ => (fn_at (pg_of hk f hb cc X G) rfl n li F g1 g2 fd [q] dk).2.2⟩
  refine ⟨fun _ => False, [], [], [.rol (ns.map .int)], sr_top, .cons (only_rol rfl hO hS) .nil, ?_⟩
  rw [ev ns hns]
  intro v m' H' s k r
  cases r
  rfl
end
end M
end

section
set_option Elab.async false
set_option linter.all false
set_option autoImplicit false
set_option maxRecDepth 100000
/-! Fin: the law's promise, the world left out. -/
namespace M
open PySem PySem.Spec PyProof.Rows L2
def CXe : CXT := fun _ _ _ E _ _ => ∃ cls d H', E cls d H'
theorem toE {P : Program} {w : World} {K : PySem.W.Frag} {mg : Str → Option Value} {base : Heap} {k : Nat} {f : Addr} {fd : FuncData} {ps : List Str} {sp : Sp} (F : FnOk P w K mg base (L2N.CX P w) k f fd ps sp) : FnOk P w K mg base CXe k f fd ps sp := by
  refine ⟨F.len, fun A outer s H args us vs Q E hr he hb hv hs => codeAny_mono (F.run A outer s H args us vs Q E hr he hb hv hs) fun r s' hq => ?_⟩
  cases r with
  | ok v => cases v <;> exact hq
  | error e =>
    obtain ⟨a, B, H', cls, d, _, _, _, _, _, _, _, hE⟩ := hq
    exact ⟨cls, d, H', hE⟩
end M
end

section
set_option Elab.async false
set_option linter.all false
set_option maxRecDepth 100000
/-! Evl: the evaluator by equations, and loops. -/
namespace M
def intK {β : Type} (r : RE) (k : Int → Hs → Option β) : Option β := match r with
  | .ok (.int j) h => k j h
  | _ => none
def okK {β : Type} (r : RE) (k : D → Hs → Option β) : Option β := match r with
  | .ok x h => k x h
  | _ => none
def srcK (o : Option (Src × Hs)) (k : Src → Hs → RE) : RE := match o with
  | some (s, h) => k s h
  | none => .bad
def srcS (o : Option (Src × Hs)) (k : Src → Hs → RS) : RS := match o with
  | some (s, h) => k s h
  | none => .bad
def rngO (i j : Int) (h : Hs) : Option (Src × Hs) := (rngD i j).map fun xs => (⟨xs, none⟩, h)
def seqO (x : D) (h : Hs) : Option (Src × Hs) := (peek h x).bind fun w => (itemsOf w).map fun xs => ((⟨xs, srcOf x w⟩ : Src), h)
def cK (o : Option D) (k : D → RE) : RE := match o with
  | some e => k e
  | none => .bad
def cS (o : Option D) (k : D → RS) : RS := match o with
  | some e => k e
  | none => .bad
def intE (x : D) (k : Int → RE) : RE := match x with
  | .int i => k i
  | _ => .bad
section
variable {T : Tb} {call : Nat → List D → Hs → RE} {ρ : Rho} {h : Hs}
@[simp] theorem vE_var {i} : evE T call (.var i) ρ h = (match ρ[i]? with
    | some (some d) => .ok d h
    | _ => .bad) := id rfl
@[simp] theorem vE_int {i} : evE T call (.int i) ρ h = .ok (.int i) h := id rfl
@[simp] theorem vE_bl {b} : evE T call (.bl b) ρ h = .ok (.bl b) h := id rfl
@[simp] theorem vE_non : evE T call .non ρ h = .ok .non h := id rfl
@[simp] theorem vE_str {x} : evE T call (.str x) ρ h = .ok (.str x) h := id rfl
@[simp] theorem vE_omit : evE T call .omit ρ h = .ok .non h := id rfl
@[simp] theorem vE_glb {g} : evE T call (.glb g) ρ h = Ro T.cons[g]? h := id rfl
@[simp] theorem vE_bin {o a b} : evE T call (.bin o a b) ρ h = (evE T call a ρ h).bind fun x h => (evE T call b ρ h).bind fun y h => pk h x fun x => pk h y fun y => Ro (evB2 o x y) h := id rfl
@[simp] theorem vE_neg {a} : evE T call (.neg a) ρ h = (evE T call a ρ h).bind fun x h => intE x fun i => .ok (.int (-i)) h := id rfl
@[simp] theorem vE_cmp {o a b} : evE T call (.cmp o a b) ρ h = (evE T call a ρ h).bind fun x h => (evE T call b ρ h).bind fun y h => pk h x fun x => pk h y fun y => Ro ((evC2 o x y).map .bl) h := id rfl
@[simp] theorem vE_chn {o p a b c} : evE T call (.chn o p a b c) ρ h = (evE T call a ρ h).bind fun x h => (evE T call b ρ h).bind fun y h => pk h x fun x' => pk h y fun y' => (match evC2 o x' y' with
    | some true => (evE T call c ρ h).bind fun z h => pk h y fun y' => pk h z fun z' => Ro ((evC2 p y' z').map .bl) h
    | some false => .ok (.bl false) h
    | none => .bad) := id rfl
@[simp] theorem vE_and {a b} : evE T call (.and a b) ρ h = (evE T call a ρ h).bind fun x h => tst x fun t => if t then (evE T call b ρ h).bind fun y h => tst y fun u => .ok (.bl u) h else .ok (.bl false) h := id rfl
@[simp] theorem vE_or {a b} : evE T call (.or a b) ρ h = (evE T call a ρ h).bind fun x h => tst x fun t => if t then .ok (.bl true) h else (evE T call b ρ h).bind fun y h => tst y fun u => .ok (.bl u) h := id rfl
@[simp] theorem vE_not {a} : evE T call (.not a) ρ h = (evE T call a ρ h).bind fun x h => tst x fun t => .ok (.bl (!t)) h := id rfl
@[simp] theorem vE_ite {c a b} : evE T call (.ite c a b) ρ h = (evE T call c ρ h).bind fun x h => tst x fun t => if t then evE T call a ρ h else evE T call b ρ h := id rfl
@[simp] theorem vE_tup {es} : evE T call (.tup es) ρ h = (evEs T call es ρ h).bind fun xs h => if xs.length ≤ LIM then .ok (.tup xs) h else .bad := id rfl
@[simp] theorem vE_lst {es} : evE T call (.lst es) ρ h = (evEs T call es ρ h).bind fun xs h => if xs.length ≤ LIM then .ok (.lst xs) h else .bad := id rfl
@[simp] theorem vE_dict0 {t} : evE T call (.dict0 t) ρ h = .ok (.dic t [] []) h := id rfl
@[simp] theorem vE_idx {a b} : evE T call (.idx a b) ρ h = (evE T call a ρ h).bind fun x h => (evE T call b ρ h).bind fun y h => pk h x fun x => Ro (evIdx x y) h := id rfl
def optK (o : Option (Option Int)) (k : Option Int → RE) : RE := match o with
  | some lo => k lo
  | none => .bad
@[simp] theorem optK_some {o} {k : Option Int → RE} : optK (some o) k = k o := id rfl
@[simp] theorem vE_slc {a l u} : evE T call (.slc a l u) ρ h = (evE T call a ρ h).bind fun x h => (evE T call l ρ h).bind fun y h => optK (optO l y) fun lo => (evE T call u ρ h).bind fun z h => pk h x fun x => Ro ((optO u z).bind fun hi => evSlc x lo hi) h := id rfl
@[simp] theorem optO_omit {d} : optO .omit d = some none := id rfl
@[simp] theorem optO_var {i j} : optO (.var i) (.int j) = some (some j) := id rfl
@[simp] theorem optO_intl {i j} : optO (.int i) (.int j) = some (some j) := id rfl
@[simp] theorem optO_bin {o a b j} : optO (.bin o a b) (.int j) = some (some j) := id rfl
@[simp] theorem optO_f1 {o a j} : optO (.f1 o a) (.int j) = some (some j) := id rfl
@[simp] theorem optO_idx {a b j} : optO (.idx a b) (.int j) = some (some j) := id rfl
@[simp] theorem vE_rev {a} : evE T call (.rev a) ρ h = (evE T call a ρ h).bind fun x h => pk h x fun x => (match x with
    | .lst xs => .ok (.lst xs.reverse) h
    | _ => .bad) := id rfl
@[simp] theorem vE_call {f es} : evE T call (.call f es) ρ h = (evEs T call es ρ h).bind fun xs h => call f xs h := id rfl
def insK (x : D) (k : Nat → RE) : RE := match x with
  | .ins c _ _ => k c
  | _ => .bad
def metK (T : Tb) (c m : Nat) (k : Nat → RE) : RE := match T.cls[c]? with
  | some C => (match C.mets.lookup m with
    | some f => k f
    | none => .bad)
  | none => .bad
@[simp] theorem insK_ins {c a b} {k : Nat → RE} : insK (.ins c a b) k = k c := id rfl
theorem metK_of {c m f C} {k : Nat → RE} (h1 : T.cls[c]? = some C) (h2 : C.mets.lookup m = some f) : metK T c m k = k f := by
  unfold metK
  rw [h1]
  dsimp only
  rw [h2]
@[simp] theorem vE_inst {a b} : evE T call (.inst a b) ρ h = (evE T call a ρ h).bind fun x h => insK x fun c => (evE T call b ρ h).bind fun y h => metK T c 0 fun f => call f [x, y] h := id rfl
@[simp] theorem vE_make {c es} : evE T call (.make c es) ρ h = (evEs T call es ρ h).bind fun xs h => call (1000000 + c) xs h := id rfl
@[simp] theorem vE_f1 {f a} : evE T call (.f1 f a) ρ h = (evE T call a ρ h).bind fun x h => pk h x fun x => Ro (evF1 f x) h := id rfl
@[simp] theorem vE_f2 {f a b} : evE T call (.f2 f a b) ρ h = (evE T call a ρ h).bind fun x h => (evE T call b ρ h).bind fun y h => Ro (evF2 f x y) h := id rfl
@[simp] theorem vE_sortk {f a} : evE T call (.sortk f a) ρ h = (evE T call a ρ h).bind fun x h => pk h x fun x => Ro (evSk (call f) x) h := id rfl
@[simp] theorem vE_isi {a t} : evE T call (.isi a [t]) ρ h = (evE T call a ρ h).bind fun x h => Ro ((isTy x t).map .bl) h := id rfl
@[simp] theorem vE_xfld {a k} : evE T call (.xfld a k) ρ h = (evE T call a ρ h).bind fun x h => Ro (evXf T x k) h := id rfl
@[simp] theorem vE_xisi {a t} : evE T call (.xisi a t) ρ h = (evE T call a ρ h).bind fun x h => Ro ((evXi T x t).map .bl) h := id rfl
@[simp] theorem vE_fld {a k} : evE T call (.fld a k) ρ h = (evE T call a ρ h).bind fun x h => pk h x fun x => Ro (evFld T x k) h := id rfl
@[simp] theorem vE_comp {i it cd el} : evE T call (.comp i it cd el) ρ h = srcK (evI T call it ρ h) fun s h => compGo (srcOk s.at_) (fun x h => evE T call el (ρ.set i (some x)) h) (fun x h => evE T call cd (ρ.set i (some x)) h) s.xs [] h := id rfl
@[simp] theorem vE_comp2 {i it j jt cd el} : evE T call (.comp2 i it j jt cd el) ρ h = srcK (evI T call it ρ h) fun s h => comp2Go (srcOk s.at_) (fun x h acc => srcK (evI T call jt ((ρ.set j none).set i (some x)) h) fun r h => compGo (srcOk r.at_) (fun y h => evE T call el (((ρ.set j none).set i (some x)).set j (some y)) h) (fun y h => evE T call cd (((ρ.set j none).set i (some x)).set j (some y)) h) r.xs acc h) s.xs [] h := id rfl
@[simp] theorem fr_lst {e} : fresh (.lst e) = true := id rfl
@[simp] theorem fr_comp {a b c d} : fresh (.comp a b c d) = true := id rfl
@[simp] theorem fr_comp2 {a b c d e f} : fresh (.comp2 a b c d e f) = true := id rfl
@[simp] theorem fr_dict0 {e} : fresh (.dict0 e) = true := id rfl
@[simp] theorem fr_dict1 {e f} : fresh (.dict1 e f) = true := id rfl
@[simp] theorem fr_list {e} : fresh (.f1 .list e) = true := id rfl
@[simp] theorem fr_sorted {e} : fresh (.f1 .sorted e) = true := id rfl
@[simp] theorem fr_sortk {e f} : fresh (.sortk e f) = true := id rfl
@[simp] theorem vE_new {a} : evE T call (.new a) ρ h = if fresh a then (evE T call a ρ h).bind fun x h => .ok (.ref h.length) (h ++ [.opn x]) else .bad := id rfl
@[simp] theorem vE_frz {i} : evE T call (.frz i) ρ h = (match ρ[i]? with
    | some (some (.ref n)) => (match cont h n with
      | some w => .ok w (h.set n .gone)
      | none => .bad)
    | _ => .bad) := id rfl
def RL.cons (x : D) (r : RL) : RL := match r with
  | .ok xs h => .ok (x :: xs) h
  | .exc c vs h => .exc c vs h
  | .bad => .bad
def RE.bindL (r : RE) (k : D → Hs → RL) : RL := match r with
  | .ok d h => k d h
  | .exc c vs h => .exc c vs h
  | .bad => .bad
@[simp] theorem vEs_nil : evEs T call .nil ρ h = .ok [] h := id rfl
@[simp] theorem vEs_cons {e es} : evEs T call (.cons e es) ρ h = (evE T call e ρ h).bindL fun x h => (evEs T call es ρ h).cons x := id rfl
@[simp] theorem RLcons_ok {x xs} : RL.cons x (.ok xs h) = .ok (x :: xs) h := id rfl
@[simp] theorem RLcons_exc {x c vs} : RL.cons x (.exc c vs h) = .exc c vs h := id rfl
@[simp] theorem bindL_ok {d} {k : D → Hs → RL} : RE.bindL (.ok d h) k = k d h := id rfl
@[simp] theorem bindL_exc {c vs} {k : D → Hs → RL} : RE.bindL (.exc c vs h) k = .exc c vs h := id rfl
@[simp] theorem bind_ok {d} {k : D → Hs → RE} : RE.bind (.ok d h) k = k d h := id rfl
@[simp] theorem bind_exc {c vs} {k : D → Hs → RE} : RE.bind (.exc c vs h) k = .exc c vs h := id rfl
@[simp] theorem Lbind_ok {d} {k : List D → Hs → RE} : RL.bind (.ok d h) k = k d h := id rfl
@[simp] theorem Lbind_exc {c vs} {k : List D → Hs → RE} : RL.bind (.exc c vs h) k = .exc c vs h := id rfl
@[simp] theorem Ro_some {d} : Ro (some d) h = .ok d h := id rfl
@[simp] theorem tst_bl {b} {k : Bool → RE} : tst (.bl b) k = k b := id rfl
@[simp] theorem pk_ref {n} {k : D → RE} : pk h (.ref n) k = cK (cont h n) k := id rfl
@[simp] theorem cK_some {d} {k : D → RE} : cK (some d) k = k d := id rfl
@[simp] theorem cS_some {d} {k : D → RS} : cS (some d) k = k d := id rfl
@[simp] theorem intE_int {i} {k : Int → RE} : intE (.int i) k = k i := id rfl
@[simp] theorem intK_int {β : Type} {i} {k : Int → Hs → Option β} : intK (.ok (.int i) h) k = k i h := id rfl
@[simp] theorem okK_ok {β : Type} {i} {k : D → Hs → Option β} : okK (.ok i h) k = k i h := id rfl
@[simp] theorem srcK_some {s} {k : Src → Hs → RE} : srcK (some (s, h)) k = k s h := id rfl
@[simp] theorem srcS_some {s} {k : Src → Hs → RS} : srcS (some (s, h)) k = k s h := id rfl
@[simp] theorem seqO_tup {x} : seqO (.tup x) h = some ((⟨x, none⟩ : Src), h) := id rfl
@[simp] theorem seqO_lst {x} : seqO (.lst x) h = some ((⟨x, none⟩ : Src), h) := id rfl
@[simp] theorem seqO_rol {x} : seqO (.rol x) h = some ((⟨x, none⟩ : Src), h) := id rfl
def refO (n : Nat) (h : Hs) (o : Option D) : Option (Src × Hs) := o.bind fun w => (itemsOf w).map fun xs => ((⟨xs, some (n, w)⟩ : Src), h)
@[simp] theorem refO_some {n w} : refO n h (some w) = (itemsOf w).map fun xs => ((⟨xs, some (n, w)⟩ : Src), h) := id rfl
@[simp] theorem seqO_ref {n} : seqO (.ref n) h = refO n h (cont h n) := id rfl
@[simp] theorem pk_non {k : D → RE} : pk h .non k = k .non := id rfl
@[simp] theorem pk_bl {b} {k : D → RE} : pk h (.bl b) k = k (.bl b) := id rfl
@[simp] theorem pk_int {b} {k : D → RE} : pk h (.int b) k = k (.int b) := id rfl
@[simp] theorem pk_str {b} {k : D → RE} : pk h (.str b) k = k (.str b) := id rfl
@[simp] theorem pk_tup {b} {k : D → RE} : pk h (.tup b) k = k (.tup b) := id rfl
@[simp] theorem pk_lst {b} {k : D → RE} : pk h (.lst b) k = k (.lst b) := id rfl
@[simp] theorem pk_rol {b} {k : D → RE} : pk h (.rol b) k = k (.rol b) := id rfl
@[simp] theorem pk_dic {t a b} {k : D → RE} : pk h (.dic t a b) k = k (.dic t a b) := id rfl
@[simp] theorem pk_ins {c a b} {k : D → RE} : pk h (.ins c a b) k = k (.ins c a b) := id rfl
@[simp] theorem pk_exn {c b} {k : D → RE} : pk h (.exn c b) k = k (.exn c b) := id rfl
@[simp] theorem peek_ref {n} : peek h (.ref n) = cont h n := id rfl
@[simp] theorem peek_tup {b} : peek h (.tup b) = some (.tup b) := id rfl
@[simp] theorem peek_lst {b} : peek h (.lst b) = some (.lst b) := id rfl
@[simp] theorem peek_rol {b} : peek h (.rol b) = some (.rol b) := id rfl
@[simp] theorem itemsOf_tup {b} : itemsOf (.tup b) = some b := id rfl
@[simp] theorem itemsOf_lst {b} : itemsOf (.lst b) = some b := id rfl
@[simp] theorem itemsOf_rol {b} : itemsOf (.rol b) = some b := id rfl
@[simp] theorem srcOf_ref {n w} : srcOf (.ref n) w = some (n, w) := id rfl
@[simp] theorem srcOf_tup {n w} : srcOf (.tup n) w = none := id rfl
@[simp] theorem srcOf_lst {n w} : srcOf (.lst n) w = none := id rfl
@[simp] theorem srcOf_rol {n w} : srcOf (.rol n) w = none := id rfl
@[simp] theorem srcOk_none : srcOk none h = true := id rfl
@[simp] theorem srcOk_some {n w} : srcOk (some (n, w)) h = decide (cont h n = some w) := id rfl
@[simp] theorem cont_0 {w r} : cont (.opn w :: r) 0 = some w := id rfl
@[simp] theorem cont_s {c r n} : cont (c :: r) (n + 1) = cont r n := id rfl
@[simp] theorem cont_1 {c w r} : cont (c :: .opn w :: r) 1 = some w := id rfl
@[simp] theorem cont_2 {c d w r} : cont (c :: d :: .opn w :: r) 2 = some w := id rfl
@[simp] theorem cont_3 {c d e w r} : cont (c :: d :: e :: .opn w :: r) 3 = some w := id rfl
@[simp] theorem vI_seq {e} : evI T call (.seq e) ρ h = okK (evE T call e ρ h) fun x h => seqO x h := by
  show (match evE T call e ρ h with
    | .ok x h => (peek h x).bind fun w => (itemsOf w).map fun xs => ((⟨xs, srcOf x w⟩ : Src), h)
    | _ => none) = _
  cases evE T call e ρ h <;> rfl
@[simp] theorem vI_rng1 {a} : evI T call (.rng1 a) ρ h = intK (evE T call a ρ h) fun j h => rngO 0 j h := id rfl
@[simp] theorem vI_rng2 {a b} : evI T call (.rng2 a b) ρ h = intK (evE T call a ρ h) fun i h => intK (evE T call b ρ h) fun j h => rngO i j h := id rfl
/-! statements -/
@[simp] theorem st_ok {d} {k : D → Hs → RS} : RE.st (.ok d h) ρ k = k d h := id rfl
@[simp] theorem st_exc {c vs} {k : D → Hs → RS} : RE.st (.exc c vs h) ρ k = .exc c vs ρ h := id rfl
@[simp] theorem vS_set {i e} : evS T call (.set i e) ρ h = (evE T call e ρ h).st ρ fun d h => .nx (ρ.set i (some d)) h := id rfl
@[simp] theorem vS_setIx {a b e} : evS T call (.setIx a b e) ρ h = (evE T call e ρ h).st ρ fun d h => (evE T call a ρ h).st ρ fun o h => (evE T call b ρ h).st ρ fun i h => nxo ρ (storeIx h o i d) := id rfl
@[simp] theorem vS_setFld {a k e} : evS T call (.setFld a k e) ρ h = (evE T call e ρ h).st ρ fun d h => (evE T call a ρ h).st ρ fun o h => nxo ρ (storeFld T h o k d) := id rfl
@[simp] theorem vS_app {a e} : evS T call (.app a e) ρ h = (evE T call a ρ h).st ρ fun o h => if isLst h o then (evE T call e ρ h).st ρ fun d h => nxo ρ (pushTo h o d) else .bad := id rfl
@[simp] theorem vS_expr {e} : evS T call (.expr e) ρ h = (evE T call e ρ h).st ρ fun _ h => .nx ρ h := id rfl
@[simp] theorem vS_ret {e} : evS T call (.ret e) ρ h = (evE T call e ρ h).st ρ fun d h => .rt d h := id rfl
@[simp] theorem vS_ret0 : evS T call .ret0 ρ h = .rt .non h := id rfl
@[simp] theorem vS_pass : evS T call .pass ρ h = .nx ρ h := id rfl
@[simp] theorem vS_brk : evS T call .brk ρ h = .bk ρ h := id rfl
@[simp] theorem vS_cont : evS T call .cont ρ h = .ct ρ h := id rfl
def bIf (d : D) (a b : RS) : RS := match d with
  | .bl true => a
  | .bl false => b
  | _ => .bad
@[simp] theorem bIf_bl {b} {x y : RS} : bIf (.bl b) x y = if b = true then x else y := by cases b <;> rfl
@[simp] theorem vS_ife {c a b} : evS T call (.ife c a b) ρ h = (evE T call c ρ h).st ρ fun d h => bIf d (evSs T call a ρ h) (evSs T call b ρ h) := id rfl
@[simp] theorem vS_fore {i it b} : evS T call (.fore i it b) ρ h = srcS (evI T call it ρ h) fun s h => forGo (srcOk s.at_) h.length (fun x ρ h => evSs T call b (ρ.set i (some x)) h) s.xs ρ h := id rfl
def RLst (r : RL) (ρ : Rho) (k : List D → Hs → RS) : RS := match r with
  | .ok vs h => k vs h
  | .exc c vs h => .exc c vs ρ h
  | .bad => .bad
@[simp] theorem RLst_ok {d} {k : List D → Hs → RS} : RLst (.ok d h) ρ k = k d h := id rfl
@[simp] theorem vS_raise {c es} : evS T call (.raise c es) ρ h = RLst (evEs T call es ρ h) ρ fun vs h => if exOk T c vs then .exc c vs ρ h else .bad := id rfl
def tryK (T : Tb) (c i : Nat) (S : Rho → Hs → RS) (r : RS) : RS := match r with
    | .exc e vs ρ h => (match T.cls[e]? with
      | some C => if exOk T e vs then (if C.up.contains c then (match S (ρ.set i (some (.exn e vs))) h with
        | .nx ρ h => if noXr (ρ.set i none) && noXh h then .nx (ρ.set i none) h else .bad
        | .rt d h => if noX d && noXh h then .rt d h else .bad
        | _ => .bad) else .exc e vs ρ h) else .bad
      | none => .bad)
    | r => r
@[simp] theorem vS_trye {b c i s} : evS T call (.trye b c i s) ρ h = tryK T c i (fun ρ h => evSs T call s ρ h) (evSs T call b ρ h) := id rfl
@[simp] theorem tryK_rt {c i S d} : tryK T c i S (.rt d h) = .rt d h := id rfl
@[simp] theorem tryK_nx {c i S} : tryK T c i S (.nx ρ h) = .nx ρ h := id rfl
def RS.seq (x : RS) (k : Rho → Hs → RS) : RS := match x with
  | .nx ρ h => k ρ h
  | x => x
@[simp] theorem vSs_nil : evSs T call .nil ρ h = .nx ρ h := id rfl
@[simp] theorem vSs_cons {s r} : evSs T call (.cons s r) ρ h = (evS T call s ρ h).seq fun ρ h => evSs T call r ρ h := id rfl
@[simp] theorem seq_nx {k : Rho → Hs → RS} : RS.seq (.nx ρ h) k = k ρ h := id rfl
@[simp] theorem seq_rt {d} {k : Rho → Hs → RS} : RS.seq (.rt d h) k = .rt d h := id rfl
@[simp] theorem seq_bk {k : Rho → Hs → RS} : RS.seq (.bk ρ h) k = .bk ρ h := id rfl
@[simp] theorem seq_ct {k : Rho → Hs → RS} : RS.seq (.ct ρ h) k = .ct ρ h := id rfl
@[simp] theorem seq_exc {c vs} {k : Rho → Hs → RS} : RS.seq (.exc c vs ρ h) k = .exc c vs ρ h := id rfl
@[simp] theorem seq_assoc {x : RS} {k l : Rho → Hs → RS} : RS.seq (RS.seq x k) l = RS.seq x fun ρ h => RS.seq (k ρ h) l := by cases x <;> rfl
@[simp] theorem seq_bad {k : Rho → Hs → RS} : RS.seq .bad k = .bad := id rfl
@[simp] theorem nxo_some {h'} : nxo ρ (some h') = .nx ρ h' := id rfl
def isL : Option D → Bool
  | some (.lst _) => true
  | _ => false
@[simp] theorem isL_lst {xs} : isL (some (.lst xs)) = true := id rfl
@[simp] theorem isLst_ref {n} : isLst h (.ref n) = isL (cont h n) := id rfl
def pushK (h : Hs) (n : Nat) (d : D) : Option D → Option Hs
  | some (.lst xs) => if xs.length < LIM then some (h.set n (.opn (.lst (xs ++ [d])))) else none
  | _ => none
@[simp] theorem pushTo_ref {n d} : pushTo h (.ref n) d = pushK h n d (cont h n) := id rfl
@[simp] theorem pushK_lst {n d xs} : pushK h n d (some (.lst xs)) = if xs.length < LIM then some (h.set n (.opn (.lst (xs ++ [d])))) else none := id rfl
def putK (h : Hs) (n : Nat) (i d : D) : Option D → Option Hs
  | some (.lst xs) => (match i with
    | .int j => (ixD xs.length j).map fun m => h.set n (.opn (.lst (xs.set m d)))
    | _ => none)
  | some (.dic t ks vs) => if keyOk t i && decide (ks.length < LIM) then some (h.set n (.opn (.dic t (dput ks vs i d).1 (dput ks vs i d).2))) else none
  | _ => none
@[simp] theorem storeIx_ref {n i d} : storeIx h (.ref n) i d = putK h n i d (cont h n) := by
  show (match cont h n, i with
    | some (.lst xs), .int j => (ixD xs.length j).map fun m => h.set n (.opn (.lst (xs.set m d)))
    | some (.dic t ks vs), k => if keyOk t k && decide (ks.length < LIM) then some (h.set n (.opn (.dic t (dput ks vs k d).1 (dput ks vs k d).2))) else none
    | _, _ => none) = _
  cases cont h n with
  | none => rfl
  | some w => cases w <;> cases i <;> rfl
@[simp] theorem putK_lst {n j d xs} : putK h n (.int j) d (some (.lst xs)) = (ixD xs.length j).map fun m => h.set n (.opn (.lst (xs.set m d))) := id rfl
@[simp] theorem putK_dic {n i d t ks vs} : putK h n i d (some (.dic t ks vs)) = if keyOk t i && decide (ks.length < LIM) then some (h.set n (.opn (.dic t (dput ks vs i d).1 (dput ks vs i d).2))) else none := id rfl
/-! operations -/
@[simp] theorem vB_add {a b} : evB2 .add a b = evAdd a b := id rfl
@[simp] theorem vB_mul {a b} : evB2 .mul a b = evMul a b := id rfl
@[simp] theorem vB_sub {i j} : evB2 .sub (.int i) (.int j) = some (.int (i - j)) := id rfl
@[simp] theorem vB_fdiv {i j} : evB2 .fdiv (.int i) (.int j) = if 0 < j ∧ j < 1073741824 then some (.int (i / j)) else none := by
  simp only [evB2, evII]
  split <;> rfl
@[simp] theorem vB_mod {i j} : evB2 .mod (.int i) (.int j) = if 0 < j then some (.int (i % j)) else none := by
  simp only [evB2, evII]
  split <;> rfl
@[simp] theorem vB_pow {i j} : evB2 .pow (.int i) (.int j) = if 0 ≤ j ∧ j ≤ 1000000 ∧ i.natAbs < 2 ^ 64 then some (.int (i ^ j.toNat)) else none := by
  simp only [evB2, evII]
  split <;> rfl
@[simp] theorem vAdd_int {i j} : evAdd (.int i) (.int j) = some (.int (i + j)) := id rfl
@[simp] theorem vAdd_tup {i j} : evAdd (.tup i) (.tup j) = if i.length + j.length ≤ LIM then some (.tup (i ++ j)) else none := id rfl
@[simp] theorem vAdd_lst {i j} : evAdd (.lst i) (.lst j) = if i.length + j.length ≤ LIM then some (.lst (i ++ j)) else none := id rfl
@[simp] theorem vMul_int {i j} : evMul (.int i) (.int j) = if mulOk i j then some (.int (i * j)) else none := id rfl
@[simp] theorem vMul_tup {x j} : evMul (.tup x) (.int j) = if 2 ≤ j ∧ j ≤ 1000 ∧ x.length ≤ 1000 ∧ x ≠ [] then some (.tup (List.replicate j.toNat x).flatten) else none := id rfl
@[simp] theorem vMul_lst {x j} : evMul (.lst x) (.int j) = if 0 ≤ j ∧ j ≤ 1000 ∧ x.length ≤ 1000 then some (.lst (List.replicate j.toNat x).flatten) else none := id rfl
@[simp] theorem vC_eq {a b} : evC2 .eq a b = evEq a b := id rfl
@[simp] theorem vC_ne {a b} : evC2 .ne a b = (evEq a b).map (!·) := id rfl
@[simp] theorem vC_isn {a} : evC2 .isn a .non = some (decide (a = .non)) := id rfl
@[simp] theorem vC_notn {a} : evC2 .notn a .non = some (!decide (a = .non)) := id rfl
@[simp] theorem vC_inn {a b} : evC2 .inn a b = evIn a b := id rfl
@[simp] theorem vC_nin {a b} : evC2 .nin a b = (evIn a b).map (!·) := id rfl
@[simp] theorem vC_lt {i j} : evC2 .lt (.int i) (.int j) = some (decide (i < j)) := id rfl
@[simp] theorem vC_le {i j} : evC2 .le (.int i) (.int j) = some (decide (i ≤ j)) := id rfl
@[simp] theorem vC_gt {i j} : evC2 .gt (.int i) (.int j) = some (decide (j < i)) := id rfl
@[simp] theorem vC_ge {i j} : evC2 .ge (.int i) (.int j) = some (decide (j ≤ i)) := id rfl
@[simp] theorem vEq_int {i j} : evEq (.int i) (.int j) = some (decide (i = j)) := by simp [evEq, scl]
@[simp] theorem vEq_bl {i j} : evEq (.bl i) (.bl j) = some (decide (i = j)) := by simp [evEq, scl]
@[simp] theorem vEq_str {i j} : evEq (.str i) (.str j) = some (decide (i = j)) := by simp [evEq, scl]
@[simp] theorem vF_len {a} : evF1 .len a = evLen a := id rfl
@[simp] theorem vF_tuple {a} : evF1 .tuple a = evTuple a := id rfl
@[simp] theorem vF_list {a} : evF1 .list a = evList a := id rfl
@[simp] theorem vF_sorted {xs} : evF1 .sorted (.lst xs) = (evSorted xs).map .lst := id rfl
@[simp] theorem vF_max {xs} : evF1 .max (.lst xs) = ((intL xs).bind maxI).map .int := id rfl
@[simp] theorem vF_min {xs} : evF1 .min (.lst xs) = ((intL xs).bind minI).map .int := id rfl
@[simp] theorem vF_sum {xs} : evF1 .sum (.lst xs) = (intL xs).map fun is => .int is.sum := id rfl
@[simp] theorem vF_int {a} : evF1 .int a = evInt a := id rfl
@[simp] theorem vF2_max {i j} : evF2 .max (.int i) (.int j) = some (.int (if j > i then j else i)) := id rfl
@[simp] theorem vF2_min {i j} : evF2 .min (.int i) (.int j) = some (.int (if j < i then j else i)) := id rfl
@[simp] theorem vLen_tup {x} : evLen (.tup x) = some (.int x.length) := id rfl
@[simp] theorem vLen_lst {x} : evLen (.lst x) = some (.int x.length) := id rfl
@[simp] theorem vLen_rol {x} : evLen (.rol x) = some (.int x.length) := id rfl
@[simp] theorem vLen_dic {k v} : evLen (.dic true k v) = some (.int k.length) := id rfl
@[simp] theorem vTup_tup {x} : evTuple (.tup x) = some (.tup x) := id rfl
@[simp] theorem vTup_lst {x} : evTuple (.lst x) = some (.tup x) := id rfl
@[simp] theorem vList_tup {x} : evList (.tup x) = some (.lst x) := id rfl
@[simp] theorem vList_lst {x} : evList (.lst x) = some (.lst x) := id rfl
@[simp] theorem vList_dic {k v} : evList (.dic true k v) = some (.lst k) := id rfl
@[simp] theorem vInt_int {i} : evInt (.int i) = some (.int i) := id rfl
@[simp] theorem vInt_bl {b} : evInt (.bl b) = some (.int (if b then 1 else 0)) := id rfl
@[simp] theorem vIdx_tup {x i} : evIdx (.tup x) (.int i) = atD x i := id rfl
@[simp] theorem vIdx_lst {x i} : evIdx (.lst x) (.int i) = atD x i := id rfl
@[simp] theorem vIdx_rol {x i} : evIdx (.rol x) (.int i) = atD x i := id rfl
@[simp] theorem vIdx_dic {t ks vs k} : evIdx (.dic t ks vs) k = if keyOk t k then dget ks vs k else none := by cases k <;> rfl
@[simp] theorem atD_nat {x : List D} {n : Nat} : atD x (n : Int) = x[n]? := by
  unfold atD ixD
  rw [if_pos (by omega)]
  by_cases q : n < x.length
  · rw [if_pos (by omega)]
    simp
  · rw [if_neg (by omega)]
    simp
    omega
@[simp] theorem atD_0 {x : List D} : atD x 0 = x[0]? := atD_nat (n := 0)
@[simp] theorem atD_lit {x : List D} {n : Nat} : atD x (OfNat.ofNat n) = x[OfNat.ofNat n]? := atD_nat (n := n)
@[simp] theorem atD_1 {x : List D} : atD x 1 = x[1]? := atD_nat (n := 1)
@[simp] theorem atD_2 {x : List D} : atD x 2 = x[2]? := atD_nat (n := 2)
@[simp] theorem atD_3 {x : List D} : atD x 3 = x[3]? := atD_nat (n := 3)
@[simp] theorem atD_4 {x : List D} : atD x 4 = x[4]? := atD_nat (n := 4)
@[simp] theorem atD_5 {x : List D} : atD x 5 = x[5]? := atD_nat (n := 5)
@[simp] theorem atD_6 {x : List D} : atD x 6 = x[6]? := atD_nat (n := 6)
@[simp] theorem atD_7 {x : List D} : atD x 7 = x[7]? := atD_nat (n := 7)
@[simp] theorem atD_8 {x : List D} : atD x 8 = x[8]? := atD_nat (n := 8)
@[simp] theorem atD_9 {x : List D} : atD x 9 = x[9]? := atD_nat (n := 9)
@[simp] theorem atD_10 {x : List D} : atD x 10 = x[10]? := atD_nat (n := 10)
@[simp] theorem atD_11 {x : List D} : atD x 11 = x[11]? := atD_nat (n := 11)
theorem ixD_nat {n i : Nat} (h : i < n) : ixD n (i : Int) = some i := by
  unfold ixD
  rw [if_pos (by omega), if_pos (by omega)]
  simp
theorem rngD_nat {a b : Nat} (h : b ≤ LIM) (ha : a ≤ LIM) : rngD (a : Int) (b : Int) = some ((List.range' a (b - a)).map fun n : Nat => D.int n) := by
  unfold LIM at h ha
  unfold rngD
  rw [if_pos ⟨by omega, by omega, by omega, by omega, by unfold LIM; omega⟩, show ((b : Int) - (a : Int)).toNat = b - a by omega, List.range'_eq_map_range]
  simp
theorem rngO_nat {a b : Nat} (hb : b ≤ LIM) (ha : a ≤ LIM) : rngO (a : Int) (b : Int) h = some (⟨(List.range' a (b - a)).map fun n : Nat => D.int n, none⟩, h) := by
  unfold rngO
  rw [rngD_nat hb ha]
  rfl
theorem rngD_0 {b : Nat} (h : b ≤ LIM) : rngD 0 (b : Int) = some ((List.range b).map fun n : Nat => D.int n) := by
  have e := rngD_nat (a := 0) h (Nat.zero_le _)
  rw [Nat.sub_zero, ← List.range_eq_range'] at e
  exact e
theorem rngO_0 {b : Nat} (hb : b ≤ LIM) : rngO 0 (b : Int) h = some (⟨(List.range b).map fun n : Nat => D.int n, none⟩, h) := by
  unfold rngO
  rw [rngD_0 hb]
  rfl
@[simp] theorem isTy_int_int {i} : isTy (.int i) .int = some true := id rfl
@[simp] theorem isTy_bl_int {i} : isTy (.bl i) .int = some true := id rfl
@[simp] theorem isTy_tup_int {i} : isTy (.tup i) .int = some false := id rfl
@[simp] theorem isTy_non_int : isTy .non .int = some false := id rfl
@[simp] theorem isTy_str_int {i} : isTy (.str i) .int = some false := id rfl
@[simp] theorem isTy_int_bool {i} : isTy (.int i) .bool = some false := id rfl
@[simp] theorem isTy_bl_bool {i} : isTy (.bl i) .bool = some true := id rfl
@[simp] theorem isTy_non_bool : isTy .non .bool = some false := id rfl
@[simp] theorem isTy_str_bool {i} : isTy (.str i) .bool = some false := id rfl
@[simp] theorem isTy_tup_bool {i} : isTy (.tup i) .bool = some false := id rfl
@[simp] theorem isTy_int_tup {i} : isTy (.int i) .tuple = some false := id rfl
@[simp] theorem isTy_bl_tup {i} : isTy (.bl i) .tuple = some false := id rfl
@[simp] theorem isTy_str_tup {i} : isTy (.str i) .tuple = some false := id rfl
@[simp] theorem isTy_non_tup : isTy .non .tuple = some false := id rfl
@[simp] theorem isTy_tup_tup {i} : isTy (.tup i) .tuple = some true := id rfl
@[simp] theorem isTy_lst_tup {i} : isTy (.lst i) .tuple = some false := id rfl
@[simp] theorem isTy_str_str {i} : isTy (.str i) .str = some true := id rfl
@[simp] theorem isTy_int_str {i} : isTy (.int i) .str = some false := id rfl
@[simp] theorem isTy_non_str : isTy .non .str = some false := id rfl
end

/-! ### calls -/
theorem lend_nr {h : Hs} : ∀ {ws : List D}, norefs ws = true → lend h ws = some (ws, false)
  | [], _ => rfl
  | d :: r, e => by
    simp only [norefs, Bool.and_eq_true] at e
    have er := lend_nr (h := h) e.2
    cases d <;> simp_all [lend, noref]
theorem fn_rt {T : Tb} {n f : Nat} {F : Fn} {ws : List D} {h h' : Hs} {d : D} (e : T.fns[f]? = some F) (hf : decide (f < 1000000) = true) (hp : F.pure = true) (hl : ws.length = F.np) (hn : norefs ws = true)
    (hb : evSs T (evFn T n) F.body (start F.ns ws) [] = .rt d h') (hd : noref d = true) : evFn T (n + 1) f ws h = .ok d h := by
  unfold evFn
  rw [if_pos (of_decide_eq_true hf), e]
  dsimp only
  unfold runFn
  rw [if_pos hl, hp]
  dsimp only
  rw [lend_nr hn]
  dsimp only
  rw [hb]
  unfold pureRes fnRes okRes
  simp [hd]
theorem fn_exc {T : Tb} {n f : Nat} {F : Fn} {ws : List D} {h h' : Hs} {c : Nat} {vs : List D} {ρ : Rho} (e : T.fns[f]? = some F) (hf : decide (f < 1000000) = true) (hp : F.pure = true) (hl : ws.length = F.np) (hn : norefs ws = true)
    (hb : evSs T (evFn T n) F.body (start F.ns ws) [] = .exc c vs ρ h') (hd : norefs vs = true) : evFn T (n + 1) f ws h = .exc c vs h := by
  unfold evFn
  rw [if_pos (of_decide_eq_true hf), e]
  dsimp only
  unfold runFn
  rw [if_pos hl, hp]
  dsimp only
  rw [lend_nr hn]
  dsimp only
  rw [hb]
  unfold pureRes fnRes okRess
  simp [hd]

/-! ### loops -/
theorem compGo_map {α : Type} {ck f t} {e : α → D} {h : Hs} (p : α → Bool) (g : α → D) (hck : ck h = true) : ∀ {xs : List α} {acc : List D}, (∀ x ∈ xs, t (e x) h = .ok (.bl (p x)) h) → (∀ x ∈ xs, p x = true → f (e x) h = .ok (g x) h) → acc.length + xs.length ≤ LIM →
    compGo ck f t (xs.map e) acc h = .ok (.lst (acc ++ (xs.filter p).map g)) h
  | [], acc, _, _, _ => by
    unfold compGo
    simp [hck]
  | x :: xs, acc, ht, hf, hl => by
    have hl' : acc.length + (xs.length + 1) ≤ LIM := hl
    have ht' := fun y (hy : y ∈ xs) => ht y (List.mem_cons_of_mem _ hy)
    have hf' := fun y (hy : y ∈ xs) => hf y (List.mem_cons_of_mem _ hy)
    unfold compGo
    rw [List.map_cons]
    dsimp only
    rw [hck, if_pos rfl, ht x (List.mem_cons_self ..)]
    cases hp : p x with
    | true =>
      dsimp only
      rw [hf x (List.mem_cons_self ..) hp]
      dsimp only
      rw [if_pos (by omega), compGo_map p g hck ht' hf' (by simp; omega)]
      simp [hp]
    | false =>
      dsimp only
      rw [compGo_map p g hck ht' hf' (by omega)]
      simp [hp]
/-- a for by its invariant (done items are forgotten) -/
theorem forGo_inv {ck n f} {P : List D → Rho → Hs → Prop} {Q : RS → Prop} (hend : ∀ ρ h, P [] ρ h → ck h = true ∧ Q (.nx ρ h))
    (hs : ∀ x xs ρ h, P (x :: xs) ρ h → ck h = true ∧ ((∃ ρ' h', (f x ρ h = .nx ρ' h' ∨ f x ρ h = .ct ρ' h') ∧ h'.length ≤ n ∧ P xs ρ' h') ∨ (∃ d h', f x ρ h = .rt d h' ∧ Q (.rt d h')) ∨ (∃ ρ' h', f x ρ h = .bk ρ' h' ∧ Q (.nx ρ' h')) ∨ (∃ c vs ρ' h', f x ρ h = .exc c vs ρ' h' ∧ Q (.exc c vs ρ' h')))) : ∀ xs ρ h, P xs ρ h → Q (forGo ck n f xs ρ h)
  | [], ρ, h, p => by
    unfold forGo
    rw [if_pos (hend ρ h p).1]
    exact (hend ρ h p).2
  | x :: xs, ρ, h, p => by
    obtain ⟨h1, h2⟩ := hs x xs ρ h p
    unfold forGo
    rw [if_pos h1]
    rcases h2 with ⟨ρ', h', e, hl, p'⟩ | ⟨d, h', e, q⟩ | ⟨ρ', h', e, q⟩ | ⟨c, vs, ρ', h', e, q⟩
    · have r := forGo_inv hend hs xs ρ' h' p'
      rcases e with e | e
      · rw [e]
        dsimp only
        unfold trim
        rw [if_pos hl]
        exact r
      · rw [e]
        dsimp only
        unfold trim
        rw [if_pos hl]
        exact r
    · rw [e]; exact q
    · rw [e]; exact q
    · rw [e]; exact q
/-- a for that goes on to its end: a state of its own -/
theorem forGo_fold {α σ : Type} {ck n f} {e : α → D} (sh : σ → Rho) (hp : σ → Hs) (step : σ → α → σ) (I : σ → Prop) (hI : ∀ s, I s → ck (hp s) = true) : ∀ (xs : List α) (s : σ), I s →
    (∀ x ∈ xs, ∀ s, I s → (f (e x) (sh s) (hp s) = .nx (sh (step s x)) (hp (step s x)) ∨ f (e x) (sh s) (hp s) = .ct (sh (step s x)) (hp (step s x))) ∧ (hp (step s x)).length ≤ n ∧ I (step s x)) →
    forGo ck n f (xs.map e) (sh s) (hp s) = .nx (sh (xs.foldl step s)) (hp (xs.foldl step s)) ∧ I (xs.foldl step s)
  | [], s, hi, _ => by
    unfold forGo
    simp [hI s hi, hi]
  | x :: xs, s, hi, hf => by
    have hf' := fun y (hy : y ∈ xs) => hf y (List.mem_cons_of_mem _ hy)
    obtain ⟨h1, h2, h3⟩ := hf x (List.mem_cons_self ..) s hi
    have r := forGo_fold sh hp step I hI xs (step s x) h3 hf'
    unfold forGo
    rw [List.map_cons]
    dsimp only
    rw [if_pos (hI s hi)]
    rcases h1 with h1 | h1
    · rw [h1]
      dsimp only
      unfold trim
      rw [if_pos h2]
      exact r
    · rw [h1]
      dsimp only
      unfold trim
      rw [if_pos h2]
      exact r
/-- a for that looks for the first item of a kind; the loop's name is all that it stores -/
theorem forGo_find {α : Type} {ck n f} {e : α → D} {h : Hs} (p : α → Bool) (g : α → D) (i : Nat) (hck : ck h = true) (hn : h.length ≤ n) : ∀ (xs : List α) (ρ : Rho),
    (∀ x ∈ xs, ∀ o, f (e x) (ρ.set i o) h = if p x = true then .rt (g x) h else .nx (ρ.set i (some (e x))) h) →
    forGo ck n f (xs.map e) (ρ.set i o) h = (match xs.find? p with
      | some x => .rt (g x) h
      | none => .nx (ρ.set i ((xs.getLast?.map fun x => some (e x)).getD o)) h)
  | [], ρ, _ => by
    unfold forGo
    simp [hck]
  | x :: xs, ρ, hf => by
    have hf' := fun y (hy : y ∈ xs) => hf y (List.mem_cons_of_mem _ hy)
    unfold forGo
    rw [List.map_cons]
    dsimp only
    rw [hck, if_pos rfl, hf x (List.mem_cons_self ..)]
    cases hp : p x with
    | true => simp [hp]
    | false =>
      rw [if_neg (by simp)]
      dsimp only
      unfold trim
      rw [if_pos hn]
      dsimp only
      rw [forGo_find p g i hck hn xs ρ hf']
      simp only [List.find?_cons, hp]
      cases xs.find? p with
      | some y => rfl
      | none =>
        cases xs with
        | nil => simp
        | cons y ys => simp [List.getLast?_cons]
/-! ### a row of plain data -/
mutual
/-- whole numbers, None, tuples and lists of these -/
def pn : D → Bool
  | .non => true
  | .int _ => true
  | .tup xs => pns xs
  | .lst xs => pns xs
  | _ => false
def pns : List D → Bool
  | [] => true
  | x :: xs => pn x && pns xs
end
end M
end

section
set_option Elab.async false
set_option linter.all false
set_option maxRecDepth 100000
/-! Evq: plain data: ==, in, <, sorted, keys. -/
namespace M
open PySem
mutual
/-- whole numbers, None, texts, tuples of these, to a depth -/
def q : Nat → D → Bool
  | _, .non => true
  | _, .int _ => true
  | _, .str cs => PyData.strOk ⟨cs.toArray⟩
  | 0, .tup _ => false
  | k + 1, .tup xs => qs k xs
  | _, _ => false
def qs : Nat → List D → Bool
  | _, [] => true
  | k, x :: xs => q k x && qs k xs
end
@[simp] theorem q_non {k} : q k .non = true := by unfold q; rfl
@[simp] theorem q_int {k i} : q k (.int i) = true := by unfold q; rfl
@[simp] theorem q_tup {k xs} : q (k + 1) (.tup xs) = qs k xs := by rw [q]
@[simp] theorem qs_nil {k} : qs k [] = true := by unfold qs; rfl
@[simp] theorem qs_cons {k x xs} : qs k (x :: xs) = (q k x && qs k xs) := by rw [qs]
theorem q_str {k cs} : q k (.str cs) = PyData.strOk ⟨cs.toArray⟩ := by unfold q; rfl
theorem qs_all {k} : ∀ {xs : List D}, qs k xs = true ↔ ∀ x ∈ xs, q k x = true
  | [] => by simp
  | x :: xs => by simp [qs_all (xs := xs)]
theorem qs_map {α : Type} {k} {e : α → D} {xs : List α} (h : ∀ x ∈ xs, q k (e x) = true) : qs k (xs.map e) = true := qs_all.mpr fun y hy => by
  obtain ⟨x, hx, rfl⟩ := List.mem_map.mp hy
  exact h x hx
@[simp] theorem qs_append {k xs ys} : qs k (xs ++ ys) = (qs k xs && qs k ys) := by
  induction xs with
  | nil => simp
  | cons x xs ih => simp [ih, Bool.and_assoc]
/-- induction on q -/
theorem q_ind {P : Nat → D → Prop} {Ps : Nat → List D → Prop} (hn : ∀ k, P k .non) (hi : ∀ k i, P k (.int i)) (hs : ∀ k cs, PyData.strOk ⟨cs.toArray⟩ = true → P k (.str cs)) (ht : ∀ k xs, Ps k xs → P (k + 1) (.tup xs)) (h0 : ∀ k, Ps k []) (hc : ∀ k x xs, P k x → Ps k xs → Ps k (x :: xs)) : (∀ (d : D) (k : Nat), q k d = true → P k d) ∧ (∀ (ds : List D) (k : Nat), qs k ds = true → Ps k ds) := by
  have key : ∀ n, (∀ d : D, sizeOf d ≤ n → ∀ k, q k d = true → P k d) ∧ (∀ ds : List D, sizeOf ds ≤ n → ∀ k, qs k ds = true → Ps k ds) := by
    intro n
    induction n with
    | zero => exact ⟨fun d h => by cases d <;> simp at h, fun ds h => by cases ds <;> simp at h⟩
    | succ n ih =>
      refine ⟨fun d h k e => ?_, fun ds h k e => ?_⟩
      · cases d with
        | non => exact hn k
        | int i => exact hi k i
        | str cs => exact hs k cs (by rw [q_str] at e; exact e)
        | tup xs =>
          cases k with
          | zero => unfold q at e; cases e
          | succ k => exact ht k xs (ih.2 xs (by simp at h; omega) k (by simpa using e))
        | _ => unfold q at e; cases e
      · cases ds with
        | nil => exact h0 k
        | cons x xs =>
          simp at e h
          exact hc k x xs (ih.1 x (by omega) k e.1) (ih.2 xs (by omega) k e.2)
  exact ⟨fun d k e => (key (sizeOf d)).1 d (Nat.le_refl _) k e, fun d k e => (key (sizeOf d)).2 d (Nat.le_refl _) k e⟩
theorem q_pd : (∀ (d : D) (k : Nat), q k d = true → pd d = true ∧ pl d = true ∧ (toPy d).canLay0 = true ∧ (toPy d).depth ≤ k) ∧ (∀ (d : List D) (k : Nat), qs k d = true → pds d = true ∧ pls d = true ∧ PyData.canLayAll0 (toPys d) = true ∧ PyData.depthAll (toPys d) ≤ k) := by
  refine q_ind (fun k => ?_) (fun k i => ?_) (fun k cs h => ?_) (fun k xs h => ?_) (fun k => ?_) (fun k x xs h1 h2 => ?_)
  · simp [pd, pl, toPy, PyData.canLay0, PyData.depth]
  · simp [pd, pl, toPy, PyData.canLay0, PyData.depth]
  · simp [pd, pl, toPy, PyData.canLay0, PyData.depth, h]
  · simp [pd, pl, toPy, PyData.canLay0, PyData.depth, h]
  · simp [pds, pls, toPys, PyData.canLayAll0, PyData.depthAll]
  · simp [pds, pls, toPys, PyData.canLayAll0, PyData.depthAll, h1, h2]
    omega
theorem q_eqv : (∀ (d : D) (k : Nat), q k d = true → ∀ b, q k b = true → PyData.eqv (toPy d) (toPy b) = decide (d = b)) ∧ (∀ (d : List D) (k : Nat), qs k d = true → ∀ b, qs k b = true → PyData.eqvAll (toPys d) (toPys b) = decide (d = b)) := by
  refine q_ind (fun k b hb => ?_) (fun k i b hb => ?_) (fun k cs h b hb => ?_) (fun k xs h b hb => ?_) (fun k b hb => ?_) (fun k x xs h1 h2 b hb => ?_)
  · cases b <;> first | (unfold q at hb; cases hb; done) | simp [toPy, PyData.eqv]
  · cases b <;> first | (unfold q at hb; cases hb; done) | simp [toPy, PyData.eqv]
    rfl
  · cases b <;> first | (unfold q at hb; cases hb; done) | simp [toPy, PyData.eqv]
    rename_i y
    by_cases e : cs = y
    · subst e; simp
    · simp only [e, decide_false, beq_eq_false_iff_ne, ne_eq]
      intro z
      injection z with z
      exact e (by simpa using z)
  · cases b <;> first | (unfold q at hb; cases hb; done) | simp [toPy, PyData.eqv]
    rename_i y
    rw [h y (by simpa using hb)]
  · cases b with
    | nil => simp [toPys, PyData.eqvAll]
    | cons y ys => simp [toPys, PyData.eqvAll]
  · cases b with
    | nil => simp [toPys, PyData.eqvAll]
    | cons y ys =>
      simp at hb
      simp [toPys, PyData.eqvAll, h1 y hb.1, h2 ys hb.2]
theorem eqOk_q {d : D} (h : q 60 d = true) : eqOk d = true := by
  obtain ⟨h1, _, h2, h3⟩ := q_pd.1 d 60 h
  unfold eqOk SeqAt.shaped
  simp [h1, h2]
  omega
theorem q_mono : (∀ (d : D) (k : Nat), q k d = true → ∀ m, k ≤ m → q m d = true) ∧ (∀ (d : List D) (k : Nat), qs k d = true → ∀ m, k ≤ m → qs m d = true) := by
  refine q_ind (fun k m _ => q_non) (fun k i m _ => q_int) (fun k cs h m _ => by rw [q_str]; exact h) (fun k xs h m hm => ?_) (fun k m _ => qs_nil) (fun k x xs h1 h2 m hm => by simp [h1 m hm, h2 m hm])
  cases m with
  | zero => omega
  | succ m => rw [q_tup]; exact h m (by omega)
theorem q_le {a b : Nat} {d : D} (h : q a d = true) (hab : a ≤ b := by decide) : q b d = true := q_mono.1 d a h b hab
theorem qs_le {a b : Nat} {d : List D} (h : qs a d = true) (hab : a ≤ b := by decide) : qs b d = true := q_mono.2 d a h b hab
theorem q_noref : (∀ (d : D) (k : Nat), q k d = true → noref d = true ∧ imm d = true ∧ noX d = true) ∧ (∀ (d : List D) (k : Nat), qs k d = true → norefs d = true ∧ imms d = true ∧ noXs d = true) := by
  refine q_ind (fun k => ?_) (fun k i => ?_) (fun k cs h => ?_) (fun k xs h => ?_) (fun k => ?_) (fun k x xs h1 h2 => ?_)
  · simp [noref, imm, noX]
  · simp [noref, imm, noX]
  · simp [noref, imm, noX]
  · simp [noref, imm, noX, h]
  · simp [norefs, imms, noXs]
  · simp [norefs, imms, noXs, h1, h2]
theorem pyEq_q {a b : D} {k} (ha : q k a = true) (hb : q k b = true) : pyEq a b = decide (a = b) := q_eqv.1 a k ha b hb
theorem evEq_q {a b : D} (ha : q 8 a = true) (hb : q 8 b = true) : evEq a b = some (decide (a = b)) := by
  unfold evEq
  split
  · rfl
  · rw [eqOk_q (q_le ha), eqOk_q (q_le hb), pyEq_q ha hb]
    rfl
theorem any_q {x : D} {ys : List D} (hx : q 8 x = true) (hy : qs 8 ys = true) : (ys.any fun y => pyEq y x) = decide (x ∈ ys) := by
  induction ys with
  | nil => simp
  | cons y ys ih =>
    simp at hy
    rw [List.any_cons, ih hy.2, pyEq_q hy.1 hx]
    by_cases e : y = x
    · simp [e]
    · have e' : ¬ x = y := fun z => e z.symm
      simp [e, e']
theorem evIn_tup {x : D} {ys : List D} (hx : q 8 x = true) (hy : qs 8 ys = true) : evIn x (.tup ys) = some (decide (x ∈ ys)) := by
  unfold evIn
  dsimp only
  rw [any_q hx hy, eqOk_q (q_le hx), eqOk_q (d := .tup ys) (q_le (a := 9) (by simpa using hy))]
  simp [List.all_eq_true]
  exact fun y h => eqOk_q (q_le (qs_all.mp hy y h))
theorem evIn_lst {x : D} {ys : List D} (hx : q 8 x = true) (hy : qs 8 ys = true) : evIn x (.lst ys) = some (decide (x ∈ ys)) := by
  unfold evIn
  have e2 : eqOk (.lst ys) = true := eqOk_q (d := .tup ys) (q_le (a := 9) (by simpa using hy))
  dsimp only
  rw [any_q hx hy, eqOk_q (q_le hx), e2]
  simp [List.all_eq_true]
  exact fun y h => eqOk_q (q_le (qs_all.mp hy y h))
theorem keyOk_q {xs : List D} (h : qs 7 xs = true) : keyOk true (.tup xs) = true := by
  obtain ⟨_, h2, _, h3⟩ := q_pd.1 (.tup xs) 8 (by simpa using h)
  unfold keyOk dpt
  simp only [Bool.and_eq_true, decide_eq_true_eq]
  exact ⟨by simpa [pl] using h2, h3⟩
/-! ### in order -/
open PySem.W PyProof.Rows
def leD (a b : D) : Bool := !pyLt b a
theorem leD_total (a b : D) : (leD a b || leD b a) = true := by
  unfold leD pyLt dataLt
  cases h : PyProof.Rows.lexLt itemOrd (keyToks (toPy b)) (keyToks (toPy a)) with
  | false => rfl
  | true =>
    cases h2 : PyProof.Rows.lexLt itemOrd (keyToks (toPy a)) (keyToks (toPy b)) with
    | false => rfl
    | true =>
      have := lex_trans (O := itemOrd) _ _ _ h h2
      rw [lex_irrefl] at this
      cases this
theorem leD_trans (a b c : D) (h1 : leD a b = true) (h2 : leD b c = true) : leD a c = true := by
  unfold leD pyLt dataLt at *
  simp only [Bool.not_eq_true'] at *
  cases h : PyProof.Rows.lexLt itemOrd (keyToks (toPy c)) (keyToks (toPy a)) with
  | false => rfl
  | true =>
    rcases lex_negTrans (O := itemOrd) _ (keyToks (toPy b)) _ h with z | z
    · rw [h2] at z; cases z
    · rw [h1] at z; cases z
/-- alike data: whole numbers to whole numbers, tuples to tuples -/
def alk (a b : D) : Bool := alike (toPy a) (toPy b)
theorem leD_anti {a b : D} {k} (ha : q k a = true) (hb : q k b = true) (hab : alk a b = true) (h1 : leD a b = true) (h2 : leD b a = true) : a = b := by
  unfold leD pyLt dataLt at h1 h2
  simp only [Bool.not_eq_true'] at h1 h2
  have et := lex_total (O := itemOrd) _ _ h1 h2
  have t := toks_eqv (toPy a) (toPy b) hab
  cases e : PyData.eqv (toPy a) (toPy b) with
  | true =>
    rw [q_eqv.1 a k ha b hb] at e
    exact of_decide_eq_true e
  | false =>
    have z := t.2 e [.inl 0] []
    rw [List.append_nil, et, lex_irrefl] at z
    have z2 := t.2 e [] [.inl 0]
    rw [List.append_nil, et, lex_irrefl] at z2
    exfalso
    have f : ∀ l : List (Int ⊕ List Nat), PyProof.Rows.lexLt itemOrd l (l ++ [.inl 0]) = true := by
      intro l
      induction l with
      | nil => rfl
      | cons x l ih => rw [List.cons_append, lex_self]; exact ih
    rw [f] at z2
    cases z2
theorem mergeSort_eq_of_perm {α : Type} {le : α → α → Bool} (tr : ∀ a b c, le a b = true → le b c = true → le a c = true) (tt : ∀ a b, (le a b || le b a) = true) {l m : List α} (an : ∀ a ∈ l, ∀ b ∈ m, le a b = true → le b a = true → a = b) (p : l.Perm m) : l.mergeSort le = m.mergeSort le := by
  refine List.Perm.eq_of_pairwise (le := fun a b => le a b = true) (fun a b ha hb => an a (by simpa using ha) b (by simpa using hb)) (List.pairwise_mergeSort tr tt l) (List.pairwise_mergeSort tr tt m) ?_
  exact (List.mergeSort_perm l le).trans (p.trans (List.mergeSort_perm m le).symm)
theorem sortD_eq (xs : List D) : sortD xs = xs.mergeSort leD := rfl
/-- sorted of things of one kind -/
theorem sortD_map {α : Type} {e : α → D} {xs : List α} : sortD (xs.map e) = (xs.mergeSort fun a b => leD (e a) (e b)).map e := by
  rw [sortD_eq]
  exact (List.map_mergeSort (f := e) (fun _ _ _ _ => rfl)).symm
theorem evSorted_int {xs : List Int} (h : xs.length ≤ LIM) : evSorted (xs.map .int) = some ((xs.mergeSort fun a b => leD (.int a) (.int b)).map .int) := by
  unfold evSorted
  split
  · rename_i h1
    match xs, h1 with
    | [], _ => simp [sortD]
    | [x], _ => simp [sortD]
    | _ :: _ :: _, h => simp at h
  · rw [if_pos]
    · rw [sortD_map]
    · simp [ordOk, h, pd, toPy, alike, dpt, PyData.depth, List.all_eq_true]
theorem leD_int {a b : Int} : leD (.int a) (.int b) = decide (a ≤ b) := by
  by_cases h : b < a
  · have : ¬ a ≤ b := by omega
    simp [leD, pyLt, toPy, dataLt, keyToks, PyProof.Rows.lexLt, itemOrd, itemLt, h, this]
  · have : a ≤ b := by omega
    simp [leD, pyLt, toPy, dataLt, keyToks, PyProof.Rows.lexLt, itemOrd, itemLt, h, this]
def isTu : D → Bool
  | .tup (_ :: _) => true
  | _ => false
/-- sorted of tuples -/
theorem evSorted_tups {xs : List D} (h : xs.length ≤ LIM) (hq : qs 8 xs = true) (ht : ∀ x ∈ xs, isTu x = true) (ha : ∀ x ∈ xs, ∀ y ∈ xs, alk x y = true) : evSorted xs = some (sortD xs) := by
  unfold evSorted
  split
  · rename_i h1
    match xs, h1 with
    | [], _ => simp [sortD]
    | [x], _ => simp [sortD]
    | _ :: _ :: _, h => simp at h
  · rw [if_pos]
    simp only [ordOk, Bool.and_eq_true, List.all_eq_true, decide_eq_true_eq, Bool.or_eq_true]
    refine ⟨⟨⟨⟨fun x hx => (q_pd.1 x 8 (qs_all.mp hq x hx)).1, fun x hx y hy => ha x hx y hy⟩, fun x hx => ?_⟩, .inl fun x hx => ?_⟩, h⟩
    · have := (q_pd.1 x 8 (qs_all.mp hq x hx)).2.2.2
      unfold dpt
      omega
    · have := ht x hx
      unfold isTu at this
      split at this
      · rfl
      · cases this
theorem mem_sortD {xs : List D} {x : D} : x ∈ sortD xs ↔ x ∈ xs := by rw [sortD_eq]; simp
/-! ### dicts: the keys known so far -/
theorem dput_new : ∀ {ks vs : List D} {k v : D}, ks.length = vs.length → k ∉ ks → dput ks vs k v = (ks ++ [k], vs ++ [v])
  | [], [], k, v, _, _ => rfl
  | [], _ :: _, _, _, h, _ => by simp at h
  | _ :: _, [], _, _, h, _ => by simp at h
  | a :: ks, b :: vs, k, v, h, hm => by
    simp at h hm
    have hm' : ¬ a = k := fun z => hm.1 z.symm
    simp [dput, hm', dput_new h hm.2]
theorem dput_keys : ∀ {ks vs : List D} {k v : D}, ks.length = vs.length → k ∈ ks → (dput ks vs k v).1 = ks ∧ (dput ks vs k v).2.length = vs.length
  | [], _, k, v, _, h => by simp at h
  | _ :: _, [], _, _, h, _ => by simp at h
  | a :: ks, b :: vs, k, v, h, hm => by
    simp at h hm
    by_cases e : a = k
    · simp [dput, e]
    · have r := dput_keys (v := v) h (hm.resolve_left fun z => e z.symm)
      simp [dput, e, r]
theorem dput_same : ∀ {ks vs : List D} {k v : D}, ks.length = vs.length → k ∈ ks → (∀ w ∈ vs, w = v) → dput ks vs k v = (ks, vs)
  | [], _, k, v, _, h, _ => by simp at h
  | _ :: _, [], _, _, h, _, _ => by simp at h
  | a :: ks, b :: vs, k, v, h, hm, hv => by
    simp at h hm hv
    by_cases e : a = k
    · simp [dput, e, hv.1]
    · have r := dput_same h (hm.resolve_left fun z => e z.symm) hv.2
      simp [dput, e, r]
theorem dget_app : ∀ {ks vs : List D} {k v : D} {x : D}, ks.length = vs.length → dget (ks ++ [k]) (vs ++ [v]) x = if x ∈ ks then dget ks vs x else if k = x then some v else none
  | [], [], k, v, x, _ => by simp [dget]
  | [], _ :: _, _, _, _, h => by simp at h
  | _ :: _, [], _, _, _, h => by simp at h
  | a :: ks, b :: vs, k, v, x, h => by
    simp at h
    by_cases e : a = x
    · simp [dget, e]
    · have e' : ¬ x = a := fun z => e z.symm
      simp [dget, e, e', dget_app h]
end M
end

section
set_option Elab.async false
set_option linter.all false
set_option maxRecDepth 100000
/-! Bod: the bodies of defs, printed by a program. -/
namespace M
structure Nn where
  f_contains_all : Nat := 0
  f_size_order : Nat := 0
  f_least_family : Nat := 0
  f_have_common : Nat := 0
  f_first_apart : Nat := 0
  f_subsets_of : Nat := 0
  f_is_blocking : Nat := 0
  f_blockers : Nat := 0
  f_Clash___init__ : Nat := 0
  f_NotCrossing___init__ : Nat := 0
  f_NoAnswer___init__ : Nat := 0
  f_is_below : Nat := 0
  f_contradicting_place : Nat := 0
  f_agree : Nat := 0
  f_answered_places : Nat := 0
  f_first_clash : Nat := 0
  f_has_lower : Nat := 0
  f_least_rows : Nat := 0
  f_Box___init__ : Nat := 0
  f_Box___call__ : Nat := 0
  f_Box___eq__ : Nat := 0
  f_quorum_input : Nat := 0
  f_quorum_box : Nat := 0
  f_enough_sets : Nat := 0
  f_stopping_sets : Nat := 0
  f__law_whole : Nat := 0
  f__law_same : Nat := 0
  f__law_cell : Nat := 0
  f__law_digits : Nat := 0
  f__law_family : Nat := 0
  f__law_meet : Nat := 0
  f__law_crossed : Nat := 0
  f__law_inside : Nat := 0
  f__law_least_sets : Nat := 0
  f__law_sets : Nat := 0
  f__law_blockers : Nat := 0
  f__law_asked : Nat := 0
  f__law_asks_vote : Nat := 0
  f_law : Nat := 0
  c_AnswersError : Nat := 0
  c_Clash : Nat := 0
  c_NotCrossing : Nat := 0
  c_NoAnswer : Nat := 0
  c_Box : Nat := 0
  a_second : Nat := 0
  a_first : Nat := 0
  a_x : Nat := 0
  a_kinds : Nat := 0
  a_least : Nat := 0
  a_places : Nat := 0
  a_answers : Nat := 0
  f_NoInput___init__ : Nat := 0
  f_tolerance : Nat := 0
  f_asks_enough : Nat := 0
  f__law_below : Nat := 0
  f__law_agree : Nat := 0
  f__law_value : Nat := 0
  f__law_least : Nat := 0
  f__law_rows_v3 : Nat := 0
  f__law_known_v2 : Nat := 0
  f__law_turned_v2 : Nat := 0
  f__law_box_v2 : Nat := 0
  f__law_asked_v4 : Nat := 0
  f__law_only : Nat := 0
  f_law_v16 : Nat := 0
  c_NoInput : Nat := 0
  a_number : Nat := 0
  f_meeting : Nat := 0
  f_common_places : Nat := 0
  f_number_needed : Nat := 0
  f_next_apart : Nat := 0
  f_apart_quorums : Nat := 0
  f_apart_number : Nat := 0
  f_Contradiction___init__ : Nat := 0
  f_joined : Nat := 0
  f_silent_places : Nat := 0
  f_is_crossing : Nat := 0
  f_count_family : Nat := 0
  f_weight_of : Nat := 0
  f_weighted_family : Nat := 0
  f_quorum_height : Nat := 0
  f_power_of : Nat := 0
  f_input_count : Nat := 0
  f_input_at : Nat := 0
  f_all_inputs : Nat := 0
  f_open_rows : Nat := 0
  f_least_cover : Nat := 0
  f_silent_mask : Nat := 0
  f_least_roads : Nat := 0
  f_least_road_witness : Nat := 0
  f_road_number : Nat := 0
  f_freed_mask : Nat := 0
  f_next_votes : Nat := 0
  f_least_votes : Nat := 0
  f_least_vote_witness : Nat := 0
  f_vote_number : Nat := 0
  f_box_height : Nat := 0
  f__law_inputs : Nat := 0
  f__law_road_number : Nat := 0
  f__law_cover : Nat := 0
  f__law_vote_number : Nat := 0
  f__law_freed : Nat := 0
  f__law_rank : Nat := 0
  f__law_height : Nat := 0
  f__law_vote_rows : Nat := 0
  f__law_apart : Nat := 0
  f__law_in_all : Nat := 0
  f_law_v2 : Nat := 0
  c_Contradiction : Nat := 0
  k_ALL_PLACES : Nat := 0
  a_place : Nat := 0
namespace B
/-- places, others, missing, place -/
def b_contains_all (N : Nn) : Ss :=
  (.cons (.set 2 (.comp 3 (.seq (.var 1)) (.cmp .nin (.var 3) (.var 0)) (.var 3)))
  (.cons (.ret (.cmp .eq (.f1 .len (.var 2)) (.int 0)))
  .nil))
def contains_all (N : Nn) : Fn := ⟨2, 4, b_contains_all N, true⟩
/-- quorum -/
def b_size_order (N : Nn) : Ss :=
  (.cons (.ret (.tup (.cons (.f1 .len (.var 0)) (.cons (.var 0) .nil))))
  .nil)
def size_order (N : Nn) : Fn := ⟨1, 1, b_size_order N, true⟩
/-- family, known, quorum, smaller, other -/
def b_least_family (N : Nn) : Ss :=
  (.cons (.set 1 (.new (.dict0 true)))
  (.cons (.fore 2 (.seq (.var 0)) (.cons (.set 3 (.comp 4 (.seq (.var 0)) (.and (.cmp .ne (.var 4) (.var 2)) (.call N.f_contains_all (.cons (.var 2) (.cons (.var 4) .nil)))) (.var 4)))
  (.cons (.ife (.cmp .eq (.f1 .len (.var 3)) (.int 0)) (.cons (.setIx (.var 1) (.var 2) (.bl true))
  .nil) .nil)
  .nil)))
  (.cons (.ret (.f1 .tuple (.sortk N.f_size_order (.f1 .list (.var 1)))))
  .nil)))
def least_family (N : Nn) : Fn := ⟨1, 5, b_least_family N, true⟩
/-- one, two, both, place -/
def b_have_common (N : Nn) : Ss :=
  (.cons (.set 2 (.comp 3 (.seq (.var 0)) (.cmp .inn (.var 3) (.var 1)) (.var 3)))
  (.cons (.ret (.cmp .gt (.f1 .len (.var 2)) (.int 0)))
  .nil))
def have_common (N : Nn) : Fn := ⟨2, 4, b_have_common N, true⟩
/-- family, first, second -/
def b_first_apart (N : Nn) : Ss :=
  (.cons (.fore 1 (.rng1 (.f1 .len (.var 0))) (.cons (.fore 2 (.rng2 (.bin .add (.var 1) (.int 1)) (.f1 .len (.var 0))) (.cons (.ife (.not (.call N.f_have_common (.cons (.idx (.var 0) (.var 1)) (.cons (.idx (.var 0) (.var 2)) .nil)))) (.cons (.ret (.tup (.cons (.var 1) (.cons (.var 2) .nil))))
  .nil) .nil)
  .nil))
  .nil))
  (.cons (.ret .non)
  .nil))
def first_apart (N : Nn) : Fn := ⟨1, 3, b_first_apart N, true⟩
/-- places, grown, place, chosen -/
def b_subsets_of (N : Nn) : Ss :=
  (.cons (.set 1 (.lst (.cons (.tup .nil) .nil)))
  (.cons (.fore 2 (.rng1 (.var 0)) (.cons (.set 1 (.bin .add (.var 1) (.comp 3 (.seq (.var 1)) (.bl true) (.bin .add (.var 3) (.tup (.cons (.var 2) .nil))))))
  .nil))
  (.cons (.ret (.var 1))
  .nil)))
def subsets_of (N : Nn) : Fn := ⟨1, 4, b_subsets_of N, true⟩
/-- chosen, family, missed, quorum -/
def b_is_blocking (N : Nn) : Ss :=
  (.cons (.set 2 (.comp 3 (.seq (.var 1)) (.not (.call N.f_have_common (.cons (.var 0) (.cons (.var 3) .nil)))) (.var 3)))
  (.cons (.ret (.cmp .eq (.f1 .len (.var 2)) (.int 0)))
  .nil))
def is_blocking (N : Nn) : Fn := ⟨2, 4, b_is_blocking N, true⟩
/-- family, greatest, blocking, quorum, place, chosen -/
def b_blockers (N : Nn) : Ss :=
  (.cons (.set 1 (.f1 .max (.comp2 3 (.seq (.var 0)) 4 (.seq (.var 3)) (.bl true) (.var 4))))
  (.cons (.set 2 (.comp 5 (.seq (.call N.f_subsets_of (.cons (.bin .add (.var 1) (.int 1)) .nil))) (.call N.f_is_blocking (.cons (.var 5) (.cons (.var 0) .nil))) (.var 5)))
  (.cons (.ret (.call N.f_least_family (.cons (.f1 .tuple (.var 2)) .nil)))
  .nil)))
def blockers (N : Nn) : Fn := ⟨1, 6, b_blockers N, true⟩
/-- self, first, second -/
def b_Clash___init__ (N : Nn) : Ss :=
  (.cons (.setFld (.var 0) N.a_first (.var 1))
  (.cons (.setFld (.var 0) N.a_second (.var 2))
  .nil))
def Clash___init__ (N : Nn) : Fn := ⟨3, 3, b_Clash___init__ N, false⟩
/-- self, first, second -/
def b_NotCrossing___init__ (N : Nn) : Ss :=
  (.cons (.setFld (.var 0) N.a_first (.var 1))
  (.cons (.setFld (.var 0) N.a_second (.var 2))
  .nil))
def NotCrossing___init__ (N : Nn) : Fn := ⟨3, 3, b_NotCrossing___init__ N, false⟩
/-- self, x -/
def b_NoAnswer___init__ (N : Nn) : Ss :=
  (.cons (.setFld (.var 0) N.a_x (.var 1))
  .nil)
def NoAnswer___init__ (N : Nn) : Fn := ⟨2, 2, b_NoAnswer___init__ N, false⟩
/-- x, y, place -/
def b_is_below (N : Nn) : Ss :=
  (.cons (.fore 2 (.rng1 (.f1 .len (.var 0))) (.cons (.ife (.and (.cmp .ne (.idx (.var 0) (.var 2)) (.int 0)) (.cmp .ne (.idx (.var 0) (.var 2)) (.idx (.var 1) (.var 2)))) (.cons (.ret (.bl false))
  .nil) .nil)
  .nil))
  (.cons (.ret (.bl true))
  .nil))
def is_below (N : Nn) : Fn := ⟨2, 3, b_is_below N, true⟩
/-- x, y, place -/
def b_contradicting_place (N : Nn) : Ss :=
  (.cons (.fore 2 (.rng1 (.f1 .len (.var 0))) (.cons (.ife (.and (.cmp .ne (.idx (.var 0) (.var 2)) (.int 0)) (.and (.cmp .ne (.idx (.var 1) (.var 2)) (.int 0)) (.cmp .ne (.idx (.var 0) (.var 2)) (.idx (.var 1) (.var 2))))) (.cons (.ret (.var 2))
  .nil) .nil)
  .nil))
  (.cons (.ret .non)
  .nil))
def contradicting_place (N : Nn) : Fn := ⟨2, 3, b_contradicting_place N, true⟩
/-- x, y -/
def b_agree (N : Nn) : Ss :=
  (.cons (.ret (.cmp .isn (.call N.f_contradicting_place (.cons (.var 0) (.cons (.var 1) .nil))) .non))
  .nil)
def agree (N : Nn) : Fn := ⟨2, 2, b_agree N, true⟩
/-- x, place -/
def b_answered_places (N : Nn) : Ss :=
  (.cons (.ret (.f1 .tuple (.comp 1 (.rng1 (.f1 .len (.var 0))) (.cmp .ne (.idx (.var 0) (.var 1)) (.int 0)) (.var 1))))
  .nil)
def answered_places (N : Nn) : Fn := ⟨1, 2, b_answered_places N, true⟩
/-- rows, first, second -/
def b_first_clash (N : Nn) : Ss :=
  (.cons (.fore 1 (.rng1 (.f1 .len (.var 0))) (.cons (.fore 2 (.rng2 (.bin .add (.var 1) (.int 1)) (.f1 .len (.var 0))) (.cons (.ife (.and (.cmp .ne (.idx (.idx (.var 0) (.var 1)) (.int 1)) (.idx (.idx (.var 0) (.var 2)) (.int 1))) (.call N.f_agree (.cons (.idx (.idx (.var 0) (.var 1)) (.int 0)) (.cons (.idx (.idx (.var 0) (.var 2)) (.int 0)) .nil)))) (.cons (.ret (.tup (.cons (.var 1) (.cons (.var 2) .nil))))
  .nil) .nil)
  .nil))
  .nil))
  (.cons (.ret .non)
  .nil))
def first_clash (N : Nn) : Fn := ⟨1, 3, b_first_clash N, true⟩
/-- rows, x, row -/
def b_has_lower (N : Nn) : Ss :=
  (.cons (.fore 2 (.seq (.var 0)) (.cons (.ife (.and (.cmp .ne (.idx (.var 2) (.int 0)) (.var 1)) (.call N.f_is_below (.cons (.idx (.var 2) (.int 0)) (.cons (.var 1) .nil)))) (.cons (.ret (.bl true))
  .nil) .nil)
  .nil))
  (.cons (.ret (.bl false))
  .nil))
def has_lower (N : Nn) : Fn := ⟨2, 3, b_has_lower N, true⟩
/-- rows, known, row, x -/
def b_least_rows (N : Nn) : Ss :=
  (.cons (.set 1 (.new (.dict0 true)))
  (.cons (.fore 2 (.seq (.var 0)) (.cons (.ife (.and (.cmp .nin (.idx (.var 2) (.int 0)) (.var 1)) (.not (.call N.f_has_lower (.cons (.var 0) (.cons (.idx (.var 2) (.int 0)) .nil))))) (.cons (.setIx (.var 1) (.idx (.var 2) (.int 0)) (.idx (.var 2) (.int 1)))
  .nil) .nil)
  .nil))
  (.cons (.ret (.f1 .tuple (.comp 3 (.seq (.f1 .sorted (.f1 .list (.var 1)))) (.bl true) (.tup (.cons (.var 3) (.cons (.idx (.var 1) (.var 3)) .nil))))))
  .nil)))
def least_rows (N : Nn) : Fn := ⟨1, 4, b_least_rows N, true⟩
/-- self, answers, places, rows, clash, given, row, answer -/
def b_Box___init__ (N : Nn) : Ss :=
  (.cons (.set 4 (.call N.f_first_clash (.cons (.var 3) .nil)))
  (.cons (.ife (.cmp .notn (.var 4) .non) (.cons (.raise N.c_Clash (.cons (.idx (.var 4) (.int 0)) (.cons (.idx (.var 4) (.int 1)) .nil)))
  .nil) .nil)
  (.cons (.setFld (.var 0) N.a_answers (.var 1))
  (.cons (.setFld (.var 0) N.a_places (.var 2))
  (.cons (.setFld (.var 0) N.a_least (.call N.f_least_rows (.cons (.var 3) .nil)))
  (.cons (.set 5 (.comp 6 (.seq (.fld (.var 0) N.a_least)) (.bl true) (.idx (.var 6) (.int 1))))
  (.cons (.setFld (.var 0) N.a_kinds (.f1 .tuple (.comp 7 (.rng2 (.int 1) (.bin .add (.var 1) (.int 1))) (.cmp .inn (.var 7) (.var 5)) (.var 7))))
  .nil)))))))
def Box___init__ (N : Nn) : Fn := ⟨4, 8, b_Box___init__ N, false⟩
/-- self, x, row -/
def b_Box___call__ (N : Nn) : Ss :=
  (.cons (.fore 2 (.seq (.fld (.var 0) N.a_least)) (.cons (.ife (.call N.f_is_below (.cons (.idx (.var 2) (.int 0)) (.cons (.var 1) .nil))) (.cons (.ret (.idx (.var 2) (.int 1)))
  .nil) .nil)
  .nil))
  (.cons (.ret (.int 0))
  .nil))
def Box___call__ (N : Nn) : Fn := ⟨2, 3, b_Box___call__ N, true⟩
/-- self, other -/
def b_Box___eq__ (N : Nn) : Ss :=
  (.cons .nev .nil)
def Box___eq__ (N : Nn) : Fn := ⟨2, 2, b_Box___eq__ N, true⟩
/-- places, quorum, answer, place -/
def b_quorum_input (N : Nn) : Ss :=
  (.cons (.ret (.f1 .tuple (.comp 3 (.rng1 (.var 0)) (.bl true) (.ite (.cmp .inn (.var 3) (.var 1)) (.var 2) (.int 0)))))
  .nil)
def quorum_input (N : Nn) : Fn := ⟨3, 4, b_quorum_input N, true⟩
/-- answers, places, family, pair, rows, quorum, answer -/
def b_quorum_box (N : Nn) : Ss :=
  (.cons (.set 3 (.call N.f_first_apart (.cons (.var 2) .nil)))
  (.cons (.ife (.and (.cmp .gt (.var 0) (.int 1)) (.cmp .notn (.var 3) .non)) (.cons (.raise N.c_NotCrossing (.cons (.idx (.var 3) (.int 0)) (.cons (.idx (.var 3) (.int 1)) .nil)))
  .nil) .nil)
  (.cons (.set 4 (.new (.lst .nil)))
  (.cons (.fore 5 (.seq (.call N.f_least_family (.cons (.var 2) .nil))) (.cons (.fore 6 (.rng2 (.int 1) (.bin .add (.var 0) (.int 1))) (.cons (.app (.var 4) (.tup (.cons (.call N.f_quorum_input (.cons (.var 1) (.cons (.var 5) (.cons (.var 6) .nil)))) (.cons (.var 6) .nil))))
  .nil))
  .nil))
  (.cons (.ret (.make N.c_Box (.cons (.var 0) (.cons (.var 1) (.cons (.f1 .tuple (.var 4)) .nil)))))
  .nil)))))
def quorum_box (N : Nn) : Fn := ⟨3, 7, b_quorum_box N, true⟩
/-- box, x, sets, row -/
def b_enough_sets (N : Nn) : Ss :=
  (.cons (.set 2 (.comp 3 (.seq (.fld (.var 0) N.a_least)) (.call N.f_is_below (.cons (.idx (.var 3) (.int 0)) (.cons (.var 1) .nil))) (.call N.f_answered_places (.cons (.idx (.var 3) (.int 0)) .nil))))
  (.cons (.ife (.cmp .eq (.f1 .len (.var 2)) (.int 0)) (.cons (.raise N.c_NoAnswer (.cons (.var 1) .nil))
  .nil) .nil)
  (.cons (.ret (.call N.f_least_family (.cons (.f1 .tuple (.var 2)) .nil)))
  .nil)))
def enough_sets (N : Nn) : Fn := ⟨2, 4, b_enough_sets N, true⟩
/-- box, x, sets -/
def b_stopping_sets (N : Nn) : Ss :=
  (.cons (.set 2 (.call N.f_enough_sets (.cons (.var 0) (.cons (.var 1) .nil))))
  (.cons (.ife (.cmp .inn (.tup .nil) (.var 2)) (.cons (.ret (.tup .nil))
  .nil) .nil)
  (.cons (.ret (.call N.f_blockers (.cons (.var 2) .nil)))
  .nil)))
def stopping_sets (N : Nn) : Fn := ⟨2, 3, b_stopping_sets N, true⟩
/-- value -/
def b__law_whole (N : Nn) : Ss :=
  (.cons (.ret (.and (.isi (.var 0) [.int]) (.not (.isi (.var 0) [.bool]))))
  .nil)
def _law_whole (N : Nn) : Fn := ⟨1, 1, b__law_whole N, true⟩
/-- actual, due, k -/
def b__law_same (N : Nn) : Ss :=
  (.cons (.ife (.isi (.var 1) [.tuple]) (.cons (.ife (.or (.not (.isi (.var 0) [.tuple])) (.cmp .ne (.f1 .len (.var 0)) (.f1 .len (.var 1)))) (.cons (.ret (.bl false))
  .nil) .nil)
  (.cons (.fore 2 (.rng1 (.f1 .len (.var 1))) (.cons (.ife (.not (.call N.f__law_same (.cons (.idx (.var 0) (.var 2)) (.cons (.idx (.var 1) (.var 2)) .nil)))) (.cons (.ret (.bl false))
  .nil) .nil)
  .nil))
  (.cons (.ret (.bl true))
  .nil))) .nil)
  (.cons (.ife (.cmp .isn (.var 1) .non) (.cons (.ret (.cmp .isn (.var 0) .non))
  .nil) .nil)
  (.cons (.ife (.isi (.var 1) [.bool]) (.cons (.ret (.and (.isi (.var 0) [.bool]) (.cmp .eq (.var 0) (.var 1))))
  .nil) .nil)
  (.cons (.ife (.isi (.var 1) [.int]) (.cons (.ret (.and (.call N.f__law_whole (.cons (.var 0) .nil)) (.cmp .eq (.var 0) (.var 1))))
  .nil) .nil)
  (.cons (.ret (.and (.isi (.var 0) [.str]) (.cmp .eq (.var 0) (.var 1))))
  .nil)))))
def _law_same (N : Nn) : Fn := ⟨2, 3, b__law_same N, true⟩
/-- script, k, seed, cell -/
def b__law_cell (N : Nn) : Ss :=
  (.cons (.ife (.cmp .lt (.var 1) (.f1 .len (.var 0))) (.cons (.ret (.idx (.var 0) (.var 1)))
  .nil) .nil)
  (.cons (.set 2 (.int 17))
  (.cons (.fore 3 (.seq (.var 0)) (.cons (.set 2 (.bin .mod (.f1 .int (.bin .add (.bin .mul (.var 2) (.int 31)) (.bin .mod (.f1 .int (.var 3)) (.int 1000003)))) (.int 1000003)))
  .nil))
  (.cons (.ret (.bin .mod (.f1 .int (.bin .mul (.bin .mul (.bin .add (.var 2) (.int 7)) (.bin .add (.var 1) (.int 3))) (.int 69621))) (.int 2147483647)))
  .nil))))
def _law_cell (N : Nn) : Fn := ⟨2, 4, b__law_cell N, true⟩
/-- cell, sizes, row, rest, size, seed, k, twice -/
def b__law_digits (N : Nn) : Ss :=
  (.cons (.set 2 (.new (.lst .nil)))
  (.cons (.set 3 (.f1 .int (.var 0)))
  (.cons (.ife (.cmp .ge (.var 3) (.bin .pow (.int 10) (.int 18))) (.cons (.set 3 (.bin .sub (.var 3) (.bin .pow (.int 10) (.int 18))))
  (.cons (.fore 4 (.seq (.var 1)) (.cons (.app (.var 2) (.bin .mod (.f1 .int (.var 3)) (.var 4)))
  (.cons (.set 3 (.bin .fdiv (.f1 .int (.var 3)) (.var 4)))
  .nil)))
  (.cons (.ret (.frz 2))
  .nil))) .nil)
  (.cons (.set 5 (.bin .mod (.f1 .int (.var 3)) (.int 2147483629)))
  (.cons (.fore 6 (.rng1 (.f1 .len (.var 1))) (.cons (.set 5 (.bin .mod (.f1 .int (.bin .add (.bin .add (.bin .mul (.var 5) (.int 48271)) (.bin .mul (.int 974711) (.var 6))) (.int 12345))) (.int 2147483647)))
  (.cons (.set 7 (.bin .mod (.f1 .int (.bin .mul (.var 5) (.bin .add (.bin .fdiv (.var 5) (.int 65537)) (.int 3)))) (.int 2147483629)))
  (.cons (.app (.var 2) (.bin .mod (.bin .fdiv (.var 7) (.int 19)) (.idx (.var 1) (.var 6))))
  .nil))))
  (.cons (.ret (.frz 2))
  .nil))))))
def _law_digits (N : Nn) : Fn := ⟨2, 8, b__law_digits N, true⟩
/-- places, row, family, k, number, quorum, j -/
def b__law_family (N : Nn) : Ss :=
  (.cons (.set 2 (.new (.lst .nil)))
  (.cons (.fore 3 (.rng1 (.bin .add (.int 1) (.idx (.var 1) (.int 0)))) (.cons (.set 4 (.bin .add (.int 1) (.f1 .int (.idx (.var 1) (.bin .add (.int 1) (.var 3))))))
  (.cons (.set 5 (.f1 .tuple (.comp 6 (.rng1 (.var 0)) (.cmp .eq (.bin .mod (.bin .fdiv (.var 4) (.idx (.lst (.cons (.int 1) (.cons (.int 2) (.cons (.int 4) (.cons (.int 8) (.cons (.int 16) (.cons (.int 32) .nil))))))) (.var 6))) (.int 2)) (.int 1)) (.var 6))))
  (.cons (.ife (.cmp .eq (.f1 .len (.var 5)) (.int 0)) (.cons (.set 5 (.tup (.cons (.bin .mod (.f1 .int (.idx (.var 1) (.bin .add (.int 1) (.var 3)))) (.var 0)) .nil)))
  .nil) .nil)
  (.cons (.app (.var 2) (.var 5))
  .nil)))))
  (.cons (.ret (.frz 2))
  .nil)))
def _law_family (N : Nn) : Fn := ⟨2, 7, b__law_family N, true⟩
/-- one, two, both, j -/
def b__law_meet (N : Nn) : Ss :=
  (.cons (.set 2 (.comp 3 (.seq (.var 0)) (.cmp .inn (.var 3) (.var 1)) (.var 3)))
  (.cons (.ret (.cmp .gt (.f1 .len (.var 2)) (.int 0)))
  .nil))
def _law_meet (N : Nn) : Fn := ⟨2, 4, b__law_meet N, true⟩
/-- family, found, quorum, places, other -/
def b__law_crossed (N : Nn) : Ss :=
  (.cons (.set 1 (.new (.lst .nil)))
  (.cons (.fore 2 (.seq (.var 0)) (.cons (.set 3 (.new (.f1 .list (.var 2))))
  (.cons (.fore 4 (.seq (.var 1)) (.cons (.ife (.not (.call N.f__law_meet (.cons (.var 3) (.cons (.var 4) .nil)))) (.cons (.app (.var 3) (.idx (.var 4) (.bin .mod (.f1 .len (.var 3)) (.f1 .len (.var 4)))))
  .nil) .nil)
  .nil))
  (.cons (.app (.var 1) (.f1 .tuple (.f1 .sorted (.var 3))))
  .nil))))
  (.cons (.ret (.frz 1))
  .nil)))
def _law_crossed (N : Nn) : Fn := ⟨1, 5, b__law_crossed N, true⟩
/-- small, great, missing, j -/
def b__law_inside (N : Nn) : Ss :=
  (.cons (.set 2 (.comp 3 (.seq (.var 0)) (.cmp .nin (.var 3) (.var 1)) (.var 3)))
  (.cons (.ret (.cmp .eq (.f1 .len (.var 2)) (.int 0)))
  .nil))
def _law_inside (N : Nn) : Fn := ⟨2, 4, b__law_inside N, true⟩
/-- sets, found, one, smaller, other, pair -/
def b__law_least_sets (N : Nn) : Ss :=
  (.cons (.set 1 (.new (.lst .nil)))
  (.cons (.fore 2 (.seq (.var 0)) (.cons (.set 3 (.comp 4 (.seq (.var 0)) (.and (.cmp .ne (.var 4) (.var 2)) (.call N.f__law_inside (.cons (.var 4) (.cons (.var 2) .nil)))) (.var 4)))
  (.cons (.ife (.and (.cmp .eq (.f1 .len (.var 3)) (.int 0)) (.cmp .nin (.tup (.cons (.f1 .len (.var 2)) (.cons (.var 2) .nil))) (.var 1))) (.cons (.app (.var 1) (.tup (.cons (.f1 .len (.var 2)) (.cons (.var 2) .nil))))
  .nil) .nil)
  .nil)))
  (.cons (.ret (.comp 5 (.seq (.f1 .sorted (.var 1))) (.bl true) (.idx (.var 5) (.int 1))))
  .nil)))
def _law_least_sets (N : Nn) : Fn := ⟨1, 6, b__law_least_sets N, true⟩
/-- places, many, number, j -/
def b__law_sets (N : Nn) : Ss :=
  (.cons (.set 1 (.idx (.lst (.cons (.int 1) (.cons (.int 2) (.cons (.int 4) (.cons (.int 8) (.cons (.int 16) (.cons (.int 32) (.cons (.int 64) .nil)))))))) (.var 0)))
  (.cons (.ret (.comp 2 (.rng1 (.var 1)) (.bl true) (.f1 .tuple (.comp 3 (.rng1 (.var 0)) (.cmp .eq (.bin .mod (.bin .fdiv (.var 2) (.idx (.lst (.cons (.int 1) (.cons (.int 2) (.cons (.int 4) (.cons (.int 8) (.cons (.int 16) (.cons (.int 32) .nil))))))) (.var 3))) (.int 2)) (.int 1)) (.var 3)))))
  .nil))
def _law_sets (N : Nn) : Fn := ⟨1, 4, b__law_sets N, true⟩
/-- places, family, found, chosen, missed, quorum -/
def b__law_blockers (N : Nn) : Ss :=
  (.cons (.set 2 (.new (.lst .nil)))
  (.cons (.fore 3 (.seq (.call N.f__law_sets (.cons (.var 0) .nil))) (.cons (.set 4 (.comp 5 (.seq (.var 1)) (.not (.call N.f__law_meet (.cons (.var 3) (.cons (.var 5) .nil)))) (.var 5)))
  (.cons (.ife (.cmp .eq (.f1 .len (.var 4)) (.int 0)) (.cons (.app (.var 2) (.var 3))
  .nil) .nil)
  .nil)))
  (.cons (.ret (.call N.f__law_least_sets (.cons (.frz 2) .nil)))
  .nil)))
def _law_blockers (N : Nn) : Fn := ⟨2, 6, b__law_blockers N, true⟩
/-- box, x, e -/
def b__law_asked (N : Nn) : Ss :=
  (.cons (.trye (.cons (.ret (.lst (.cons (.str [116, 111, 108, 100]) (.cons (.call N.f_enough_sets (.cons (.var 0) (.cons (.var 1) .nil))) (.cons (.call N.f_stopping_sets (.cons (.var 0) (.cons (.var 1) .nil))) .nil)))))
  .nil) N.c_AnswersError 2 (.cons (.ife (.and (.xisi (.var 2) (.cls N.c_NoAnswer)) (.and (.xisi (.var 2) (.ve)) (.call N.f__law_same (.cons (.xfld (.var 2) N.a_x) (.cons (.var 1) .nil))))) (.cons (.ret (.lst (.cons (.str [115, 105, 108, 101, 110, 116]) .nil)))
  .nil) .nil)
  (.cons (.ret (.lst (.cons (.str [119, 114, 111, 110, 103]) .nil)))
  .nil)))
  .nil)
def _law_asked (N : Nn) : Fn := ⟨2, 3, b__law_asked N, true⟩
/-- places, family, x, box, answer, there, asked, stops, stop, quorum, j -/
def b__law_asks_vote (N : Nn) : Ss :=
  (.cons (.set 3 (.call N.f_quorum_box (.cons (.int 2) (.cons (.var 0) (.cons (.f1 .tuple (.var 1)) .nil)))))
  (.cons (.set 4 (.int 1))
  (.cons (.set 5 (.comp 9 (.seq (.var 1)) (.call N.f__law_inside (.cons (.var 9) (.cons (.comp 10 (.rng1 (.var 0)) (.cmp .eq (.idx (.var 2) (.var 10)) (.int 1)) (.var 10)) .nil))) (.var 9)))
  (.cons (.ife (.cmp .eq (.f1 .len (.var 5)) (.int 0)) (.cons (.set 4 (.int 2))
  (.cons (.set 5 (.comp 9 (.seq (.var 1)) (.call N.f__law_inside (.cons (.var 9) (.cons (.comp 10 (.rng1 (.var 0)) (.cmp .eq (.idx (.var 2) (.var 10)) (.int 2)) (.var 10)) .nil))) (.var 9)))
  .nil)) .nil)
  (.cons (.set 6 (.call N.f__law_asked (.cons (.var 3) (.cons (.var 2) .nil))))
  (.cons (.ife (.cmp .eq (.f1 .len (.var 5)) (.int 0)) (.cons (.ret (.and (.cmp .eq (.idx (.var 6) (.int 0)) (.str [115, 105, 108, 101, 110, 116])) (.cmp .eq (.inst (.var 3) (.var 2)) (.int 0))))
  .nil) .nil)
  (.cons (.set 7 (.call N.f__law_blockers (.cons (.var 0) (.cons (.var 5) .nil))))
  (.cons (.ife (.or (.cmp .ne (.idx (.var 6) (.int 0)) (.str [116, 111, 108, 100])) (.or (.not (.call N.f__law_same (.cons (.idx (.var 6) (.int 1)) (.cons (.f1 .tuple (.call N.f__law_least_sets (.cons (.var 5) .nil))) .nil)))) (.not (.call N.f__law_same (.cons (.idx (.var 6) (.int 2)) (.cons (.f1 .tuple (.var 7)) .nil)))))) (.cons (.ret (.bl false))
  .nil) .nil)
  (.cons (.fore 8 (.seq (.var 7)) (.cons (.ife (.not (.call N.f__law_same (.cons (.inst (.var 3) (.f1 .tuple (.comp 10 (.rng1 (.var 0)) (.bl true) (.bin .mul (.f1 .int (.cmp .nin (.var 10) (.var 8))) (.idx (.var 2) (.var 10)))))) (.cons (.int 0) .nil)))) (.cons (.ret (.bl false))
  .nil) .nil)
  .nil))
  (.cons (.ret (.call N.f__law_same (.cons (.inst (.var 3) (.var 2)) (.cons (.var 4) .nil))))
  .nil))))))))))
def _law_asks_vote (N : Nn) : Fn := ⟨3, 11, b__law_asks_vote N, true⟩
/-- script, head, places, family, due, told, crossed, answer, x, j -/
def b_law (N : Nn) : Ss :=
  (.cons (.set 1 (.call N.f__law_digits (.cons (.call N.f__law_cell (.cons (.var 0) (.cons (.int 0) .nil))) (.cons (.lst (.cons (.int 5) (.cons (.int 2) (.cons (.int 2) (.cons (.int 5) (.cons (.int 3) .nil)))))) .nil))))
  (.cons (.set 2 (.idx (.lst (.cons (.int 3) (.cons (.int 4) (.cons (.int 2) (.cons (.int 5) (.cons (.int 1) .nil)))))) (.idx (.var 1) (.int 0))))
  (.cons (.ife (.and (.cmp .eq (.idx (.var 1) (.int 0)) (.int 3)) (.cmp .eq (.idx (.var 1) (.int 3)) (.int 0))) (.cons (.set 2 (.int 6))
  .nil) .nil)
  (.cons (.set 3 (.call N.f__law_family (.cons (.var 2) (.cons (.call N.f__law_digits (.cons (.call N.f__law_cell (.cons (.var 0) (.cons (.int 1) .nil))) (.cons (.bin .add (.lst (.cons (.int 8) .nil)) (.bin .mul (.lst (.cons (.int 63) .nil)) (.int 8))) .nil))) .nil))))
  (.cons (.ife (.cmp .eq (.idx (.var 1) (.int 1)) (.int 1)) (.cons (.set 3 (.call N.f__law_crossed (.cons (.var 3) .nil)))
  .nil) .nil)
  (.cons (.set 4 (.call N.f__law_blockers (.cons (.var 2) (.cons (.var 3) .nil))))
  (.cons (.set 5 (.call N.f_blockers (.cons (.f1 .tuple (.var 3)) .nil)))
  (.cons (.ife (.or (.not (.call N.f__law_same (.cons (.var 5) (.cons (.f1 .tuple (.var 4)) .nil)))) (.not (.call N.f__law_same (.cons (.call N.f_blockers (.cons (.f1 .tuple (.var 4)) .nil)) (.cons (.f1 .tuple (.call N.f__law_least_sets (.cons (.var 3) .nil))) .nil))))) (.cons (.ret (.bl false))
  .nil) .nil)
  (.cons (.set 6 (.call N.f__law_crossed (.cons (.var 3) .nil)))
  (.cons (.set 7 (.bin .add (.int 1) (.idx (.var 1) (.int 2))))
  (.cons (.set 8 (.new (.comp 9 (.rng1 (.var 2)) (.bl true) (.var 7))))
  (.cons (.ife (.not (.call N.f__law_asks_vote (.cons (.var 2) (.cons (.var 6) (.cons (.f1 .tuple (.var 8)) .nil))))) (.cons (.ret (.bl false))
  .nil) .nil)
  (.cons (.setIx (.var 8) (.bin .mod (.idx (.var 1) (.int 3)) (.var 2)) (.bin .mod (.idx (.var 1) (.int 4)) (.int 3)))
  (.cons (.ret (.call N.f__law_asks_vote (.cons (.var 2) (.cons (.var 6) (.cons (.f1 .tuple (.var 8)) .nil)))))
  .nil))))))))))))))
def law (N : Nn) : Fn := ⟨1, 10, b_law N, true⟩
/-- self, number -/
def b_NoInput___init__ (N : Nn) : Ss :=
  (.cons (.setFld (.var 0) N.a_number (.var 1))
  .nil)
def NoInput___init__ (N : Nn) : Fn := ⟨2, 2, b_NoInput___init__ N, false⟩
/-- box, x, stops, stop -/
def b_tolerance (N : Nn) : Ss :=
  (.cons (.set 2 (.call N.f_stopping_sets (.cons (.var 0) (.cons (.var 1) .nil))))
  (.cons (.ife (.cmp .eq (.f1 .len (.var 2)) (.int 0)) (.cons (.ret (.f1 .len (.call N.f_answered_places (.cons (.var 1) .nil))))
  .nil) .nil)
  (.cons (.ret (.bin .sub (.f1 .min (.comp 3 (.seq (.var 2)) (.bl true) (.f1 .len (.var 3)))) (.int 1)))
  .nil)))
def tolerance (N : Nn) : Fn := ⟨2, 4, b_tolerance N, true⟩
/-- box, x, places, place -/
def b_asks_enough (N : Nn) : Ss :=
  (.cons (.ret (.cmp .ne (.inst (.var 0) (.f1 .tuple (.comp 3 (.rng1 (.f1 .len (.var 1))) (.bl true) (.ite (.cmp .inn (.var 3) (.var 2)) (.idx (.var 1) (.var 3)) (.int 0))))) (.int 0)))
  .nil)
def asks_enough (N : Nn) : Fn := ⟨3, 4, b_asks_enough N, true⟩
/-- x, y, k -/
def b__law_below (N : Nn) : Ss :=
  (.cons (.fore 2 (.rng1 (.f1 .len (.var 0))) (.cons (.ife (.and (.cmp .ne (.idx (.var 0) (.var 2)) (.int 0)) (.cmp .ne (.idx (.var 0) (.var 2)) (.idx (.var 1) (.var 2)))) (.cons (.ret (.bl false))
  .nil) .nil)
  .nil))
  (.cons (.ret (.bl true))
  .nil))
def _law_below (N : Nn) : Fn := ⟨2, 3, b__law_below N, true⟩
/-- x, y, k -/
def b__law_agree (N : Nn) : Ss :=
  (.cons (.fore 2 (.rng1 (.f1 .len (.var 0))) (.cons (.ife (.and (.cmp .ne (.idx (.var 0) (.var 2)) (.int 0)) (.and (.cmp .ne (.idx (.var 1) (.var 2)) (.int 0)) (.cmp .ne (.idx (.var 0) (.var 2)) (.idx (.var 1) (.var 2))))) (.cons (.ret (.bl false))
  .nil) .nil)
  .nil))
  (.cons (.ret (.bl true))
  .nil))
def _law_agree (N : Nn) : Fn := ⟨2, 3, b__law_agree N, true⟩
/-- rows, x, row -/
def b__law_value (N : Nn) : Ss :=
  (.cons (.fore 2 (.seq (.var 0)) (.cons (.ife (.call N.f__law_below (.cons (.idx (.var 2) (.int 0)) (.cons (.var 1) .nil))) (.cons (.ret (.idx (.var 2) (.int 1)))
  .nil) .nil)
  .nil))
  (.cons (.ret (.int 0))
  .nil))
def _law_value (N : Nn) : Fn := ⟨2, 3, b__law_value N, true⟩
/-- rows, kept, row, lower, other -/
def b__law_least (N : Nn) : Ss :=
  (.cons (.set 1 (.new (.lst .nil)))
  (.cons (.fore 2 (.seq (.var 0)) (.cons (.set 3 (.comp 4 (.seq (.var 0)) (.and (.cmp .ne (.idx (.var 4) (.int 0)) (.idx (.var 2) (.int 0))) (.call N.f__law_below (.cons (.idx (.var 4) (.int 0)) (.cons (.idx (.var 2) (.int 0)) .nil)))) (.var 4)))
  (.cons (.ife (.and (.cmp .eq (.f1 .len (.var 3)) (.int 0)) (.cmp .nin (.var 2) (.var 1))) (.cons (.app (.var 1) (.var 2))
  .nil) .nil)
  .nil)))
  (.cons (.ret (.f1 .sorted (.var 1)))
  .nil)))
def _law_least (N : Nn) : Fn := ⟨1, 5, b__law_least N, true⟩
/-- answers, places, row, rows, k, part, x, answer, clash, j, other -/
def b__law_rows_v3 (N : Nn) : Ss :=
  (.cons (.set 3 (.new (.lst .nil)))
  (.cons (.fore 4 (.rng1 (.idx (.lst (.cons (.int 3) (.cons (.int 2) (.cons (.int 4) (.cons (.int 5) (.cons (.int 1) (.cons (.int 6) (.cons (.int 0) .nil)))))))) (.bin .mod (.f1 .int (.idx (.var 2) (.int 0))) (.int 7)))) (.cons (.set 5 (.slc (.var 2) (.bin .add (.int 1) (.bin .mul (.var 4) (.bin .add (.var 1) (.int 1)))) (.bin .add (.int 1) (.bin .mul (.bin .add (.var 4) (.int 1)) (.bin .add (.var 1) (.int 1))))))
  (.cons (.set 6 (.f1 .tuple (.comp 9 (.rng1 (.var 1)) (.bl true) (.bin .mod (.idx (.lst (.cons (.int 0) (.cons (.int 1) (.cons (.int 2) (.cons (.int 1) (.cons (.int 2) (.cons (.int 3) (.cons (.int 0) (.cons (.int 1) (.cons (.int 2) (.cons (.int 0) .nil))))))))))) (.bin .mod (.f1 .int (.idx (.var 5) (.var 9))) (.int 10))) (.bin .add (.var 0) (.int 1))))))
  (.cons (.set 7 (.idx (.lst (.cons (.int 1) (.cons (.int 2) (.cons (.int 1) (.cons (.int 1) (.cons (.int 2) (.cons (.int 3) (.cons (.int 1) (.cons (.int 2) (.cons (.int 1) (.cons (.int 2) (.cons (.int 3) (.cons (.int 1) .nil))))))))))))) (.bin .mod (.f1 .int (.idx (.var 5) (.var 1))) (.int 12))))
  (.cons (.ife (.cmp .gt (.var 7) (.var 0)) (.cons (.set 7 (.int 1))
  .nil) .nil)
  (.cons (.set 8 (.comp 10 (.seq (.var 3)) (.and (.call N.f__law_agree (.cons (.idx (.var 10) (.int 0)) (.cons (.var 6) .nil))) (.cmp .ne (.idx (.var 10) (.int 1)) (.var 7))) (.var 10)))
  (.cons (.ife (.and (.cmp .eq (.f1 .len (.var 8)) (.int 0)) (.and (.cmp .nin (.tup (.cons (.var 6) (.cons (.var 7) .nil))) (.var 3)) (.or (.cmp .eq (.var 1) (.int 0)) (.cmp .ne (.var 6) (.f1 .tuple (.bin .mul (.lst (.cons (.int 0) .nil)) (.var 1))))))) (.cons (.app (.var 3) (.tup (.cons (.var 6) (.cons (.var 7) .nil))))
  .nil) .nil)
  .nil)))))))
  (.cons (.ret (.frz 3))
  .nil)))
def _law_rows_v3 (N : Nn) : Fn := ⟨3, 11, b__law_rows_v3 N, true⟩
/-- digit -/
def b__law_known_v2 (N : Nn) : Ss :=
  (.cons (.ife (.cmp .eq (.bin .mod (.var 0) (.int 8)) (.int 0)) (.cons (.ret (.lst (.cons (.int 2) (.cons (.lst (.cons (.tup (.cons (.tup (.cons (.int 0) (.cons (.int 1) .nil))) (.cons (.int 1) .nil))) (.cons (.tup (.cons (.tup (.cons (.int 1) (.cons (.int 0) .nil))) (.cons (.int 1) .nil))) .nil))) .nil))))
  .nil) .nil)
  (.cons (.ife (.cmp .eq (.bin .mod (.var 0) (.int 8)) (.int 1)) (.cons (.ret (.lst (.cons (.int 2) (.cons (.lst (.cons (.tup (.cons (.tup (.cons (.int 0) (.cons (.int 1) .nil))) (.cons (.int 1) .nil))) (.cons (.tup (.cons (.tup (.cons (.int 1) (.cons (.int 0) .nil))) (.cons (.int 1) .nil))) (.cons (.tup (.cons (.tup (.cons (.int 2) (.cons (.int 2) .nil))) (.cons (.int 2) .nil))) .nil)))) .nil))))
  .nil) .nil)
  (.cons (.ife (.cmp .eq (.bin .mod (.var 0) (.int 8)) (.int 2)) (.cons (.ret (.lst (.cons (.int 3) (.cons (.lst (.cons (.tup (.cons (.tup (.cons (.int 0) (.cons (.int 2) (.cons (.int 1) .nil)))) (.cons (.int 1) .nil))) (.cons (.tup (.cons (.tup (.cons (.int 1) (.cons (.int 0) (.cons (.int 2) .nil)))) (.cons (.int 1) .nil))) (.cons (.tup (.cons (.tup (.cons (.int 2) (.cons (.int 1) (.cons (.int 0) .nil)))) (.cons (.int 1) .nil))) .nil)))) .nil))))
  .nil) .nil)
  (.cons (.ife (.cmp .eq (.bin .mod (.var 0) (.int 8)) (.int 3)) (.cons (.ret (.lst (.cons (.int 3) (.cons (.lst (.cons (.tup (.cons (.tup (.cons (.int 0) (.cons (.int 2) (.cons (.int 1) .nil)))) (.cons (.int 1) .nil))) (.cons (.tup (.cons (.tup (.cons (.int 1) (.cons (.int 0) (.cons (.int 2) .nil)))) (.cons (.int 2) .nil))) (.cons (.tup (.cons (.tup (.cons (.int 2) (.cons (.int 1) (.cons (.int 0) .nil)))) (.cons (.int 2) .nil))) .nil)))) .nil))))
  .nil) .nil)
  (.cons (.ife (.cmp .eq (.bin .mod (.var 0) (.int 8)) (.int 4)) (.cons (.ret (.lst (.cons (.int 3) (.cons (.lst (.cons (.tup (.cons (.tup (.cons (.int 0) (.cons (.int 1) (.cons (.int 1) .nil)))) (.cons (.int 1) .nil))) (.cons (.tup (.cons (.tup (.cons (.int 1) (.cons (.int 0) (.cons (.int 1) .nil)))) (.cons (.int 1) .nil))) (.cons (.tup (.cons (.tup (.cons (.int 1) (.cons (.int 1) (.cons (.int 0) .nil)))) (.cons (.int 1) .nil))) (.cons (.tup (.cons (.tup (.cons (.int 2) (.cons (.int 2) (.cons (.int 2) .nil)))) (.cons (.int 2) .nil))) .nil))))) .nil))))
  .nil) .nil)
  (.cons (.ife (.cmp .eq (.bin .mod (.var 0) (.int 8)) (.int 5)) (.cons (.ret (.lst (.cons (.int 3) (.cons (.lst (.cons (.tup (.cons (.tup (.cons (.int 0) (.cons (.int 1) (.cons (.int 1) .nil)))) (.cons (.int 1) .nil))) (.cons (.tup (.cons (.tup (.cons (.int 0) (.cons (.int 2) (.cons (.int 2) .nil)))) (.cons (.int 2) .nil))) (.cons (.tup (.cons (.tup (.cons (.int 1) (.cons (.int 0) (.cons (.int 1) .nil)))) (.cons (.int 1) .nil))) (.cons (.tup (.cons (.tup (.cons (.int 1) (.cons (.int 1) (.cons (.int 0) .nil)))) (.cons (.int 1) .nil))) (.cons (.tup (.cons (.tup (.cons (.int 2) (.cons (.int 0) (.cons (.int 2) .nil)))) (.cons (.int 2) .nil))) (.cons (.tup (.cons (.tup (.cons (.int 2) (.cons (.int 2) (.cons (.int 0) .nil)))) (.cons (.int 2) .nil))) .nil))))))) .nil))))
  .nil) .nil)
  (.cons (.ife (.cmp .eq (.bin .mod (.var 0) (.int 8)) (.int 6)) (.cons (.ret (.lst (.cons (.int 2) (.cons (.lst (.cons (.tup (.cons (.tup (.cons (.int 1) (.cons (.int 0) .nil))) (.cons (.int 1) .nil))) (.cons (.tup (.cons (.tup (.cons (.int 2) (.cons (.int 1) .nil))) (.cons (.int 2) .nil))) (.cons (.tup (.cons (.tup (.cons (.int 2) (.cons (.int 2) .nil))) (.cons (.int 1) .nil))) .nil)))) .nil))))
  .nil) .nil)
  (.cons (.ret (.lst (.cons (.int 3) (.cons (.lst (.cons (.tup (.cons (.tup (.cons (.int 0) (.cons (.int 0) (.cons (.int 1) .nil)))) (.cons (.int 1) .nil))) (.cons (.tup (.cons (.tup (.cons (.int 0) (.cons (.int 1) (.cons (.int 0) .nil)))) (.cons (.int 1) .nil))) (.cons (.tup (.cons (.tup (.cons (.int 1) (.cons (.int 0) (.cons (.int 0) .nil)))) (.cons (.int 1) .nil))) .nil)))) .nil))))
  .nil))))))))
def _law_known_v2 (N : Nn) : Fn := ⟨1, 1, b__law_known_v2 N, true⟩
/-- x, digit, many, turned, k -/
def b__law_turned_v2 (N : Nn) : Ss :=
  (.cons (.set 2 (.f1 .len (.var 0)))
  (.cons (.ife (.cmp .eq (.var 2) (.int 0)) (.cons (.ret (.var 0))
  .nil) .nil)
  (.cons (.set 3 (.comp 4 (.rng1 (.var 2)) (.bl true) (.idx (.var 0) (.bin .mod (.bin .add (.var 4) (.var 1)) (.var 2)))))
  (.cons (.ife (.cmp .ge (.var 1) (.int 3)) (.cons (.set 3 (.comp 4 (.rng1 (.var 2)) (.bl true) (.idx (.var 3) (.bin .sub (.bin .sub (.var 2) (.int 1)) (.var 4)))))
  .nil) .nil)
  (.cons (.ret (.f1 .tuple (.var 3)))
  .nil)))))
def _law_turned_v2 (N : Nn) : Fn := ⟨2, 5, b__law_turned_v2 N, true⟩
/-- answers, row, known, rows, places, pair, value -/
def b__law_box_v2 (N : Nn) : Ss :=
  (.cons (.ife (.and (.cmp .ge (.var 0) (.int 2)) (.cmp .lt (.idx (.var 1) (.int 0)) (.int 5))) (.cons (.set 2 (.call N.f__law_known_v2 (.cons (.idx (.var 1) (.int 1)) .nil)))
  (.cons (.set 3 (.comp 5 (.seq (.idx (.var 2) (.int 1))) (.bl true) (.tup (.cons (.call N.f__law_turned_v2 (.cons (.idx (.var 5) (.int 0)) (.cons (.idx (.var 1) (.int 2)) .nil))) (.cons (.idx (.var 5) (.int 1)) .nil)))))
  (.cons (.ife (.cmp .eq (.idx (.var 1) (.int 3)) (.int 1)) (.cons (.set 3 (.comp 5 (.seq (.var 3)) (.bl true) (.tup (.cons (.f1 .tuple (.comp 6 (.seq (.idx (.var 5) (.int 0))) (.bl true) (.idx (.lst (.cons (.int 0) (.cons (.int 2) (.cons (.int 1) (.cons (.int 3) .nil))))) (.var 6)))) (.cons (.idx (.lst (.cons (.int 0) (.cons (.int 2) (.cons (.int 1) (.cons (.int 3) .nil))))) (.idx (.var 5) (.int 1))) .nil)))))
  .nil) .nil)
  (.cons (.ret (.lst (.cons (.idx (.var 2) (.int 0)) (.cons (.var 3) .nil))))
  .nil)))) .nil)
  (.cons (.set 4 (.idx (.lst (.cons (.int 2) (.cons (.int 3) (.cons (.int 1) (.cons (.int 2) (.cons (.int 3) (.cons (.int 2) .nil))))))) (.bin .mod (.f1 .int (.idx (.var 1) (.int 2))) (.int 6))))
  (.cons (.ret (.lst (.cons (.var 4) (.cons (.call N.f__law_rows_v3 (.cons (.var 0) (.cons (.var 4) (.cons (.slc (.var 1) (.int 4) (.bin .add (.int 5) (.bin .mul (.int 6) (.bin .add (.var 4) (.int 1))))) .nil)))) .nil))))
  .nil)))
def _law_box_v2 (N : Nn) : Fn := ⟨2, 7, b__law_box_v2 N, true⟩
/-- kind, box, x, e -/
def b__law_asked_v4 (N : Nn) : Ss :=
  (.cons (.trye (.cons (.ife (.cmp .eq (.var 0) (.int 0)) (.cons (.ret (.lst (.cons (.str [116, 111, 108, 100]) (.cons (.call N.f_enough_sets (.cons (.var 1) (.cons (.var 2) .nil))) .nil))))
  .nil) .nil)
  (.cons (.ife (.cmp .eq (.var 0) (.int 1)) (.cons (.ret (.lst (.cons (.str [116, 111, 108, 100]) (.cons (.call N.f_stopping_sets (.cons (.var 1) (.cons (.var 2) .nil))) .nil))))
  .nil) .nil)
  (.cons (.ret (.lst (.cons (.str [116, 111, 108, 100]) (.cons (.call N.f_tolerance (.cons (.var 1) (.cons (.var 2) .nil))) .nil))))
  .nil))) N.c_AnswersError 3 (.cons (.ife (.and (.xisi (.var 3) (.cls N.c_NoAnswer)) (.and (.xisi (.var 3) (.ve)) (.and (.not (.xisi (.var 3) (.cls N.c_NoInput))) (.call N.f__law_same (.cons (.xfld (.var 3) N.a_x) (.cons (.var 2) .nil)))))) (.cons (.ret (.lst (.cons (.str [115, 105, 108, 101, 110, 116]) (.cons .non .nil))))
  .nil) .nil)
  (.cons (.ret (.lst (.cons (.str [119, 114, 111, 110, 103]) (.cons .non .nil))))
  .nil)))
  .nil)
def _law_asked_v4 (N : Nn) : Fn := ⟨3, 4, b__law_asked_v4 N, true⟩
/-- rows, x, places, k -/
def b__law_only (N : Nn) : Ss :=
  (.cons (.ret (.call N.f__law_value (.cons (.var 0) (.cons (.f1 .tuple (.comp 3 (.rng1 (.f1 .len (.var 1))) (.bl true) (.bin .mul (.idx (.var 1) (.var 3)) (.f1 .int (.cmp .inn (.var 3) (.var 2)))))) .nil))))
  .nil)
def _law_only (N : Nn) : Fn := ⟨3, 4, b__law_only N, true⟩
/-- script, head, answers, drawn, places, rows, box, x, row, chosen, due, asked, there, sets, enough, left, stops, bear, k -/
def b_law_v16 (N : Nn) : Ss :=
  (.cons (.set 1 (.call N.f__law_digits (.cons (.call N.f__law_cell (.cons (.var 0) (.cons (.int 0) .nil))) (.cons (.lst (.cons (.int 5) (.cons (.int 8) (.cons (.int 2) (.cons (.int 9) (.cons (.int 4) (.cons (.int 4) (.cons (.int 4) (.cons (.int 4) .nil))))))))) .nil))))
  (.cons (.set 2 (.idx (.lst (.cons (.int 2) (.cons (.int 2) (.cons (.int 3) (.cons (.int 1) (.cons (.int 2) .nil)))))) (.idx (.var 1) (.int 0))))
  (.cons (.set 3 (.call N.f__law_box_v2 (.cons (.var 2) (.cons (.call N.f__law_digits (.cons (.call N.f__law_cell (.cons (.var 0) (.cons (.int 1) .nil))) (.cons (.bin .add (.bin .add (.lst (.cons (.int 9) (.cons (.int 8) (.cons (.int 6) (.cons (.int 4) .nil))))) (.lst (.cons (.int 7) .nil))) (.bin .mul (.bin .add (.bin .mul (.lst (.cons (.int 10) .nil)) (.int 3)) (.lst (.cons (.int 12) .nil))) (.int 6))) .nil))) .nil))))
  (.cons (.ife (.cmp .eq (.idx (.var 1) (.int 1)) (.int 0)) (.cons (.set 3 (.lst (.cons (.int 3) (.cons (.lst (.cons (.tup (.cons (.tup (.cons (.int 0) (.cons (.int 0) (.cons (.int 0) .nil)))) (.cons (.int 1) .nil))) .nil)) .nil))))
  .nil) .nil)
  (.cons (.ife (.cmp .eq (.idx (.var 1) (.int 1)) (.int 1)) (.cons (.set 3 (.lst (.cons (.int 4) (.cons (.call N.f__law_rows_v3 (.cons (.var 2) (.cons (.int 4) (.cons (.call N.f__law_digits (.cons (.call N.f__law_cell (.cons (.var 0) (.cons (.int 1) .nil))) (.cons (.bin .add (.lst (.cons (.int 7) .nil)) (.bin .mul (.bin .add (.bin .mul (.lst (.cons (.int 10) .nil)) (.int 4)) (.lst (.cons (.int 12) .nil))) (.int 6))) .nil))) .nil)))) .nil))))
  .nil) .nil)
  (.cons (.ife (.cmp .eq (.idx (.var 1) (.int 1)) (.int 2)) (.cons (.set 3 (.lst (.cons (.int 0) (.cons (.slc (.lst (.cons (.tup (.cons (.tup .nil) (.cons (.int 1) .nil))) .nil)) .omit (.bin .mod (.idx (.var 1) (.int 3)) (.int 2))) .nil))))
  .nil) .nil)
  (.cons (.set 4 (.idx (.var 3) (.int 0)))
  (.cons (.set 5 (.call N.f__law_least (.cons (.idx (.var 3) (.int 1)) .nil)))
  (.cons (.set 6 (.make N.c_Box (.cons (.var 2) (.cons (.var 4) (.cons (.f1 .tuple (.var 5)) .nil)))))
  (.cons (.set 7 (.f1 .tuple (.comp 18 (.rng1 (.var 4)) (.bl true) (.bin .add (.int 1) (.bin .mod (.idx (.var 1) (.bin .add (.int 4) (.var 18))) (.var 2))))))
  (.cons (.ife (.and (.cmp .eq (.idx (.var 1) (.int 2)) (.int 1)) (.cmp .gt (.f1 .len (.var 5)) (.int 0))) (.cons (.set 8 (.idx (.idx (.var 5) (.bin .mod (.idx (.var 1) (.int 3)) (.f1 .len (.var 5)))) (.int 0)))
  (.cons (.set 7 (.f1 .tuple (.comp 18 (.rng1 (.var 4)) (.bl true) (.f2 .max (.idx (.var 8) (.var 18)) (.bin .mul (.f1 .int (.cmp .eq (.idx (.var 8) (.var 18)) (.int 0))) (.bin .mod (.idx (.var 1) (.bin .add (.int 4) (.var 18))) (.bin .add (.var 2) (.int 1))))))))
  .nil)) .nil)
  (.cons (.fore 9 (.seq (.call N.f__law_sets (.cons (.var 4) .nil))) (.cons (.set 10 (.cmp .ne (.call N.f__law_only (.cons (.var 5) (.cons (.var 7) (.cons (.var 9) .nil)))) (.int 0)))
  (.cons (.ife (.not (.call N.f__law_same (.cons (.call N.f_asks_enough (.cons (.var 6) (.cons (.var 7) (.cons (.var 9) .nil)))) (.cons (.var 10) .nil)))) (.cons (.ret (.bl false))
  .nil) .nil)
  .nil)))
  (.cons (.set 11 (.lst (.cons (.call N.f__law_asked_v4 (.cons (.int 0) (.cons (.var 6) (.cons (.var 7) .nil)))) (.cons (.call N.f__law_asked_v4 (.cons (.int 1) (.cons (.var 6) (.cons (.var 7) .nil)))) (.cons (.call N.f__law_asked_v4 (.cons (.int 2) (.cons (.var 6) (.cons (.var 7) .nil)))) .nil)))))
  (.cons (.ife (.cmp .eq (.call N.f__law_value (.cons (.var 5) (.cons (.var 7) .nil))) (.int 0)) (.cons (.ret (.and (.cmp .eq (.idx (.idx (.var 11) (.int 0)) (.int 0)) (.str [115, 105, 108, 101, 110, 116])) (.and (.cmp .eq (.idx (.idx (.var 11) (.int 1)) (.int 0)) (.str [115, 105, 108, 101, 110, 116])) (.cmp .eq (.idx (.idx (.var 11) (.int 2)) (.int 0)) (.str [115, 105, 108, 101, 110, 116])))))
  .nil) .nil)
  (.cons (.set 12 (.comp 18 (.rng1 (.var 4)) (.cmp .ne (.idx (.var 7) (.var 18)) (.int 0)) (.var 18)))
  (.cons (.set 13 (.comp 9 (.seq (.call N.f__law_sets (.cons (.var 4) .nil))) (.call N.f__law_inside (.cons (.var 9) (.cons (.var 12) .nil))) (.var 9)))
  (.cons (.set 14 (.call N.f__law_least_sets (.cons (.comp 9 (.seq (.var 13)) (.cmp .ne (.call N.f__law_only (.cons (.var 5) (.cons (.var 7) (.cons (.var 9) .nil)))) (.int 0)) (.var 9)) .nil)))
  (.cons (.set 15 (.comp 18 (.rng1 (.var 4)) (.bl true) (.var 18)))
  (.cons (.set 16 (.new (.lst .nil)))
  (.cons (.fore 9 (.seq (.var 13)) (.cons (.ife (.cmp .eq (.call N.f__law_only (.cons (.var 5) (.cons (.var 7) (.cons (.comp 18 (.seq (.var 15)) (.cmp .nin (.var 18) (.var 9)) (.var 18)) .nil)))) (.int 0)) (.cons (.app (.var 16) (.var 9))
  .nil) .nil)
  .nil))
  (.cons (.set 16 (.call N.f__law_least_sets (.cons (.frz 16) .nil)))
  (.cons (.set 17 (.f1 .len (.var 12)))
  (.cons (.ife (.cmp .gt (.f1 .len (.var 16)) (.int 0)) (.cons (.set 17 (.bin .sub (.f1 .min (.comp 9 (.seq (.var 16)) (.bl true) (.f1 .len (.var 9)))) (.int 1)))
  .nil) .nil)
  (.cons (.ife (.or (.cmp .ne (.idx (.idx (.var 11) (.int 0)) (.int 0)) (.str [116, 111, 108, 100])) (.not (.call N.f__law_same (.cons (.idx (.idx (.var 11) (.int 0)) (.int 1)) (.cons (.f1 .tuple (.var 14)) .nil))))) (.cons (.ret (.bl false))
  .nil) .nil)
  (.cons (.ife (.or (.cmp .ne (.idx (.idx (.var 11) (.int 1)) (.int 0)) (.str [116, 111, 108, 100])) (.not (.call N.f__law_same (.cons (.idx (.idx (.var 11) (.int 1)) (.int 1)) (.cons (.f1 .tuple (.var 16)) .nil))))) (.cons (.ret (.bl false))
  .nil) .nil)
  (.cons (.ret (.and (.cmp .eq (.idx (.idx (.var 11) (.int 2)) (.int 0)) (.str [116, 111, 108, 100])) (.call N.f__law_same (.cons (.idx (.idx (.var 11) (.int 2)) (.int 1)) (.cons (.var 17) .nil)))))
  .nil))))))))))))))))))))))))))
def law_v16 (N : Nn) : Fn := ⟨1, 19, b_law_v16 N, true⟩
/-- common, quorum, place -/
def b_meeting (N : Nn) : Ss :=
  (.cons (.ret (.f1 .tuple (.comp 2 (.seq (.var 0)) (.cmp .inn (.var 2) (.var 1)) (.var 2))))
  .nil)
def meeting (N : Nn) : Fn := ⟨2, 3, b_meeting N, true⟩
/-- family, common, quorum -/
def b_common_places (N : Nn) : Ss :=
  (.cons (.ife (.cmp .eq (.f1 .len (.var 0)) (.int 0)) (.cons (.ret (.tup .nil))
  .nil) .nil)
  (.cons (.set 1 (.glb N.k_ALL_PLACES))
  (.cons (.fore 2 (.seq (.var 0)) (.cons (.set 1 (.call N.f_meeting (.cons (.var 1) (.cons (.var 2) .nil))))
  .nil))
  (.cons (.ret (.var 1))
  .nil))))
def common_places (N : Nn) : Fn := ⟨1, 3, b_common_places N, true⟩
/-- family, common, reached, frontier, count, fresh, left, quorum, after -/
def b_number_needed (N : Nn) : Ss :=
  (.cons (.set 2 (.new (.dict1 (.var 1) (.int 0))))
  (.cons (.set 3 (.lst (.cons (.var 1) .nil)))
  (.cons (.fore 4 (.rng1 (.bin .add (.f1 .len (.glb N.k_ALL_PLACES)) (.int 1))) (.cons (.ife (.cmp .inn (.tup .nil) (.var 2)) (.cons .brk
  .nil) .nil)
  (.cons (.set 5 (.new (.lst .nil)))
  (.cons (.fore 6 (.seq (.var 3)) (.cons (.fore 7 (.seq (.var 0)) (.cons (.set 8 (.call N.f_meeting (.cons (.var 6) (.cons (.var 7) .nil))))
  (.cons (.ife (.cmp .nin (.var 8) (.var 2)) (.cons (.setIx (.var 2) (.var 8) (.bin .add (.var 4) (.int 1)))
  (.cons (.app (.var 5) (.var 8))
  .nil)) .nil)
  .nil)))
  .nil))
  (.cons (.set 3 (.f1 .list (.var 5)))
  .nil)))))
  (.cons (.ret (.get (.var 2) (.tup .nil)))
  .nil))))
def number_needed (N : Nn) : Fn := ⟨2, 9, b_number_needed N, true⟩
/-- family, start, common, count, index, left -/
def b_next_apart (N : Nn) : Ss :=
  (.cons (.fore 4 (.rng2 (.var 1) (.f1 .len (.var 0))) (.cons (.set 5 (.call N.f_meeting (.cons (.var 2) (.cons (.idx (.var 0) (.var 4)) .nil))))
  (.cons (.ife (.cmp .eq (.call N.f_number_needed (.cons (.slc (.var 0) (.bin .add (.var 4) (.int 1)) .omit) (.cons (.var 5) .nil))) (.var 3)) (.cons (.ret (.var 4))
  .nil) .nil)
  .nil)))
  (.cons (.ret (.f1 .len (.var 0)))
  .nil))
def next_apart (N : Nn) : Fn := ⟨4, 6, b_next_apart N, true⟩
/-- family, count, chosen, common, start, left, index -/
def b_apart_quorums (N : Nn) : Ss :=
  (.cons (.ife (.or (.cmp .eq (.f1 .len (.var 0)) (.int 0)) (.cmp .gt (.f1 .len (.call N.f_common_places (.cons (.var 0) .nil))) (.int 0))) (.cons (.ret .non)
  .nil) .nil)
  (.cons (.set 1 (.call N.f_number_needed (.cons (.var 0) (.cons (.glb N.k_ALL_PLACES) .nil))))
  (.cons (.set 2 (.new (.lst .nil)))
  (.cons (.set 3 (.glb N.k_ALL_PLACES))
  (.cons (.set 4 (.int 0))
  (.cons (.fore 5 (.rng3 (.bin .sub (.var 1) (.int 1)) (.neg (.int 1)) (.neg (.int 1))) (.cons (.set 6 (.call N.f_next_apart (.cons (.var 0) (.cons (.var 4) (.cons (.var 3) (.cons (.var 5) .nil))))))
  (.cons (.app (.var 2) (.idx (.var 0) (.var 6)))
  (.cons (.set 3 (.call N.f_meeting (.cons (.var 3) (.cons (.idx (.var 0) (.var 6)) .nil))))
  (.cons (.set 4 (.bin .add (.var 6) (.int 1)))
  .nil)))))
  (.cons (.ret (.f1 .tuple (.var 2)))
  .nil)))))))
def apart_quorums (N : Nn) : Fn := ⟨1, 7, b_apart_quorums N, true⟩
/-- family, quorums -/
def b_apart_number (N : Nn) : Ss :=
  (.cons (.set 1 (.call N.f_apart_quorums (.cons (.var 0) .nil)))
  (.cons (.ife (.cmp .isn (.var 1) .non) (.cons (.ret .non)
  .nil) .nil)
  (.cons (.ret (.f1 .len (.var 1)))
  .nil)))
def apart_number (N : Nn) : Fn := ⟨1, 2, b_apart_number N, true⟩
/-- self, place -/
def b_Contradiction___init__ (N : Nn) : Ss :=
  (.cons (.setFld (.var 0) N.a_place (.var 1))
  .nil)
def Contradiction___init__ (N : Nn) : Fn := ⟨2, 2, b_Contradiction___init__ N, false⟩
/-- x, y, place, k -/
def b_joined (N : Nn) : Ss :=
  (.cons (.set 2 (.call N.f_contradicting_place (.cons (.var 0) (.cons (.var 1) .nil))))
  (.cons (.ife (.cmp .notn (.var 2) .non) (.cons (.raise N.c_Contradiction (.cons (.var 2) .nil))
  .nil) .nil)
  (.cons (.ret (.f1 .tuple (.comp 3 (.rng1 (.f1 .len (.var 0))) (.bl true) (.f2 .max (.idx (.var 0) (.var 3)) (.idx (.var 1) (.var 3))))))
  .nil)))
def joined (N : Nn) : Fn := ⟨2, 4, b_joined N, true⟩
/-- x, place -/
def b_silent_places (N : Nn) : Ss :=
  (.cons (.ret (.f1 .tuple (.comp 1 (.rng1 (.f1 .len (.var 0))) (.cmp .eq (.idx (.var 0) (.var 1)) (.int 0)) (.var 1))))
  .nil)
def silent_places (N : Nn) : Fn := ⟨1, 2, b_silent_places N, true⟩
/-- family -/
def b_is_crossing (N : Nn) : Ss :=
  (.cons (.ret (.cmp .isn (.call N.f_first_apart (.cons (.var 0) .nil)) .non))
  .nil)
def is_crossing (N : Nn) : Fn := ⟨1, 1, b_is_crossing N, true⟩
/-- places, count, chosen -/
def b_count_family (N : Nn) : Ss :=
  (.cons (.ret (.f1 .tuple (.f1 .sorted (.comp 2 (.seq (.call N.f_subsets_of (.cons (.var 0) .nil))) (.cmp .eq (.f1 .len (.var 2)) (.var 1)) (.var 2)))))
  .nil)
def count_family (N : Nn) : Fn := ⟨2, 3, b_count_family N, true⟩
/-- chosen, weights, place -/
def b_weight_of (N : Nn) : Ss :=
  (.cons (.ret (.f1 .sum (.comp 2 (.seq (.var 0)) (.bl true) (.idx (.var 1) (.var 2)))))
  .nil)
def weight_of (N : Nn) : Fn := ⟨2, 3, b_weight_of N, true⟩
/-- weights, threshold, heavy, chosen -/
def b_weighted_family (N : Nn) : Ss :=
  (.cons (.set 2 (.comp 3 (.seq (.call N.f_subsets_of (.cons (.f1 .len (.var 0)) .nil))) (.cmp .ge (.call N.f_weight_of (.cons (.var 3) (.cons (.var 0) .nil))) (.var 1)) (.var 3)))
  (.cons (.ret (.call N.f_least_family (.cons (.f1 .tuple (.var 2)) .nil)))
  .nil))
def weighted_family (N : Nn) : Fn := ⟨2, 4, b_weighted_family N, true⟩
/-- family -/
def b_quorum_height (N : Nn) : Ss :=
  (.cons (.ife (.cmp .le (.f1 .len (.call N.f_least_family (.cons (.var 0) .nil))) (.int 1)) (.cons (.ret .non)
  .nil) .nil)
  (.cons (.ife (.cmp .gt (.f1 .len (.call N.f_common_places (.cons (.var 0) .nil))) (.int 0)) (.cons (.ret (.tup (.cons (.str [114, 111, 117, 110, 100]) (.cons (.int 2) .nil))))
  .nil) .nil)
  (.cons (.ret (.tup (.cons (.str [118, 111, 116, 101]) (.cons (.bin .sub (.call N.f_apart_number (.cons (.var 0) .nil)) (.int 1)) .nil))))
  .nil)))
def quorum_height (N : Nn) : Fn := ⟨1, 1, b_quorum_height N, true⟩
/-- base, exponent, power, _ -/
def b_power_of (N : Nn) : Ss :=
  (.cons (.set 2 (.int 1))
  (.cons (.fore 3 (.rng1 (.var 1)) (.cons (.set 2 (.bin .mul (.var 2) (.var 0)))
  .nil))
  (.cons (.ret (.var 2))
  .nil)))
def power_of (N : Nn) : Fn := ⟨2, 4, b_power_of N, true⟩
/-- answers, places -/
def b_input_count (N : Nn) : Ss :=
  (.cons (.ret (.call N.f_power_of (.cons (.bin .add (.var 0) (.int 1)) (.cons (.var 1) .nil))))
  .nil)
def input_count (N : Nn) : Fn := ⟨2, 2, b_input_count N, true⟩
/-- answers, places, number, digits, rest, _ -/
def b_input_at (N : Nn) : Ss :=
  (.cons (.ife (.or (.cmp .lt (.var 2) (.int 0)) (.cmp .ge (.var 2) (.call N.f_input_count (.cons (.var 0) (.cons (.var 1) .nil))))) (.cons (.raise N.c_NoInput (.cons (.var 2) .nil))
  .nil) .nil)
  (.cons (.set 3 (.new (.lst .nil)))
  (.cons (.set 4 (.var 2))
  (.cons (.fore 5 (.rng1 (.var 1)) (.cons (.app (.var 3) (.bin .mod (.var 4) (.bin .add (.var 0) (.int 1))))
  (.cons (.set 4 (.bin .fdiv (.var 4) (.bin .add (.var 0) (.int 1))))
  .nil)))
  (.cons (.ret (.f1 .tuple (.rev (.var 3))))
  .nil)))))
def input_at (N : Nn) : Fn := ⟨3, 6, b_input_at N, true⟩
/-- answers, places, number -/
def b_all_inputs (N : Nn) : Ss :=
  (.cons (.ret (.f1 .tuple (.comp 2 (.rng1 (.call N.f_input_count (.cons (.var 0) (.cons (.var 1) .nil)))) (.bl true) (.call N.f_input_at (.cons (.var 0) (.cons (.var 1) (.cons (.var 2) .nil)))))))
  .nil)
def all_inputs (N : Nn) : Fn := ⟨2, 3, b_all_inputs N, true⟩
/-- box, x, row -/
def b_open_rows (N : Nn) : Ss :=
  (.cons (.ret (.f1 .tuple (.comp 2 (.seq (.fld (.var 0) N.a_least)) (.call N.f_agree (.cons (.idx (.var 2) (.int 0)) (.cons (.var 1) .nil))) (.var 2))))
  .nil)
def open_rows (N : Nn) : Fn := ⟨2, 3, b_open_rows N, true⟩
/-- masks, whole, reached, frontier, fresh, state, k, after -/
def b_least_cover (N : Nn) : Ss :=
  (.cons (.set 2 (.new (.dict1 (.int 0) (.tup .nil))))
  (.cons (.set 3 (.lst (.cons (.int 0) .nil)))
  (.cons (.whil 1000 (.and (.cmp .gt (.f1 .len (.var 3)) (.int 0)) (.cmp .nin (.var 1) (.var 2))) (.cons (.set 4 (.new (.lst .nil)))
  (.cons (.fore 5 (.seq (.var 3)) (.cons (.fore 6 (.rng1 (.f1 .len (.var 0))) (.cons (.set 7 (.bin .bor (.var 5) (.idx (.var 0) (.var 6))))
  (.cons (.ife (.cmp .nin (.var 7) (.var 2)) (.cons (.setIx (.var 2) (.var 7) (.bin .add (.idx (.var 2) (.var 5)) (.tup (.cons (.var 6) .nil))))
  (.cons (.app (.var 4) (.var 7))
  .nil)) .nil)
  .nil)))
  .nil))
  (.cons (.set 3 (.f1 .list (.var 4)))
  .nil))))
  (.cons (.ret (.get (.var 2) (.var 1)))
  .nil))))
def least_cover (N : Nn) : Fn := ⟨2, 8, b_least_cover N, true⟩
/-- x, y, place -/
def b_silent_mask (N : Nn) : Ss :=
  (.cons (.ret (.f1 .sum (.comp 2 (.seq (.call N.f_silent_places (.cons (.var 0) .nil))) (.cmp .eq (.idx (.var 1) (.var 2)) (.int 0)) (.bin .shl (.int 1) (.var 2)))))
  .nil)
def silent_mask (N : Nn) : Fn := ⟨2, 3, b_silent_mask N, true⟩
/-- box, x, roads, cover, row, y, k -/
def b_least_roads (N : Nn) : Ss :=
  (.cons (.set 2 (.comp 4 (.seq (.call N.f_open_rows (.cons (.var 0) (.cons (.var 1) .nil)))) (.bl true) (.call N.f_joined (.cons (.var 1) (.cons (.idx (.var 4) (.int 0)) .nil)))))
  (.cons (.set 3 (.call N.f_least_cover (.cons (.comp 5 (.seq (.var 2)) (.bl true) (.call N.f_silent_mask (.cons (.var 1) (.cons (.var 5) .nil)))) (.cons (.call N.f_silent_mask (.cons (.var 1) (.cons (.var 1) .nil))) .nil))))
  (.cons (.ife (.or (.cmp .isn (.var 3) .non) (.cmp .eq (.f1 .len (.var 3)) (.int 0))) (.cons (.ret .non)
  .nil) .nil)
  (.cons (.ret (.f1 .tuple (.comp 6 (.seq (.var 3)) (.bl true) (.idx (.var 2) (.var 6)))))
  .nil))))
def least_roads (N : Nn) : Fn := ⟨2, 7, b_least_roads N, true⟩
/-- box, best, x, roads -/
def b_least_road_witness (N : Nn) : Ss :=
  (.cons (.set 1 .non)
  (.cons (.fore 2 (.seq (.call N.f_all_inputs (.cons (.fld (.var 0) N.a_answers) (.cons (.fld (.var 0) N.a_places) .nil)))) (.cons (.ife (.cmp .eq (.inst (.var 0) (.var 2)) (.int 0)) (.cons (.set 3 (.call N.f_least_roads (.cons (.var 0) (.cons (.var 2) .nil))))
  (.cons (.ife (.and (.cmp .notn (.var 3) .non) (.or (.cmp .isn (.var 1) .non) (.cmp .lt (.f1 .len (.var 3)) (.f1 .len (.idx (.var 1) (.int 1)))))) (.cons (.set 1 (.tup (.cons (.var 2) (.cons (.var 3) .nil))))
  .nil) .nil)
  .nil)) .nil)
  .nil))
  (.cons (.ret (.var 1))
  .nil)))
def least_road_witness (N : Nn) : Fn := ⟨1, 4, b_least_road_witness N, true⟩
/-- box, best -/
def b_road_number (N : Nn) : Ss :=
  (.cons (.set 1 (.call N.f_least_road_witness (.cons (.var 0) .nil)))
  (.cons (.ife (.cmp .isn (.var 1) .non) (.cons (.ret .non)
  .nil) .nil)
  (.cons (.ret (.f1 .len (.idx (.var 1) (.int 1))))
  .nil)))
def road_number (N : Nn) : Fn := ⟨1, 2, b_road_number N, true⟩
/-- x, other, place -/
def b_freed_mask (N : Nn) : Ss :=
  (.cons (.ret (.f1 .sum (.comp 2 (.seq (.call N.f_answered_places (.cons (.var 1) .nil))) (.or (.cmp .eq (.idx (.var 0) (.var 2)) (.int 0)) (.cmp .eq (.idx (.var 0) (.var 2)) (.idx (.var 1) (.var 2)))) (.bin .shl (.int 1) (.var 2)))))
  .nil)
def freed_mask (N : Nn) : Fn := ⟨2, 3, b_freed_mask N, true⟩
/-- states, inputs, other, fresh, state, x, after -/
def b_next_votes (N : Nn) : Ss :=
  (.cons (.set 3 (.new (.dict0 true)))
  (.cons (.fore 4 (.seq (.var 0)) (.cons (.fore 5 (.seq (.var 1)) (.cons (.ife (.call N.f_agree (.cons (.idx (.var 4) (.int 0)) (.cons (.var 5) .nil))) (.cons (.set 6 (.tup (.cons (.call N.f_joined (.cons (.idx (.var 4) (.int 0)) (.cons (.var 5) .nil))) (.cons (.bin .bor (.idx (.var 4) (.int 1)) (.call N.f_freed_mask (.cons (.var 5) (.cons (.var 2) .nil)))) .nil))))
  (.cons (.ife (.cmp .nin (.var 6) (.var 3)) (.cons (.setIx (.var 3) (.var 6) (.bin .add (.idx (.var 0) (.var 4)) (.tup (.cons (.var 5) .nil))))
  .nil) .nil)
  .nil)) .nil)
  .nil))
  .nil))
  (.cons (.ret (.frz 3))
  .nil)))
def next_votes (N : Nn) : Fn := ⟨3, 7, b_next_votes N, true⟩
/-- inputs, other, whole, states, _, state -/
def b_least_votes (N : Nn) : Ss :=
  (.cons (.set 2 (.call N.f_freed_mask (.cons (.var 1) (.cons (.var 1) .nil))))
  (.cons (.set 3 (.dict1 (.tup (.cons (.bin .mul (.tup (.cons (.int 0) .nil)) (.f1 .len (.var 1))) (.cons (.int 0) .nil))) (.tup .nil)))
  (.cons (.fore 4 (.rng1 (.f1 .len (.var 1))) (.cons (.set 3 (.call N.f_next_votes (.cons (.var 3) (.cons (.var 0) (.cons (.var 1) .nil)))))
  (.cons (.fore 5 (.seq (.var 3)) (.cons (.ife (.cmp .eq (.idx (.var 5) (.int 1)) (.var 2)) (.cons (.ret (.idx (.var 3) (.var 5)))
  .nil) .nil)
  .nil))
  .nil)))
  (.cons (.ret .non)
  .nil))))
def least_votes (N : Nn) : Fn := ⟨2, 6, b_least_votes N, true⟩
/-- box, best, row, answer, inputs, votes, lower -/
def b_least_vote_witness (N : Nn) : Ss :=
  (.cons (.set 1 .non)
  (.cons (.fore 2 (.seq (.fld (.var 0) N.a_least)) (.cons (.fore 3 (.seq (.fld (.var 0) N.a_kinds)) (.cons (.ife (.cmp .ne (.var 3) (.idx (.var 2) (.int 1))) (.cons (.set 4 (.comp 6 (.seq (.fld (.var 0) N.a_least)) (.cmp .eq (.idx (.var 6) (.int 1)) (.var 3)) (.idx (.var 6) (.int 0))))
  (.cons (.set 5 (.call N.f_least_votes (.cons (.var 4) (.cons (.idx (.var 2) (.int 0)) .nil))))
  (.cons (.ife (.and (.cmp .notn (.var 5) .non) (.or (.cmp .isn (.var 1) .non) (.cmp .lt (.f1 .len (.var 5)) (.f1 .len (.idx (.var 1) (.int 0)))))) (.cons (.set 1 (.tup (.cons (.var 5) (.cons (.idx (.var 2) (.int 0)) .nil))))
  .nil) .nil)
  .nil))) .nil)
  .nil))
  .nil))
  (.cons (.ret (.var 1))
  .nil)))
def least_vote_witness (N : Nn) : Fn := ⟨1, 7, b_least_vote_witness N, true⟩
/-- box, best -/
def b_vote_number (N : Nn) : Ss :=
  (.cons (.set 1 (.call N.f_least_vote_witness (.cons (.var 0) .nil)))
  (.cons (.ife (.cmp .isn (.var 1) .non) (.cons (.ret .non)
  .nil) .nil)
  (.cons (.ret (.f1 .len (.idx (.var 1) (.int 0))))
  .nil)))
def vote_number (N : Nn) : Fn := ⟨1, 2, b_vote_number N, true⟩
/-- box, votes, roads -/
def b_box_height (N : Nn) : Ss :=
  (.cons (.set 1 (.call N.f_vote_number (.cons (.var 0) .nil)))
  (.cons (.ife (.cmp .notn (.var 1) .non) (.cons (.ret (.tup (.cons (.str [118, 111, 116, 101]) (.cons (.var 1) .nil))))
  .nil) .nil)
  (.cons (.set 2 (.call N.f_road_number (.cons (.var 0) .nil)))
  (.cons (.ife (.cmp .notn (.var 2) .non) (.cons (.ret (.tup (.cons (.str [114, 111, 117, 110, 100]) (.cons (.var 2) .nil))))
  .nil) .nil)
  (.cons (.ret .non)
  .nil)))))
def box_height (N : Nn) : Fn := ⟨1, 3, b_box_height N, true⟩
/-- answers, places, grown, k, j -/
def b__law_inputs (N : Nn) : Ss :=
  (.cons (.set 2 (.lst (.cons (.tup .nil) .nil)))
  (.cons (.fore 3 (.rng1 (.var 1)) (.cons (.set 2 (.comp 4 (.rng1 (.bin .mul (.f1 .len (.var 2)) (.bin .add (.var 0) (.int 1)))) (.bl true) (.bin .add (.idx (.var 2) (.bin .fdiv (.var 4) (.bin .add (.var 0) (.int 1)))) (.tup (.cons (.bin .mod (.var 4) (.bin .add (.var 0) (.int 1))) .nil)))))
  .nil))
  (.cons (.ret (.var 2))
  .nil)))
def _law_inputs (N : Nn) : Fn := ⟨2, 5, b__law_inputs N, true⟩
/-- answers, places, least, best, x, many -/
def b__law_road_number (N : Nn) : Ss :=
  (.cons (.set 3 (.int 0))
  (.cons (.fore 4 (.seq (.call N.f__law_inputs (.cons (.var 0) (.cons (.var 1) .nil)))) (.cons (.ife (.cmp .eq (.call N.f__law_value (.cons (.var 2) (.cons (.var 4) .nil))) (.int 0)) (.cons (.set 5 (.call N.f__law_cover (.cons (.var 4) (.cons (.var 2) .nil))))
  (.cons (.ife (.and (.cmp .gt (.var 5) (.int 0)) (.or (.cmp .eq (.var 3) (.int 0)) (.cmp .lt (.var 5) (.var 3)))) (.cons (.set 3 (.var 5))
  .nil) .nil)
  .nil)) .nil)
  .nil))
  (.cons (.ret (.var 3))
  .nil)))
def _law_road_number (N : Nn) : Fn := ⟨3, 6, b__law_road_number N, true⟩
/-- x, least, whole, rows, states, many, fresh, state, m, k, row -/
def b__law_cover (N : Nn) : Ss :=
  (.cons (.set 2 (.f1 .tuple (.comp 9 (.rng1 (.f1 .len (.var 0))) (.cmp .eq (.idx (.var 0) (.var 9)) (.int 0)) (.var 9))))
  (.cons (.set 3 (.comp 10 (.seq (.var 1)) (.call N.f__law_agree (.cons (.idx (.var 10) (.int 0)) (.cons (.var 0) .nil))) (.idx (.var 10) (.int 0))))
  (.cons (.set 4 (.lst (.cons (.tup .nil) .nil)))
  (.cons (.fore 5 (.rng2 (.int 1) (.int 7)) (.cons (.set 6 (.new (.dict0 true)))
  (.cons (.fore 7 (.seq (.var 4)) (.cons (.fore 8 (.seq (.var 3)) (.cons (.setIx (.var 6) (.f1 .tuple (.comp 9 (.seq (.var 2)) (.or (.cmp .inn (.var 9) (.var 7)) (.cmp .eq (.idx (.var 8) (.var 9)) (.int 0))) (.var 9))) (.bl true))
  .nil))
  .nil))
  (.cons (.ife (.and (.cmp .inn (.var 2) (.var 6)) (.cmp .gt (.f1 .len (.var 2)) (.int 0))) (.cons (.ret (.var 5))
  .nil) .nil)
  (.cons (.set 4 (.f1 .list (.var 6)))
  .nil)))))
  (.cons (.ret (.int 0))
  .nil)))))
def _law_cover (N : Nn) : Fn := ⟨2, 11, b__law_cover N, true⟩
/-- places, least, best, other, answer, inputs, many, row -/
def b__law_vote_number (N : Nn) : Ss :=
  (.cons (.set 2 (.int 0))
  (.cons (.fore 3 (.seq (.var 1)) (.cons (.fore 4 (.seq (.tup (.cons (.int 1) (.cons (.int 2) (.cons (.int 3) .nil))))) (.cons (.set 5 (.comp 7 (.seq (.var 1)) (.and (.cmp .eq (.idx (.var 7) (.int 1)) (.var 4)) (.cmp .ne (.var 4) (.idx (.var 3) (.int 1)))) (.idx (.var 7) (.int 0))))
  (.cons (.set 6 (.call N.f__law_freed (.cons (.var 0) (.cons (.var 5) (.cons (.idx (.var 3) (.int 0)) .nil)))))
  (.cons (.ife (.and (.cmp .gt (.var 6) (.int 0)) (.or (.cmp .eq (.var 2) (.int 0)) (.cmp .lt (.var 6) (.var 2)))) (.cons (.set 2 (.var 6))
  .nil) .nil)
  .nil))))
  .nil))
  (.cons (.ret (.var 2))
  .nil)))
def _law_vote_number (N : Nn) : Fn := ⟨2, 8, b__law_vote_number N, true⟩
/-- places, inputs, z, whole, states, many, fresh, state, x, joint, k -/
def b__law_freed (N : Nn) : Ss :=
  (.cons (.set 3 (.f1 .tuple (.comp 10 (.rng1 (.var 0)) (.cmp .ne (.idx (.var 2) (.var 10)) (.int 0)) (.var 10))))
  (.cons (.set 4 (.lst (.cons (.tup (.cons (.f1 .tuple (.comp 10 (.rng1 (.var 0)) (.bl true) (.int 0))) (.cons (.tup .nil) .nil))) .nil)))
  (.cons (.fore 5 (.rng2 (.int 1) (.bin .add (.var 0) (.int 1))) (.cons (.set 6 (.new (.dict0 true)))
  (.cons (.fore 7 (.seq (.var 4)) (.cons (.fore 8 (.seq (.var 1)) (.cons (.ife (.call N.f__law_agree (.cons (.idx (.var 7) (.int 0)) (.cons (.var 8) .nil))) (.cons (.set 9 (.f1 .tuple (.comp 10 (.rng1 (.var 0)) (.bl true) (.f2 .max (.idx (.idx (.var 7) (.int 0)) (.var 10)) (.idx (.var 8) (.var 10))))))
  (.cons (.setIx (.var 6) (.tup (.cons (.var 9) (.cons (.f1 .tuple (.comp 10 (.seq (.var 3)) (.or (.cmp .inn (.var 10) (.idx (.var 7) (.int 1))) (.or (.cmp .eq (.idx (.var 8) (.var 10)) (.int 0)) (.cmp .eq (.idx (.var 8) (.var 10)) (.idx (.var 2) (.var 10))))) (.var 10))) .nil))) (.bl true))
  .nil)) .nil)
  .nil))
  .nil))
  (.cons (.fore 7 (.seq (.var 6)) (.cons (.ife (.cmp .eq (.idx (.var 7) (.int 1)) (.var 3)) (.cons (.ret (.var 5))
  .nil) .nil)
  .nil))
  (.cons (.set 4 (.f1 .list (.var 6)))
  .nil)))))
  (.cons (.ret (.int 0))
  .nil))))
def _law_freed (N : Nn) : Fn := ⟨3, 11, b__law_freed N, true⟩
/-- answers, places, least, votes, roads -/
def b__law_rank (N : Nn) : Ss :=
  (.cons (.set 3 (.call N.f__law_vote_number (.cons (.var 1) (.cons (.var 2) .nil))))
  (.cons (.ife (.cmp .gt (.var 3) (.int 0)) (.cons (.ret (.bin .sub (.int 20) (.var 3)))
  .nil) .nil)
  (.cons (.set 4 (.call N.f__law_road_number (.cons (.var 0) (.cons (.var 1) (.cons (.var 2) .nil)))))
  (.cons (.ife (.cmp .gt (.var 4) (.int 0)) (.cons (.ret (.bin .sub (.int 10) (.var 4)))
  .nil) .nil)
  (.cons (.ret (.int 0))
  .nil)))))
def _law_rank (N : Nn) : Fn := ⟨3, 5, b__law_rank N, true⟩
/-- rank -/
def b__law_height (N : Nn) : Ss :=
  (.cons (.ife (.cmp .eq (.var 0) (.int 0)) (.cons (.ret .non)
  .nil) .nil)
  (.cons (.ife (.cmp .gt (.var 0) (.int 10)) (.cons (.ret (.tup (.cons (.str [118, 111, 116, 101]) (.cons (.bin .sub (.int 20) (.var 0)) .nil))))
  .nil) .nil)
  (.cons (.ret (.tup (.cons (.str [114, 111, 117, 110, 100]) (.cons (.bin .sub (.int 10) (.var 0)) .nil))))
  .nil)))
def _law_height (N : Nn) : Fn := ⟨1, 1, b__law_height N, true⟩
/-- answers, places, family, rows, quorum, answer, j -/
def b__law_vote_rows (N : Nn) : Ss :=
  (.cons (.set 3 (.new (.lst .nil)))
  (.cons (.fore 4 (.seq (.var 2)) (.cons (.fore 5 (.rng2 (.int 1) (.bin .add (.var 0) (.int 1))) (.cons (.app (.var 3) (.tup (.cons (.f1 .tuple (.comp 6 (.rng1 (.var 1)) (.bl true) (.bin .mul (.var 5) (.f1 .int (.cmp .inn (.var 6) (.var 4)))))) (.cons (.var 5) .nil))))
  .nil))
  .nil))
  (.cons (.ret (.frz 3))
  .nil)))
def _law_vote_rows (N : Nn) : Fn := ⟨3, 7, b__law_vote_rows N, true⟩
/-- family, choices, size, longer, choice, start, index, common, j -/
def b__law_apart (N : Nn) : Ss :=
  (.cons (.set 1 (.lst (.cons (.tup .nil) .nil)))
  (.cons (.fore 2 (.rng2 (.int 1) (.int 8)) (.cons (.set 3 (.new (.lst .nil)))
  (.cons (.fore 4 (.seq (.var 1)) (.cons (.set 5 (.int 0))
  (.cons (.ife (.cmp .gt (.f1 .len (.var 4)) (.int 0)) (.cons (.set 5 (.bin .add (.idx (.var 4) (.neg (.int 1))) (.int 1)))
  .nil) .nil)
  (.cons (.fore 6 (.rng2 (.var 5) (.f1 .len (.var 0))) (.cons (.app (.var 3) (.bin .add (.var 4) (.tup (.cons (.var 6) .nil))))
  .nil))
  .nil))))
  (.cons (.fore 4 (.seq (.var 3)) (.cons (.set 7 (.comp 8 (.rng1 (.int 6)) (.call N.f__law_in_all (.cons (.var 8) (.cons (.comp 6 (.seq (.var 4)) (.bl true) (.idx (.var 0) (.var 6))) .nil))) (.var 8)))
  (.cons (.ife (.cmp .eq (.f1 .len (.var 7)) (.int 0)) (.cons (.ret (.var 4))
  .nil) .nil)
  .nil)))
  (.cons (.set 1 (.f1 .list (.var 3)))
  .nil)))))
  (.cons (.ret .non)
  .nil)))
def _law_apart (N : Nn) : Fn := ⟨1, 9, b__law_apart N, true⟩
/-- place, quorums, lacking, quorum -/
def b__law_in_all (N : Nn) : Ss :=
  (.cons (.set 2 (.comp 3 (.seq (.var 1)) (.cmp .nin (.var 0) (.var 3)) (.var 3)))
  (.cons (.ret (.cmp .eq (.f1 .len (.var 2)) (.int 0)))
  .nil))
def _law_in_all (N : Nn) : Fn := ⟨2, 4, b__law_in_all N, true⟩
/-- script, head, answers, places, count, family, due, sets, rows, weights, threshold, heavy, least, told, common, chosen, k, j -/
def b_law_v2 (N : Nn) : Ss :=
  (.cons (.set 1 (.call N.f__law_digits (.cons (.call N.f__law_cell (.cons (.var 0) (.cons (.int 0) .nil))) (.cons (.lst (.cons (.int 4) (.cons (.int 5) (.cons (.int 6) (.cons (.int 4) (.cons (.int 30) .nil)))))) .nil))))
  (.cons (.set 2 (.bin .add (.int 2) (.f1 .int (.cmp .eq (.idx (.var 1) (.int 0)) (.int 0)))))
  (.cons (.set 3 (.bin .add (.int 2) (.idx (.var 1) (.int 1))))
  (.cons (.ife (.cmp .eq (.var 2) (.int 3)) (.cons (.set 3 (.f2 .min (.var 3) (.int 5)))
  .nil) .nil)
  (.cons (.set 4 (.bin .add (.bin .add (.bin .fdiv (.var 3) (.int 2)) (.int 1)) (.bin .mod (.idx (.var 1) (.int 2)) (.bin .sub (.var 3) (.bin .fdiv (.var 3) (.int 2))))))
  (.cons (.set 5 (.call N.f_count_family (.cons (.var 3) (.cons (.var 4) .nil))))
  (.cons (.set 6 .non)
  (.cons (.ife (.cmp .lt (.var 4) (.var 3)) (.cons (.set 6 (.tup (.cons (.str [118, 111, 116, 101]) (.cons (.bin .sub (.bin .fdiv (.bin .sub (.bin .sub (.bin .add (.var 3) (.var 3)) (.var 4)) (.int 1)) (.bin .sub (.var 3) (.var 4))) (.int 1)) .nil))))
  .nil) .nil)
  (.cons (.ife (.or (.not (.call N.f__law_same (.cons (.call N.f_quorum_height (.cons (.var 5) .nil)) (.cons (.var 6) .nil)))) (.cmp .ne (.cmp .eq (.var 6) (.tup (.cons (.str [118, 111, 116, 101]) (.cons (.int 2) .nil)))) (.and (.cmp .lt (.var 4) (.var 3)) (.cmp .le (.bin .mul (.int 3) (.var 4)) (.bin .mul (.int 2) (.var 3)))))) (.cons (.ret (.bl false))
  .nil) .nil)
  (.cons (.set 7 (.comp 15 (.seq (.call N.f__law_sets (.cons (.var 3) .nil))) (.cmp .eq (.f1 .len (.var 15)) (.var 4)) (.var 15)))
  (.cons (.ife (.or (.not (.call N.f__law_same (.cons (.var 5) (.cons (.f1 .tuple (.f1 .sorted (.var 7))) .nil)))) (.not (.call N.f__law_same (.cons (.call N.f_is_crossing (.cons (.var 5) .nil)) (.cons (.bl true) .nil))))) (.cons (.ret (.bl false))
  .nil) .nil)
  (.cons (.ife (.cmp .le (.var 3) (.int 4)) (.cons (.set 8 (.call N.f__law_least (.cons (.call N.f__law_vote_rows (.cons (.var 2) (.cons (.var 3) (.cons (.var 7) .nil)))) .nil)))
  (.cons (.ife (.not (.call N.f__law_same (.cons (.call N.f__law_height (.cons (.call N.f__law_rank (.cons (.var 2) (.cons (.var 3) (.cons (.var 8) .nil)))) .nil)) (.cons (.var 6) .nil)))) (.cons (.ret (.bl false))
  .nil) .nil)
  (.cons (.ife (.not (.call N.f__law_same (.cons (.call N.f_box_height (.cons (.call N.f_quorum_box (.cons (.var 2) (.cons (.var 3) (.cons (.var 5) .nil)))) .nil)) (.cons (.var 6) .nil)))) (.cons (.ret (.bl false))
  .nil) .nil)
  .nil))) .nil)
  (.cons (.set 9 (.comp 16 (.seq (.call N.f__law_digits (.cons (.call N.f__law_cell (.cons (.var 0) (.cons (.int 1) .nil))) (.cons (.bin .mul (.lst (.cons (.int 5) .nil)) (.var 3)) .nil)))) (.bl true) (.bin .add (.int 1) (.var 16))))
  (.cons (.set 10 (.bin .add (.bin .add (.bin .fdiv (.f1 .sum (.var 9)) (.int 2)) (.int 1)) (.bin .fdiv (.bin .mul (.idx (.var 1) (.int 4)) (.bin .sub (.bin .sub (.f1 .sum (.var 9)) (.bin .fdiv (.f1 .sum (.var 9)) (.int 2))) (.int 1))) (.int 30))))
  (.cons (.set 11 (.comp 15 (.seq (.call N.f__law_sets (.cons (.var 3) .nil))) (.cmp .ge (.f1 .sum (.comp 17 (.seq (.var 15)) (.bl true) (.idx (.var 9) (.var 17)))) (.var 10)) (.var 15)))
  (.cons (.set 12 (.call N.f__law_least_sets (.cons (.var 11) .nil)))
  (.cons (.set 13 (.call N.f_weighted_family (.cons (.f1 .tuple (.var 9)) (.cons (.var 10) .nil))))
  (.cons (.set 14 (.comp 17 (.rng1 (.var 3)) (.call N.f__law_in_all (.cons (.var 17) (.cons (.var 12) .nil))) (.var 17)))
  (.cons (.set 6 .non)
  (.cons (.ife (.and (.cmp .gt (.f1 .len (.var 12)) (.int 1)) (.cmp .gt (.f1 .len (.var 14)) (.int 0))) (.cons (.set 6 (.tup (.cons (.str [114, 111, 117, 110, 100]) (.cons (.int 2) .nil))))
  .nil) .nil)
  (.cons (.ife (.cmp .eq (.f1 .len (.var 14)) (.int 0)) (.cons (.set 6 (.tup (.cons (.str [118, 111, 116, 101]) (.cons (.bin .sub (.f1 .len (.call N.f__law_apart (.cons (.var 12) .nil))) (.int 1)) .nil))))
  .nil) .nil)
  (.cons (.ret (.and (.call N.f__law_same (.cons (.var 13) (.cons (.f1 .tuple (.var 12)) .nil))) (.call N.f__law_same (.cons (.call N.f_quorum_height (.cons (.var 13) .nil)) (.cons (.var 6) .nil)))))
  .nil))))))))))))))))))))))
def law_v2 (N : Nn) : Fn := ⟨1, 18, b_law_v2 N, true⟩
end B
end M
end

section
set_option Elab.async false
set_option linter.all false
set_option maxRecDepth 100000
/-! Emb: rows of whole numbers, rows of rows, as values. -/
namespace M
/-- a row of whole numbers -/
def tn (xs : List Nat) : D := .tup (xs.map fun j : Nat => .int j)
def ln (xs : List Nat) : D := .lst (xs.map fun j : Nat => .int j)
def tt (xs : List (List Nat)) : D := .tup (xs.map tn)
def lt (xs : List (List Nat)) : D := .lst (xs.map tn)
section
variable {h : Hs}
@[simp] theorem pk_tn {x} {k : D → RE} : pk h (tn x) k = k (tn x) := id rfl
@[simp] theorem pk_ln {x} {k : D → RE} : pk h (ln x) k = k (ln x) := id rfl
@[simp] theorem pk_tt {x} {k : D → RE} : pk h (tt x) k = k (tt x) := id rfl
@[simp] theorem pk_lt {x} {k : D → RE} : pk h (lt x) k = k (lt x) := id rfl
@[simp] theorem peek_tn {x} : peek h (tn x) = some (tn x) := id rfl
@[simp] theorem peek_ln {x} : peek h (ln x) = some (ln x) := id rfl
@[simp] theorem peek_tt {x} : peek h (tt x) = some (tt x) := id rfl
@[simp] theorem peek_lt {x} : peek h (lt x) = some (lt x) := id rfl
@[simp] theorem items_tn {x} : itemsOf (tn x) = some (x.map fun j : Nat => .int j) := id rfl
@[simp] theorem items_ln {x} : itemsOf (ln x) = some (x.map fun j : Nat => .int j) := id rfl
@[simp] theorem items_tt {x} : itemsOf (tt x) = some (x.map tn) := id rfl
@[simp] theorem items_lt {x} : itemsOf (lt x) = some (x.map tn) := id rfl
@[simp] theorem src_tn {x y} : srcOf (tn x) y = none := id rfl
@[simp] theorem src_ln {x y} : srcOf (ln x) y = none := id rfl
@[simp] theorem src_tt {x y} : srcOf (tt x) y = none := id rfl
@[simp] theorem src_lt {x y} : srcOf (lt x) y = none := id rfl
@[simp] theorem seqO_tn {x} : seqO (tn x) h = some (⟨x.map fun j : Nat => .int j, none⟩, h) := id rfl
@[simp] theorem seqO_ln {x} : seqO (ln x) h = some (⟨x.map fun j : Nat => .int j, none⟩, h) := id rfl
@[simp] theorem seqO_tt {x} : seqO (tt x) h = some (⟨x.map tn, none⟩, h) := id rfl
@[simp] theorem seqO_lt {x} : seqO (lt x) h = some (⟨x.map tn, none⟩, h) := id rfl
@[simp] theorem isL_ln {x} : isL (some (ln x)) = true := id rfl
@[simp] theorem isL_lt {x} : isL (some (lt x)) = true := id rfl
@[simp] theorem len_tn {x} : evLen (tn x) = some (.int x.length) := by simp [tn]
@[simp] theorem len_ln {x} : evLen (ln x) = some (.int x.length) := by simp [ln]
@[simp] theorem len_tt {x} : evLen (tt x) = some (.int x.length) := by simp [tt]
@[simp] theorem len_lt {x} : evLen (lt x) = some (.int x.length) := by simp [lt]
@[simp] theorem idx_tn {x} {i : Nat} : evIdx (tn x) (.int i) = x[i]?.map fun j : Nat => .int j := by simp [tn]
@[simp] theorem idx_ln {x} {i : Nat} : evIdx (ln x) (.int i) = x[i]?.map fun j : Nat => .int j := by simp [ln]
@[simp] theorem idx_tt {x} {i : Nat} : evIdx (tt x) (.int i) = x[i]?.map tn := by simp [tt]
@[simp] theorem idx_lt {x} {i : Nat} : evIdx (lt x) (.int i) = x[i]?.map tn := by simp [lt]
@[simp] theorem idx_tn_1a {x} {i : Nat} : evIdx (tn x) (.int (1 + (i : Int))) = x[1 + i]?.map (fun j : Nat => .int j) := idx_tn (i := 1 + i)
@[simp] theorem idx_tn_a1 {x} {i : Nat} : evIdx (tn x) (.int ((i : Int) + 1)) = x[i + 1]?.map (fun j : Nat => .int j) := idx_tn (i := i + 1)
@[simp] theorem idx_tn_m {x} {a b : Nat} : evIdx (tn x) (.int ((a : Int) % (b : Int))) = x[a % b]?.map (fun j : Nat => .int j) := idx_tn (i := a % b)
@[simp] theorem idx_tn_0 {x} : evIdx (tn x) (.int 0) = x[0]?.map (fun j : Nat => .int j) := idx_tn (i := 0)
@[simp] theorem idx_ln_1a {x} {i : Nat} : evIdx (ln x) (.int (1 + (i : Int))) = x[1 + i]?.map (fun j : Nat => .int j) := idx_ln (i := 1 + i)
@[simp] theorem idx_ln_a1 {x} {i : Nat} : evIdx (ln x) (.int ((i : Int) + 1)) = x[i + 1]?.map (fun j : Nat => .int j) := idx_ln (i := i + 1)
@[simp] theorem idx_ln_m {x} {a b : Nat} : evIdx (ln x) (.int ((a : Int) % (b : Int))) = x[a % b]?.map (fun j : Nat => .int j) := idx_ln (i := a % b)
@[simp] theorem idx_ln_0 {x} : evIdx (ln x) (.int 0) = x[0]?.map (fun j : Nat => .int j) := idx_ln (i := 0)
@[simp] theorem idx_tt_1a {x} {i : Nat} : evIdx (tt x) (.int (1 + (i : Int))) = x[1 + i]?.map tn := idx_tt (i := 1 + i)
@[simp] theorem idx_tt_a1 {x} {i : Nat} : evIdx (tt x) (.int ((i : Int) + 1)) = x[i + 1]?.map tn := idx_tt (i := i + 1)
@[simp] theorem idx_tt_m {x} {a b : Nat} : evIdx (tt x) (.int ((a : Int) % (b : Int))) = x[a % b]?.map tn := idx_tt (i := a % b)
@[simp] theorem idx_tt_0 {x} : evIdx (tt x) (.int 0) = x[0]?.map tn := idx_tt (i := 0)
@[simp] theorem idx_lt_1a {x} {i : Nat} : evIdx (lt x) (.int (1 + (i : Int))) = x[1 + i]?.map tn := idx_lt (i := 1 + i)
@[simp] theorem idx_lt_a1 {x} {i : Nat} : evIdx (lt x) (.int ((i : Int) + 1)) = x[i + 1]?.map tn := idx_lt (i := i + 1)
@[simp] theorem idx_lt_m {x} {a b : Nat} : evIdx (lt x) (.int ((a : Int) % (b : Int))) = x[a % b]?.map tn := idx_lt (i := a % b)
@[simp] theorem idx_lt_0 {x} : evIdx (lt x) (.int 0) = x[0]?.map tn := idx_lt (i := 0)
@[simp] theorem idx_tn_1 {x} : evIdx (tn x) (.int 1) = x[1]?.map (fun j : Nat => .int j) := idx_tn (i := 1)
@[simp] theorem idx_tn_2 {x} : evIdx (tn x) (.int 2) = x[2]?.map (fun j : Nat => .int j) := idx_tn (i := 2)
@[simp] theorem idx_tn_3 {x} : evIdx (tn x) (.int 3) = x[3]?.map (fun j : Nat => .int j) := idx_tn (i := 3)
@[simp] theorem idx_tn_4 {x} : evIdx (tn x) (.int 4) = x[4]?.map (fun j : Nat => .int j) := idx_tn (i := 4)
@[simp] theorem idx_tn_5 {x} : evIdx (tn x) (.int 5) = x[5]?.map (fun j : Nat => .int j) := idx_tn (i := 5)
@[simp] theorem idx_tn_6 {x} : evIdx (tn x) (.int 6) = x[6]?.map (fun j : Nat => .int j) := idx_tn (i := 6)
@[simp] theorem idx_tn_7 {x} : evIdx (tn x) (.int 7) = x[7]?.map (fun j : Nat => .int j) := idx_tn (i := 7)
@[simp] theorem idx_tn_8 {x} : evIdx (tn x) (.int 8) = x[8]?.map (fun j : Nat => .int j) := idx_tn (i := 8)
@[simp] theorem idx_tn_9 {x} : evIdx (tn x) (.int 9) = x[9]?.map (fun j : Nat => .int j) := idx_tn (i := 9)
@[simp] theorem idx_ln_1 {x} : evIdx (ln x) (.int 1) = x[1]?.map (fun j : Nat => .int j) := idx_ln (i := 1)
@[simp] theorem idx_ln_2 {x} : evIdx (ln x) (.int 2) = x[2]?.map (fun j : Nat => .int j) := idx_ln (i := 2)
@[simp] theorem idx_ln_3 {x} : evIdx (ln x) (.int 3) = x[3]?.map (fun j : Nat => .int j) := idx_ln (i := 3)
@[simp] theorem idx_ln_4 {x} : evIdx (ln x) (.int 4) = x[4]?.map (fun j : Nat => .int j) := idx_ln (i := 4)
@[simp] theorem idx_ln_5 {x} : evIdx (ln x) (.int 5) = x[5]?.map (fun j : Nat => .int j) := idx_ln (i := 5)
@[simp] theorem idx_ln_6 {x} : evIdx (ln x) (.int 6) = x[6]?.map (fun j : Nat => .int j) := idx_ln (i := 6)
@[simp] theorem idx_ln_7 {x} : evIdx (ln x) (.int 7) = x[7]?.map (fun j : Nat => .int j) := idx_ln (i := 7)
@[simp] theorem idx_ln_8 {x} : evIdx (ln x) (.int 8) = x[8]?.map (fun j : Nat => .int j) := idx_ln (i := 8)
@[simp] theorem idx_ln_9 {x} : evIdx (ln x) (.int 9) = x[9]?.map (fun j : Nat => .int j) := idx_ln (i := 9)
@[simp] theorem idx_tt_1 {x} : evIdx (tt x) (.int 1) = x[1]?.map tn := idx_tt (i := 1)
@[simp] theorem idx_tt_2 {x} : evIdx (tt x) (.int 2) = x[2]?.map tn := idx_tt (i := 2)
@[simp] theorem idx_tt_3 {x} : evIdx (tt x) (.int 3) = x[3]?.map tn := idx_tt (i := 3)
@[simp] theorem idx_tt_4 {x} : evIdx (tt x) (.int 4) = x[4]?.map tn := idx_tt (i := 4)
@[simp] theorem idx_tt_5 {x} : evIdx (tt x) (.int 5) = x[5]?.map tn := idx_tt (i := 5)
@[simp] theorem idx_tt_6 {x} : evIdx (tt x) (.int 6) = x[6]?.map tn := idx_tt (i := 6)
@[simp] theorem idx_tt_7 {x} : evIdx (tt x) (.int 7) = x[7]?.map tn := idx_tt (i := 7)
@[simp] theorem idx_tt_8 {x} : evIdx (tt x) (.int 8) = x[8]?.map tn := idx_tt (i := 8)
@[simp] theorem idx_tt_9 {x} : evIdx (tt x) (.int 9) = x[9]?.map tn := idx_tt (i := 9)
@[simp] theorem idx_lt_1 {x} : evIdx (lt x) (.int 1) = x[1]?.map tn := idx_lt (i := 1)
@[simp] theorem idx_lt_2 {x} : evIdx (lt x) (.int 2) = x[2]?.map tn := idx_lt (i := 2)
@[simp] theorem idx_lt_3 {x} : evIdx (lt x) (.int 3) = x[3]?.map tn := idx_lt (i := 3)
@[simp] theorem idx_lt_4 {x} : evIdx (lt x) (.int 4) = x[4]?.map tn := idx_lt (i := 4)
@[simp] theorem idx_lt_5 {x} : evIdx (lt x) (.int 5) = x[5]?.map tn := idx_lt (i := 5)
@[simp] theorem idx_lt_6 {x} : evIdx (lt x) (.int 6) = x[6]?.map tn := idx_lt (i := 6)
@[simp] theorem idx_lt_7 {x} : evIdx (lt x) (.int 7) = x[7]?.map tn := idx_lt (i := 7)
@[simp] theorem idx_lt_8 {x} : evIdx (lt x) (.int 8) = x[8]?.map tn := idx_lt (i := 8)
@[simp] theorem idx_lt_9 {x} : evIdx (lt x) (.int 9) = x[9]?.map tn := idx_lt (i := 9)
@[simp] theorem idx_tn_m2 {x} {a : Nat} : evIdx (tn x) (.int ((a : Int) % 2)) = x[a % 2]?.map (fun j : Nat => .int j) := idx_tn_m (b := 2)
@[simp] theorem idx_tn_m3 {x} {a : Nat} : evIdx (tn x) (.int ((a : Int) % 3)) = x[a % 3]?.map (fun j : Nat => .int j) := idx_tn_m (b := 3)
@[simp] theorem idx_tn_m4 {x} {a : Nat} : evIdx (tn x) (.int ((a : Int) % 4)) = x[a % 4]?.map (fun j : Nat => .int j) := idx_tn_m (b := 4)
@[simp] theorem idx_tn_m5 {x} {a : Nat} : evIdx (tn x) (.int ((a : Int) % 5)) = x[a % 5]?.map (fun j : Nat => .int j) := idx_tn_m (b := 5)
@[simp] theorem idx_tn_m6 {x} {a : Nat} : evIdx (tn x) (.int ((a : Int) % 6)) = x[a % 6]?.map (fun j : Nat => .int j) := idx_tn_m (b := 6)
@[simp] theorem idx_tn_m7 {x} {a : Nat} : evIdx (tn x) (.int ((a : Int) % 7)) = x[a % 7]?.map (fun j : Nat => .int j) := idx_tn_m (b := 7)
@[simp] theorem idx_tn_m8 {x} {a : Nat} : evIdx (tn x) (.int ((a : Int) % 8)) = x[a % 8]?.map (fun j : Nat => .int j) := idx_tn_m (b := 8)
@[simp] theorem idx_tn_m9 {x} {a : Nat} : evIdx (tn x) (.int ((a : Int) % 9)) = x[a % 9]?.map (fun j : Nat => .int j) := idx_tn_m (b := 9)
@[simp] theorem idx_tn_m10 {x} {a : Nat} : evIdx (tn x) (.int ((a : Int) % 10)) = x[a % 10]?.map (fun j : Nat => .int j) := idx_tn_m (b := 10)
@[simp] theorem idx_tn_m12 {x} {a : Nat} : evIdx (tn x) (.int ((a : Int) % 12)) = x[a % 12]?.map (fun j : Nat => .int j) := idx_tn_m (b := 12)
@[simp] theorem idx_ln_m2 {x} {a : Nat} : evIdx (ln x) (.int ((a : Int) % 2)) = x[a % 2]?.map (fun j : Nat => .int j) := idx_ln_m (b := 2)
@[simp] theorem idx_ln_m3 {x} {a : Nat} : evIdx (ln x) (.int ((a : Int) % 3)) = x[a % 3]?.map (fun j : Nat => .int j) := idx_ln_m (b := 3)
@[simp] theorem idx_ln_m4 {x} {a : Nat} : evIdx (ln x) (.int ((a : Int) % 4)) = x[a % 4]?.map (fun j : Nat => .int j) := idx_ln_m (b := 4)
@[simp] theorem idx_ln_m5 {x} {a : Nat} : evIdx (ln x) (.int ((a : Int) % 5)) = x[a % 5]?.map (fun j : Nat => .int j) := idx_ln_m (b := 5)
@[simp] theorem idx_ln_m6 {x} {a : Nat} : evIdx (ln x) (.int ((a : Int) % 6)) = x[a % 6]?.map (fun j : Nat => .int j) := idx_ln_m (b := 6)
@[simp] theorem idx_ln_m7 {x} {a : Nat} : evIdx (ln x) (.int ((a : Int) % 7)) = x[a % 7]?.map (fun j : Nat => .int j) := idx_ln_m (b := 7)
@[simp] theorem idx_ln_m8 {x} {a : Nat} : evIdx (ln x) (.int ((a : Int) % 8)) = x[a % 8]?.map (fun j : Nat => .int j) := idx_ln_m (b := 8)
@[simp] theorem idx_ln_m9 {x} {a : Nat} : evIdx (ln x) (.int ((a : Int) % 9)) = x[a % 9]?.map (fun j : Nat => .int j) := idx_ln_m (b := 9)
@[simp] theorem idx_ln_m10 {x} {a : Nat} : evIdx (ln x) (.int ((a : Int) % 10)) = x[a % 10]?.map (fun j : Nat => .int j) := idx_ln_m (b := 10)
@[simp] theorem idx_ln_m12 {x} {a : Nat} : evIdx (ln x) (.int ((a : Int) % 12)) = x[a % 12]?.map (fun j : Nat => .int j) := idx_ln_m (b := 12)
@[simp] theorem idx_tt_m2 {x} {a : Nat} : evIdx (tt x) (.int ((a : Int) % 2)) = x[a % 2]?.map tn := idx_tt_m (b := 2)
@[simp] theorem idx_tt_m3 {x} {a : Nat} : evIdx (tt x) (.int ((a : Int) % 3)) = x[a % 3]?.map tn := idx_tt_m (b := 3)
@[simp] theorem idx_tt_m4 {x} {a : Nat} : evIdx (tt x) (.int ((a : Int) % 4)) = x[a % 4]?.map tn := idx_tt_m (b := 4)
@[simp] theorem idx_tt_m5 {x} {a : Nat} : evIdx (tt x) (.int ((a : Int) % 5)) = x[a % 5]?.map tn := idx_tt_m (b := 5)
@[simp] theorem idx_tt_m6 {x} {a : Nat} : evIdx (tt x) (.int ((a : Int) % 6)) = x[a % 6]?.map tn := idx_tt_m (b := 6)
@[simp] theorem idx_tt_m7 {x} {a : Nat} : evIdx (tt x) (.int ((a : Int) % 7)) = x[a % 7]?.map tn := idx_tt_m (b := 7)
@[simp] theorem idx_tt_m8 {x} {a : Nat} : evIdx (tt x) (.int ((a : Int) % 8)) = x[a % 8]?.map tn := idx_tt_m (b := 8)
@[simp] theorem idx_tt_m9 {x} {a : Nat} : evIdx (tt x) (.int ((a : Int) % 9)) = x[a % 9]?.map tn := idx_tt_m (b := 9)
@[simp] theorem idx_tt_m10 {x} {a : Nat} : evIdx (tt x) (.int ((a : Int) % 10)) = x[a % 10]?.map tn := idx_tt_m (b := 10)
@[simp] theorem idx_tt_m12 {x} {a : Nat} : evIdx (tt x) (.int ((a : Int) % 12)) = x[a % 12]?.map tn := idx_tt_m (b := 12)
@[simp] theorem idx_lt_m2 {x} {a : Nat} : evIdx (lt x) (.int ((a : Int) % 2)) = x[a % 2]?.map tn := idx_lt_m (b := 2)
@[simp] theorem idx_lt_m3 {x} {a : Nat} : evIdx (lt x) (.int ((a : Int) % 3)) = x[a % 3]?.map tn := idx_lt_m (b := 3)
@[simp] theorem idx_lt_m4 {x} {a : Nat} : evIdx (lt x) (.int ((a : Int) % 4)) = x[a % 4]?.map tn := idx_lt_m (b := 4)
@[simp] theorem idx_lt_m5 {x} {a : Nat} : evIdx (lt x) (.int ((a : Int) % 5)) = x[a % 5]?.map tn := idx_lt_m (b := 5)
@[simp] theorem idx_lt_m6 {x} {a : Nat} : evIdx (lt x) (.int ((a : Int) % 6)) = x[a % 6]?.map tn := idx_lt_m (b := 6)
@[simp] theorem idx_lt_m7 {x} {a : Nat} : evIdx (lt x) (.int ((a : Int) % 7)) = x[a % 7]?.map tn := idx_lt_m (b := 7)
@[simp] theorem idx_lt_m8 {x} {a : Nat} : evIdx (lt x) (.int ((a : Int) % 8)) = x[a % 8]?.map tn := idx_lt_m (b := 8)
@[simp] theorem idx_lt_m9 {x} {a : Nat} : evIdx (lt x) (.int ((a : Int) % 9)) = x[a % 9]?.map tn := idx_lt_m (b := 9)
@[simp] theorem idx_lt_m10 {x} {a : Nat} : evIdx (lt x) (.int ((a : Int) % 10)) = x[a % 10]?.map tn := idx_lt_m (b := 10)
@[simp] theorem idx_lt_m12 {x} {a : Nat} : evIdx (lt x) (.int ((a : Int) % 12)) = x[a % 12]?.map tn := idx_lt_m (b := 12)
@[simp] theorem idx_ln_4a {x} {i : Nat} : evIdx (ln x) (.int (4 + (i : Int))) = x[4 + i]?.map (fun j : Nat => .int j) := idx_ln (i := 4 + i)
@[simp] theorem tuple_tn {x} : evTuple (tn x) = some (tn x) := id rfl
@[simp] theorem tuple_ln {x} : evTuple (ln x) = some (tn x) := id rfl
@[simp] theorem tuple_tt {x} : evTuple (tt x) = some (tt x) := id rfl
@[simp] theorem tuple_lt {x} : evTuple (lt x) = some (tt x) := id rfl
@[simp] theorem list_tn {x} : evList (tn x) = some (ln x) := id rfl
@[simp] theorem list_ln {x} : evList (ln x) = some (ln x) := id rfl
@[simp] theorem list_tt {x} : evList (tt x) = some (lt x) := id rfl
@[simp] theorem list_lt {x} : evList (lt x) = some (lt x) := id rfl
end
@[simp] theorem q_tn {k xs} : q (k + 1) (tn xs) = true := by
  unfold tn
  rw [q_tup]
  exact qs_map fun x _ => q_int
@[simp] theorem q_tt {k xs} : q (k + 2) (tt xs) = true := by
  unfold tt
  rw [q_tup]
  exact qs_map fun x _ => q_tn
@[simp] theorem qs_tns {k} {xs : List (List Nat)} : qs (k + 1) (xs.map tn) = true := qs_map fun x _ => q_tn
@[simp] theorem qs_ints {k} {a : List Nat} : qs k (a.map fun j : Nat => D.int j) = true := qs_map fun x _ => q_int
@[simp] theorem tn_inj {a b : List Nat} : tn a = tn b ↔ a = b := by
  unfold tn
  constructor
  · intro h
    injection h with h
    exact List.map_inj_right (f := fun j : Nat => D.int j) (fun x y e => by injection e with e; omega) |>.mp h
  · intro h; rw [h]
theorem tn_inj' : ∀ {a b : List Nat}, tn a = tn b → a = b := fun h => tn_inj.mp h
@[simp] theorem tt_inj {a b : List (List Nat)} : tt a = tt b ↔ a = b := by
  unfold tt
  constructor
  · intro h
    injection h with h
    exact List.map_inj_right (f := tn) (fun x y e => tn_inj' e) |>.mp h
  · intro h; rw [h]
@[simp] theorem mem_ints {j : Nat} {a : List Nat} : D.int j ∈ a.map (fun j : Nat => D.int j) ↔ j ∈ a := by
  rw [List.mem_map]
  constructor
  · rintro ⟨x, hx, e⟩
    injection e with e
    have : x = j := by omega
    subst this
    exact hx
  · exact fun h => ⟨j, h, rfl⟩
@[simp] theorem mem_tns {j : List Nat} {a : List (List Nat)} : tn j ∈ a.map tn ↔ j ∈ a := by
  rw [List.mem_map]
  exact ⟨fun ⟨x, hx, e⟩ => tn_inj' e ▸ hx, fun h => ⟨j, h, rfl⟩⟩
@[simp] theorem in_tn {j : Nat} {a : List Nat} : evIn (.int j) (tn a) = some (decide (j ∈ a)) := by
  unfold tn
  rw [evIn_tup q_int qs_ints]
  simp only [mem_ints]
@[simp] theorem in_ln {j : Nat} {a : List Nat} : evIn (.int j) (ln a) = some (decide (j ∈ a)) := by
  unfold ln
  rw [evIn_lst q_int qs_ints]
  simp only [mem_ints]
@[simp] theorem in_tt {j : List Nat} {a : List (List Nat)} : evIn (tn j) (tt a) = some (decide (j ∈ a)) := by
  unfold tt
  rw [evIn_tup q_tn qs_tns]
  simp only [mem_tns]
@[simp] theorem in_lt {j : List Nat} {a : List (List Nat)} : evIn (tn j) (lt a) = some (decide (j ∈ a)) := by
  unfold lt
  rw [evIn_lst q_tn qs_tns]
  simp only [mem_tns]
@[simp] theorem eq_tn {a b : List Nat} : evEq (tn a) (tn b) = some (decide (a = b)) := by
  rw [evEq_q q_tn q_tn]
  simp only [tn_inj]
@[simp] theorem key_tn {a : List Nat} : keyOk true (tn a) = true := keyOk_q qs_ints
@[simp] theorem noref_tn {a} : noref (tn a) = true := (q_noref.1 _ 1 q_tn).1
@[simp] theorem noref_tt {a} : noref (tt a) = true := (q_noref.1 _ 2 q_tt).1
@[simp] theorem noref_ln {a} : noref (ln a) = true := (q_noref.1 _ 1 (q_tn (k := 0) (xs := a))).1
@[simp] theorem noref_lt {a} : noref (lt a) = true := (q_noref.1 _ 2 (q_tt (k := 0) (xs := a))).1
@[simp] theorem nr_non : noref .non = true := id rfl
@[simp] theorem nr_bl {b} : noref (.bl b) = true := id rfl
@[simp] theorem nr_int {b} : noref (.int b) = true := id rfl
@[simp] theorem nr_str {b} : noref (.str b) = true := id rfl
@[simp] theorem nr_tup {b} : noref (.tup b) = norefs b := by rw [noref]
@[simp] theorem nr_lst {b} : noref (.lst b) = norefs b := by rw [noref]
@[simp] theorem nr_rol {b} : noref (.rol b) = norefs b := by rw [noref]
@[simp] theorem nr_ins {c a b} : noref (.ins c a b) = norefs b := by rw [noref]
@[simp] theorem nrs_nil : norefs [] = true := id rfl
@[simp] theorem nrs_cons {a b} : norefs (a :: b) = (noref a && norefs b) := by rw [norefs]
@[simp] theorem nx_non : noX .non = true := id rfl
@[simp] theorem nx_bl {b} : noX (.bl b) = true := id rfl
@[simp] theorem nx_int {b} : noX (.int b) = true := id rfl
@[simp] theorem nx_str {b} : noX (.str b) = true := id rfl
@[simp] theorem nx_ref {b} : noX (.ref b) = true := id rfl
@[simp] theorem nx_tup {b} : noX (.tup b) = noXs b := by rw [noX]
@[simp] theorem nx_lst {b} : noX (.lst b) = noXs b := by rw [noX]
@[simp] theorem nx_ins {c a b} : noX (.ins c a b) = noXs b := by rw [noX]
@[simp] theorem nxs_nil : noXs [] = true := id rfl
@[simp] theorem nxs_cons {a b} : noXs (a :: b) = (noX a && noXs b) := by rw [noXs]
@[simp] theorem nx_tn {a} : noX (tn a) = true := (q_noref.1 _ 1 q_tn).2.2
@[simp] theorem nx_tt {a} : noX (tt a) = true := (q_noref.1 _ 2 q_tt).2.2
@[simp] theorem im_tn {a} : imm (tn a) = true := (q_noref.1 _ 1 q_tn).2.1
@[simp] theorem im_tt {a} : imm (tt a) = true := (q_noref.1 _ 2 q_tt).2.1
theorem norefs_q {k} {xs : List D} (h : qs k xs = true) : norefs xs = true := (q_noref.2 xs k h).1
theorem noref_q {k} {x : D} (h : q k x = true) : noref x = true := (q_noref.1 x k h).1
@[simp] theorem lst_ints {x : List Nat} : D.lst (x.map fun j : Nat => D.int j) = ln x := id rfl
@[simp] theorem lst_tns {x : List (List Nat)} : D.lst (x.map tn) = lt x := id rfl
@[simp] theorem tup_ints {x : List Nat} : D.tup (x.map fun j : Nat => D.int j) = tn x := id rfl
@[simp] theorem tup_tns {x : List (List Nat)} : D.tup (x.map tn) = tt x := id rfl
@[simp] theorem add_tn {a b} : evAdd (tn a) (tn b) = if a.length + b.length ≤ LIM then some (tn (a ++ b)) else none := by
  unfold tn
  rw [vAdd_tup, List.map_append]
  simp only [List.length_map]
@[simp] theorem add_ln {a b} : evAdd (ln a) (ln b) = if a.length + b.length ≤ LIM then some (ln (a ++ b)) else none := by
  unfold ln
  rw [vAdd_lst, List.map_append]
  simp only [List.length_map]
@[simp] theorem add_tt {a b} : evAdd (tt a) (tt b) = if a.length + b.length ≤ LIM then some (tt (a ++ b)) else none := by
  unfold tt
  rw [vAdd_tup, List.map_append]
  simp only [List.length_map]
@[simp] theorem add_lt {a b} : evAdd (lt a) (lt b) = if a.length + b.length ≤ LIM then some (lt (a ++ b)) else none := by
  unfold lt
  rw [vAdd_lst, List.map_append]
  simp only [List.length_map]
@[simp] theorem push_ln {h : Hs} {n ds} {d : Nat} : pushK h n (.int d) (some (ln ds)) = if ds.length < LIM then some (h.set n (.opn (ln (ds ++ [d])))) else none := by
  unfold ln
  rw [pushK_lst, List.map_append]
  simp only [List.length_map, List.map_cons, List.map_nil]
@[simp] theorem push_lt {h : Hs} {n ds d} : pushK h n (tn d) (some (lt ds)) = if ds.length < LIM then some (h.set n (.opn (lt (ds ++ [d])))) else none := by
  unfold lt
  rw [pushK_lst, List.map_append]
  simp only [List.length_map, List.map_cons, List.map_nil]
theorem put_ln {h : Hs} {n i v : Nat} {x : List Nat} (hi : i < x.length) : putK h n (.int i) (.int v) (some (ln x)) = some (h.set n (.opn (ln (x.set i v)))) := by
  unfold ln
  rw [putK_lst, List.length_map, ixD_nat hi, Option.map_some, List.map_set]
theorem cut_nat {xs : List D} {a b : Nat} (h : a ≤ b) (hb : b ≤ xs.length) : cutD xs (some (a : Int)) (some (b : Int)) = (xs.drop a).take (b - a) := by
  unfold cutD sIx
  dsimp only
  rw [if_neg (by omega), if_neg (by omega)]
  simp
  rw [Nat.min_eq_left (by omega), Nat.min_eq_left (by omega)]
theorem slc_ln {x : List Nat} {i j : Int} (a b : Nat) (hi : i = (a : Int)) (hj : j = (b : Int)) (h : a ≤ b) (hb : b ≤ x.length) : evSlc (ln x) (some i) (some j) = some (ln ((x.drop a).take (b - a))) := by
  subst hi hj
  unfold ln evSlc
  dsimp only
  rw [cut_nat h (by simpa using hb), List.map_take, List.map_drop]
@[simp] theorem tup1 {i : Nat} : D.tup [.int i] = tn [i] := id rfl
@[simp] theorem tup0 : D.tup [] = tn [] := id rfl
@[simp] theorem max_ln {x} : evF1 .max (ln x) = ((intL (x.map fun j : Nat => D.int j)).bind maxI).map .int := id rfl
@[simp] theorem min_ln {x} : evF1 .min (ln x) = ((intL (x.map fun j : Nat => D.int j)).bind minI).map .int := id rfl
@[simp] theorem sum_ln {x} : evF1 .sum (ln x) = (intL (x.map fun j : Nat => D.int j)).map fun is => .int is.sum := id rfl
@[simp] theorem sorted_ln {x} : evF1 .sorted (ln x) = (evSorted (x.map fun j : Nat => D.int j)).map .lst := id rfl
@[simp] theorem sorted_lt {x} : evF1 .sorted (lt x) = (evSorted (x.map tn)).map .lst := id rfl
@[simp] theorem tn_ne_non {x} : tn x ≠ .non := by
  unfold tn
  intro e
  cases e
@[simp] theorem lim0 : (0 ≤ LIM) = True := eq_true (by decide)
@[simp] theorem lim1 : (1 ≤ LIM) = True := eq_true (by decide)
@[simp] theorem lim2 : (2 ≤ LIM) = True := eq_true (by decide)
@[simp] theorem lim3 : (3 ≤ LIM) = True := eq_true (by decide)
@[simp] theorem lim4 : (4 ≤ LIM) = True := eq_true (by decide)
@[simp] theorem lim5 : (5 ≤ LIM) = True := eq_true (by decide)
@[simp] theorem lim6 : (6 ≤ LIM) = True := eq_true (by decide)
@[simp] theorem lim7 : (7 ≤ LIM) = True := eq_true (by decide)
@[simp] theorem lim8 : (8 ≤ LIM) = True := eq_true (by decide)
@[simp] theorem lim9 : (9 ≤ LIM) = True := eq_true (by decide)
@[simp] theorem lim10 : (10 ≤ LIM) = True := eq_true (by decide)
@[simp] theorem lim11 : (11 ≤ LIM) = True := eq_true (by decide)
@[simp] theorem lim12 : (12 ≤ LIM) = True := eq_true (by decide)
@[simp] theorem lim13 : (13 ≤ LIM) = True := eq_true (by decide)
@[simp] theorem lim14 : (14 ≤ LIM) = True := eq_true (by decide)
@[simp] theorem lim15 : (15 ≤ LIM) = True := eq_true (by decide)
@[simp] theorem lim16 : (16 ≤ LIM) = True := eq_true (by decide)
@[simp] theorem lim17 : (17 ≤ LIM) = True := eq_true (by decide)
@[simp] theorem lim18 : (18 ≤ LIM) = True := eq_true (by decide)
@[simp] theorem lim19 : (19 ≤ LIM) = True := eq_true (by decide)
@[simp] theorem lim20 : (20 ≤ LIM) = True := eq_true (by decide)
@[simp] theorem lim21 : (21 ≤ LIM) = True := eq_true (by decide)
@[simp] theorem lim22 : (22 ≤ LIM) = True := eq_true (by decide)
@[simp] theorem lim23 : (23 ≤ LIM) = True := eq_true (by decide)
@[simp] theorem lim24 : (24 ≤ LIM) = True := eq_true (by decide)
@[simp] theorem lim25 : (25 ≤ LIM) = True := eq_true (by decide)
@[simp] theorem lim26 : (26 ≤ LIM) = True := eq_true (by decide)
@[simp] theorem lim27 : (27 ≤ LIM) = True := eq_true (by decide)
@[simp] theorem lim28 : (28 ≤ LIM) = True := eq_true (by decide)
@[simp] theorem lim29 : (29 ≤ LIM) = True := eq_true (by decide)
@[simp] theorem lim30 : (30 ≤ LIM) = True := eq_true (by decide)
@[simp] theorem lim31 : (31 ≤ LIM) = True := eq_true (by decide)
@[simp] theorem lim32 : (32 ≤ LIM) = True := eq_true (by decide)
@[simp] theorem lim33 : (33 ≤ LIM) = True := eq_true (by decide)
@[simp] theorem lim34 : (34 ≤ LIM) = True := eq_true (by decide)
@[simp] theorem lim35 : (35 ≤ LIM) = True := eq_true (by decide)
@[simp] theorem lim36 : (36 ≤ LIM) = True := eq_true (by decide)
@[simp] theorem lim37 : (37 ≤ LIM) = True := eq_true (by decide)
@[simp] theorem lim38 : (38 ≤ LIM) = True := eq_true (by decide)
@[simp] theorem lim39 : (39 ≤ LIM) = True := eq_true (by decide)
@[simp] theorem lim40 : (40 ≤ LIM) = True := eq_true (by decide)
@[simp] theorem lim41 : (41 ≤ LIM) = True := eq_true (by decide)
@[simp] theorem lim42 : (42 ≤ LIM) = True := eq_true (by decide)
@[simp] theorem lim43 : (43 ≤ LIM) = True := eq_true (by decide)
@[simp] theorem lim44 : (44 ≤ LIM) = True := eq_true (by decide)
@[simp] theorem lim45 : (45 ≤ LIM) = True := eq_true (by decide)
@[simp] theorem lim46 : (46 ≤ LIM) = True := eq_true (by decide)
@[simp] theorem lim47 : (47 ≤ LIM) = True := eq_true (by decide)
@[simp] theorem lim48 : (48 ≤ LIM) = True := eq_true (by decide)
@[simp] theorem lim49 : (49 ≤ LIM) = True := eq_true (by decide)
@[simp] theorem lim50 : (50 ≤ LIM) = True := eq_true (by decide)
@[simp] theorem lim51 : (51 ≤ LIM) = True := eq_true (by decide)
@[simp] theorem lim52 : (52 ≤ LIM) = True := eq_true (by decide)
@[simp] theorem lim53 : (53 ≤ LIM) = True := eq_true (by decide)
@[simp] theorem lim54 : (54 ≤ LIM) = True := eq_true (by decide)
@[simp] theorem lim55 : (55 ≤ LIM) = True := eq_true (by decide)
@[simp] theorem lim56 : (56 ≤ LIM) = True := eq_true (by decide)
@[simp] theorem lim57 : (57 ≤ LIM) = True := eq_true (by decide)
@[simp] theorem lim58 : (58 ≤ LIM) = True := eq_true (by decide)
@[simp] theorem lim59 : (59 ≤ LIM) = True := eq_true (by decide)
@[simp] theorem lim60 : (60 ≤ LIM) = True := eq_true (by decide)
@[simp] theorem lim61 : (61 ≤ LIM) = True := eq_true (by decide)
@[simp] theorem lim62 : (62 ≤ LIM) = True := eq_true (by decide)
@[simp] theorem lim63 : (63 ≤ LIM) = True := eq_true (by decide)
@[simp] theorem lim64 : (64 ≤ LIM) = True := eq_true (by decide)
@[simp] theorem lim0l : (0 < LIM) = True := eq_true (by decide)
@[simp] theorem noXh_nil : noXh [] = true := rfl
@[simp] theorem noXh_opn {d r} : noXh (.opn d :: r) = (noX d && noXh r) := by rw [noXh]
@[simp] theorem noXh_gone {r} : noXh (.gone :: r) = noXh r := by rw [noXh]
@[simp] theorem noXr_nil : noXr [] = true := rfl
@[simp] theorem noXr_some {d r} : noXr (some d :: r) = (noX d && noXr r) := by rw [noXr]
@[simp] theorem noXr_none {r} : noXr (none :: r) = noXr r := by rw [noXr]
abbrev Has (T : Tb) (f : Nat) (F : Fn) : Prop := T.fns[f]? = some F ∧ decide (f < 1000000) = true
end M
end

section
set_option Elab.async false
set_option linter.all false
set_option maxRecDepth 100000
/-! Wp: what holds behind a row of statements. -/
namespace M
@[simp] theorem ite_okbl {c : Prop} [Decidable c] {a b : Bool} {h : Hs} : (if c then RE.ok (.bl a) h else RE.ok (.bl b) h) = RE.ok (.bl (if c then a else b)) h := by split <;> rfl
def Wp (r : RS) (Q : RS → Prop) : Prop := Q r
@[simp] theorem wp_nx {ρ h Q} : Wp (.nx ρ h) Q ↔ Q (.nx ρ h) := Iff.rfl
@[simp] theorem wp_rt {d h Q} : Wp (.rt d h) Q ↔ Q (.rt d h) := Iff.rfl
@[simp] theorem wp_bk {ρ h Q} : Wp (.bk ρ h) Q ↔ Q (.bk ρ h) := Iff.rfl
@[simp] theorem wp_ct {ρ h Q} : Wp (.ct ρ h) Q ↔ Q (.ct ρ h) := Iff.rfl
@[simp] theorem wp_exc {c vs ρ h Q} : Wp (.exc c vs ρ h) Q ↔ Q (.exc c vs ρ h) := Iff.rfl
@[simp] theorem wp_bad {Q} : Wp .bad Q ↔ Q .bad := Iff.rfl
theorem wp_ite {c : Prop} [Decidable c] {a b : RS} {Q} (h1 : c → Wp a Q) (h2 : ¬ c → Wp b Q) : Wp (if c then a else b) Q := by
  split
  · exact h1 ‹_›
  · exact h2 ‹_›
theorem wp_iteS {c : Prop} [Decidable c] {a b : RS} {k : Rho → Hs → RS} {Q} (h1 : c → Wp (a.seq k) Q) (h2 : ¬ c → Wp (b.seq k) Q) : Wp (RS.seq (if c then a else b) k) Q := by
  split
  · exact h1 ‹_›
  · exact h2 ‹_›
theorem wp_mono {r} {Q Q' : RS → Prop} (h : Wp r Q) (i : ∀ r, Q r → Q' r) : Wp r Q' := i _ h
mutual
theorem rlt_nr {n : Nat} : ∀ {d : D}, noref d = true → rlt n d = true
  | .non, _ => rfl
  | .bl _, _ => rfl
  | .int _, _ => rfl
  | .str _, _ => rfl
  | .ref _, h => by unfold noref at h; cases h
  | .tup xs, h => by rw [noref] at h; rw [rlt]; exact rlts_nr h
  | .lst xs, h => by rw [noref] at h; rw [rlt]; exact rlts_nr h
  | .rol xs, h => by rw [noref] at h; rw [rlt]; exact rlts_nr h
  | .dic _ a b, h => by
    rw [noref, Bool.and_eq_true] at h
    rw [rlt, rlts_nr h.1, rlts_nr h.2]
    rfl
  | .ins _ _ b, h => by rw [noref] at h; rw [rlt]; exact rlts_nr h
  | .exn _ b, h => by rw [noref] at h; rw [rlt]; exact rlts_nr h
theorem rlts_nr {n : Nat} : ∀ {d : List D}, norefs d = true → rlts n d = true
  | [], _ => rfl
  | x :: xs, h => by
    rw [norefs, Bool.and_eq_true] at h
    rw [rlts, rlt_nr h.1, rlts_nr h.2]
    rfl
end
@[simp] theorem rlt_nr' {n : Nat} {d : D} (h : noref d = true) : rlt n d = true := rlt_nr h
@[simp] theorem rlt_ref {n m : Nat} : rlt n (.ref m) = decide (m < n) := by rw [rlt]
@[simp] theorem rltc_opn {n : Nat} {d : D} : rltc n (.opn d) = rlt n d := by rw [rltc]
@[simp] theorem rltc_gone {n : Nat} : rltc n .gone = true := by rw [rltc]
/-- behind a turn: the cells from n on let go -/
def TP (n : Nat) (P : Rho → Hs → Prop) (ρ : Rho) (h : Hs) : Prop := if h.length ≤ n then P ρ h else (h.take n).all (rltc n) = true ∧ P (ρ.map fun o => o.bind fun d => if rlt n d then some d else none) (h.take n)
/-- what is asked of the end of a turn -/
def LQ (n : Nat) (P : Rho → Hs → Prop) (Q : RS → Prop) (k : Rho → Hs → RS) : RS → Prop
  | .nx ρ h => TP n P ρ h
  | .ct ρ h => TP n P ρ h
  | .bk ρ h => Wp (k ρ h) Q
  | .rt d h => Q (.rt d h)
  | .exc c vs ρ h => Q (.exc c vs ρ h)
  | .bad => False
@[simp] theorem LQ_nx {n P Q k ρ h} : LQ n P Q k (.nx ρ h) ↔ (if h.length ≤ n then P ρ h else (h.take n).all (rltc n) = true ∧ P (ρ.map fun o => o.bind fun d => if rlt n d then some d else none) (h.take n)) := Iff.rfl
@[simp] theorem LQ_ct {n P Q k ρ h} : LQ n P Q k (.ct ρ h) ↔ (if h.length ≤ n then P ρ h else (h.take n).all (rltc n) = true ∧ P (ρ.map fun o => o.bind fun d => if rlt n d then some d else none) (h.take n)) := Iff.rfl
@[simp] theorem LQ_bk {n P Q k ρ h} : LQ n P Q k (.bk ρ h) ↔ Wp (k ρ h) Q := Iff.rfl
@[simp] theorem LQ_rt {n P Q k d h} : LQ n P Q k (.rt d h) ↔ Q (.rt d h) := Iff.rfl
@[simp] theorem LQ_exc {n P Q k c vs ρ h} : LQ n P Q k (.exc c vs ρ h) ↔ Q (.exc c vs ρ h) := Iff.rfl
theorem LQ_mono {n Q k} {P P' : Rho → Hs → Prop} {r : RS} (h : ∀ ρ h, P ρ h → P' ρ h) (hr : LQ n P Q k r) : LQ n P' Q k r := by
  cases r with
  | nx ρ h' =>
    simp only [LQ_nx] at hr ⊢
    split at hr
    · rw [if_pos ‹_›]; exact h _ _ hr
    · rw [if_neg ‹_›]; exact ⟨hr.1, h _ _ hr.2⟩
  | ct ρ h' =>
    simp only [LQ_ct] at hr ⊢
    split at hr
    · rw [if_pos ‹_›]; exact h _ _ hr
    · rw [if_neg ‹_›]; exact ⟨hr.1, h _ _ hr.2⟩
  | _ => exact hr
theorem trim_wp {n} {P : Rho → Hs → Prop} {Q : RS → Prop} {ρ h} {k : Rho → Hs → RS} {l : Rho → Hs → RS} (hp : TP n P ρ h) (hk : ∀ ρ h, P ρ h → Wp ((k ρ h).seq l) Q) : Wp ((trim n ρ h k).seq l) Q := by
  unfold trim
  unfold TP at hp
  split at hp
  · rw [if_pos ‹_›]
    exact hk _ _ hp
  · rw [if_neg ‹_›, if_pos hp.1]
    exact hk _ _ hp.2
theorem wp_for {α : Type} {ck n f k Q} {e : α → D} (P : List α → Rho → Hs → Prop) : ∀ {L : List α} {ρ : Rho} {h : Hs}, P L ρ h → (∀ ρ h, P [] ρ h → ck h = true ∧ Wp (k ρ h) Q) → (∀ x xs ρ h, P (x :: xs) ρ h → ck h = true ∧ Wp (f (e x) ρ h) (LQ n (P xs) Q k)) → Wp ((forGo ck n f (L.map e) ρ h).seq k) Q
  | [], ρ, h, h0, he, hs => by
    unfold forGo
    rw [List.map_nil]
    dsimp only
    rw [if_pos (he ρ h h0).1]
    exact (he ρ h h0).2
  | x :: xs, ρ, h, h0, he, hs => by
    obtain ⟨h1, h2⟩ := hs x xs ρ h h0
    unfold forGo
    rw [List.map_cons]
    dsimp only
    rw [if_pos h1]
    unfold Wp at h2
    cases e1 : f (e x) ρ h with
    | nx ρ' h' =>
      rw [e1] at h2
      dsimp only
      exact trim_wp h2 fun ρ h hp => wp_for P hp he hs
    | ct ρ' h' =>
      rw [e1] at h2
      dsimp only
      exact trim_wp h2 fun ρ h hp => wp_for P hp he hs
    | bk ρ' h' => rw [e1] at h2; exact h2
    | rt d h' => rw [e1] at h2; exact h2
    | exc c vs ρ' h' => rw [e1] at h2; exact h2
    | bad => rw [e1] at h2; exact h2.elim
theorem wp_range' {ck n f k Q} {e : Nat → D} (P : Nat → Rho → Hs → Prop) {m : Nat} : ∀ {l a : Nat} {ρ : Rho} {h : Hs}, a + l = m → P a ρ h → (∀ ρ h, P m ρ h → ck h = true ∧ Wp (k ρ h) Q) → (∀ i ρ h, a ≤ i → i < m → P i ρ h → ck h = true ∧ Wp (f (e i) ρ h) (LQ n (P (i + 1)) Q k)) → Wp ((forGo ck n f ((List.range' a l).map e) ρ h).seq k) Q := by
  intro l a ρ h e0 h0 he hs
  refine wp_for (P := fun R ρ h => ∃ i, a ≤ i ∧ i + R.length = m ∧ R = List.range' i R.length ∧ P i ρ h) ⟨a, Nat.le_refl _, by simpa using e0, by simp, h0⟩ ?_ ?_
  · rintro ρ h ⟨i, _, hi, _, hp⟩
    simp at hi
    subst hi
    exact he ρ h hp
  · rintro x xs ρ h ⟨i, ha, hi, hr, hp⟩
    simp at hi
    rw [List.length_cons, List.range'_succ] at hr
    injection hr with hx hr
    subst hx
    obtain ⟨h1, h2⟩ := hs x ρ h ha (by omega) hp
    refine ⟨h1, wp_mono h2 fun r hr2 => LQ_mono (fun ρ h p => ?_) hr2⟩
    exact ⟨x + 1, by omega, by omega, hr, p⟩
theorem wp_range {ck n f k Q} {e : Nat → D} (P : Nat → Rho → Hs → Prop) {m : Nat} {ρ : Rho} {h : Hs} (h0 : P 0 ρ h) (he : ∀ ρ h, P m ρ h → ck h = true ∧ Wp (k ρ h) Q) (hs : ∀ i ρ h, i < m → P i ρ h → ck h = true ∧ Wp (f (e i) ρ h) (LQ n (P (i + 1)) Q k)) : Wp ((forGo ck n f ((List.range m).map e) ρ h).seq k) Q := by
  rw [List.range_eq_range']
  exact wp_range' P (by omega) h0 he fun i ρ h _ hi p => hs i ρ h hi p
theorem compGo_all {α : Type} {ck f t} {e : α → D} {h : Hs} (g : α → D) (hck : ck h = true) {xs : List α} {acc : List D} (ht : ∀ x ∈ xs, t (e x) h = .ok (.bl true) h) (hf : ∀ x ∈ xs, f (e x) h = .ok (g x) h) (hl : acc.length + xs.length ≤ LIM) :
    compGo ck f t (xs.map e) acc h = .ok (.lst (acc ++ xs.map g)) h := by
  rw [compGo_map (fun _ => true) g hck ht (fun x hx _ => hf x hx) hl, List.filter_eq_self.mpr (fun _ _ => rfl)]
theorem compGo_T {α : Type} {ck f t} {e : α → D} {h : Hs} (p : α → Bool) (g : α → List Nat) (hck : ck h = true) {xs : List α} (ht : ∀ x ∈ xs, t (e x) h = .ok (.bl (p x)) h) (hf : ∀ x ∈ xs, p x = true → f (e x) h = .ok (tn (g x)) h) (hl : xs.length ≤ LIM) :
    compGo ck f t (xs.map e) [] h = .ok (lt ((xs.filter p).map g)) h := by
  rw [compGo_map p (fun x => tn (g x)) hck ht hf (by simpa using hl)]
  rw [List.nil_append]
  exact congrArg (fun z => RE.ok z h) (congrArg D.lst (by simp))
theorem compGo_N {α : Type} {ck f t} {e : α → D} {h : Hs} (p : α → Bool) (g : α → Nat) (hck : ck h = true) {xs : List α} (ht : ∀ x ∈ xs, t (e x) h = .ok (.bl (p x)) h) (hf : ∀ x ∈ xs, p x = true → f (e x) h = .ok (.int (g x)) h) (hl : xs.length ≤ LIM) :
    compGo ck f t (xs.map e) [] h = .ok (ln ((xs.filter p).map g)) h := by
  rw [compGo_map p (fun x => .int (g x)) hck ht hf (by simpa using hl)]
  rw [List.nil_append]
  exact congrArg (fun z => RE.ok z h) (congrArg D.lst (by simp))
theorem compGo_aT {α : Type} {ck f t} {e : α → D} {h : Hs} (g : α → List Nat) (hck : ck h = true) {xs : List α} (ht : ∀ x ∈ xs, t (e x) h = .ok (.bl true) h) (hf : ∀ x ∈ xs, f (e x) h = .ok (tn (g x)) h) (hl : xs.length ≤ LIM) :
    compGo ck f t (xs.map e) [] h = .ok (lt (xs.map g)) h := by
  rw [compGo_T (fun _ => true) g hck ht (fun x hx _ => hf x hx) hl, List.filter_eq_self.mpr (fun _ _ => rfl)]
theorem compGo_aN {α : Type} {ck f t} {e : α → D} {h : Hs} (g : α → Nat) (hck : ck h = true) {xs : List α} (ht : ∀ x ∈ xs, t (e x) h = .ok (.bl true) h) (hf : ∀ x ∈ xs, f (e x) h = .ok (.int (g x)) h) (hl : xs.length ≤ LIM) :
    compGo ck f t (xs.map e) [] h = .ok (ln (xs.map g)) h := by
  rw [compGo_N (fun _ => true) g hck ht (fun x hx _ => hf x hx) hl, List.filter_eq_self.mpr (fun _ _ => rfl)]
theorem lend_ref {h : Hs} {n : Nat} {w : D} {r ws : List D} {b : Bool} (hc : cont h n = some w) (hw : noref w = true) (hr : lend h r = some (ws, b)) : lend h (.ref n :: r) = some (w :: ws, true) := by
  rw [lend, hc, hr]
  simp [hw]
/-- a call with cells of one's own -/
theorem fn_lend {T : Tb} {n f : Nat} {F : Fn} {ws us : List D} {h : Hs} {d : D} {b : Bool} (H : Has T f F) (hp : F.pure = true) (hl : lend h ws = some (us, b)) (hn : norefs us = true) (hw : ws.length = us.length) (he : ∀ h, evFn T (n + 1) f us h = .ok d h) (hi : imm d = true) : evFn T (n + 1) f ws h = .ok d h := by
  have e0 := he h
  unfold evFn at e0 ⊢
  rw [if_pos (of_decide_eq_true H.2), H.1] at e0 ⊢
  dsimp only at e0 ⊢
  unfold runFn at e0 ⊢
  by_cases hl2 : us.length = F.np
  · rw [if_pos hl2, hp] at e0
    rw [if_pos (by omega), hp]
    dsimp only at e0 ⊢
    rw [lend_nr hn] at e0
    rw [hl]
    dsimp only at e0 ⊢
    cases r : fnRes (evSs T (evFn T n) F.body (start F.ns us) []) with
    | ok w h' =>
      rw [r] at e0
      unfold pureRes at e0 ⊢
      dsimp only at e0 ⊢
      by_cases c : okRes false w = true
      · rw [if_pos c] at e0
        injection e0 with e0
        subst e0
        unfold okRes at c ⊢
        simp only [Bool.not_false, Bool.true_or, Bool.and_true] at c
        simp [c, hi]
      · rw [if_neg c] at e0
        cases e0
    | exc c vs h' =>
      rw [r] at e0
      unfold pureRes at e0
      dsimp only at e0
      split at e0 <;> cases e0
    | bad =>
      rw [r] at e0
      cases e0
  · rw [if_neg hl2] at e0
    cases e0
def ssDrop : Nat → Ss → Ss
  | 0, s => s
  | k + 1, .cons _ r => ssDrop k r
  | _ + 1, .nil => .nil
def ssTake : Nat → Ss → Ss
  | 0, _ => .nil
  | k + 1, .cons s r => .cons s (ssTake k r)
  | _ + 1, .nil => .nil
theorem evSs_split {T : Tb} {call : Nat → List D → Hs → RE} : ∀ (k : Nat) (b : Ss) (ρ : Rho) (h : Hs), evSs T call b ρ h = (evSs T call (ssTake k b) ρ h).seq fun ρ h => evSs T call (ssDrop k b) ρ h
  | 0, b, ρ, h => by rw [ssTake, vSs_nil, seq_nx, ssDrop]
  | k + 1, .nil, ρ, h => by rw [ssTake, vSs_nil, seq_nx, ssDrop, vSs_nil]
  | k + 1, .cons s r, ρ, h => by
    rw [ssTake, vSs_cons, vSs_cons, seq_assoc]
    congr 1
    funext ρ h
    exact evSs_split k r ρ h
theorem fn_wp {T : Tb} {n f : Nat} {F : Fn} {ws : List D} {h : Hs} {Q : D → Prop} (H : Has T f F) (hp : F.pure = true) (hl : ws.length = F.np) (hn : norefs ws = true)
    (hb : Wp (evSs T (evFn T n) F.body (start F.ns ws) []) fun r => ∃ d h', r = .rt d h' ∧ noref d = true ∧ Q d) : ∃ d, evFn T (n + 1) f ws h = .ok d h ∧ Q d := by
  obtain ⟨d, h', e, hd, hq⟩ := hb
  exact ⟨d, fn_rt H.1 H.2 hp hl hn e hd, hq⟩
theorem fn_eq {T : Tb} {n f : Nat} {F : Fn} {ws : List D} {h : Hs} {d : D} (H : Has T f F) (hp : F.pure = true) (hl : ws.length = F.np) (hn : norefs ws = true) (hd : noref d = true)
    (hb : Wp (evSs T (evFn T n) F.body (start F.ns ws) []) fun r => ∃ h', r = .rt d h') : evFn T (n + 1) f ws h = .ok d h := by
  obtain ⟨h', e⟩ := hb
  exact fn_rt H.1 H.2 hp hl hn e hd
end M
end

section
set_option Elab.async false
set_option linter.all false
set_option maxRecDepth 100000
/-! Fam: families of sets of places: the package's and the law's defs. -/
namespace M
/-! ### plain -/
/-- a is inside b -/
def subB (a b : List Nat) : Bool := a.all fun j => decide (j ∈ b)
def meetB (a b : List Nat) : Bool := a.any fun j => decide (j ∈ b)
/-- no other one inside q -/
def isMin (F : List (List Nat)) (q : List Nat) : Bool := F.all fun o => decide (o = q) || !subB o q
/-- each once, in order -/
def dd {α : Type} [DecidableEq α] (acc : List α) : List α → List α
  | [] => acc
  | x :: xs => if x ∈ acc then dd acc xs else dd (acc ++ [x]) xs
def prD (a : List Nat) : D := .tup [.int a.length, tn a]
def leQ (a b : List Nat) : Bool := leD (prD a) (prD b)
def leastF (F : List (List Nat)) : List (List Nat) := (dd [] (F.filter (isMin F))).mergeSort leQ
def subs : Nat → List (List Nat)
  | 0 => [[]]
  | m + 1 => subs m ++ (subs m).map (· ++ [m])
theorem dd_mem {α : Type} [DecidableEq α] : ∀ {l acc : List α} {x : α}, x ∈ dd acc l ↔ x ∈ acc ∨ x ∈ l
  | [], acc, x => by simp [dd]
  | y :: l, acc, x => by
    unfold dd
    split
    · rename_i h
      rw [dd_mem]
      constructor
      · rintro (h | h) <;> simp [h]
      · rintro (h1 | h1)
        · exact .inl h1
        · rcases List.mem_cons.mp h1 with rfl | h1
          · exact .inl h
          · exact .inr h1
    · rw [dd_mem]
      simp [or_assoc]
theorem dd_nodup {α : Type} [DecidableEq α] : ∀ {l acc : List α}, acc.Nodup → (dd acc l).Nodup
  | [], acc, h => by simpa [dd] using h
  | y :: l, acc, h => by
    unfold dd
    split
    · exact dd_nodup h
    · rename_i hy
      refine dd_nodup ?_
      rw [List.nodup_append]
      refine ⟨h, by simp, fun a ha b hb => ?_⟩
      simp at hb
      subst hb
      intro e
      subst e
      exact hy ha
theorem dd_len {α : Type} [DecidableEq α] : ∀ {l acc : List α}, (dd acc l).length ≤ acc.length + l.length
  | [], acc => by simp [dd]
  | y :: l, acc => by
    unfold dd
    split
    · have := dd_len (l := l) (acc := acc); simp; omega
    · have := dd_len (l := l) (acc := acc ++ [y]); simp at this; simp; omega
theorem alk_prD (a b : List Nat) : alk (prD a) (prD b) = true := by
  have h : ∀ a b : List Nat, PySem.W.alikeAll (toPys (a.map fun j : Nat => D.int j)) (toPys (b.map fun j : Nat => D.int j)) = true := by
    intro a
    induction a with
    | nil => intro b; simp [toPys, PySem.W.alikeAll]
    | cons x a ih =>
      intro b
      cases b with
      | nil => simp [toPys, PySem.W.alikeAll]
      | cons y b => simp [toPys, PySem.W.alikeAll, toPy, PySem.W.alike, ih b]
  have e : ∀ a : List Nat, toPy (prD a) = .tuple [.int a.length, .tuple (toPys (a.map fun j : Nat => D.int j))] := fun a => by
    unfold prD tn
    simp only [toPy, toPys]
  unfold alk
  rw [e, e]
  simp [PySem.W.alike, PySem.W.alikeAll, h]
theorem prD_q {a} {k} : q (k + 2) (prD a) = true := by simp [prD]
theorem prD_inj {a b} (h : prD a = prD b) : a = b := by
  unfold prD at h
  injection h with h
  injection h with _ h
  injection h with h
  exact tn_inj' h
theorem leQ_total (a b) : (leQ a b || leQ b a) = true := leD_total _ _
theorem leQ_trans (a b c) (h : leQ a b = true) (g : leQ b c = true) : leQ a c = true := leD_trans _ _ _ h g
theorem leQ_anti {a b} (h : leQ a b = true) (g : leQ b a = true) : a = b := prD_inj (leD_anti (k := 2) prD_q prD_q (alk_prD a b) h g)
theorem mem_leastF {F : List (List Nat)} {q} : q ∈ leastF F ↔ q ∈ F ∧ isMin F q = true := by
  unfold leastF
  rw [(List.mergeSort_perm _ _).mem_iff, dd_mem, List.mem_filter]
  simp
theorem leastF_nodup (F) : (leastF F).Nodup := (List.mergeSort_perm _ _).nodup_iff.mpr (dd_nodup List.nodup_nil)
theorem leastF_len (F) : (leastF F).length ≤ F.length := by
  unfold leastF
  rw [List.length_mergeSort]
  refine Nat.le_trans dd_len ?_
  simp
  exact List.length_filter_le _ _
theorem leastF_congr {F G : List (List Nat)} (h : ∀ q, (q ∈ F ∧ isMin F q = true) ↔ (q ∈ G ∧ isMin G q = true)) : leastF F = leastF G := by
  unfold leastF
  refine mergeSort_eq_of_perm leQ_trans leQ_total (fun a _ b _ => leQ_anti) ?_
  rw [List.perm_ext_iff_of_nodup (dd_nodup List.nodup_nil) (dd_nodup List.nodup_nil)]
  intro q
  rw [dd_mem, dd_mem, List.mem_filter, List.mem_filter]
  simpa using h q
/-! ### the defs -/
variable {T : Tb} {N : Nn} {n : Nat} {h : Hs}
theorem contains_all_ok (H : Has T N.f_contains_all (B.contains_all N)) {a b : List Nat} (hb : b.length ≤ LIM) : evFn T (n + 1) N.f_contains_all [tn a, tn b] h = .ok (.bl (subB b a)) h := by
  refine fn_rt H.1 H.2 rfl rfl (by simp) (h' := []) ?_ rfl
  simp only [B.contains_all, B.b_contains_all]
  simp [start]
  rw [compGo_map (p := fun j => !decide (j ∈ a)) (g := fun j : Nat => D.int j) rfl (by simp) (by simp) (by simpa using hb)]
  simp [Int.natCast_eq_zero, subB]
  rw [Bool.eq_iff_iff]
  simp
theorem inside_ok (H : Has T N.f__law_inside (B._law_inside N)) {a b : List Nat} (hb : a.length ≤ LIM) : evFn T (n + 1) N.f__law_inside [tn a, tn b] h = .ok (.bl (subB a b)) h := by
  refine fn_rt H.1 H.2 rfl rfl (by simp) (h' := []) ?_ rfl
  simp only [B._law_inside, B.b__law_inside]
  simp [start]
  rw [compGo_map (p := fun j => !decide (j ∈ b)) (g := fun j : Nat => D.int j) rfl (by simp) (by simp) (by simpa using hb)]
  simp [Int.natCast_eq_zero, subB]
  rw [Bool.eq_iff_iff]
  simp
theorem have_common_ok (H : Has T N.f_have_common (B.have_common N)) {a b : List Nat} (hb : a.length ≤ LIM) : evFn T (n + 1) N.f_have_common [tn a, tn b] h = .ok (.bl (meetB a b)) h := by
  refine fn_rt H.1 H.2 rfl rfl (by simp) (h' := []) ?_ rfl
  simp only [B.have_common, B.b_have_common]
  simp [start]
  rw [compGo_map (p := fun j => decide (j ∈ b)) (g := fun j : Nat => D.int j) rfl (by simp) (by simp) (by simpa using hb)]
  simp [meetB]
  rw [Bool.eq_iff_iff]
  simp [List.length_pos_iff, List.filter_eq_nil_iff]
end M
end

section
set_option Elab.async false
set_option linter.all false
set_option maxRecDepth 100000
/-! Fam2: least_family, the law's least sets. -/
namespace M
variable {T : Tb} {N : Nn} {n : Nat} {h : Hs}
theorem size_order_ok (H : Has T N.f_size_order (B.size_order N)) {a : List Nat} : evFn T (n + 1) N.f_size_order [tn a] h = .ok (prD a) h := by
  refine fn_rt H.1 H.2 rfl rfl (by simp) (h' := []) ?_ (by simp [prD])
  simp only [B.size_order, B.b_size_order]
  simp [start, LIM, prD]
theorem keysGo_ok {g : D → RE} {L : List (List Nat)} (hg : ∀ q, g (tn q) = .ok (prD q) []) : keysGo g (L.map tn) = some (L.map prD) := by
  induction L with
  | nil => rfl
  | cons q L ih =>
    show (match g (tn q), keysGo g (L.map tn) with
      | .ok k _, some ks => some (k :: ks)
      | _, _ => none) = _
    rw [hg, ih]
    rfl
theorem ord_prD (L : List (List Nat)) : ordOk (L.map prD) = true := by
  simp only [ordOk, Bool.and_eq_true, List.all_eq_true, decide_eq_true_eq, Bool.or_eq_true]
  refine ⟨⟨⟨fun x hx => ?_, fun x hx y hy => ?_⟩, fun x hx => ?_⟩, .inl fun x hx => ?_⟩
  · obtain ⟨a, _, rfl⟩ := List.mem_map.mp hx
    exact (q_pd.1 _ 2 prD_q).1
  · obtain ⟨a, _, rfl⟩ := List.mem_map.mp hx
    obtain ⟨b, _, rfl⟩ := List.mem_map.mp hy
    exact alk_prD a b
  · obtain ⟨a, _, rfl⟩ := List.mem_map.mp hx
    have := (q_pd.1 (prD a) 2 prD_q).2.2.2
    unfold dpt
    omega
  · obtain ⟨a, _, rfl⟩ := List.mem_map.mp hx
    rfl
theorem evSk_ok {g : List D → Hs → RE} {L : List (List Nat)} (hl : L.length ≤ LIM) (hg : ∀ q, g [tn q] [] = .ok (prD q) []) : evSk g (lt L) = some (lt (L.mergeSort leQ)) := by
  unfold lt evSk
  dsimp only
  rw [keysGo_ok hg]
  dsimp only
  rw [if_pos]
  · unfold evSortK
    rw [if_pos (by simp [hl, ord_prD])]
    unfold sortK
    rw [List.zip_map', ← List.map_mergeSort (r := leQ) (f := fun q => (tn q, prD q)) (fun _ _ _ _ => rfl)]
    rw [List.map_map]
    rfl
  · rw [List.all_eq_true]
    intro x hx
    obtain ⟨a, _, rfl⟩ := List.mem_map.mp hx
    exact (q_pd.1 _ 1 q_tn).2.1
theorem isMin_eq (F : List (List Nat)) (a : List Nat) : isMin F a = decide ((F.filter fun o => !decide (o = a) && subB o a).length = 0) := by
  rw [Bool.eq_iff_iff]
  simp only [isMin, List.all_eq_true, decide_eq_true_eq, List.length_eq_zero_iff, List.filter_eq_nil_iff, Bool.or_eq_true, Bool.not_eq_true', Bool.and_eq_true, decide_eq_false_iff_not]
  constructor
  · intro h o ho
    rcases h o ho with e | e
    · simp [e]
    · simp [e]
  · intro h o ho
    have := h o ho
    by_cases e : o = a
    · exact .inl e
    · exact .inr (by simpa [e] using this)
/-- the dict of the known ones -/
def dk (acc : List (List Nat)) : D := .dic true (acc.map tn) (acc.map fun _ => .bl true)
theorem dk_put {acc : List (List Nat)} {a : List Nat} : D.dic true (dput (acc.map tn) (acc.map fun _ => .bl true) (tn a) (.bl true)).1 (dput (acc.map tn) (acc.map fun _ => .bl true) (tn a) (.bl true)).2 = dk (if a ∈ acc then acc else acc ++ [a]) := by
  by_cases e : a ∈ acc
  · rw [dput_same (by simp) (by simpa using e) (by simp), if_pos e]
    rfl
  · rw [dput_new (by simp) (by simpa using e), if_neg e]
    simp [dk]
theorem least_family_ok (Hc : Has T N.f_contains_all (B.contains_all N)) (Hs : Has T N.f_size_order (B.size_order N)) (H : Has T N.f_least_family (B.least_family N)) {F : List (List Nat)} (hl : F.length < LIM) (hF : ∀ a ∈ F, a.length ≤ LIM) : evFn T (n + 2) N.f_least_family [tt F] h = .ok (tt (leastF F)) h := by
  refine fn_eq H rfl rfl (by simp) (by simp) ?_
  simp only [B.least_family, B.b_least_family]
  simp [start]
  refine wp_for (fun R ρ h => ∃ acc o2 o3, (∀ q ∈ R, q ∈ F) ∧ dd acc (R.filter (isMin F)) = dd [] (F.filter (isMin F)) ∧ acc.length + R.length ≤ F.length ∧ ρ = [some (tt F), some (.ref 0), o2, o3, none] ∧ h = [.opn (dk acc)]) ⟨[], _, _, fun _ h => h, rfl, by simp, rfl, rfl⟩ ?_ ?_
  · rintro ρ h ⟨acc, o2, o3, _, hd, _, rfl, rfl⟩
    simp [dk, dd] at hd ⊢
    rw [evSk_ok (by subst hd; exact Nat.le_trans dd_len (by simp; exact Nat.le_trans (List.length_filter_le _ _) (Nat.le_of_lt hl))) (fun q => size_order_ok Hs)]
    simp [hd, leastF]
  · rintro a R ρ h ⟨acc, o2, o3, hR, hd, hlen, rfl, rfl⟩
    refine ⟨rfl, ?_⟩
    simp
    rw [compGo_map (p := fun o => !decide (o = a) && subB o a) (g := tn) rfl ?_ (by simp) (by simp; omega)]
    · simp [Int.natCast_eq_zero]
      refine wp_iteS (fun c => ?_) (fun c => ?_)
      · have hm : isMin F a = true := by rw [isMin_eq]; simpa using c
        simp [dk, hm] at hd ⊢
        rw [if_pos (by omega)]
        simp
        refine ⟨fun q hq => hR q (List.mem_cons_of_mem _ hq), if a ∈ acc then acc else acc ++ [a], ?_, ?_, ?_, ?_⟩
        · rw [← hd, dd]
          split <;> rfl
        · simp at hlen
          split
          · omega
          · simp; omega
        · exact congrArg (fun z => match z with | D.dic _ a _ => a | _ => []) (dk_put (acc := acc) (a := a))
        · exact congrArg (fun z => match z with | D.dic _ _ a => a | _ => []) (dk_put (acc := acc) (a := a))
      · have hm : isMin F a = false := by rw [isMin_eq]; simpa using c
        simp [dk, hm] at hd ⊢
        exact ⟨fun q hq => hR q (List.mem_cons_of_mem _ hq), acc, hd, by simp at hlen; omega, rfl, rfl⟩
    · intro o ho
      simp [contains_all_ok Hc (hF o ho)]
theorem least_sets_ok (Hi : Has T N.f__law_inside (B._law_inside N)) (H : Has T N.f__law_least_sets (B._law_least_sets N)) {F : List (List Nat)} (hl : F.length < LIM) (hF : ∀ a ∈ F, a.length ≤ LIM) : evFn T (n + 2) N.f__law_least_sets [lt F] h = .ok (lt (leastF F)) h := by
  refine fn_eq H rfl rfl (by simp) (by simp) ?_
  simp only [B._law_least_sets, B.b__law_least_sets]
  simp [start, LIM]
  refine wp_for (fun R ρ h => ∃ acc o2 o3, (∀ q ∈ R, q ∈ F) ∧ dd acc (R.filter (isMin F)) = dd [] (F.filter (isMin F)) ∧ acc.length + R.length ≤ F.length ∧ ρ = [some (lt F), some (.ref 0), o2, o3, none, none] ∧ h = [.opn (.lst (acc.map prD))]) ⟨[], _, _, fun _ h => h, rfl, by simp, rfl, rfl⟩ ?_ ?_
  · rintro ρ h ⟨acc, o2, o3, _, hd, hlen, rfl, rfl⟩
    simp [dd] at hd hlen ⊢
    subst hd
    rw [evSorted_tups (by simp; unfold LIM at *; omega) (qs_map fun x _ => prD_q) (by simp [prD, isTu]) (by simp [alk_prD])]
    simp
    rw [sortD_map]
    rw [compGo_all (g := tn) (by simp) (by simp) (by simp [prD]) (by simp [List.length_mergeSort]; unfold LIM at *; omega)]
    simp [leastF]
    rfl
  · rintro a R ρ h ⟨acc, o2, o3, hR, hd, hlen, rfl, rfl⟩
    refine ⟨rfl, ?_⟩
    simp
    rw [compGo_map (p := fun o => !decide (o = a) && subB o a) (g := tn) rfl ?_ (by simp) (by simp; omega)]
    · have hm := isMin_eq F a
      have hp : D.tup [.int a.length, tn a] ∈ acc.map prD ↔ a ∈ acc := by
        rw [List.mem_map]
        exact ⟨fun ⟨x, hx, e⟩ => prD_inj e ▸ hx, fun h => ⟨a, h, rfl⟩⟩
      simp [Int.natCast_eq_zero, LIM] at hm ⊢
      have hm : isMin F a = true ↔ ∀ b ∈ F, ¬ b = a → subB b a = false := by rw [hm]; exact decide_eq_true_iff
      rw [evIn_lst (by simp) (qs_map fun x _ => prD_q)]
      simp [hp]
      have hR' : ∀ q ∈ R, q ∈ F := fun q hq => hR q (List.mem_cons_of_mem _ hq)
      simp only [List.length_cons] at hlen
      refine wp_iteS (fun c => ?_) (fun c => ?_)
      · have c1 := hm.mpr c.1
        rw [if_pos (by unfold LIM at *; omega)]
        simp
        refine ⟨hR', acc ++ [a], ?_, by simp; omega, by simp [prD]⟩
        simpa [c1, dd, c.2] using hd
      · simp
        refine ⟨hR', acc, ?_, by omega, rfl⟩
        by_cases c1 : isMin F a = true
        · have c3 : a ∈ acc := Classical.byContradiction fun z => c ⟨hm.mp c1, z⟩
          simpa [c1, dd, c3] using hd
        · simpa [c1] using hd
    · intro o ho
      simp [inside_ok Hi (hF o ho)]
end M
end

section
set_option Elab.async false
set_option linter.all false
set_option maxRecDepth 100000
/-! Fam3: sets that meet all. -/
namespace M
variable {T : Tb} {N : Nn} {n : Nat} {h : Hs}
theorem meet_ok (H : Has T N.f__law_meet (B._law_meet N)) {a b : List Nat} (hb : a.length ≤ LIM) : evFn T (n + 1) N.f__law_meet [tn a, tn b] h = .ok (.bl (meetB a b)) h := by
  refine fn_rt H.1 H.2 rfl rfl (by simp) (h' := []) ?_ rfl
  simp only [B._law_meet, B.b__law_meet]
  simp [start]
  rw [compGo_map (p := fun j => decide (j ∈ b)) (g := fun j : Nat => D.int j) rfl (by simp) (by simp) (by simpa using hb)]
  simp [meetB]
  rw [Bool.eq_iff_iff]
  simp [List.length_pos_iff, List.filter_eq_nil_iff]
theorem meetl_ok (H : Has T N.f__law_meet (B._law_meet N)) {a b : List Nat} (hb : a.length ≤ LIM) : evFn T (n + 1) N.f__law_meet [ln a, tn b] h = .ok (.bl (meetB a b)) h := by
  refine fn_rt H.1 H.2 rfl rfl (by simp) (h' := []) ?_ rfl
  simp only [B._law_meet, B.b__law_meet]
  simp [start]
  rw [compGo_map (p := fun j => decide (j ∈ b)) (g := fun j : Nat => D.int j) rfl (by simp) (by simp) (by simpa using hb)]
  simp [meetB]
  rw [Bool.eq_iff_iff]
  simp [List.length_pos_iff, List.filter_eq_nil_iff]
theorem pow2_le {i : Nat} (h : i ≤ 15) : 2 ^ i ≤ 32768 := by
  have e : (2 : Nat) ^ 15 = 32768 := by decide
  rw [← e]
  exact Nat.pow_le_pow_right (by decide) h
theorem subs_len (m) : (subs m).length = 2 ^ m := by
  induction m with
  | zero => rfl
  | succ m ih => simp [subs, ih]; omega
theorem subs_mem_len {m a} (h : a ∈ subs m) : a.length ≤ m := by
  induction m generalizing a with
  | zero => simp [subs] at h; subst h; simp
  | succ m ih =>
    simp [subs] at h
    rcases h with h | ⟨b, h, rfl⟩
    · have := ih h; omega
    · have := ih h; simp; omega
theorem subsets_of_ok (H : Has T N.f_subsets_of (B.subsets_of N)) {m : Nat} (hm : m ≤ 16) : evFn T (n + 1) N.f_subsets_of [.int m] h = .ok (lt (subs m)) h := by
  refine fn_eq H rfl rfl (by simp) (by simp) ?_
  simp only [B.subsets_of, B.b_subsets_of]
  simp [start]
  rw [rngO_0 (by unfold LIM; omega)]
  simp
  refine wp_range (fun i ρ h => ∃ o2, ρ = [some (.int m), some (lt (subs i)), o2, none] ∧ h = []) ⟨_, rfl, rfl⟩ ?_ ?_
  · rintro ρ h ⟨o2, rfl, rfl⟩
    simp
  · rintro i ρ h hi ⟨o2, rfl, rfl⟩
    refine ⟨rfl, ?_⟩
    have hp : 2 ^ i ≤ 32768 := pow2_le (show i ≤ 15 by omega)
    simp
    rw [compGo_aT (g := fun a => a ++ [i]) rfl (by simp) ?_ (by rw [subs_len]; unfold LIM; omega)]
    · simp
      rw [if_pos (by simp only [subs_len]; unfold LIM; omega)]
      simp [subs]
    · intro a ha
      have := subs_mem_len ha
      simp
      rw [if_pos (by unfold LIM; omega)]
      simp
theorem is_blocking_ok (Hc : Has T N.f_have_common (B.have_common N)) (H : Has T N.f_is_blocking (B.is_blocking N)) {a : List Nat} {F : List (List Nat)} (ha : a.length ≤ LIM) (hF : F.length ≤ LIM) : evFn T (n + 2) N.f_is_blocking [tn a, tt F] h = .ok (.bl (F.all (meetB a))) h := by
  refine fn_rt H.1 H.2 rfl rfl (by simp) (h' := []) ?_ rfl
  simp only [B.is_blocking, B.b_is_blocking]
  simp [start]
  rw [compGo_map (p := fun o => !meetB a o) (g := tn) rfl (by simp [have_common_ok Hc ha]) (by simp) (by simpa using hF)]
  simp [Int.natCast_eq_zero]
  rw [Bool.eq_iff_iff]
  simp
def hits (F L : List (List Nat)) : List (List Nat) := L.filter fun c => F.all (meetB c)
/-- the greatest place of a family -/
def topOf (F : List (List Nat)) : Nat := F.flatten.foldl max 0
theorem intL_ints : ∀ {l : List Nat}, intL (l.map fun j : Nat => D.int j) = some (l.map Int.ofNat)
  | [] => rfl
  | x :: l => by
    simp only [List.map_cons, intL, intL_ints (l := l)]
    rfl
theorem maxI_nat : ∀ {l : List Nat}, l ≠ [] → maxI (l.map Int.ofNat) = some ((l.foldl max 0 : Nat) : Int)
  | [], h => absurd rfl h
  | x :: l, _ => by
    have : ∀ (l : List Nat) (a : Nat), (l.map Int.ofNat).foldl max (a : Int) = ((l.foldl max a : Nat) : Int) := by
      intro l
      induction l with
      | nil => intro a; rfl
      | cons y l ih =>
        intro a
        simp only [List.map_cons, List.foldl_cons]
        rw [← ih]
        congr 1
        simp only [Int.ofNat_eq_natCast]
        omega
    simp only [List.map_cons, maxI, List.foldl_cons, Nat.zero_max]
    exact congrArg some (this l x)
theorem maxI_top {F : List (List Nat)} (h : F.flatten ≠ []) : maxI (F.flatten.map Int.ofNat) = some ((topOf F : Nat) : Int) := maxI_nat h
theorem comp2Go_flat {ck f} {h : Hs} (hck : ck h = true) : ∀ {F : List (List Nat)} {acc : List D}, (∀ x ∈ F, ∀ acc : List D, acc.length + x.length ≤ LIM → f (tn x) h acc = .ok (.lst (acc ++ x.map fun j : Nat => .int j)) h) → acc.length + F.flatten.length ≤ LIM →
    comp2Go ck f (F.map tn) acc h = .ok (.lst (acc ++ F.flatten.map fun j : Nat => .int j)) h
  | [], acc, _, _ => by
    unfold comp2Go
    simp [hck]
  | x :: F, acc, hf, hl => by
    simp at hl
    unfold comp2Go
    rw [List.map_cons]
    dsimp only
    rw [if_pos hck, hf x (List.mem_cons_self ..) acc (by omega)]
    dsimp only
    rw [comp2Go_flat hck (fun y hy => hf y (List.mem_cons_of_mem _ hy)) (by simp; omega)]
    simp
theorem top_lt {F : List (List Nat)} {m} (h : ∀ a ∈ F, ∀ j ∈ a, j < m) (hm : 0 < m) : topOf F < m := by
  unfold topOf
  have : ∀ (l : List Nat) (a : Nat), a < m → (∀ j ∈ l, j < m) → l.foldl max a < m := by
    intro l
    induction l with
    | nil => intro a ha _; exact ha
    | cons y l ih =>
      intro a ha hl
      rw [List.foldl_cons]
      exact ih _ (by have := hl y (List.mem_cons_self ..); omega) fun j hj => hl j (List.mem_cons_of_mem _ hj)
  refine this _ 0 hm fun j hj => ?_
  obtain ⟨a, ha, hj⟩ := List.mem_flatten.mp hj
  exact h a ha j hj
theorem top_ge {F : List (List Nat)} {a j} (ha : a ∈ F) (hj : j ∈ a) : j ≤ topOf F := by
  unfold topOf
  have : ∀ (l : List Nat) (a : Nat), a ≤ l.foldl max a ∧ ∀ j ∈ l, j ≤ l.foldl max a := by
    intro l
    induction l with
    | nil => intro a; exact ⟨Nat.le_refl _, fun j hj => by simp at hj⟩
    | cons y l ih =>
      intro a
      rw [List.foldl_cons]
      have := ih (max a y)
      refine ⟨by omega, fun j hj => ?_⟩
      rcases List.mem_cons.mp hj with rfl | hj
      · omega
      · exact this.2 j hj
  exact (this _ 0).2 j (List.mem_flatten.mpr ⟨a, ha, hj⟩)
structure FamFns (T : Tb) (N : Nn) : Prop where
  contains_all : Has T N.f_contains_all (B.contains_all N)
  size_order : Has T N.f_size_order (B.size_order N)
  least_family : Has T N.f_least_family (B.least_family N)
  have_common : Has T N.f_have_common (B.have_common N)
  subsets_of : Has T N.f_subsets_of (B.subsets_of N)
  is_blocking : Has T N.f_is_blocking (B.is_blocking N)
  blockers : Has T N.f_blockers (B.blockers N)
theorem blockers_ok (H : FamFns T N) {F : List (List Nat)} {m : Nat} (hm : m ≤ 12) (hF : ∀ a ∈ F, ∀ j ∈ a, j < m) (hlen : ∀ a ∈ F, a.length ≤ m) (hl : F.length ≤ 4096) (hne : F.flatten ≠ []) : evFn T (n + 3) N.f_blockers [tt F] h = .ok (tt (leastF (hits F (subs (topOf F + 1))))) h := by
  have hm0 : 0 < m := by
    cases m with
    | zero =>
      exfalso
      apply hne
      rw [List.flatten_eq_nil_iff]
      intro a ha
      have := hlen a ha
      exact List.length_eq_zero_iff.mp (by omega)
    | succ => omega
  have ht := top_lt hF hm0
  have hfl : F.flatten.length ≤ 4096 * 12 := by
    have : ∀ G : List (List Nat), (∀ a ∈ G, a.length ≤ 12) → G.flatten.length ≤ G.length * 12 := by
      intro G
      induction G with
      | nil => intro _; simp
      | cons a G ih =>
        intro hg
        have := ih fun b hb => hg b (List.mem_cons_of_mem _ hb)
        have := hg a (List.mem_cons_self ..)
        simp at *
        omega
    have := this F fun a ha => Nat.le_trans (hlen a ha) hm
    omega
  refine fn_eq H.blockers rfl rfl (by simp) (by simp) ?_
  simp only [B.blockers, B.b_blockers]
  simp [start]
  rw [comp2Go_flat rfl ?_ (by simp only [List.length_nil, LIM]; omega)]
  · simp
    rw [← List.map_flatten, intL_ints, Option.bind_some, Function.comp_apply, maxI_top hne]
    simp
    have e := subsets_of_ok (n := n + 1) (h := []) H.subsets_of (m := topOf F + 1) (by omega)
    simp at e
    simp [e]
    have hp : 2 ^ (topOf F + 1) ≤ 32768 := pow2_le (by omega)
    rw [compGo_map (p := fun c => F.all (meetB c)) (g := tn) rfl ?_ (by simp) (by simp [subs_len]; unfold LIM; omega)]
    · simp
      have e2 := least_family_ok (n := n) (h := []) H.contains_all H.size_order H.least_family (F := hits F (subs (topOf F + 1))) (by
        refine Nat.lt_of_le_of_lt (List.length_filter_le _ _) ?_
        rw [subs_len]; unfold LIM; omega) (fun a ha => by
        have := subs_mem_len (List.mem_filter.mp ha).1
        unfold LIM; omega)
      unfold hits at e2 ⊢
      simp [e2]
    · intro a ha
      have := subs_mem_len ha
      have := is_blocking_ok (n := n) (h := []) H.have_common H.is_blocking (a := a) (F := F) (by unfold LIM; omega) (by unfold LIM; omega)
      simp [this]
  · intro x hx acc ha
    simp
    rw [compGo_all (g := fun j : Nat => .int j) rfl (by simp) (by simp) ha]
end M
end

section
set_option Elab.async false
set_option linter.all false
set_option maxRecDepth 100000
/-! LawB: the law's own small defs: same, cell, digits. -/
namespace M
variable {T : Tb} {N : Nn} {n : Nat} {h : Hs}
mutual
/-- what _law_same takes: to a depth -/
def sm : Nat → D → Bool
  | _, .non => true
  | _, .bl _ => true
  | _, .int _ => true
  | _, .str _ => true
  | 0, .tup _ => false
  | k + 1, .tup xs => sms k xs
  | _, _ => false
def sms : Nat → List D → Bool
  | _, [] => true
  | k, x :: xs => sm k x && sms k xs
end
theorem sms_all {k} : ∀ {xs : List D}, sms k xs = true ↔ ∀ x ∈ xs, sm k x = true
  | [] => by simp [sms]
  | x :: xs => by simp [sms, sms_all (xs := xs)]
theorem sm_tup {k xs} : sm (k + 1) (.tup xs) = sms k xs := by rw [sm]
@[simp] theorem sm_int {k i} : sm k (.int i) = true := by unfold sm; rfl
theorem sm_tn {k a} : sm (k + 1) (tn a) = true := by
  unfold tn
  rw [sm_tup, sms_all]
  intro x hx
  obtain ⟨j, _, rfl⟩ := List.mem_map.mp hx
  exact sm_int
theorem sm_tt {k a} : sm (k + 2) (tt a) = true := by
  unfold tt
  rw [sm_tup, sms_all]
  intro x hx
  obtain ⟨j, _, rfl⟩ := List.mem_map.mp hx
  exact sm_tn
theorem sm_noref : ∀ (k : Nat) (d : D), sm k d = true → noref d = true
  | _, .non, _ => rfl
  | _, .bl _, _ => rfl
  | _, .int _, _ => rfl
  | _, .str _, _ => rfl
  | 0, .tup _, h => by unfold sm at h; cases h
  | k + 1, .tup xs, h => by
    rw [nr_tup]
    rw [sm_tup, sms_all] at h
    induction xs with
    | nil => rfl
    | cons x xs ih =>
      rw [nrs_cons, sm_noref k x (h x (List.mem_cons_self ..)), ih fun y hy => h y (List.mem_cons_of_mem _ hy)]
      rfl
  | _, .lst _, h => by unfold sm at h; cases h
  | _, .rol _, h => by unfold sm at h; cases h
  | _, .dic _ _ _, h => by unfold sm at h; cases h
  | _, .ins _ _ _, h => by unfold sm at h; cases h
  | _, .ref _, h => by unfold sm at h; cases h
  | _, .exn _ _, h => by unfold sm at h; cases h
/-- how long the rows in it are -/
def lens (m : Nat) : Nat → D → Bool
  | 0, _ => true
  | k + 1, .tup xs => decide (xs.length ≤ m) && xs.all (lens m k)
  | _ + 1, _ => true
theorem lens_int {m k i} : lens m k (.int i) = true := by cases k <;> rfl
theorem lens_tn {m k x} (h : x.length ≤ m) : lens m (k + 1) (tn x) = true := by
  show (decide ((x.map fun j : Nat => D.int j).length ≤ m) && (x.map fun j : Nat => D.int j).all (lens m k)) = true
  rw [Bool.and_eq_true, List.all_eq_true]
  refine ⟨by simpa using h, fun y hy => ?_⟩
  obtain ⟨j, _, rfl⟩ := List.mem_map.mp hy
  exact lens_int
theorem lens_tt {m k} {x : List (List Nat)} (h : x.length ≤ m) (h2 : ∀ s ∈ x, s.length ≤ m) : lens m (k + 2) (tt x) = true := by
  show (decide ((x.map tn).length ≤ m) && (x.map tn).all (lens m (k + 1))) = true
  rw [Bool.and_eq_true, List.all_eq_true]
  refine ⟨by simpa using h, fun y hy => ?_⟩
  obtain ⟨j, hj, rfl⟩ := List.mem_map.mp hy
  exact lens_tn (h2 j hj)
theorem whole_ok (H : Has T N.f__law_whole (B._law_whole N)) {i : Int} : evFn T (n + 1) N.f__law_whole [.int i] h = .ok (.bl true) h := by
  refine fn_rt H.1 H.2 rfl rfl (by simp) (h' := []) ?_ rfl
  simp only [B._law_whole, B.b__law_whole]
  simp [start]
theorem same_ok (Hw : Has T N.f__law_whole (B._law_whole N)) (H : Has T N.f__law_same (B._law_same N)) : ∀ (k : Nat) (d : D), sm k d = true → lens LIM k d = true → ∀ n h, evFn T (n + k + 2) N.f__law_same [d, d] h = .ok (.bl true) h := by
  intro k
  induction k with
  | zero =>
    intro d hd _ n h
    refine fn_rt H.1 H.2 rfl rfl (by simp [sm_noref _ _ hd]) (h' := []) ?_ rfl
    simp only [B._law_same, B.b__law_same]
    cases d with
    | non => simp [start]
    | bl b => simp [start]
    | int i => simp [start, whole_ok Hw]
    | str x => simp [start]
    | _ => unfold sm at hd; cases hd
  | succ k ih =>
    intro d hd hl n h
    refine fn_eq H rfl rfl (by simp [sm_noref _ _ hd]) rfl ?_
    simp only [B._law_same, B.b__law_same]
    cases d with
    | non => simp [start]
    | bl b => simp [start]
    | int i => simp [start, whole_ok Hw]
    | str x => simp [start]
    | tup xs =>
      rw [sm_tup, sms_all] at hd
      simp only [lens, Bool.and_eq_true, decide_eq_true_eq, List.all_eq_true] at hl
      simp [start]
      rw [rngO_0 hl.1]
      simp
      refine wp_range (fun i ρ h => ∃ o2, ρ = [some (.tup xs), some (.tup xs), o2] ∧ h = []) ⟨_, rfl, rfl⟩ ?_ ?_
      · rintro ρ h ⟨o2, rfl, rfl⟩
        simp
      · rintro i ρ h hi ⟨o2, rfl, rfl⟩
        refine ⟨rfl, ?_⟩
        have e := ih xs[i] (hd _ (List.getElem_mem hi)) (hl.2 _ (List.getElem_mem hi)) n []
        have e2 : n + (k + 1) + 1 = n + k + 2 := by omega
        simp [hi, e2, e]
    | _ => unfold sm at hd; cases hd
theorem mulOk_l {i j : Int} (h1 : -18446744073709551616 < i) (h2 : i < 18446744073709551616) : mulOk i j = true := by
  unfold mulOk
  rw [Bool.or_eq_true]
  left
  rw [decide_eq_true_eq]
  omega
theorem mulOk_r {i j : Int} (h1 : -18446744073709551616 < j) (h2 : j < 18446744073709551616) : mulOk i j = true := by
  unfold mulOk
  rw [Bool.or_eq_true]
  right
  rw [decide_eq_true_eq]
  omega
/-- a cell of the script, or a number made of it: some whole number -/
theorem nr_ints : ∀ {ns : List Int}, norefs (ns.map D.int) = true
  | [] => rfl
  | a :: ns => by rw [List.map_cons, nrs_cons, nr_ints]; rfl
theorem cell_ok (H : Has T N.f__law_cell (B._law_cell N)) {ns : List Int} {k : Nat} (hk : k < 1000000) : ∃ d, evFn T (n + 1) N.f__law_cell [.rol (ns.map .int), .int k] h = .ok d h ∧ ∃ i : Int, d = .int i := by
  refine fn_wp H rfl rfl (by simp [nr_ints]) ?_
  simp only [B._law_cell, B.b__law_cell]
  simp [start]
  refine wp_iteS (fun c => ?_) (fun c => ?_)
  · simp [c]
  · simp
    refine wp_for (fun R ρ h => ∃ s : Int, ∃ o3, ρ = [some (.rol (ns.map .int)), some (.int k), some (.int s), o3] ∧ h = []) ⟨_, _, rfl, rfl⟩ ?_ ?_
    · rintro ρ h ⟨s, o3, rfl, rfl⟩
      simp
      rw [if_pos (mulOk_r (by omega) (by omega))]
      simp
      rw [if_pos (mulOk_r (by omega) (by omega))]
      simp
    · rintro a R ρ h ⟨s, o3, rfl, rfl⟩
      refine ⟨rfl, ?_⟩
      simp
      rw [if_pos (mulOk_r (by omega) (by omega))]
      simp
/-- digits: one below each size -/
def DigOk (ds sizes : List Nat) : Prop := ds.length = sizes.length ∧ ∀ i : Nat, ∀ d s, ds[i]? = some d → sizes[i]? = some s → d < s
theorem DigOk.snoc {ds sizes : List Nat} {r : Nat} (h : ∀ i : Nat, ∀ d s, ds[i]? = some d → sizes[i]? = some s → d < s) (hr : ∀ s, sizes[ds.length]? = some s → r < s) : ∀ i : Nat, ∀ d s, (ds ++ [r])[i]? = some d → sizes[i]? = some s → d < s := by
  intro i d s h1 h2
  by_cases c : i < ds.length
  · rw [List.getElem?_append_left c] at h1
    exact h i d s h1 h2
  · rw [List.getElem?_append_right (by omega)] at h1
    by_cases c2 : i - ds.length = 0
    · have e : i = ds.length := by omega
      subst e
      simp at h1
      subst h1
      exact hr s h2
    · rw [List.getElem?_eq_none (by simp; omega)] at h1
      cases h1
theorem int_emod {a : Int} {s : Nat} (h : 0 < s) : ∃ r : Nat, a % (s : Int) = (r : Int) ∧ r < s := by
  have h1 := Int.emod_nonneg a (show (s : Int) ≠ 0 by omega)
  have h2 := Int.emod_lt_of_pos a (show (0 : Int) < s by omega)
  exact ⟨(a % (s : Int)).toNat, by omega, by omega⟩
theorem digits_ok (H : Has T N.f__law_digits (B._law_digits N)) {c' : Int} {sizes : List Nat} (hs : ∀ s ∈ sizes, 0 < s ∧ s < 1000000) (hl : sizes.length ≤ 4096) : ∃ d, evFn T (n + 1) N.f__law_digits [.int c', ln sizes] h = .ok d h ∧ ∃ ds, d = ln ds ∧ DigOk ds sizes := by
  refine fn_wp H rfl rfl (by simp) ?_
  simp only [B._law_digits, B.b__law_digits]
  simp [start]
  refine wp_iteS (fun c => ?_) (fun c => ?_)
  · simp
    refine wp_for (L := sizes) (fun R ρ h => ∃ ds : List Nat, ∃ r : Int, ∃ o4, R = sizes.drop ds.length ∧ ds.length ≤ sizes.length ∧ (∀ i : Nat, ∀ d s, ds[i]? = some d → sizes[i]? = some s → d < s) ∧ ρ = [some (.int c'), some (ln sizes), some (.ref 0), some (.int r), o4, none, none, none] ∧ h = [.opn (ln ds)]) ?_ ?_ ?_
    · exact ⟨[], _, _, rfl, by simp, by simp, rfl, rfl⟩
    · rintro ρ h ⟨ds, r, o4, hR, hlen, hd, rfl, rfl⟩
      have e : ds.length = sizes.length := by
        have := congrArg List.length hR
        simp at this
        omega
      simp
      exact ⟨ds, rfl, e, hd⟩
    · rintro s R ρ h ⟨ds, r, o4, hR, hlen, hd, rfl, rfl⟩
      have hlt : ds.length < sizes.length := by
        have := congrArg List.length hR
        simp at this
        omega
      rw [List.drop_eq_getElem_cons hlt] at hR
      injection hR with e1 e2
      obtain ⟨p1, p2⟩ := hs s (by rw [e1]; exact List.getElem_mem hlt)
      obtain ⟨d, hd1, hd2⟩ := int_emod (a := r) p1
      refine ⟨rfl, ?_⟩
      have hL : ds.length < LIM := by unfold LIM; omega
      simp [p1, hd1, hL, Int.lt_of_lt_of_le (show (s : Int) < 1000000 by omega) (show (1000000 : Int) ≤ 1073741824 by decide)]
      refine ⟨ds ++ [d], by simpa using e2, by simp; omega, DigOk.snoc hd ?_, rfl⟩
      intro s' hs'
      rw [List.getElem?_eq_getElem hlt] at hs'
      injection hs' with hs'
      omega
  · simp
    rw [rngO_0 (by unfold LIM; omega)]
    simp
    refine wp_range (fun i ρ h => ∃ ds : List Nat, ∃ s : Int, ∃ o6, ∃ o7, ds.length = i ∧ (0 ≤ s ∧ s < 2147483647) ∧ (∀ i : Nat, ∀ d s, ds[i]? = some d → sizes[i]? = some s → d < s) ∧ ρ = [some (.int c'), some (ln sizes), some (.ref 0), some (.int c'), none, some (.int s), o6, o7] ∧ h = [.opn (ln ds)]) ?_ ?_ ?_
    · refine ⟨[], _, _, _, rfl, ?_, by simp, rfl, rfl⟩
      have h1 := Int.emod_nonneg c' (show (2147483629 : Int) ≠ 0 by omega)
      have h2 := Int.emod_lt_of_pos c' (show (0 : Int) < 2147483629 by omega)
      omega
    · rintro ρ h ⟨ds, s, o6, o7, hlen, hs, hd, rfl, rfl⟩
      simp
      exact ⟨ds, rfl, hlen, hd⟩
    · rintro i ρ h hi ⟨ds, s, o6, o7, hlen, hs0, hd, rfl, rfl⟩
      obtain ⟨p1, p2⟩ := hs _ (List.getElem_mem hi)
      refine ⟨rfl, ?_⟩
      have hL : ds.length < LIM := by unfold LIM; omega
      have m1 : ∀ s, mulOk s 48271 = true := fun s => mulOk_r (by omega) (by omega)
      have m2 : mulOk 974711 (i : Int) = true := mulOk_l (by omega) (by omega)
      have g1 := Int.emod_nonneg (s * 48271 + 974711 * (i : Int) + 12345) (show (2147483647 : Int) ≠ 0 by omega)
      have g2 := Int.emod_lt_of_pos (s * 48271 + 974711 * (i : Int) + 12345) (show (0 : Int) < 2147483647 by omega)
      generalize hv : (s * 48271 + 974711 * (i : Int) + 12345) % 2147483647 = v at g1 g2
      have m3 : mulOk v (v / 65537 + 3) = true := mulOk_l (by omega) (by omega)
      obtain ⟨d, hd1, hd2⟩ := int_emod (a := v * (v / 65537 + 3) % 2147483629 / 19) p1
      simp [m1, m2, hv, m3, hi, p1, hd1, hL]
      exact ⟨ds ++ [d], by simp [hlen], v, ⟨g1, g2⟩, DigOk.snoc hd (fun s' hs' => by
        rw [hlen, List.getElem?_eq_getElem hi] at hs'
        injection hs' with hs'
        omega), rfl, rfl⟩
end M
end

section
set_option Elab.async false
set_option linter.all false
set_option maxRecDepth 100000
/-! Box: orders and boxes. -/
namespace M
/-! ### plain -/
abbrev Row := List Nat × Nat
def at0 (x : List Nat) (i : Nat) : Nat := x.getD i 0
/-- x is below y -/
def bel (x y : List Nat) : Bool := (List.range x.length).all fun i => decide (at0 x i = 0) || decide (at0 x i = at0 y i)
def agr (x y : List Nat) : Bool := (List.range x.length).all fun i => decide (at0 x i = 0) || (decide (at0 y i = 0) || decide (at0 x i = at0 y i))
def ansd (x : List Nat) : List Nat := (List.range x.length).filter fun i => !decide (at0 x i = 0)
def hasLow (rows : List Row) (x : List Nat) : Bool := rows.any fun r => !decide (r.1 = x) && bel r.1 x
def ddk (acc : List Row) : List Row → List Row
  | [] => acc
  | x :: xs => if x.1 ∈ acc.map (·.1) then ddk acc xs else ddk (acc ++ [x]) xs
def leX (a b : Row) : Bool := leD (tn a.1) (tn b.1)
def leastR (rows : List Row) : List Row := (ddk [] (rows.filter fun r => !hasLow rows r.1)).mergeSort leX
def valB (least : List Row) (x : List Nat) : Nat := match least.find? fun r => bel r.1 x with
  | some r => r.2
  | none => 0
def rowD (r : Row) : D := .tup [tn r.1, .int r.2]
def tr (rows : List Row) : D := .tup (rows.map rowD)
def lr (rows : List Row) : D := .lst (rows.map rowD)
theorem at0_some {x : List Nat} {i : Nat} (h : i < x.length) : x[i]? = some (at0 x i) := by
  unfold at0
  rw [List.getD_eq_getElem?_getD, List.getElem?_eq_getElem h]
  rfl
@[simp] theorem q_rowD {k r} : q (k + 2) (rowD r) = true := by simp [rowD]
@[simp] theorem q_tr {k r} : q (k + 3) (tr r) = true := by
  unfold tr
  rw [q_tup]
  exact qs_map fun x _ => q_rowD
section
variable {h : Hs}
@[simp] theorem pk_rowD {x} {k : D → RE} : pk h (rowD x) k = k (rowD x) := id rfl
@[simp] theorem pk_tr {x} {k : D → RE} : pk h (tr x) k = k (tr x) := id rfl
@[simp] theorem pk_lr {x} {k : D → RE} : pk h (lr x) k = k (lr x) := id rfl
@[simp] theorem seqO_tr {x} : seqO (tr x) h = some (⟨x.map rowD, none⟩, h) := id rfl
@[simp] theorem seqO_lr {x} : seqO (lr x) h = some (⟨x.map rowD, none⟩, h) := id rfl
@[simp] theorem items_lr {x} : itemsOf (lr x) = some (x.map rowD) := id rfl
@[simp] theorem len_tr {x} : evLen (tr x) = some (.int x.length) := by simp [tr]
@[simp] theorem len_lr {x} : evLen (lr x) = some (.int x.length) := by simp [lr]
@[simp] theorem idx_tr {x} {i : Nat} : evIdx (tr x) (.int i) = x[i]?.map rowD := by simp [tr]
@[simp] theorem idx_lr {x} {i : Nat} : evIdx (lr x) (.int i) = x[i]?.map rowD := by simp [lr]
@[simp] theorem idx_row0 {r} : evIdx (rowD r) (.int 0) = some (tn r.1) := by simp [rowD]
@[simp] theorem idx_row1 {r} : evIdx (rowD r) (.int 1) = some (.int r.2) := by simp [rowD]
@[simp] theorem tuple_tr {x} : evTuple (tr x) = some (tr x) := id rfl
@[simp] theorem tuple_lr {x} : evTuple (lr x) = some (tr x) := id rfl
@[simp] theorem list_tr {x} : evList (tr x) = some (lr x) := id rfl
@[simp] theorem isL_lr {x} : isL (some (lr x)) = true := id rfl
@[simp] theorem noref_rowD {r} : noref (rowD r) = true := (q_noref.1 _ 2 q_rowD).1
@[simp] theorem noref_tr {r} : noref (tr r) = true := (q_noref.1 _ 3 q_tr).1
@[simp] theorem noref_lr {r} : noref (lr r) = true := (q_noref.1 _ 3 (q_tr (k := 0) (r := r))).1
@[simp] theorem nx_tr {r} : noX (tr r) = true := (q_noref.1 _ 3 q_tr).2.2
@[simp] theorem push_lr {n ds d} : pushK h n (rowD d) (some (lr ds)) = if ds.length < LIM then some (h.set n (.opn (lr (ds ++ [d])))) else none := by
  unfold lr
  rw [pushK_lst, List.map_append]
  simp only [List.length_map, List.map_cons, List.map_nil]
@[simp] theorem row_eq {x : List Nat} {a : Nat} : D.tup [tn x, .int a] = rowD (x, a) := id rfl
end
theorem rowD_inj {a b : Row} (h : rowD a = rowD b) : a = b := by
  unfold rowD at h
  injection h with h
  injection h with h1 h
  injection h with h2 _
  injection h2 with h2
  have := tn_inj' h1
  cases a; cases b
  simp_all
  omega
/-! ### the defs -/
variable {T : Tb} {N : Nn} {n : Nat} {h : Hs}
theorem is_below_ok (H : Has T N.f_is_below (B.is_below N)) {x y : List Nat} (hl : x.length ≤ y.length) (hm : x.length ≤ LIM) : evFn T (n + 1) N.f_is_below [tn x, tn y] h = .ok (.bl (bel x y)) h := by
  refine fn_eq H rfl rfl (by simp) (by simp) ?_
  simp only [B.is_below, B.b_is_below]
  simp [start]
  rw [rngO_0 hm]
  simp
  refine wp_range (fun i ρ h => ∃ o2, (∀ j < i, at0 x j = 0 ∨ at0 x j = at0 y j) ∧ ρ = [some (tn x), some (tn y), o2] ∧ h = []) ⟨_, by simp, rfl, rfl⟩ ?_ ?_
  · rintro ρ h ⟨o2, hb, rfl, rfl⟩
    simp [bel]
    exact hb
  · rintro i ρ h hi ⟨o2, hb, rfl, rfl⟩
    refine ⟨rfl, ?_⟩
    simp [at0_some hi, at0_some (Nat.lt_of_lt_of_le hi hl)]
    refine wp_iteS (fun c => ?_) (fun c => ?_)
    · simp [bel]
      exact ⟨i, hi, c.1, by omega⟩
    · simp
      intro j hj
      by_cases e : j = i
      · subst e
        omega
      · exact hb j (by omega)
theorem find_first {m : Nat} {p : Nat → Bool} {i : Nat} (hi : i < m) (hp : p i = true) (hb : ∀ j < i, p j = false) : (List.range m).find? p = some i := by
  rw [List.find?_range_eq_some]
  exact ⟨hp, by simpa using hi, fun j hj => by simp [hb j hj]⟩
def contr (x y : List Nat) : Option Nat := (List.range x.length).find? fun i => !decide (at0 x i = 0) && (!decide (at0 y i = 0) && !decide (at0 x i = at0 y i))
def optN : Option Nat → D
  | some i => .int i
  | none => .non
theorem contr_ok (H : Has T N.f_contradicting_place (B.contradicting_place N)) {x y : List Nat} (hl : x.length ≤ y.length) (hm : x.length ≤ LIM) : evFn T (n + 1) N.f_contradicting_place [tn x, tn y] h = .ok (optN (contr x y)) h := by
  refine fn_eq H rfl rfl (by simp) (by cases contr x y <;> rfl) ?_
  simp only [B.contradicting_place, B.b_contradicting_place]
  simp [start]
  rw [rngO_0 hm]
  simp
  refine wp_range (fun i ρ h => ∃ o2, (∀ j < i, (!decide (at0 x j = 0) && (!decide (at0 y j = 0) && !decide (at0 x j = at0 y j))) = false) ∧ ρ = [some (tn x), some (tn y), o2] ∧ h = []) ⟨_, by simp, rfl, rfl⟩ ?_ ?_
  · rintro ρ h ⟨o2, hb, rfl, rfl⟩
    have e : contr x y = none := by
      unfold contr
      rw [List.find?_eq_none]
      intro j hj
      rw [hb j (by simpa using hj)]
      simp
    simp [e, optN]
  · rintro i ρ h hi ⟨o2, hb, rfl, rfl⟩
    refine ⟨rfl, ?_⟩
    simp [at0_some hi, at0_some (Nat.lt_of_lt_of_le hi hl)]
    refine wp_iteS (fun c => ?_) (fun c => ?_)
    · have e : contr x y = some i := find_first hi (by simp; omega) hb
      simp [e, optN]
    · simp at hb ⊢
      intro j hj
      by_cases e : j = i
      · subst e
        omega
      · exact hb j (by omega)
theorem agree_ok (Hc : Has T N.f_contradicting_place (B.contradicting_place N)) (H : Has T N.f_agree (B.agree N)) {x y : List Nat} (hl : x.length ≤ y.length) (hm : x.length ≤ LIM) : evFn T (n + 2) N.f_agree [tn x, tn y] h = .ok (.bl (agr x y)) h := by
  refine fn_rt H.1 H.2 rfl rfl (by simp) (h' := []) ?_ rfl
  simp only [B.agree, B.b_agree]
  simp [start, contr_ok Hc hl hm]
  have e : agr x y = (contr x y).isNone := by
    rw [Bool.eq_iff_iff]
    simp [agr, contr]
    constructor
    · intro h i hi h1 h2
      rcases h i hi with z | z | z
      · exact absurd z h1
      · exact absurd z h2
      · exact z
    · intro h i hi
      by_cases c1 : at0 x i = 0
      · exact .inl c1
      · by_cases c2 : at0 y i = 0
        · exact .inr (.inl c2)
        · exact .inr (.inr (h i hi c1 c2))
  rw [e]
  cases contr x y <;> simp [optN]
theorem answered_ok (H : Has T N.f_answered_places (B.answered_places N)) {x : List Nat} (hm : x.length ≤ LIM) : evFn T (n + 1) N.f_answered_places [tn x] h = .ok (tn (ansd x)) h := by
  refine fn_rt H.1 H.2 rfl rfl (by simp) (h' := []) ?_ (by simp)
  simp only [B.answered_places, B.b_answered_places]
  simp [start]
  rw [rngO_0 hm]
  simp
  rw [compGo_N (p := fun i => !decide (at0 x i = 0)) (g := fun i => i) rfl ?_ (by simp) (by simpa using hm)]
  · simp [ansd]
  · intro i hi
    simp at hi
    simp [at0_some hi]
def NoClash (rows : List Row) : Prop := ∀ i j, (hi : i < rows.length) → (hj : j < rows.length) → i < j → rows[i].2 = rows[j].2 ∨ agr rows[i].1 rows[j].1 = false
theorem first_clash_ok (Hc : Has T N.f_contradicting_place (B.contradicting_place N)) (Ha : Has T N.f_agree (B.agree N)) (H : Has T N.f_first_clash (B.first_clash N)) {rows : List Row} {p : Nat} (hp : ∀ r ∈ rows, r.1.length = p) (hpm : p ≤ LIM) (hm : rows.length < LIM) (hn : NoClash rows) : evFn T (n + 3) N.f_first_clash [tr rows] h = .ok .non h := by
  refine fn_eq H rfl rfl (by simp) rfl ?_
  simp only [B.first_clash, B.b_first_clash]
  simp [start]
  rw [rngO_0 (by omega)]
  simp
  refine wp_range (fun i ρ h => ∃ o1 o2, ρ = [some (tr rows), o1, o2] ∧ h = []) ⟨_, _, rfl, rfl⟩ ?_ ?_
  · rintro ρ h ⟨o1, o2, rfl, rfl⟩
    simp
  · rintro i ρ h hi ⟨o1, o2, rfl, rfl⟩
    refine ⟨rfl, ?_⟩
    simp
    have e := rngO_nat (h := []) (a := i + 1) (b := rows.length) (by omega) (by omega)
    simp at e
    rw [e]
    simp
    refine wp_range' (m := rows.length) (fun j ρ h => ∃ o2, ρ = [some (tr rows), some (.int i), o2] ∧ h = []) (by omega) ⟨_, rfl, rfl⟩ ?_ ?_
    · rintro ρ h ⟨o2, rfl, rfl⟩
      simp
    · rintro j ρ h hj1 hj ⟨o2, rfl, rfl⟩
      refine ⟨rfl, ?_⟩
      have e1 : rows[i].1.length = p := hp _ (List.getElem_mem hi)
      have e2 : rows[j].1.length = p := hp _ (List.getElem_mem hj)
      have ea := agree_ok (n := n) (h := []) Hc Ha (x := rows[i].1) (y := rows[j].1) (by omega) (by omega)
      simp [hi, hj, ea]
      rcases hn i j hi hj (by omega) with z | z
      · simp [z]
      · simp [z]
theorem has_lower_ok (Hb : Has T N.f_is_below (B.is_below N)) (H : Has T N.f_has_lower (B.has_lower N)) {rows : List Row} {x : List Nat} (hp : ∀ r ∈ rows, r.1.length ≤ x.length) (hpm : x.length ≤ LIM) : evFn T (n + 2) N.f_has_lower [tr rows, tn x] h = .ok (.bl (hasLow rows x)) h := by
  refine fn_eq H rfl rfl (by simp) rfl ?_
  simp only [B.has_lower, B.b_has_lower]
  simp [start]
  refine wp_for (fun R ρ h => ∃ o2, (∀ r ∈ R, r ∈ rows) ∧ hasLow rows x = hasLow R x ∧ ρ = [some (tr rows), some (tn x), o2] ∧ h = []) ⟨_, fun _ h => h, rfl, rfl, rfl⟩ ?_ ?_
  · rintro ρ h ⟨o2, _, hb, rfl, rfl⟩
    simp
    rw [hb]
    rfl
  · rintro r R ρ h ⟨o2, hR, hb, rfl, rfl⟩
    have hr := hp r (hR r (List.mem_cons_self ..))
    refine ⟨rfl, ?_⟩
    simp [is_below_ok Hb hr (by omega)]
    refine wp_iteS (fun c => ?_) (fun c => ?_)
    · simp
      rw [hb]
      simp [hasLow]
      exact .inl c
    · simp
      refine ⟨fun a b hr => hR (a, b) (List.mem_cons_of_mem _ hr), ?_⟩
      rw [hb]
      simp [hasLow] at c ⊢
      intro c1 c2
      exact absurd (c c1) (by simp [c2])
end M
end

section
set_option Elab.async false
set_option linter.all false
set_option maxRecDepth 100000
/-! Box2: least rows; the class Box. -/
namespace M
theorem alk_tn (a b : List Nat) : alk (tn a) (tn b) = true := by
  have e := alk_prD a b
  have f : ∀ a : List Nat, toPy (prD a) = .tuple [.int a.length, toPy (tn a)] := fun a => by
    unfold prD
    simp only [toPy, toPys]
  unfold alk at e ⊢
  rw [f, f] at e
  simpa [PySem.W.alike, PySem.W.alikeAll] using e
@[simp] theorem in_dic {t x ks vs} : evIn x (.dic t ks vs) = if keyOk t x then some (decide (x ∈ ks)) else none := id rfl
def dkr (K : List Row) : D := .dic true (K.map fun r => tn r.1) (K.map fun r => .int r.2)
section
variable {h : Hs}
@[simp] theorem pk_dkr {x} {k : D → RE} : pk h (dkr x) k = k (dkr x) := id rfl
@[simp] theorem in_dkr {x K} : evIn (tn x) (dkr K) = some (decide (x ∈ K.map (·.1))) := by
  have e : tn x ∈ K.map (fun r => tn r.1) ↔ x ∈ K.map (·.1) := by
    rw [show K.map (fun r => tn r.1) = (K.map (·.1)).map tn by simp]
    exact mem_tns
  unfold dkr
  rw [in_dic, if_pos key_tn]
  simp only [e]
@[simp] theorem list_dkr {K} : evList (dkr K) = some (.lst (K.map fun r => tn r.1)) := id rfl
theorem put_dkr {K : List Row} {x : List Nat} {v : Nat} {n} (hx : x ∉ K.map (·.1)) (hl : K.length < LIM) : putK h n (tn x) (.int v) (some (dkr K)) = some (h.set n (.opn (dkr (K ++ [(x, v)])))) := by
  have e : tn x ∉ K.map (fun r => tn r.1) := by
    rw [show K.map (fun r => tn r.1) = (K.map (·.1)).map tn by simp]
    exact fun z => hx (mem_tns.mp z)
  unfold dkr
  rw [putK_dic, if_pos (by simp [hl]), dput_new (by simp) e]
  simp
theorem get_dkr {K : List Row} (hn : (K.map (·.1)).Nodup) {r : Row} (hr : r ∈ K) : evIdx (dkr K) (tn r.1) = some (.int r.2) := by
  unfold dkr
  rw [vIdx_dic, if_pos key_tn]
  induction K with
  | nil => simp at hr
  | cons a K ih =>
    simp at hn
    by_cases e : a.1 = r.1
    · rcases List.mem_cons.mp hr with rfl | hr'
      · simp [dget]
      · exact absurd hr' (by rw [e] at hn; exact fun z => hn.1 r.2 (by simpa using z))
    · have hr' : r ∈ K := (List.mem_cons.mp hr).resolve_left (fun z => e (by rw [z]))
      simp [dget, e]
      exact ih (by simpa using hn.2) hr'
end
theorem ddk_sub : ∀ {l acc : List Row} {x : Row}, x ∈ ddk acc l → x ∈ acc ∨ x ∈ l
  | [], acc, x, h => .inl (by simpa [ddk] using h)
  | y :: l, acc, x, h => by
    unfold ddk at h
    split at h
    · rcases ddk_sub h with h | h
      · exact .inl h
      · exact .inr (List.mem_cons_of_mem _ h)
    · rcases ddk_sub h with h | h
      · rcases List.mem_append.mp h with h | h
        · exact .inl h
        · exact .inr (by simp at h; simp [h])
      · exact .inr (List.mem_cons_of_mem _ h)
theorem ddk_nodup : ∀ {l acc : List Row}, (acc.map (·.1)).Nodup → ((ddk acc l).map (·.1)).Nodup
  | [], acc, h => by simpa [ddk] using h
  | y :: l, acc, h => by
    unfold ddk
    split
    · exact ddk_nodup h
    · rename_i hy
      refine ddk_nodup ?_
      rw [List.map_append, List.nodup_append]
      refine ⟨h, by simp, fun a ha b hb => ?_⟩
      simp at hb
      subst hb
      intro e
      subst e
      exact hy ha
theorem ddk_len : ∀ {l acc : List Row}, (ddk acc l).length ≤ acc.length + l.length
  | [], acc => by simp [ddk]
  | y :: l, acc => by
    unfold ddk
    split
    · have := ddk_len (l := l) (acc := acc); simp; omega
    · have := ddk_len (l := l) (acc := acc ++ [y]); simp at this; simp; omega
variable {T : Tb} {N : Nn} {n : Nat} {h : Hs}
theorem sort_keys {K : List Row} {p : Nat} (hp : ∀ r ∈ K, r.1.length = p) (hn : (K.map (·.1)).Nodup) (hm : K.length ≤ LIM) : evSorted (K.map fun r => tn r.1) = some ((K.mergeSort leX).map fun r => tn r.1) := by
  by_cases c : K.length ≤ 1
  · have e : evSorted (K.map fun r => tn r.1) = some (K.map fun r => tn r.1) := by
      unfold evSorted
      rw [if_pos (by simpa using c)]
    rw [e]
    match K, c with
    | [], _ => simp
    | [x], _ => simp
    | _ :: _ :: _, c => simp at c
  · have hp0 : 0 < p := by
      match K, c with
      | [], c => simp at c
      | [x], c => simp at c
      | x :: y :: K, _ =>
        have h1 := hp x (by simp)
        have h2 := hp y (by simp)
        cases p with
        | succ p => omega
        | zero =>
          simp at hn
          exact absurd (by rw [List.length_eq_zero_iff.mp h1, List.length_eq_zero_iff.mp h2]) hn.1.1
    rw [evSorted_tups (by simpa using hm) (qs_map fun x _ => q_tn) ?_ ?_, sortD_map]
    · rfl
    · intro x hx
      obtain ⟨r, hr, rfl⟩ := List.mem_map.mp hx
      have := hp r hr
      unfold tn
      match r.1, this with
      | [], h => simp at h; omega
      | a :: l, _ => rfl
    · intro x hx y hy
      obtain ⟨r, hr, rfl⟩ := List.mem_map.mp hx
      obtain ⟨s, hs, rfl⟩ := List.mem_map.mp hy
      exact alk_tn _ _
theorem least_rows_ok (Hb : Has T N.f_is_below (B.is_below N)) (Hh : Has T N.f_has_lower (B.has_lower N)) (H : Has T N.f_least_rows (B.least_rows N)) {rows : List Row} {p : Nat} (hp : ∀ r ∈ rows, r.1.length = p) (hpm : p ≤ LIM) (hm : rows.length < LIM) : evFn T (n + 3) N.f_least_rows [tr rows] h = .ok (tr (leastR rows)) h := by
  refine fn_eq H rfl rfl (by simp) (by simp) ?_
  simp only [B.least_rows, B.b_least_rows]
  simp [start]
  refine wp_for (fun R ρ h => ∃ K o2, (∀ r ∈ R, r ∈ rows) ∧ K.length + R.length ≤ rows.length ∧ ddk K (R.filter fun r => !hasLow rows r.1) = ddk [] (rows.filter fun r => !hasLow rows r.1) ∧ ρ = [some (tr rows), some (.ref 0), o2, none] ∧ h = [.opn (dkr K)]) ⟨[], _, fun _ h => h, by simp, rfl, rfl, rfl⟩ ?_ ?_
  · rintro ρ h ⟨K, o2, _, hlen, hd, rfl, rfl⟩
    have hd : K = ddk [] (rows.filter fun r => !hasLow rows r.1) := by rw [← hd]; rfl
    have hKn : (K.map (·.1)).Nodup := by rw [hd]; exact ddk_nodup (by simp)
    have hKr : ∀ r ∈ K, r.1.length = p := fun r hr => by
      rw [hd] at hr
      rcases ddk_sub hr with z | z
      · simp at z
      · exact hp r ((List.mem_filter.mp z).1)
    have hKl : K.length ≤ LIM := by simp at hlen; omega
    simp
    rw [sort_keys hKr hKn hKl]
    simp
    rw [compGo_all (g := rowD) rfl (by simp) ?_ (by simpa using hKl)]
    · simp
      have e : leastR rows = K.mergeSort leX := by rw [hd]; rfl
      rw [e]
      rfl
    · intro r hr
      have := get_dkr hKn (r := r) (by simpa using hr)
      simp [this]
  · rintro r R ρ h ⟨K, o2, hR, hlen, hd, rfl, rfl⟩
    have hrm := hR r (List.mem_cons_self ..)
    have e := has_lower_ok (n := n) (h := [.opn (dkr K)]) Hb Hh (rows := rows) (x := r.1) (fun s hs => by rw [hp s hs, hp r hrm]; exact Nat.le_refl _) (by rw [hp r hrm]; exact hpm)
    have hR' : ∀ (a : List Nat) (b : Nat), (a, b) ∈ R → (a, b) ∈ rows := fun a b hr => hR (a, b) (List.mem_cons_of_mem _ hr)
    simp only [List.length_cons] at hlen
    have hLim : K.length < LIM := by omega
    refine ⟨rfl, ?_⟩
    simp
    by_cases c1 : r.1 ∈ K.map (·.1)
    · have c1' := c1
      simp at c1'
      simp [c1']
      refine ⟨hR', K, by omega, ?_, rfl⟩
      rw [← hd, List.filter_cons]
      split
      · rw [ddk, if_pos c1]
      · rfl
    · have c1' := c1
      simp at c1'
      simp [c1', e]
      by_cases c2 : hasLow rows r.1 = true
      · simp [c2]
        refine ⟨hR', K, by omega, ?_, rfl⟩
        rw [← hd, List.filter_cons, c2]
        rfl
      · simp [c2, put_dkr c1 hLim]
        refine ⟨hR', K ++ [r], by simp; omega, ?_, rfl⟩
        have c2' : hasLow rows r.1 = false := by simpa using c2
        rw [← hd, List.filter_cons, c2']
        simp only [Bool.not_false, if_true]
        rw [ddk, if_neg c1]
end M
end

section
set_option Elab.async false
set_option linter.all false
set_option maxRecDepth 100000
/-! Box3: a Box made, called. -/
namespace M
def fldK (T : Tb) (h : Hs) (n k : Nat) (d : D) : Option D → Option Hs
  | some (.ins c as vs) => (T.cls[c]?).bind fun C => if C.exc = false ∧ k ∈ C.flds ∧ as.length < 900 then some (h.set n (.opn (.ins c (putFld as vs k d).1 (putFld as vs k d).2))) else none
  | _ => none
@[simp] theorem storeFld_ref {T h n k d} : storeFld T h (.ref n) k d = fldK T h n k d (cont h n) := by
  show (match cont h n with
    | some (.ins c as vs) => (T.cls[c]?).bind fun C => if C.exc = false ∧ k ∈ C.flds ∧ as.length < 900 then some (h.set n (.opn (.ins c (putFld as vs k d).1 (putFld as vs k d).2))) else none
    | _ => none) = _
  cases cont h n with
  | none => rfl
  | some w => cases w <;> rfl
theorem fldK_ins {T h n k d c as vs C} (hc : T.cls[c]? = some C) (h1 : C.exc = false) (h2 : k ∈ C.flds) (h3 : as.length < 900) : fldK T h n k d (some (.ins c as vs)) = some (h.set n (.opn (.ins c (putFld as vs k d).1 (putFld as vs k d).2))) := by
  unfold fldK
  simp [hc, h1, h2, h3]
theorem evFld_ins {T k c as vs C} (hc : T.cls[c]? = some C) (h1 : C.exc = false) (h2 : k ∈ C.flds) : evFld T (.ins c as vs) k = fldOf as vs k := by
  unfold evFld
  simp [hc, h1, h2]
theorem make_wp {T : Tb} {n c : Nat} {F : Fn} {Cl : Cl} {ws : List D} {h : Hs} {Q : D → Prop} (hc : T.cls[c]? = some Cl) (H : Has T Cl.ini F) (hp : F.pure = false) (hl : ws.length + 1 = F.np) (hn : norefs ws = true)
    (hb : Wp (evSs T (evFn T n) F.body (start F.ns (.ref 0 :: ws)) [.opn (.ins c [] [])]) fun r => ∃ ρ' h' d, r = .nx ρ' h' ∧ cont h' 0 = some d ∧ noref d = true ∧ Q d) : ∃ d, evFn T (n + 2) (1000000 + c) ws h = .ok d h ∧ Q d := by
  obtain ⟨ρ', h', d, e, e2, hd, hq⟩ := hb
  refine ⟨d, ?_, hq⟩
  have e3 : evFn T (n + 1) Cl.ini (.ref 0 :: ws) [.opn (.ins c [] [])] = .ok .non h' := by
    unfold evFn
    rw [if_pos (of_decide_eq_true H.2), H.1]
    dsimp only
    unfold runFn
    rw [if_pos (by simpa using hl), hp]
    dsimp only
    rw [e]
    rfl
  unfold evFn
  rw [if_neg (by omega), show 1000000 + c - 1000000 = c by omega, hc]
  dsimp only
  unfold mkFn
  rw [lend_nr hn]
  dsimp only
  rw [e3]
  unfold mkRes
  dsimp only
  rw [e2]
  simp [okRes, hd]
theorem make_exc {T : Tb} {n c : Nat} {F : Fn} {Cl : Cl} {ws : List D} {h : Hs} {x : Nat} {vs : List D} (hc : T.cls[c]? = some Cl) (H : Has T Cl.ini F) (hp : F.pure = false) (hl : ws.length + 1 = F.np) (hn : norefs ws = true) (hv : norefs vs = true)
    (hb : Wp (evSs T (evFn T n) F.body (start F.ns (.ref 0 :: ws)) [.opn (.ins c [] [])]) fun r => ∃ ρ' h', r = .exc x vs ρ' h') : evFn T (n + 2) (1000000 + c) ws h = .exc x vs h := by
  obtain ⟨ρ', h', e⟩ := hb
  have e3 : evFn T (n + 1) Cl.ini (.ref 0 :: ws) [.opn (.ins c [] [])] = .exc x vs h' := by
    unfold evFn
    rw [if_pos (of_decide_eq_true H.2), H.1]
    dsimp only
    unfold runFn
    rw [if_pos (by simpa using hl), hp]
    dsimp only
    rw [e]
    rfl
  unfold evFn
  rw [if_neg (by omega), show 1000000 + c - 1000000 = c by omega, hc]
  dsimp only
  unfold mkFn
  rw [lend_nr hn]
  dsimp only
  rw [e3]
  unfold mkRes
  simp [okRess, hv]
structure BoxFns (T : Tb) (N : Nn) : Prop where
  is_below : Has T N.f_is_below (B.is_below N)
  contradicting_place : Has T N.f_contradicting_place (B.contradicting_place N)
  agree : Has T N.f_agree (B.agree N)
  answered_places : Has T N.f_answered_places (B.answered_places N)
  first_clash : Has T N.f_first_clash (B.first_clash N)
  has_lower : Has T N.f_has_lower (B.has_lower N)
  least_rows : Has T N.f_least_rows (B.least_rows N)
  init : Has T N.f_Box___init__ (B.Box___init__ N)
  call : Has T N.f_Box___call__ (B.Box___call__ N)
  cls : ∃ C, T.cls[N.c_Box]? = some C ∧ C.ini = N.f_Box___init__ ∧ C.exc = false ∧ C.mets.lookup 0 = some N.f_Box___call__ ∧ N.a_answers ∈ C.flds ∧ N.a_places ∈ C.flds ∧ N.a_least ∈ C.flds ∧ N.a_kinds ∈ C.flds
  ne1 : N.a_answers ≠ N.a_places
  ne2 : N.a_answers ≠ N.a_least
  ne3 : N.a_answers ≠ N.a_kinds
  ne4 : N.a_places ≠ N.a_least
  ne5 : N.a_places ≠ N.a_kinds
  ne6 : N.a_least ≠ N.a_kinds
def kindsOf (answers : Nat) (least : List Row) : List Nat := (List.range' 1 answers).filter fun a => decide (a ∈ least.map (·.2))
def boxD (N : Nn) (answers places : Nat) (least : List Row) : D := .ins N.c_Box [N.a_answers, N.a_places, N.a_least, N.a_kinds] [.int answers, .int places, tr least, tn (kindsOf answers least)]
section
variable {N : Nn} {a p : Nat} {L : List Row} {h : Hs}
@[simp] theorem pk_boxD {k : D → RE} : pk h (boxD N a p L) k = k (boxD N a p L) := id rfl
@[simp] theorem noref_boxD : noref (boxD N a p L) = true := by simp [boxD]
@[simp] theorem noX_boxD : noX (boxD N a p L) = true := by simp [boxD]
variable {T : Tb}
theorem fld_least (H : BoxFns T N) : evFld T (boxD N a p L) N.a_least = some (tr L) := by
  obtain ⟨C, h1, h2, h3, h4, h5, h6, h7, h8⟩ := H.cls
  unfold boxD
  rw [evFld_ins h1 h3 h7]
  simp [fldOf, H.ne2, H.ne4]
theorem fld_answers (H : BoxFns T N) : evFld T (boxD N a p L) N.a_answers = some (.int a) := by
  obtain ⟨C, h1, h2, h3, h4, h5, h6, h7, h8⟩ := H.cls
  unfold boxD
  rw [evFld_ins h1 h3 h5]
  simp [fldOf]
theorem fld_places (H : BoxFns T N) : evFld T (boxD N a p L) N.a_places = some (.int p) := by
  obtain ⟨C, h1, h2, h3, h4, h5, h6, h7, h8⟩ := H.cls
  unfold boxD
  rw [evFld_ins h1 h3 h6]
  simp [fldOf, H.ne1]
theorem fld_kinds (H : BoxFns T N) : evFld T (boxD N a p L) N.a_kinds = some (tn (kindsOf a L)) := by
  obtain ⟨C, h1, h2, h3, h4, h5, h6, h7, h8⟩ := H.cls
  unfold boxD
  rw [evFld_ins h1 h3 h8]
  simp [fldOf, H.ne3, H.ne5, H.ne6]
end
variable {T : Tb} {N : Nn} {n : Nat} {h : Hs}
theorem box_call_ok (H : BoxFns T N) {a p : Nat} {L : List Row} {x : List Nat} (hp : ∀ r ∈ L, r.1.length ≤ x.length) (hx : x.length ≤ LIM) : evFn T (n + 2) N.f_Box___call__ [boxD N a p L, tn x] h = .ok (.int (valB L x : Nat)) h := by
  refine fn_eq H.call rfl rfl (by simp) rfl ?_
  simp only [B.Box___call__, B.b_Box___call__]
  simp [start, fld_least H]
  refine wp_for (fun R ρ h => ∃ o2, (∀ r ∈ R, r ∈ L) ∧ valB L x = valB R x ∧ ρ = [some (boxD N a p L), some (tn x), o2] ∧ h = []) ⟨_, fun _ h => h, rfl, rfl, rfl⟩ ?_ ?_
  · rintro ρ h ⟨o2, _, hb, rfl, rfl⟩
    simp
    rw [hb]
    rfl
  · rintro r R ρ h ⟨o2, hR, hb, rfl, rfl⟩
    have hr := hp r (hR r (List.mem_cons_self ..))
    refine ⟨rfl, ?_⟩
    simp [is_below_ok H.is_below hr (by omega)]
    refine wp_iteS (fun c => ?_) (fun c => ?_)
    · simp
      rw [hb]
      simp [valB, c]
    · simp
      refine ⟨fun a b hr => hR (a, b) (List.mem_cons_of_mem _ hr), ?_⟩
      rw [hb]
      simp [valB, c]
@[simp] theorem insK_box {a p : Nat} {L : List Row} {k : Nat → RE} : insK (boxD N a p L) k = k N.c_Box := id rfl
theorem metK_box (H : BoxFns T N) {k : Nat → RE} : metK T N.c_Box 0 k = k N.f_Box___call__ := by
  obtain ⟨C, h1, h2, h3, h4, h5, h6, h7, h8⟩ := H.cls
  exact metK_of h1 h4
theorem box_make_ok (H : BoxFns T N) {a p : Nat} {rows : List Row} (hp : ∀ r ∈ rows, r.1.length = p) (hpm : p ≤ LIM) (hm : rows.length < LIM) (ha : a < LIM) (hn : NoClash rows) : evFn T (n + 5) (1000000 + N.c_Box) [.int a, .int p, tr rows] h = .ok (boxD N a p (leastR rows)) h := by
  obtain ⟨C, h1, h2, h3, h4, h5, h6, h7, h8⟩ := H.cls
  have Hi : Has T C.ini (B.Box___init__ N) := by rw [h2]; exact H.init
  have key : ∃ d, evFn T (n + 5) (1000000 + N.c_Box) [.int a, .int p, tr rows] h = .ok d h ∧ d = boxD N a p (leastR rows) := by
    refine make_wp (n := n + 3) h1 Hi rfl rfl (by simp) ?_
    simp only [B.Box___init__, B.b_Box___init__]
    simp [start]
    rw [first_clash_ok (n := n) H.contradicting_place H.agree H.first_clash hp hpm hm hn]
    have hL : (leastR rows).length ≤ rows.length := by
      unfold leastR
      rw [List.length_mergeSort]
      exact Nat.le_trans ddk_len (by simpa using List.length_filter_le _ _)
    have er := rngO_nat (h := [.opn (.ins N.c_Box [N.a_answers, N.a_places, N.a_least] [.int a, .int p, tr (leastR rows)])]) (a := 1) (b := a + 1) (by omega) (by decide)
    simp at er
    simp [fldK_ins h1 h3 h5, fldK_ins h1 h3 h6, fldK_ins h1 h3 h7, fldK_ins h1 h3 h8, putFld, H.ne1, H.ne2, H.ne3, H.ne4, H.ne5, H.ne6, least_rows_ok (n := n) H.is_below H.has_lower H.least_rows hp hpm hm, evFld_ins h1 h3 h7, fldOf, er]
    rw [compGo_aN (g := fun r => r.2) rfl (by simp) (by simp) (by omega)]
    simp [er]
    rw [compGo_N (p := fun j => decide (j ∈ (leastR rows).map (·.2))) (g := fun j => j) rfl (by simp) (by simp) (by simp; omega)]
    simp [fldK_ins h1 h3 h8, putFld, H.ne1, H.ne2, H.ne3, H.ne4, H.ne5, H.ne6, boxD, kindsOf]
    exact ⟨_, _, ⟨rfl, rfl⟩, rfl⟩
  obtain ⟨d, e, rfl⟩ := key
  exact e
end M
end

section
set_option Elab.async false
set_option linter.all false
set_option maxRecDepth 100000
/-! Vote: votes by quorums, enough and stopping sets: the package's defs. -/
namespace M
/-! ### plain -/
def qin (m : Nat) (s : List Nat) (a : Nat) : List Nat := (List.range m).map fun j => if j ∈ s then a else 0
def voteRows (answers m : Nat) (F : List (List Nat)) : List Row := (leastF F).flatMap fun s => (List.range' 1 answers).map fun a => (qin m s a, a)
def Crossing (F : List (List Nat)) : Prop := ∀ a ∈ F, ∀ b ∈ F, meetB a b = true
def enough (L : List Row) (x : List Nat) : List (List Nat) := (L.filter fun r => bel r.1 x).map fun r => ansd r.1
variable {T : Tb} {N : Nn} {n : Nat} {h : Hs}
structure VoteFns (T : Tb) (N : Nn) : Prop where
  fam : FamFns T N
  box : BoxFns T N
  first_apart : Has T N.f_first_apart (B.first_apart N)
  quorum_input : Has T N.f_quorum_input (B.quorum_input N)
  quorum_box : Has T N.f_quorum_box (B.quorum_box N)
theorem first_apart_ok (Hc : Has T N.f_have_common (B.have_common N)) (H : Has T N.f_first_apart (B.first_apart N)) {F : List (List Nat)} (hl : F.length < LIM) (hF : ∀ a ∈ F, a.length ≤ LIM) (hc : Crossing F) : evFn T (n + 2) N.f_first_apart [tt F] h = .ok .non h := by
  refine fn_eq H rfl rfl (by simp) rfl ?_
  simp only [B.first_apart, B.b_first_apart]
  simp [start]
  rw [rngO_0 (by omega)]
  simp
  refine wp_range (fun i ρ h => ∃ o1 o2, ρ = [some (tt F), o1, o2] ∧ h = []) ⟨_, _, rfl, rfl⟩ ?_ ?_
  · rintro ρ h ⟨o1, o2, rfl, rfl⟩
    simp
  · rintro i ρ h hi ⟨o1, o2, rfl, rfl⟩
    refine ⟨rfl, ?_⟩
    simp
    have e := rngO_nat (h := []) (a := i + 1) (b := F.length) (by omega) (by omega)
    simp at e
    rw [e]
    simp
    refine wp_range' (m := F.length) (fun j ρ h => ∃ o2, ρ = [some (tt F), some (.int i), o2] ∧ h = []) (by omega) ⟨_, rfl, rfl⟩ ?_ ?_
    · rintro ρ h ⟨o2, rfl, rfl⟩
      simp
    · rintro j ρ h hj1 hj ⟨o2, rfl, rfl⟩
      refine ⟨rfl, ?_⟩
      have ea := have_common_ok (n := n) (h := []) Hc (a := F[i]) (b := F[j]) (hF _ (List.getElem_mem hi))
      simp [hi, hj, ea, hc _ (List.getElem_mem hi) _ (List.getElem_mem hj)]
theorem quorum_input_ok (H : Has T N.f_quorum_input (B.quorum_input N)) {m a : Nat} {s : List Nat} (hm : m ≤ LIM) : evFn T (n + 1) N.f_quorum_input [.int m, tn s, .int a] h = .ok (tn (qin m s a)) h := by
  refine fn_rt H.1 H.2 rfl rfl (by simp) (h' := []) ?_ (by simp)
  simp only [B.quorum_input, B.b_quorum_input]
  simp [start]
  rw [rngO_0 hm]
  simp
  rw [compGo_aN (g := fun j => if j ∈ s then a else 0) rfl (by simp) ?_ (by simpa using hm)]
  · simp [qin]
  · intro j _
    simp
    split <;> simp
theorem quorum_box_ok (H : VoteFns T N) {a m : Nat} {F : List (List Nat)} (hl : F.length ≤ 4096) (hF : ∀ s ∈ F, s.length ≤ LIM) (hm : m ≤ LIM) (ha : a ≤ 100) (hc : Crossing F) (hn : NoClash (voteRows a m F)) : evFn T (n + 6) N.f_quorum_box [.int a, .int m, tt F] h = .ok (boxD N a m (leastR (voteRows a m F))) h := by
  refine fn_eq H.quorum_box rfl rfl (by simp) (by simp) ?_
  simp only [B.quorum_box, B.b_quorum_box]
  have e1 := first_apart_ok (n := n + 3) (h := []) H.fam.have_common H.first_apart (F := F) (by unfold LIM; omega) hF hc
  have e2 := least_family_ok (n := n + 3) (h := [.opn (lr [])]) H.fam.contains_all H.fam.size_order H.fam.least_family (F := F) (by unfold LIM; omega) hF
  have hr : (voteRows a m F).length = (leastF F).length * a := by
    unfold voteRows
    generalize leastF F = G
    induction G with
    | nil => simp
    | cons s G ih => simp [ih]; rw [Nat.add_mul]; omega
  have hr2 : (leastF F).length * a ≤ 4096 * 100 := Nat.mul_le_mul (Nat.le_trans (leastF_len F) hl) ha
  simp [start, e1]
  have e2' : evFn T (n + 5) N.f_least_family [tt F] [.opn (.lst [])] = .ok (tt (leastF F)) [.opn (.lst [])] := e2
  simp [e2']
  refine wp_for (fun R ρ h => ∃ done o5 o6, done ++ R = leastF F ∧ ρ = [some (.int a), some (.int m), some (tt F), some .non, some (.ref 0), o5, o6] ∧ h = [.opn (lr (done.flatMap fun s => (List.range' 1 a).map fun a => (qin m s a, a)))]) ⟨[], _, _, rfl, rfl, rfl⟩ ?_ ?_
  · rintro ρ h ⟨done, o5, o6, hd, rfl, rfl⟩
    simp at hd
    subst hd
    have e3 := fun h => box_make_ok (n := n) (h := h) H.box (a := a) (p := m) (rows := voteRows a m F) (by
      intro r hr
      unfold voteRows at hr
      simp only [List.mem_flatMap, List.mem_map] at hr
      obtain ⟨s, _, b, _, rfl⟩ := hr
      simp [qin]) hm (by rw [hr]; unfold LIM; omega) (by unfold LIM; omega) hn
    unfold voteRows at e3 ⊢
    simp [e3]
  · rintro s R ρ h ⟨done, o5, o6, hd, rfl, rfl⟩
    refine ⟨rfl, ?_⟩
    simp
    have er := fun h => rngO_nat (h := h) (a := 1) (b := a + 1) (by unfold LIM; omega) (by decide)
    simp at er
    simp [er]
    refine wp_range' (m := a + 1) (fun i ρ h => ∃ o6, 1 ≤ i ∧ ρ = [some (.int a), some (.int m), some (tt F), some .non, some (.ref 0), some (tn s), o6] ∧ h = [.opn (lr ((done.flatMap fun s => (List.range' 1 a).map fun a => (qin m s a, a)) ++ (List.range' 1 (i - 1)).map fun a => (qin m s a, a)))]) (by omega) ⟨_, Nat.le_refl _, rfl, by simp⟩ ?_ ?_
    · rintro ρ h ⟨o6, _, rfl, rfl⟩
      simp
      exact ⟨done ++ [s], by simpa using hd, by simp⟩
    · rintro i ρ h hi1 hi ⟨o6, _, rfl, rfl⟩
      refine ⟨rfl, ?_⟩
      simp [quorum_input_ok H.quorum_input hm]
      have hs : (done.map fun _ => a).sum = done.length * a := by
        clear hd
        induction done with
        | nil => simp
        | cons s G ih => simp [ih]; rw [Nat.add_mul]; omega
      have hdl : done.length ≤ (leastF F).length := by rw [← hd]; simp
      have h3 : done.length * a ≤ 4096 * 100 := Nat.mul_le_mul (Nat.le_trans hdl (Nat.le_trans (leastF_len F) hl)) ha
      rw [hs, if_pos (by unfold LIM; omega)]
      have er2 : List.range' 1 i = List.range' 1 (i - 1) ++ [i] := by
        have := List.range'_1_concat (s := 1) (n := i - 1)
        rw [show i - 1 + 1 = i by omega, show 1 + (i - 1) = i by omega] at this
        exact this
      rw [er2]
      simp
structure EnoughFns (T : Tb) (N : Nn) : Prop where
  fam : FamFns T N
  box : BoxFns T N
  enough_sets : Has T N.f_enough_sets (B.enough_sets N)
  stopping_sets : Has T N.f_stopping_sets (B.stopping_sets N)
theorem ansd_len {x} : (ansd x).length ≤ x.length := by
  unfold ansd
  refine Nat.le_trans (List.length_filter_le _ _) ?_
  simp
theorem enough_lens {L : List Row} {x s : List Nat} (hp : ∀ r ∈ L, r.1.length ≤ x.length) (hs : s ∈ enough L x) : s.length ≤ x.length := by
  unfold enough at hs
  obtain ⟨r, hr, rfl⟩ := List.mem_map.mp hs
  exact Nat.le_trans ansd_len (hp r (List.mem_filter.mp hr).1)
theorem enough_sets_ok (H : EnoughFns T N) {a p : Nat} {L : List Row} {x : List Nat} (hp : ∀ r ∈ L, r.1.length ≤ x.length) (hx : x.length ≤ LIM) (hL : L.length < LIM) (hne : enough L x ≠ []) : evFn T (n + 3) N.f_enough_sets [boxD N a p L, tn x] h = .ok (tt (leastF (enough L x))) h := by
  refine fn_rt H.enough_sets.1 H.enough_sets.2 rfl rfl (by simp) (h' := []) ?_ (by simp)
  simp only [B.enough_sets, B.b_enough_sets]
  simp [start, fld_least H.box]
  rw [compGo_T (p := fun r => bel r.1 x) (g := fun r => ansd r.1) rfl ?_ ?_ (by omega)]
  · have hne' : ¬ (decide (((L.filter fun r => bel r.1 x).length : Int) = 0) = true) := by
      intro z
      apply hne
      unfold enough
      have z := of_decide_eq_true z
      have z2 : (L.filter fun r => bel r.1 x).length = 0 := by omega
      rw [List.length_eq_zero_iff.mp z2]
      rfl
    simp
    rw [if_neg hne']
    unfold enough
    simp
    have el : (enough L x).length ≤ L.length := by
      unfold enough
      rw [List.length_map]
      exact List.length_filter_le _ _
    have e := least_family_ok (n := n) (h := []) H.fam.contains_all H.fam.size_order H.fam.least_family (F := enough L x) (by omega) (fun s hs => Nat.le_trans (enough_lens hp hs) hx)
    unfold enough at e
    simp [e]
  · intro r hr
    have := hp r hr
    simp [is_below_ok H.box.is_below this (by omega)]
  · intro r hr _
    have := hp r hr
    simp [answered_ok H.box.answered_places (show r.1.length ≤ LIM by omega)]
theorem enough_sets_no (H : EnoughFns T N) {a p : Nat} {L : List Row} {x : List Nat} {C : Cl} (hC : T.cls[N.c_NoAnswer]? = some C) (hC2 : C.exc = true) (hC3 : C.flds.length = 1) (hp : ∀ r ∈ L, r.1.length ≤ x.length) (hx : x.length ≤ LIM) (hL : L.length < LIM) (hne : enough L x = []) : evFn T (n + 3) N.f_enough_sets [boxD N a p L, tn x] h = .exc N.c_NoAnswer [tn x] h := by
  refine fn_exc H.enough_sets.1 H.enough_sets.2 rfl rfl (by simp) (ρ := [some (boxD N a p L), some (tn x), some (lt []), none]) (h' := []) ?_ (by simp)
  simp only [B.enough_sets, B.b_enough_sets]
  simp [start, fld_least H.box]
  rw [compGo_T (p := fun r => bel r.1 x) (g := fun r => ansd r.1) rfl ?_ ?_ (by omega)]
  · have hne' : (L.filter fun r => bel r.1 x).map (fun r => ansd r.1) = [] := hne
    rw [hne']
    simp [exOk, hC, hC2, hC3]
  · intro r hr
    have := hp r hr
    simp [is_below_ok H.box.is_below this (by omega)]
  · intro r hr _
    have := hp r hr
    simp [answered_ok H.box.answered_places (show r.1.length ≤ LIM by omega)]
theorem ex_min' {G : List (List Nat)} (h : G ≠ []) : ∃ s, s ∈ G ∧ ∀ t ∈ G, s.length ≤ t.length := by
  induction G with
  | nil => exact absurd rfl h
  | cons a G ih =>
    by_cases c : G = []
    · subst c
      exact ⟨a, by simp, by simp⟩
    · obtain ⟨s, hs, h2⟩ := ih c
      by_cases d : a.length ≤ s.length
      · exact ⟨a, by simp, fun t ht => by
          rcases List.mem_cons.mp ht with rfl | ht
          · exact Nat.le_refl _
          · exact Nat.le_trans d (h2 t ht)⟩
      · exact ⟨s, by simp [hs], fun t ht => by
          rcases List.mem_cons.mp ht with rfl | ht
          · omega
          · exact h2 t ht⟩
theorem stopping_sets_ok (H : EnoughFns T N) {a p m : Nat} {L : List Row} {x : List Nat} (hp : ∀ r ∈ L, r.1.length ≤ x.length) (hx : x.length ≤ m) (hm : m ≤ 12) (hL : L.length ≤ 4096) (hne : enough L x ≠ []) (h0 : [] ∉ enough L x) (hlf : leastF (enough L x) ≠ []) : evFn T (n + 4) N.f_stopping_sets [boxD N a p L, tn x] h = .ok (tt (leastF (hits (leastF (enough L x)) (subs (topOf (leastF (enough L x)) + 1))))) h := by
  refine fn_rt H.stopping_sets.1 H.stopping_sets.2 rfl rfl (by simp) (h' := []) ?_ (by simp)
  simp only [B.stopping_sets, B.b_stopping_sets]
  have e := enough_sets_ok (n := n) (h := []) (a := a) (p := p) H hp (by unfold LIM; omega) (by unfold LIM; omega) hne
  have h0' : [] ∉ leastF (enough L x) := fun z => h0 (mem_leastF.mp z).1
  have hlen : ∀ s ∈ leastF (enough L x), s.length ≤ m := fun s hs => Nat.le_trans (enough_lens hp (mem_leastF.mp hs).1) hx
  have hel : ∀ s ∈ leastF (enough L x), ∀ j ∈ s, j < m := by
    intro s hs j hj
    have hs := (mem_leastF.mp hs).1
    unfold enough at hs
    obtain ⟨r, hr, rfl⟩ := List.mem_map.mp hs
    have := hp r (List.mem_filter.mp hr).1
    simp [ansd] at hj
    omega
  have hl : (leastF (enough L x)).length ≤ 4096 := by
    refine Nat.le_trans (leastF_len _) ?_
    unfold enough
    rw [List.length_map]
    exact Nat.le_trans (List.length_filter_le _ _) hL
  have hfl : (leastF (enough L x)).flatten ≠ [] := by
    intro z
    obtain ⟨s, hs⟩ := List.exists_mem_of_ne_nil _ hlf
    have e := List.flatten_eq_nil_iff.mp z s hs
    subst e
    exact h0' hs
  have e2 := blockers_ok (n := n) (h := []) H.fam hm hel hlen hl hfl
  simp [start, e, h0', e2]
end M
end

section
set_option Elab.async false
set_option linter.all false
set_option maxRecDepth 100000
/-! Berge: sets that meet all; twice gives the least ones back. Plain. -/
namespace M
/-- a set: ascending -/
def Can (s : List Nat) : Prop := s.Pairwise (· < ·)
theorem Can.nodup {s : List Nat} (h : Can s) : s.Nodup := List.Pairwise.imp (fun z => Nat.ne_of_lt z) h
theorem can_ext {a b : List Nat} (ha : Can a) (hb : Can b) (h : ∀ j, j ∈ a ↔ j ∈ b) : a = b := by
  refine List.Perm.eq_of_pairwise (le := fun x y : Nat => x < y) (fun x y _ _ h1 h2 => ?_) ha hb ?_
  · omega
  · rw [List.perm_ext_iff_of_nodup ha.nodup hb.nodup]
    exact h
theorem Can.filter {s : List Nat} (h : Can s) (p : Nat → Bool) : Can (s.filter p) := List.Pairwise.filter p h
theorem can_range (m) : Can (List.range m) := List.pairwise_lt_range
theorem subB_iff {a b : List Nat} : subB a b = true ↔ ∀ j ∈ a, j ∈ b := by simp [subB]
theorem meetB_iff {a b : List Nat} : meetB a b = true ↔ ∃ j, j ∈ a ∧ j ∈ b := by simp [meetB]
theorem meetB_comm {a b : List Nat} : meetB a b = meetB b a := by
  rw [Bool.eq_iff_iff, meetB_iff, meetB_iff]
  exact ⟨fun ⟨j, h1, h2⟩ => ⟨j, h2, h1⟩, fun ⟨j, h1, h2⟩ => ⟨j, h2, h1⟩⟩
theorem can_anti {a b : List Nat} (ha : Can a) (hb : Can b) (h1 : ∀ j ∈ a, j ∈ b) (h2 : ∀ j ∈ b, j ∈ a) : a = b := can_ext ha hb fun j => ⟨h1 j, h2 j⟩
theorem can_len {a b : List Nat} (ha : Can a) (hb : Can b) (h : ∀ j ∈ a, j ∈ b) (hne : a ≠ b) : a.length < b.length := by
  have e : b.filter (fun j => decide (j ∈ a)) = a := can_ext (hb.filter _) ha fun j => by
    simp
    exact h j
  have hl := List.length_filter_le (fun j => decide (j ∈ a)) b
  rw [e] at hl
  rcases Nat.lt_or_eq_of_le hl with z | z
  · exact z
  · exfalso
    have e2 : b.filter (fun j => decide (j ∈ a)) = b := List.Sublist.eq_of_length List.filter_sublist (by rw [e]; exact z)
    exact hne (e.symm.trans e2)
theorem isMin_iff {F : List (List Nat)} {s} : isMin F s = true ↔ ∀ o ∈ F, (∀ j ∈ o, j ∈ s) → o = s := by
  simp only [isMin, List.all_eq_true, Bool.or_eq_true, decide_eq_true_eq, Bool.not_eq_true']
  constructor
  · intro h o ho hs
    rcases h o ho with e | e
    · exact e
    · rw [subB_iff.mpr hs] at e
      cases e
  · intro h o ho
    cases e : subB o s with
    | false => exact .inr rfl
    | true => exact .inl (h o ho (subB_iff.mp e))
theorem ex_min {F : List (List Nat)} (hF : ∀ s ∈ F, Can s) : ∀ (n : Nat) (s : List Nat), s.length ≤ n → s ∈ F → ∃ t ∈ leastF F, ∀ j ∈ t, j ∈ s := by
  intro n
  induction n with
  | zero =>
    intro s hl hs
    have e := List.length_eq_zero_iff.mp (Nat.le_zero.mp hl)
    subst e
    refine ⟨[], mem_leastF.mpr ⟨hs, isMin_iff.mpr fun o ho hj => ?_⟩, fun j h => h⟩
    cases o with
    | nil => rfl
    | cons a o => exact absurd (hj a (List.mem_cons_self ..)) (by simp)
  | succ n ih =>
    intro s hl hs
    by_cases c : isMin F s = true
    · exact ⟨s, mem_leastF.mpr ⟨hs, c⟩, fun j h => h⟩
    · rw [isMin_iff] at c
      have : ∃ o ∈ F, (∀ j ∈ o, j ∈ s) ∧ o ≠ s := Classical.byContradiction fun z => c fun o ho hj => Classical.byContradiction fun y => z ⟨o, ho, hj, y⟩
      obtain ⟨o, ho, hj, hne⟩ := this
      obtain ⟨t, ht, htj⟩ := ih o (by have := can_len (hF o ho) (hF s hs) hj hne; omega) ho
      exact ⟨t, ht, fun j h => hj j (htj j h)⟩
theorem mem_subs {m : Nat} {s : List Nat} : s ∈ subs m ↔ Can s ∧ ∀ j ∈ s, j < m := by
  induction m generalizing s with
  | zero =>
    simp only [subs, List.mem_singleton]
    constructor
    · rintro rfl
      exact ⟨List.Pairwise.nil, by simp⟩
    · rintro ⟨_, h⟩
      cases s with
      | nil => rfl
      | cons a s => exact absurd (h a (List.mem_cons_self ..)) (by omega)
  | succ m ih =>
    simp only [subs, List.mem_append, List.mem_map, ih]
    constructor
    · rintro (⟨h1, h2⟩ | ⟨t, ⟨h1, h2⟩, rfl⟩)
      · exact ⟨h1, fun j hj => by have := h2 j hj; omega⟩
      · refine ⟨?_, fun j hj => ?_⟩
        · unfold Can
          rw [List.pairwise_append]
          refine ⟨h1, by simp, fun a ha b hb => ?_⟩
          simp at hb
          subst hb
          exact h2 a ha
        · rcases List.mem_append.mp hj with z | z
          · have := h2 j z; omega
          · simp at z; omega
    · rintro ⟨h1, h2⟩
      by_cases c : m ∈ s
      · right
        refine ⟨s.filter fun j => decide (j ≠ m), ⟨h1.filter _, fun j hj => ?_⟩, ?_⟩
        · simp at hj
          have := h2 j hj.1
          omega
        · refine can_ext ?_ h1 fun j => ?_
          · unfold Can
            rw [List.pairwise_append]
            refine ⟨h1.filter _, by simp, fun a ha b hb => ?_⟩
            simp at hb ha
            subst hb
            have := h2 a ha.1
            omega
          · simp
            constructor
            · rintro (h | rfl)
              · exact h.1
              · exact c
            · intro h
              by_cases e : j = m
              · exact .inr e
              · exact .inl ⟨h, e⟩
      · left
        exact ⟨h1, fun j hj => by
          have := h2 j hj
          have : j ≠ m := fun e => c (e ▸ hj)
          omega⟩
theorem mem_hits {F L : List (List Nat)} {s} : s ∈ hits F L ↔ s ∈ L ∧ ∀ t ∈ F, ∃ j, j ∈ s ∧ j ∈ t := by
  simp [hits, meetB_iff]
/-- the sets of the places up to the greatest are enough -/
theorem hits_top {F : List (List Nat)} {m : Nat} (hF : ∀ s ∈ F, ∀ j ∈ s, j < m) (hm : 0 < m) : leastF (hits F (subs (topOf F + 1))) = leastF (hits F (subs m)) := by
  have ht := top_lt hF hm
  refine leastF_congr fun s => ?_
  simp only [mem_hits, isMin_iff, mem_subs]
  constructor
  · rintro ⟨⟨⟨h1, h2⟩, h3⟩, h4⟩
    refine ⟨⟨⟨h1, fun j hj => by have := h2 j hj; omega⟩, h3⟩, fun o ⟨⟨o1, o2⟩, o3⟩ hj => h4 o ⟨⟨o1, fun j hjo => h2 j (hj j hjo)⟩, o3⟩ hj⟩
  · rintro ⟨⟨⟨h1, h2⟩, h3⟩, h4⟩
    have key : ∀ j ∈ s, j < topOf F + 1 := by
      have e := h4 (s.filter fun j => decide (j < topOf F + 1)) ⟨⟨h1.filter _, fun j hj => h2 j (List.mem_filter.mp hj).1⟩, fun t ht => by
        obtain ⟨j, j1, j2⟩ := h3 t ht
        exact ⟨j, by simp; exact ⟨j1, by have := top_ge ht j2; omega⟩, j2⟩⟩ (fun j hj => (List.mem_filter.mp hj).1)
      intro j hj
      rw [← e] at hj
      have := (List.mem_filter.mp hj).2
      exact of_decide_eq_true this
    exact ⟨⟨⟨h1, key⟩, h3⟩, fun o ⟨⟨o1, o2⟩, o3⟩ hj => h4 o ⟨⟨o1, fun j hjo => by have := o2 j hjo; omega⟩, o3⟩ hj⟩
theorem hits_least {F L : List (List Nat)} (hF : ∀ s ∈ F, Can s) : hits (leastF F) L = hits F L := by
  unfold hits
  congr 1
  funext c
  rw [Bool.eq_iff_iff]
  simp only [List.all_eq_true, meetB_iff]
  constructor
  · intro h t ht
    obtain ⟨u, hu, huj⟩ := ex_min hF t.length t (Nat.le_refl _) ht
    obtain ⟨j, j1, j2⟩ := h u hu
    exact ⟨j, j1, huj j j2⟩
  · exact fun h t ht => h t (mem_leastF.mp ht).1
/-- Berge's duality -/
theorem berge {F : List (List Nat)} {m : Nat} (hF : ∀ s ∈ F, s ∈ subs m) : leastF (hits (leastF (hits F (subs m))) (subs m)) = leastF F := by
  have hC : ∀ s ∈ hits F (subs m), Can s := fun s hs => (mem_subs.mp (mem_hits.mp hs).1).1
  have up : ∀ s, s ∈ hits (leastF (hits F (subs m))) (subs m) ↔ s ∈ subs m ∧ ∃ t ∈ F, ∀ j ∈ t, j ∈ s := by
    intro s
    rw [hits_least hC, mem_hits]
    refine and_congr_right fun hs => ⟨fun h => ?_, ?_⟩
    · refine Classical.byContradiction fun c => ?_
      have hc : (List.range m).filter (fun j => decide (j ∉ s)) ∈ hits F (subs m) := by
        rw [mem_hits, mem_subs]
        refine ⟨⟨(can_range m).filter _, fun j hj => by simpa using (List.mem_filter.mp hj).1⟩, fun t ht => ?_⟩
        refine Classical.byContradiction fun d => c ⟨t, ht, fun j hj => Classical.byContradiction fun e => d ⟨j, ?_, hj⟩⟩
        have := (mem_subs.mp (hF t ht)).2 j hj
        simp [this, e]
      obtain ⟨j, j1, j2⟩ := h _ hc
      have := (List.mem_filter.mp j2).2
      exact (of_decide_eq_true this) j1
    · rintro ⟨t, ht, htj⟩ u hu
      obtain ⟨j, j1, j2⟩ := (mem_hits.mp hu).2 t ht
      exact ⟨j, htj j j2, j1⟩
  refine leastF_congr fun s => ?_
  simp only [isMin_iff, up]
  constructor
  · rintro ⟨⟨h1, t, ht, htj⟩, h3⟩
    have e := h3 t ⟨hF t ht, t, ht, fun j h => h⟩ htj
    subst e
    exact ⟨ht, fun o ho hj => h3 o ⟨hF o ho, o, ho, fun j h => h⟩ hj⟩
  · rintro ⟨h1, h3⟩
    refine ⟨⟨hF s h1, s, h1, fun j h => h⟩, fun o ⟨o1, t, ht, htj⟩ hj => ?_⟩
    have e := h3 t ht fun j h => hj j (htj j h)
    subst e
    exact can_anti (mem_subs.mp o1).1 (mem_subs.mp (hF t ht)).1 hj htj
theorem leastF_ne {F : List (List Nat)} (hF : ∀ s ∈ F, Can s) (h : F ≠ []) : leastF F ≠ [] := by
  cases F with
  | nil => exact absurd rfl h
  | cons a F =>
    obtain ⟨t, ht, _⟩ := ex_min hF a.length a (Nat.le_refl _) (List.mem_cons_self ..)
    exact List.ne_nil_of_mem ht
end M
end

section
set_option Elab.async false
set_option linter.all false
set_option maxRecDepth 100000
/-! VoteL: the vote by a crossing family. Plain. -/
namespace M
theorem leastR_len {rows : List Row} : (leastR rows).length ≤ rows.length := by
  unfold leastR
  rw [List.length_mergeSort]
  exact Nat.le_trans ddk_len (by simpa using List.length_filter_le _ _)
theorem voteRows_len {k m F} : (voteRows k m F).length ≤ F.length * k := by
  have hr : (voteRows k m F).length = (leastF F).length * k := by
    unfold voteRows
    generalize leastF F = G
    induction G with
    | nil => simp
    | cons s G ih => simp [ih]; rw [Nat.add_mul]; omega
  rw [hr]
  exact Nat.mul_le_mul_right k (leastF_len F)
theorem at0_qin {m s a i} : at0 (qin m s a) i = if i < m ∧ i ∈ s then a else 0 := by
  unfold at0 qin
  rw [List.getD_eq_getElem?_getD]
  by_cases c : i < m
  · simp [c]
  · simp [c]
@[simp] theorem len_qin {m s a} : (qin m s a).length = m := by simp [qin]
theorem bel_iff {x y : List Nat} : bel x y = true ↔ ∀ i < x.length, at0 x i = 0 ∨ at0 x i = at0 y i := by
  simp [bel]
theorem agr_iff {x y : List Nat} : agr x y = true ↔ ∀ i < x.length, at0 x i = 0 ∨ at0 y i = 0 ∨ at0 x i = at0 y i := by
  simp [agr]
/-- a family for m places -/
structure Famly (F : List (List Nat)) (m : Nat) : Prop where
  can : ∀ s ∈ F, Can s
  lt : ∀ s ∈ F, ∀ j ∈ s, j < m
  ne : ∀ s ∈ F, s ≠ []
theorem Famly.subs {F m} (h : Famly F m) : ∀ s ∈ F, s ∈ subs m := fun s hs => mem_subs.mpr ⟨h.can s hs, h.lt s hs⟩
theorem bel_qin {F m} (hF : Famly F m) {s x a} (hs : s ∈ F) (ha : a ≠ 0) : bel (qin m s a) x = true ↔ ∀ j ∈ s, at0 x j = a := by
  rw [bel_iff]
  simp only [len_qin, at0_qin]
  constructor
  · intro h j hj
    have := h j (hF.lt s hs j hj)
    simp [hF.lt s hs j hj, hj, ha] at this
    exact this.symm
  · intro h i hi
    by_cases c : i ∈ s
    · simp [hi, c, ha, h i c]
    · simp [hi, c]
theorem ansd_qin {F m} (hF : Famly F m) {s a} (hs : s ∈ F) (ha : a ≠ 0) : ansd (qin m s a) = s := by
  refine can_ext ((can_range _).filter _) (hF.can s hs) fun j => ?_
  unfold ansd
  simp only [List.mem_filter, List.mem_range, len_qin, at0_qin, Bool.not_eq_true', decide_eq_false_iff_not]
  constructor
  · rintro ⟨h1, h2⟩
    refine Classical.byContradiction fun c => h2 ?_
    simp [c]
  · intro h
    have := hF.lt s hs j h
    exact ⟨this, by simp [this, h, ha]⟩
theorem mem_voteRows {k m F} {r : Row} : r ∈ voteRows k m F ↔ ∃ s ∈ leastF F, ∃ a, 1 ≤ a ∧ a ≤ k ∧ r = (qin m s a, a) := by
  unfold voteRows
  rw [List.mem_flatMap]
  simp only [List.mem_map, List.mem_range'_1]
  constructor
  · rintro ⟨s, hs, a, ha, rfl⟩
    exact ⟨s, hs, a, by omega, by omega, rfl⟩
  · rintro ⟨s, hs, a, h1, h2, rfl⟩
    exact ⟨s, hs, a, by omega, rfl⟩
theorem noClash_vote {k m F} (hF : Famly F m) (hc : Crossing F) : NoClash (voteRows k m F) := by
  intro i j hi hj _
  obtain ⟨s, hs, a, ha, _, e1⟩ := mem_voteRows.mp (List.getElem_mem hi)
  obtain ⟨t, ht, b, hb, _, e2⟩ := mem_voteRows.mp (List.getElem_mem hj)
  rw [e1, e2]
  by_cases c : a = b
  · exact .inl c
  · right
    have hs := (mem_leastF.mp hs).1
    have ht := (mem_leastF.mp ht).1
    obtain ⟨p, p1, p2⟩ := meetB_iff.mp (hc s hs t ht)
    refine Bool.eq_false_iff.mpr fun z => ?_
    have := agr_iff.mp z p (by simpa using hF.lt s hs p p1)
    simp only [at0_qin, hF.lt s hs p p1, p1, p2, and_self, if_true] at this
    omega
theorem mem_ddk : ∀ {l acc : List Row} {r : Row}, r ∈ acc ∨ r ∈ l → ∃ r' ∈ ddk acc l, r'.1 = r.1
  | [], acc, r, h => by
    rcases h with h | h
    · exact ⟨r, by simpa [ddk] using h, rfl⟩
    · simp at h
  | y :: l, acc, r, h => by
    unfold ddk
    split
    · rename_i hy
      obtain ⟨r0, h0, e0⟩ := List.mem_map.mp hy
      rcases h with h | h
      · exact mem_ddk (.inl h)
      · rcases List.mem_cons.mp h with rfl | h
        · obtain ⟨r', h', e'⟩ := mem_ddk (l := l) (acc := acc) (.inl h0)
          exact ⟨r', h', e'.trans e0⟩
        · exact mem_ddk (.inr h)
    · rcases h with h | h
      · exact mem_ddk (.inl (by simp [h]))
      · rcases List.mem_cons.mp h with rfl | h
        · exact mem_ddk (.inl (by simp))
        · exact mem_ddk (.inr h)
theorem leastR_sub {rows : List Row} {r} (h : r ∈ leastR rows) : r ∈ rows ∧ hasLow rows r.1 = false := by
  unfold leastR at h
  rw [(List.mergeSort_perm _ _).mem_iff] at h
  rcases ddk_sub h with z | z
  · simp at z
  · simpa using z
theorem mem_leastR {rows : List Row} {r} (hu : ∀ r' ∈ rows, r'.1 = r.1 → r' = r) : r ∈ leastR rows ↔ r ∈ rows ∧ hasLow rows r.1 = false := by
  refine ⟨leastR_sub, fun h => ?_⟩
  unfold leastR
  rw [(List.mergeSort_perm _ _).mem_iff]
  obtain ⟨r', h', e⟩ := mem_ddk (l := rows.filter fun r => !hasLow rows r.1) (acc := []) (r := r) (.inr (by simp [h]))
  have h2 : r' ∈ rows := by
    rcases ddk_sub h' with z | z
    · simp at z
    · exact (List.mem_filter.mp z).1
  rw [← hu r' h2 e]
  exact h'
/-- the least rows of a vote: all -/
theorem mem_voteL {k m F} (hF : Famly F m) {r : Row} : r ∈ leastR (voteRows k m F) ↔ r ∈ voteRows k m F := by
  have hl : ∀ s ∈ leastF F, s ∈ F := fun s hs => (mem_leastF.mp hs).1
  have hin : ∀ {s t a b}, s ∈ leastF F → t ∈ leastF F → a ≠ 0 → (∀ i < m, at0 (qin m s a) i = 0 ∨ at0 (qin m s a) i = at0 (qin m t b) i) → s = t ∧ a = b := by
    intro s t a b hs ht ha h
    have hj : ∀ j ∈ s, j ∈ t ∧ a = b := by
      intro j hj
      have hjm := hF.lt s (hl s hs) j hj
      have := h j hjm
      simp only [at0_qin, hjm, hj, and_self, if_true, true_and] at this
      rcases this with z | z
      · exact absurd z ha
      · by_cases c : j ∈ t
        · rw [if_pos c] at z
          exact ⟨c, z⟩
        · rw [if_neg c] at z
          exact absurd z ha
    have e := isMin_iff.mp (mem_leastF.mp ht).2 s (hl s hs) fun j h => (hj j h).1
    refine ⟨e, ?_⟩
    obtain ⟨j, hj'⟩ := List.exists_mem_of_ne_nil s (hF.ne s (hl s hs))
    exact (hj j hj').2
  refine ⟨fun h => (leastR_sub h).1, fun h => ?_⟩
  obtain ⟨s, hs, a, ha1, ha2, rfl⟩ := mem_voteRows.mp h
  refine (mem_leastR ?_).mpr ⟨h, ?_⟩
  · intro r' hr' e
    obtain ⟨t, ht, b, hb1, hb2, rfl⟩ := mem_voteRows.mp hr'
    obtain ⟨e1, e2⟩ := hin (s := t) (t := s) (a := b) (b := a) ht hs (by omega) (fun i _ => .inr (by rw [show qin m t b = qin m s a from e]))
    rw [e1, e2]
  · unfold hasLow
    rw [List.any_eq_false]
    intro r' hr'
    obtain ⟨t, ht, b, hb1, hb2, rfl⟩ := mem_voteRows.mp hr'
    simp only [Bool.and_eq_true, Bool.not_eq_true', decide_eq_false_iff_not, not_and]
    intro hne hb
    have hb' := bel_iff.mp hb
    rw [len_qin] at hb'
    obtain ⟨e1, e2⟩ := hin ht hs (by omega) hb'
    exact hne (by rw [e1, e2])
theorem mem_enough {k m F x s} (hF : Famly F m) : s ∈ enough (leastR (voteRows k m F)) x ↔ s ∈ leastF F ∧ ∃ a, 1 ≤ a ∧ a ≤ k ∧ ∀ j ∈ s, at0 x j = a := by
  have hl : ∀ s ∈ leastF F, s ∈ F := fun s hs => (mem_leastF.mp hs).1
  unfold enough
  simp only [List.mem_map, List.mem_filter, mem_voteL hF, mem_voteRows]
  constructor
  · rintro ⟨r, ⟨⟨t, ht, a, h1, h2, rfl⟩, hb⟩, rfl⟩
    rw [ansd_qin hF (hl t ht) (by omega)]
    exact ⟨ht, a, h1, h2, (bel_qin hF (hl t ht) (by omega)).mp hb⟩
  · rintro ⟨hs, a, h1, h2, h3⟩
    exact ⟨(qin m s a, a), ⟨⟨s, hs, a, h1, h2, rfl⟩, (bel_qin hF (hl s hs) (by omega)).mpr h3⟩, ansd_qin hF (hl s hs) (by omega)⟩
/-- the quorums of an answer -/
def there (F : List (List Nat)) (x : List Nat) (a : Nat) : List (List Nat) := F.filter fun s => subB s ((List.range x.length).filter fun j => decide (at0 x j = a))
theorem mem_there {F m x a s} (hF : Famly F m) (hx : x.length = m) : s ∈ there F x a ↔ s ∈ F ∧ ∀ j ∈ s, at0 x j = a := by
  unfold there
  rw [List.mem_filter]
  refine and_congr_right fun hs => ?_
  simp only [subB_iff, List.mem_filter, List.mem_range, decide_eq_true_eq]
  exact ⟨fun h j hj => (h j hj).2, fun h j hj => ⟨by rw [hx]; exact hF.lt s hs j hj, h j hj⟩⟩
theorem one_answer {F m x a b s t} (hF : Famly F m) (hx : x.length = m) (hc : Crossing F) (hs : s ∈ there F x a) (ht : t ∈ F) (h : ∀ j ∈ t, at0 x j = b) : b = a := by
  obtain ⟨hs, h2⟩ := (mem_there hF hx).mp hs
  obtain ⟨j, j1, j2⟩ := meetB_iff.mp (hc s hs t ht)
  rw [← h j j2, h2 j j1]
theorem there_least {F m x a} (hF : Famly F m) (hx : x.length = m) {t} (ht : t ∈ there F x a) : ∃ s ∈ leastF F, (∀ j ∈ s, j ∈ t) ∧ ∀ j ∈ s, at0 x j = a := by
  obtain ⟨h1, h2⟩ := (mem_there hF hx).mp ht
  obtain ⟨s, hs, hj⟩ := ex_min hF.can t.length t (Nat.le_refl _) h1
  exact ⟨s, hs, hj, fun j h => h2 j (hj j h)⟩
theorem enough_there {k m F x a} (hF : Famly F m) (hx : x.length = m) (hc : Crossing F) (h1 : 1 ≤ a) (h2 : a ≤ k) (hne : there F x a ≠ []) : leastF (enough (leastR (voteRows k m F)) x) = leastF (there F x a) ∧ enough (leastR (voteRows k m F)) x ≠ [] := by
  obtain ⟨t0, ht0⟩ := List.exists_mem_of_ne_nil _ hne
  constructor
  · refine leastF_congr fun s => ?_
    simp only [isMin_iff, mem_enough hF, mem_there hF hx]
    constructor
    · rintro ⟨⟨hs, b, b1, b2, hb⟩, h3⟩
      have hsF := (mem_leastF.mp hs).1
      have e := one_answer hF hx hc ht0 hsF hb
      subst e
      exact ⟨⟨hsF, hb⟩, fun o ⟨ho, _⟩ hj => isMin_iff.mp (mem_leastF.mp hs).2 o ho hj⟩
    · rintro ⟨⟨hs, hb⟩, h3⟩
      have hsl : s ∈ leastF F := by
        obtain ⟨t, ht, hj⟩ := ex_min hF.can s.length s (Nat.le_refl _) hs
        have e := h3 t ⟨(mem_leastF.mp ht).1, fun j h => hb j (hj j h)⟩ hj
        subst e
        exact ht
      exact ⟨⟨hsl, a, h1, h2, hb⟩, fun o ⟨ho, _⟩ hj => isMin_iff.mp (mem_leastF.mp hsl).2 o (mem_leastF.mp ho).1 hj⟩
  · obtain ⟨s, hs, _, hj⟩ := there_least hF hx ht0
    exact List.ne_nil_of_mem ((mem_enough hF).mpr ⟨hs, a, h1, h2, hj⟩)
theorem enough_none {m F x} (hF : Famly F m) (hx : x.length = m) (h1 : there F x 1 = []) (h2 : there F x 2 = []) : enough (leastR (voteRows 2 m F)) x = [] := by
  refine List.eq_nil_iff_forall_not_mem.mpr fun s hs => ?_
  obtain ⟨h3, a, a1, a2, hj⟩ := (mem_enough hF).mp hs
  have hm := (mem_there (x := x) (a := a) hF hx).mpr ⟨(mem_leastF.mp h3).1, hj⟩
  rcases (show a = 1 ∨ a = 2 by omega) with rfl | rfl
  · rw [h1] at hm; simp at hm
  · rw [h2] at hm; simp at hm
theorem valB_iff {L : List Row} {x} (h : ∀ r ∈ L, bel r.1 x = false) : valB L x = 0 := by
  unfold valB
  rw [List.find?_eq_none.mpr fun r hr => by simp [h r hr]]
theorem val_none {m F x} (hF : Famly F m) (h : enough (leastR (voteRows 2 m F)) x = []) : valB (leastR (voteRows 2 m F)) x = 0 := by
  refine valB_iff fun r hr => ?_
  refine Bool.eq_false_iff.mpr fun z => ?_
  have : ansd r.1 ∈ enough (leastR (voteRows 2 m F)) x := by
    unfold enough
    exact List.mem_map.mpr ⟨r, List.mem_filter.mpr ⟨hr, z⟩, rfl⟩
  rw [h] at this
  simp at this
theorem val_there {k m F x a} (hF : Famly F m) (hx : x.length = m) (hc : Crossing F) (h1 : 1 ≤ a) (h2 : a ≤ k) (hne : there F x a ≠ []) : valB (leastR (voteRows k m F)) x = a := by
  obtain ⟨t0, ht0⟩ := List.exists_mem_of_ne_nil _ hne
  obtain ⟨s, hs, _, hj⟩ := there_least hF hx ht0
  have hsF := (mem_leastF.mp hs).1
  unfold valB
  cases e : (leastR (voteRows k m F)).find? fun r => bel r.1 x with
  | none =>
    have := List.find?_eq_none.mp e (qin m s a, a) ((mem_voteL hF).mpr (mem_voteRows.mpr ⟨s, hs, a, h1, h2, rfl⟩))
    exact absurd ((bel_qin hF hsF (by omega)).mpr hj) this
  | some r =>
    have hr := List.mem_of_find?_eq_some e
    have hb := List.find?_some e
    obtain ⟨t, ht, b, b1, b2, rfl⟩ := mem_voteRows.mp ((mem_voteL hF).mp hr)
    have htF := (mem_leastF.mp ht).1
    exact one_answer hF hx hc ht0 htF ((bel_qin hF htF (show b ≠ 0 by omega)).mp hb)
/-- with a stopping set silent -/
def without (x s : List Nat) : List Nat := (List.range x.length).map fun j => if j ∈ s then 0 else at0 x j
theorem at0_without {x s j} : at0 (without x s) j = if j ∈ s then 0 else at0 x j := by
  unfold at0 without
  rw [List.getD_eq_getElem?_getD]
  by_cases c : j < x.length
  · simp [c, at0]
  · simp [c, List.getElem?_eq_none (Nat.not_lt.mp c)]
theorem val_without {k m F x a s} (hF : Famly F m) (hx : x.length = m) (hc : Crossing F) (hne : there F x a ≠ []) (hs : ∀ t ∈ there F x a, ∃ j, j ∈ s ∧ j ∈ t) : valB (leastR (voteRows k m F)) (without x s) = 0 := by
  obtain ⟨t0, ht0⟩ := List.exists_mem_of_ne_nil _ hne
  refine valB_iff fun r hr => ?_
  obtain ⟨t, ht, b, b1, b2, rfl⟩ := mem_voteRows.mp ((mem_voteL hF).mp hr)
  have htF := (mem_leastF.mp ht).1
  refine Bool.eq_false_iff.mpr fun z => ?_
  have hz := (bel_qin hF htF (by omega)).mp z
  have hz2 : ∀ j ∈ t, j ∉ s ∧ at0 x j = b := by
    intro j hj
    have := hz j hj
    rw [at0_without] at this
    by_cases c : j ∈ s
    · rw [if_pos c] at this; omega
    · rw [if_neg c] at this; exact ⟨c, this⟩
  have e := one_answer hF hx hc ht0 htF fun j hj => (hz2 j hj).2
  subst e
  obtain ⟨j, j1, j2⟩ := hs t ((mem_there hF hx).mpr ⟨htF, fun j hj => (hz2 j hj).2⟩)
  exact (hz2 j j2).1 j1
end M
end

section
set_option Elab.async false
set_option linter.all false
set_option maxRecDepth 100000
/-! K75: the law's own defs. -/
namespace M
variable {T : Tb} {N : Nn} {n : Nat} {h : Hs}
def bits (m k : Nat) : List Nat := (List.range m).filter fun j => decide (k / 2 ^ j % 2 = 1)
theorem pw6 : ∀ j, j < 6 → [1, 2, 4, 8, 16, 32][j]? = some (2 ^ j) := by decide
theorem pw7 : ∀ j, j < 7 → [1, 2, 4, 8, 16, 32, 64][j]? = some (2 ^ j) := by decide
theorem l6 : D.lst [.int 1, .int 2, .int 4, .int 8, .int 16, .int 32] = ln [1, 2, 4, 8, 16, 32] := rfl
theorem l7 : D.lst [.int 1, .int 2, .int 4, .int 8, .int 16, .int 32, .int 64] = ln [1, 2, 4, 8, 16, 32, 64] := rfl
theorem sets_eq : ∀ m, m < 7 → (List.range (2 ^ m)).map (bits m) = subs m := by decide +kernel
theorem bit_pow {j : Nat} (hj : j < 6) : (0 : Int) < 2 ^ j ∧ (2 : Int) ^ j < 1073741824 := by
  have h1 : (1 : Int) ≤ 2 ^ j := by
    have := Nat.one_le_two_pow (n := j)
    exact_mod_cast this
  have h2 : (2 : Int) ^ j ≤ 32 := by
    have : (2 : Nat) ^ j ≤ 2 ^ 5 := Nat.pow_le_pow_right (by decide) (by omega)
    exact_mod_cast this
  omega
theorem bit_odd {k j : Nat} : decide ((k : Int) / 2 ^ j % 2 = 1) = decide (k / 2 ^ j % 2 = 1) := by
  have e2 : (k : Int) / 2 ^ j % 2 = ((k / 2 ^ j % 2 : Nat) : Int) := by simp
  rw [e2, Bool.eq_iff_iff]
  simp only [decide_eq_true_eq]
  omega
theorem sets_ok (H : Has T N.f__law_sets (B._law_sets N)) {m : Nat} (hm : m ≤ 6) : evFn T (n + 1) N.f__law_sets [.int m] h = .ok (lt (subs m)) h := by
  refine fn_eq H rfl rfl (by simp) (by simp) ?_
  simp only [B._law_sets, B.b__law_sets]
  have hp : 2 ^ m ≤ 64 := by
    have : (2 : Nat) ^ m ≤ 2 ^ 6 := Nat.pow_le_pow_right (by decide) hm
    exact this
  have hr := rngO_0 (h := []) (b := 2 ^ m) (by unfold LIM; omega)
  simp at hr
  simp [start, l7, pw7 m (by omega), hr]
  rw [compGo_aT (g := bits m) rfl (by simp) ?_ (by simp [LIM]; omega)]
  · simp [sets_eq m (by omega)]
  · intro k hk
    rw [rngO_0 (by unfold LIM; omega)]
    simp
    rw [compGo_N (p := fun j => decide (k / 2 ^ j % 2 = 1)) (g := fun j => j) rfl ?_ (by simp) (by simp [LIM]; omega)]
    · simp [bits]
    · intro j hj
      simp at hj
      simp [l6, pw6 j (by omega)]
      rw [if_pos (bit_pow (by omega))]
      simp [bit_odd]
theorem law_blockers_ok (Hm : Has T N.f__law_meet (B._law_meet N)) (Hi : Has T N.f__law_inside (B._law_inside N)) (Hl : Has T N.f__law_least_sets (B._law_least_sets N)) (Hs : Has T N.f__law_sets (B._law_sets N)) (H : Has T N.f__law_blockers (B._law_blockers N)) {m : Nat} (hm : m ≤ 6) {F : List (List Nat)} (hF : F.length ≤ LIM) : evFn T (n + 3) N.f__law_blockers [.int m, lt F] h = .ok (lt (leastF (hits F (subs m)))) h := by
  have hp : 2 ^ m ≤ 64 := by
    have : (2 : Nat) ^ m ≤ 2 ^ 6 := Nat.pow_le_pow_right (by decide) hm
    exact this
  refine fn_eq H rfl rfl (by simp) (by simp) ?_
  simp only [B._law_blockers, B.b__law_blockers]
  simp [start, sets_ok (n := n + 1) Hs hm]
  refine wp_for (fun R ρ h => ∃ acc o3 o4, acc ++ hits F R = hits F (subs m) ∧ (∀ s ∈ R, s ∈ subs m) ∧ acc.length + R.length ≤ 64 ∧ ρ = [some (.int m), some (lt F), some (.ref 0), o3, o4, none] ∧ h = [.opn (lt acc)]) ⟨[], _, _, rfl, fun _ h => h, by simp [subs_len]; exact hp, rfl, rfl⟩ ?_ ?_
  · rintro ρ h ⟨acc, o3, o4, ha, _, hl, rfl, rfl⟩
    have ha : acc = hits F (subs m) := by simpa [hits] using ha
    have hh : ∀ s ∈ acc, s.length ≤ LIM := fun s hs => by
      rw [ha] at hs
      have := subs_mem_len (mem_hits.mp hs).1
      unfold LIM
      omega
    have e := fun h => least_sets_ok (n := n) (h := h) Hi Hl (F := acc) (by simp at hl; unfold LIM; omega) hh
    simp [e]
    rw [ha]
  · rintro s R ρ h ⟨acc, o3, o4, ha, hR, hl, rfl, rfl⟩
    have hs := subs_mem_len (hR s (List.mem_cons_self ..))
    simp only [List.length_cons] at hl
    refine ⟨rfl, ?_⟩
    simp
    rw [compGo_T (p := fun t => !meetB s t) (g := fun t => t) rfl ?_ (by simp) hF]
    · simp
      refine wp_iteS (fun c => ?_) (fun c => ?_)
      · have c3 : ∀ t ∈ F, meetB s t = true := by simpa using c
        have hL : acc.length < LIM := by unfold LIM; omega
        simp [hL]
        refine ⟨acc ++ [s], ?_, fun s hs => hR s (List.mem_cons_of_mem _ hs), by simp; omega, rfl⟩
        have c4 : F.all (meetB s) = true := List.all_eq_true.mpr c3
        rw [← ha]
        unfold hits
        rw [List.filter_cons, c4]
        simp
      · have c3 : ¬ ∀ t ∈ F, meetB s t = true := by simpa using c
        simp
        refine ⟨acc, ?_, fun s hs => hR s (List.mem_cons_of_mem _ hs), by omega, rfl⟩
        have c4 : F.all (meetB s) = false := Bool.eq_false_iff.mpr fun z => c3 (List.all_eq_true.mp z)
        rw [← ha]
        unfold hits
        rw [List.filter_cons, c4]
        simp
    · intro t _
      simp [meet_ok Hm (show s.length ≤ LIM by unfold LIM; omega)]
theorem bits_sub {m k} : bits m k ∈ subs m := mem_subs.mpr ⟨(can_range m).filter _, fun j hj => by simpa using (List.mem_filter.mp hj).1⟩
theorem Famly.snoc {F m s} (h : Famly F m) (h1 : Can s) (h2 : ∀ j ∈ s, j < m) (h3 : s ≠ []) : Famly (F ++ [s]) m := by
  constructor
  · intro t ht
    rcases List.mem_append.mp ht with z | z
    · exact h.can t z
    · simp at z; subst z; exact h1
  · intro t ht
    rcases List.mem_append.mp ht with z | z
    · exact h.lt t z
    · simp at z; subst z; exact h2
  · intro t ht
    rcases List.mem_append.mp ht with z | z
    · exact h.ne t z
    · simp at z; subst z; exact h3
theorem tup1m {a b : Nat} : D.tup [.int ((a : Int) % (b : Int))] = tn [a % b] := rfl
theorem family_ok (H : Has T N.f__law_family (B._law_family N)) {m : Nat} (hm : m ≤ 6) (hm0 : 0 < m) {ds : List Nat} (hd : DigOk ds [8, 63, 63, 63, 63, 63, 63, 63, 63]) : ∃ d, evFn T (n + 1) N.f__law_family [.int m, ln ds] h = .ok d h ∧ ∃ F, d = lt F ∧ Famly F m ∧ F ≠ [] ∧ F.length ≤ 8 := by
  obtain ⟨hl, hd⟩ := hd
  simp at hl
  obtain ⟨d0, h0⟩ : ∃ d0, ds[0]? = some d0 := ⟨_, List.getElem?_eq_getElem (by omega)⟩
  have h0' := hd 0 _ 8 h0 rfl
  refine fn_wp H rfl rfl (by simp) ?_
  simp only [B._law_family, B.b__law_family]
  have hr' := fun h => rngO_0 (h := h) (b := 1 + d0) (by unfold LIM; omega)
  simp at hr'
  simp [start, h0, hr']
  refine wp_range (fun i ρ h => ∃ F o3 o4 o5, Famly F m ∧ F.length = i ∧ ρ = [some (.int m), some (ln ds), some (.ref 0), o3, o4, o5, none] ∧ h = [.opn (lt F)]) ⟨[], _, _, _, ⟨by simp, by simp, by simp⟩, rfl, rfl, rfl⟩ ?_ ?_
  · rintro ρ h ⟨F, o3, o4, o5, hF, hFl, rfl, rfl⟩
    simp
    exact ⟨F, rfl, hF, fun e => by subst e; simp at hFl; omega, by omega⟩
  · rintro i ρ h hi ⟨F, o3, o4, o5, hF, hFl, rfl, rfl⟩
    refine ⟨rfl, ?_⟩
    obtain ⟨k, h1⟩ : ∃ k, ds[1 + i]? = some k := ⟨_, List.getElem?_eq_getElem (by omega)⟩
    have hL : F.length < LIM := by unfold LIM; omega
    have hr2 := fun h => rngO_0 (h := h) (b := m) (by unfold LIM; omega)
    simp [h1, hr2]
    rw [compGo_N (p := fun j => decide ((1 + k) / 2 ^ j % 2 = 1)) (g := fun j => j) rfl ?_ (by simp) (by simp [LIM]; omega)]
    · have eb : (List.range m).filter (fun j => decide ((1 + k) / 2 ^ j % 2 = 1)) = bits m (1 + k) := rfl
      simp [eb]
      refine wp_iteS (fun c => ?_) (fun c => ?_)
      · simp [h1, hm0, tup1m, hL]
        exact ⟨F ++ [[k % m]], hF.snoc (List.pairwise_singleton ..) (by simp; exact Nat.mod_lt _ hm0) (by simp), by simp [hFl], rfl⟩
      · simp [hL]
        have hb := mem_subs.mp (bits_sub (m := m) (k := 1 + k))
        exact ⟨F ++ [bits m (1 + k)], hF.snoc hb.1 hb.2 c, by simp [hFl], rfl⟩
    · intro j hj
      simp at hj
      simp [l6, pw6 j (by omega)]
      rw [if_pos (bit_pow (by omega))]
      have := bit_odd (k := 1 + k) (j := j)
      simp at this
      simp [this]
theorem evSorted_nat {a : List Nat} (hl : a.length ≤ LIM) : evSorted (a.map fun j : Nat => D.int j) = some ((a.mergeSort fun x y => decide (x ≤ y)).map fun j : Nat => D.int j) := by
  have e : a.map (fun j : Nat => D.int j) = (a.map fun j : Nat => (j : Int)).map D.int := by simp
  rw [e, evSorted_int (by simpa using hl)]
  congr 1
  have e2 := List.map_mergeSort (r := fun x y : Nat => decide (x ≤ y)) (s := fun a b : Int => leD (.int a) (.int b)) (f := fun j : Nat => (j : Int)) (l := a) (fun x _ y _ => by rw [leD_int]; simp)
  rw [← e2]
  simp
def sortN (a : List Nat) : List Nat := a.mergeSort fun x y => decide (x ≤ y)
theorem mem_sortN {a j} : j ∈ sortN a ↔ j ∈ a := by unfold sortN; rw [(List.mergeSort_perm _ _).mem_iff]
theorem can_sortN {a : List Nat} (h : a.Nodup) : Can (sortN a) := by
  have h1 : (sortN a).Pairwise (fun x y => decide (x ≤ y) = true) := List.pairwise_mergeSort (fun a b c h1 h2 => by simp at *; omega) (fun a b => by simp; omega) a
  have h2 : (sortN a).Nodup := (List.mergeSort_perm _ _).nodup_iff.mpr h
  unfold Can
  exact List.Pairwise.imp₂ (fun a b x y => by simp at x; omega) h1 h2
theorem crossed_ok (Hm : Has T N.f__law_meet (B._law_meet N)) (H : Has T N.f__law_crossed (B._law_crossed N)) {m : Nat} (hm : m ≤ 6) {F : List (List Nat)} (hF : Famly F m) (hl : F.length ≤ 8) (hne : F ≠ []) : ∃ d, evFn T (n + 2) N.f__law_crossed [lt F] h = .ok d h ∧ ∃ G, d = lt G ∧ Famly G m ∧ Crossing G ∧ G ≠ [] ∧ G.length ≤ 8 := by
  refine fn_wp H rfl rfl (by simp) ?_
  simp only [B._law_crossed, B.b__law_crossed]
  simp [start]
  refine wp_for (fun R ρ h => ∃ G o2 o3 o4, (∀ s ∈ R, s ∈ F) ∧ Famly G m ∧ Crossing G ∧ G.length + R.length = F.length ∧ ρ = [some (lt F), some (.ref 0), o2, o3, o4] ∧ h = [.opn (lt G)]) ⟨[], _, _, _, fun _ h => h, ⟨by simp, by simp, by simp⟩, fun a ha => by simp at ha, by simp, rfl, rfl⟩ ?_ ?_
  · rintro ρ h ⟨G, o2, o3, o4, _, hG, hc, hlen, rfl, rfl⟩
    simp
    simp at hlen
    exact ⟨G, rfl, hG, hc, fun e => by subst e; simp at hlen; exact hne (List.length_eq_zero_iff.mp hlen.symm), by omega⟩
  · rintro s R ρ h ⟨G, o2, o3, o4, hR, hG, hc, hlen, rfl, rfl⟩
    simp only [List.length_cons] at hlen
    have hsF := hR s (List.mem_cons_self ..)
    refine ⟨rfl, ?_⟩
    simp
    refine wp_for (fun U ρ h => ∃ P o4, (∀ t ∈ U, t ∈ G) ∧ P.Nodup ∧ (∀ j ∈ P, j < m) ∧ P ≠ [] ∧ (∀ t ∈ G, t ∉ U → meetB P t = true) ∧ P.length + U.length ≤ s.length + G.length ∧ ρ = [some (lt F), some (.ref 0), some (tn s), some (.ref 1), o4] ∧ h = [.opn (lt G), .opn (ln P)]) ⟨s, _, fun _ h => h, (hF.can s hsF).nodup, hF.lt s hsF, hF.ne s hsF, fun t h1 h2 => absurd h1 h2, Nat.le_refl _, rfl, rfl⟩ ?_ ?_
    · rintro ρ h ⟨P, o4, _, hP, hPm, hPn, hPc, hPl, rfl, rfl⟩
      have hPl' : P.length ≤ LIM := by
        have := subs_mem_len (hF.subs s hsF)
        simp at hPl
        unfold LIM
        omega
      have hL : G.length < LIM := by unfold LIM; omega
      refine ⟨by simp, ?_⟩
      simp
      rw [evSorted_nat hPl']
      have es : (P.mergeSort fun x y => decide (x ≤ y)) = sortN P := rfl
      rw [es]
      have hcn := can_sortN hP
      have hne2 : sortN P ≠ [] := fun z => hPn (by
        cases P with
        | nil => rfl
        | cons a P =>
          have : a ∈ sortN (a :: P) := mem_sortN.mpr (List.mem_cons_self ..)
          rw [z] at this
          simp at this)
      simp [hL]
      refine ⟨fun t ht => hR t (List.mem_cons_of_mem _ ht), G ++ [sortN P], hG.snoc hcn (fun j hj => hPm j (mem_sortN.mp hj)) hne2, ?_, by simp; omega, rfl⟩
      have hmt : ∀ t ∈ G, meetB (sortN P) t = true := fun t ht => by
        obtain ⟨j, j1, j2⟩ := meetB_iff.mp (hPc t ht (by simp))
        exact meetB_iff.mpr ⟨j, mem_sortN.mpr j1, j2⟩
      intro a ha b hb
      rcases List.mem_append.mp ha with za | za
      · rcases List.mem_append.mp hb with zb | zb
        · exact hc a za b zb
        · simp at zb
          subst zb
          rw [meetB_comm]
          exact hmt a za
      · simp at za
        subst za
        rcases List.mem_append.mp hb with zb | zb
        · exact hmt b zb
        · simp at zb
          subst zb
          obtain ⟨j, hj⟩ := List.exists_mem_of_ne_nil _ hne2
          exact meetB_iff.mpr ⟨j, hj, hj⟩
    · rintro t U ρ h ⟨P, o4, hU, hP, hPm, hPn, hPc, hPl, rfl, rfl⟩
      refine ⟨by simp, ?_⟩
      have htG := hU t (List.mem_cons_self ..)
      simp only [List.length_cons] at hPl
      have hsm : s.length ≤ m := subs_mem_len (hF.subs s hsF)
      have e := fn_lend (h := [.opn (lt G), .opn (ln P)]) (ws := [.ref 1, tn t]) (n := n) Hm rfl (us := [ln P, tn t]) (lend_ref cont_1 noref_ln (lend_nr (ws := [tn t]) (by simp))) (by simp) rfl (fun h => meetl_ok Hm (a := P) (b := t) (by unfold LIM; omega)) rfl
      simp [e]
      have hU' : ∀ t ∈ U, t ∈ G := fun t ht => hU t (List.mem_cons_of_mem _ ht)
      have ht0 : 0 < t.length := List.length_pos_iff.mpr (hG.ne t htG)
      refine wp_iteS (fun c => ?_) (fun c => ?_)
      · obtain ⟨v, hv⟩ : ∃ v, t[P.length % t.length]? = some v := ⟨_, List.getElem?_eq_getElem (Nat.mod_lt _ ht0)⟩
        have hvt : v ∈ t := List.mem_of_getElem? hv
        have hL : P.length < LIM := by unfold LIM; omega
        have hvP : v ∉ P := fun z => by
          have := meetB_iff.mpr ⟨v, z, hvt⟩
          rw [c] at this
          cases this
        simp [ht0, hv, hL]
        refine ⟨hU', P ++ [v], ?_, ?_, by simp, ?_, by simp; omega, rfl⟩
        · rw [List.nodup_append]
          refine ⟨hP, by simp, fun a ha b hb e => ?_⟩
          simp at hb
          subst hb
          subst e
          exact hvP ha
        · intro j hj
          rcases List.mem_append.mp hj with z | z
          · exact hPm j z
          · simp at z
            subst z
            exact hG.lt t htG _ hvt
        · intro t' h1 h2
          by_cases e2 : t' = t
          · subst e2
            exact meetB_iff.mpr ⟨v, by simp, hvt⟩
          · obtain ⟨j, j1, j2⟩ := meetB_iff.mp (hPc t' h1 (by simp [e2, h2]))
            exact meetB_iff.mpr ⟨j, by simp [j1], j2⟩
      · simp
        refine ⟨hU', P, hP, hPm, hPn, ?_, by omega, rfl⟩
        intro t' h1 h2
        by_cases e2 : t' = t
        · subst e2
          simpa using c
        · exact hPc t' h1 (by simp [e2, h2])
theorem insidel_ok (H : Has T N.f__law_inside (B._law_inside N)) {a b : List Nat} (hb : a.length ≤ LIM) : evFn T (n + 1) N.f__law_inside [tn a, ln b] h = .ok (.bl (subB a b)) h := by
  refine fn_rt H.1 H.2 rfl rfl (by simp) (h' := []) ?_ rfl
  simp only [B._law_inside, B.b__law_inside]
  simp [start]
  rw [compGo_map (p := fun j => !decide (j ∈ b)) (g := fun j : Nat => D.int j) rfl (by simp) (by simp) (by simpa using hb)]
  simp [Int.natCast_eq_zero, subB]
  rw [Bool.eq_iff_iff]
  simp
structure K75Fns (T : Tb) (N : Nn) : Prop where
  vote : VoteFns T N
  en : EnoughFns T N
  whole : Has T N.f__law_whole (B._law_whole N)
  same : Has T N.f__law_same (B._law_same N)
  cell : Has T N.f__law_cell (B._law_cell N)
  digits : Has T N.f__law_digits (B._law_digits N)
  family : Has T N.f__law_family (B._law_family N)
  meet : Has T N.f__law_meet (B._law_meet N)
  crossed : Has T N.f__law_crossed (B._law_crossed N)
  inside : Has T N.f__law_inside (B._law_inside N)
  least_sets : Has T N.f__law_least_sets (B._law_least_sets N)
  sets : Has T N.f__law_sets (B._law_sets N)
  blockers : Has T N.f__law_blockers (B._law_blockers N)
  asked : Has T N.f__law_asked (B._law_asked N)
  asks_vote : Has T N.f__law_asks_vote (B._law_asks_vote N)
  law : Has T N.f_law (B.law N)
  noAnswer : ∃ C, T.cls[N.c_NoAnswer]? = some C ∧ C.exc = true ∧ C.flds = [N.a_x] ∧ N.c_AnswersError ∈ C.up ∧ N.c_NoAnswer ∈ C.up
theorem asked_told (H : K75Fns T N) {a p m : Nat} {L : List Row} {x : List Nat} {A S : D} (hA : ∀ h, evFn T (n + 4) N.f_enough_sets [boxD N a p L, tn x] h = .ok A h) (hS : ∀ h, evFn T (n + 4) N.f_stopping_sets [boxD N a p L, tn x] h = .ok S h) (nA : noref A = true) (nS : noref S = true) : evFn T (n + 5) N.f__law_asked [boxD N a p L, tn x] h = .ok (.lst [.str [116, 111, 108, 100], A, S]) h := by
  refine fn_rt H.asked.1 H.asked.2 rfl rfl (by simp) (h' := []) ?_ (by simp [nA, nS])
  simp only [B._law_asked, B.b__law_asked]
  simp [start, hA, hS]
theorem asked_silent (H : K75Fns T N) {a p m : Nat} {L : List Row} {x : List Nat} (hx : x.length ≤ LIM) (hA : ∀ h, evFn T (n + 4) N.f_enough_sets [boxD N a p L, tn x] h = .exc N.c_NoAnswer [tn x] h) : evFn T (n + 5) N.f__law_asked [boxD N a p L, tn x] h = .ok (.lst [.str [115, 105, 108, 101, 110, 116]]) h := by
  obtain ⟨C, h1, h2, h3, h4, h5⟩ := H.noAnswer
  have es := fun h => same_ok H.whole H.same 1 (tn x) sm_tn (lens_tn hx) (n + 1) h
  refine fn_rt H.asked.1 H.asked.2 rfl rfl (by simp) (h' := []) ?_ (by simp)
  simp only [B._law_asked, B.b__law_asked]
  simp [start, hA, tryK, h1, exOk, h2, h3, h4, h5, evXi, isExn, evXf, fldOf, es]
end M
end

section
set_option Elab.async false
set_option linter.all false
set_option maxRecDepth 100000
/-! K90: the law's own orders and rows. -/
namespace M
variable {T : Tb} {N : Nn} {n : Nat} {h : Hs}
theorem law_below_ok (H : Has T N.f__law_below (B._law_below N)) {x y : List Nat} (hl : x.length ≤ y.length) (hm : x.length ≤ LIM) : evFn T (n + 1) N.f__law_below [tn x, tn y] h = .ok (.bl (bel x y)) h := by
  refine fn_eq H rfl rfl (by simp) (by simp) ?_
  simp only [B._law_below, B.b__law_below]
  simp [start]
  rw [rngO_0 hm]
  simp
  refine wp_range (fun i ρ h => ∃ o2, (∀ j < i, at0 x j = 0 ∨ at0 x j = at0 y j) ∧ ρ = [some (tn x), some (tn y), o2] ∧ h = []) ⟨_, by simp, rfl, rfl⟩ ?_ ?_
  · rintro ρ h ⟨o2, hb, rfl, rfl⟩
    simp [bel]
    exact hb
  · rintro i ρ h hi ⟨o2, hb, rfl, rfl⟩
    refine ⟨rfl, ?_⟩
    simp [at0_some hi, at0_some (Nat.lt_of_lt_of_le hi hl)]
    refine wp_iteS (fun c => ?_) (fun c => ?_)
    · simp [bel]
      exact ⟨i, hi, c.1, by omega⟩
    · simp
      intro j hj
      by_cases e : j = i
      · subst e
        omega
      · exact hb j (by omega)
theorem law_agree_ok (H : Has T N.f__law_agree (B._law_agree N)) {x y : List Nat} (hl : x.length ≤ y.length) (hm : x.length ≤ LIM) : evFn T (n + 1) N.f__law_agree [tn x, tn y] h = .ok (.bl (agr x y)) h := by
  refine fn_eq H rfl rfl (by simp) (by simp) ?_
  simp only [B._law_agree, B.b__law_agree]
  simp [start]
  rw [rngO_0 hm]
  simp
  refine wp_range (fun i ρ h => ∃ o2, (∀ j < i, at0 x j = 0 ∨ at0 y j = 0 ∨ at0 x j = at0 y j) ∧ ρ = [some (tn x), some (tn y), o2] ∧ h = []) ⟨_, by simp, rfl, rfl⟩ ?_ ?_
  · rintro ρ h ⟨o2, hb, rfl, rfl⟩
    simp [agr]
    exact hb
  · rintro i ρ h hi ⟨o2, hb, rfl, rfl⟩
    refine ⟨rfl, ?_⟩
    simp [at0_some hi, at0_some (Nat.lt_of_lt_of_le hi hl)]
    refine wp_iteS (fun c => ?_) (fun c => ?_)
    · simp [agr]
      exact ⟨i, hi, c.1, c.2.1, by omega⟩
    · simp
      intro j hj
      by_cases e : j = i
      · subst e
        omega
      · exact hb j (by omega)
theorem law_value_ok (Hb : Has T N.f__law_below (B._law_below N)) (H : Has T N.f__law_value (B._law_value N)) {L : List Row} {x : List Nat} (hp : ∀ r ∈ L, r.1.length ≤ x.length) (hx : x.length ≤ LIM) : evFn T (n + 2) N.f__law_value [lr L, tn x] h = .ok (.int (valB L x : Nat)) h := by
  refine fn_eq H rfl rfl (by simp) rfl ?_
  simp only [B._law_value, B.b__law_value]
  simp [start]
  refine wp_for (fun R ρ h => ∃ o2, (∀ r ∈ R, r ∈ L) ∧ valB L x = valB R x ∧ ρ = [some (lr L), some (tn x), o2] ∧ h = []) ⟨_, fun _ h => h, rfl, rfl, rfl⟩ ?_ ?_
  · rintro ρ h ⟨o2, _, hb, rfl, rfl⟩
    simp
    rw [hb]
    rfl
  · rintro r R ρ h ⟨o2, hR, hb, rfl, rfl⟩
    have hr := hp r (hR r (List.mem_cons_self ..))
    refine ⟨rfl, ?_⟩
    simp [law_below_ok Hb hr (by omega)]
    refine wp_iteS (fun c => ?_) (fun c => ?_)
    · simp
      rw [hb]
      simp [valB, c]
    · simp
      refine ⟨fun a b hr => hR (a, b) (List.mem_cons_of_mem _ hr), ?_⟩
      rw [hb]
      simp [valB, c]
/-! ### the least rows by the law -/
def leRow (a b : Row) : Bool := leD (rowD a) (rowD b)
def lawLeast (rows : List Row) : List Row := (dd [] (rows.filter fun r => !hasLow rows r.1)).mergeSort leRow
theorem mem_lawLeast {rows : List Row} {r} : r ∈ lawLeast rows ↔ r ∈ rows ∧ hasLow rows r.1 = false := by
  unfold lawLeast
  rw [(List.mergeSort_perm _ _).mem_iff, dd_mem, List.mem_filter]
  simp
theorem lawLeast_len {rows : List Row} : (lawLeast rows).length ≤ rows.length := by
  unfold lawLeast
  rw [List.length_mergeSort]
  exact Nat.le_trans dd_len (by simpa using List.length_filter_le _ _)
theorem alk_rowD (a b : Row) : alk (rowD a) (rowD b) = true := by
  have e := alk_tn a.1 b.1
  have f : ∀ a : Row, toPy (rowD a) = .tuple [toPy (tn a.1), .int a.2] := fun a => by
    unfold rowD
    simp only [toPy, toPys]
  unfold alk at e ⊢
  rw [f, f]
  simp [PySem.W.alike, PySem.W.alikeAll, e]
theorem mem_rows {r : Row} {L : List Row} : rowD r ∈ L.map rowD ↔ r ∈ L := by
  rw [List.mem_map]
  exact ⟨fun ⟨x, hx, e⟩ => rowD_inj e ▸ hx, fun h => ⟨r, h, rfl⟩⟩
@[simp] theorem in_lr {r : Row} {L : List Row} : evIn (rowD r) (lr L) = some (decide (r ∈ L)) := by
  unfold lr
  rw [evIn_lst (q_le q_rowD (a := 2)) (qs_map fun x _ => q_rowD)]
  simp only [mem_rows]
theorem evSorted_rows {L : List Row} (hl : L.length ≤ LIM) : evSorted (L.map rowD) = some ((L.mergeSort leRow).map rowD) := by
  rw [evSorted_tups (by simpa using hl) (qs_map fun x _ => q_rowD) ?_ ?_, sortD_map]
  · rfl
  · intro x hx
    obtain ⟨r, _, rfl⟩ := List.mem_map.mp hx
    rfl
  · intro x hx y hy
    obtain ⟨r, _, rfl⟩ := List.mem_map.mp hx
    obtain ⟨s, _, rfl⟩ := List.mem_map.mp hy
    exact alk_rowD r s
@[simp] theorem sorted_lr {x} : evF1 .sorted (lr x) = (evSorted (x.map rowD)).map .lst := rfl
@[simp] theorem lst_rows {x : List Row} : D.lst (x.map rowD) = lr x := rfl
theorem law_least_ok (Hb : Has T N.f__law_below (B._law_below N)) (H : Has T N.f__law_least (B._law_least N)) {rows : List Row} {p : Nat} (hp : ∀ r ∈ rows, r.1.length = p) (hpm : p ≤ LIM) (hm : rows.length < LIM) : evFn T (n + 2) N.f__law_least [lr rows] h = .ok (lr (lawLeast rows)) h := by
  refine fn_eq H rfl rfl (by simp) (by simp) ?_
  simp only [B._law_least, B.b__law_least]
  simp [start]
  refine wp_for (fun R ρ h => ∃ K o2 o3, (∀ r ∈ R, r ∈ rows) ∧ K.length + R.length ≤ rows.length ∧ dd K (R.filter fun r => !hasLow rows r.1) = dd [] (rows.filter fun r => !hasLow rows r.1) ∧ ρ = [some (lr rows), some (.ref 0), o2, o3, none] ∧ h = [.opn (lr K)]) ⟨[], _, _, fun _ h => h, by simp, rfl, rfl, rfl⟩ ?_ ?_
  · rintro ρ h ⟨K, o2, o3, _, hlen, hd, rfl, rfl⟩
    simp [dd] at hd hlen
    subst hd
    simp
    rw [evSorted_rows (by omega)]
    simp [lawLeast]
  · rintro r R ρ h ⟨K, o2, o3, hR, hlen, hd, rfl, rfl⟩
    have hrm := hR r (List.mem_cons_self ..)
    simp only [List.length_cons] at hlen
    have hLim : K.length < LIM := by omega
    have hR' : ∀ (a : List Nat) (b : Nat), (a, b) ∈ R → (a, b) ∈ rows := fun a b hr => hR (a, b) (List.mem_cons_of_mem _ hr)
    refine ⟨rfl, ?_⟩
    simp
    rw [compGo_map (p := fun o => !decide (o.1 = r.1) && bel o.1 r.1) (g := rowD) rfl ?_ (by simp) (by simp; omega)]
    · have ec : decide (((rows.filter fun o => !decide (o.1 = r.1) && bel o.1 r.1).length : Int) = 0) = !hasLow rows r.1 := by
        rw [Bool.eq_iff_iff]
        simp [hasLow, List.filter_eq_nil_iff]
      simp
      rw [ec]
      rw [List.filter_cons] at hd
      refine wp_iteS (fun c => ?_) (fun c => ?_)
      · simp at c
        simp [hLim]
        refine ⟨hR', K ++ [r], by simp; omega, ?_, rfl⟩
        rw [← hd, c.1]
        simp [dd, c.2]
      · simp at c
        simp
        refine ⟨hR', K, by omega, ?_, rfl⟩
        rw [← hd]
        cases e : hasLow rows r.1 with
        | true => simp
        | false => simp [dd, c e]
    · intro o ho
      have := hp r hrm
      have := hp o ho
      simp [law_below_ok Hb (show o.1.length ≤ r.1.length by omega) (by omega)]
/-- x at just these places -/
def maskX (x s : List Nat) : List Nat := (List.range x.length).map fun j => if j ∈ s then at0 x j else 0
theorem law_only_ok (Hb : Has T N.f__law_below (B._law_below N)) (Hv : Has T N.f__law_value (B._law_value N)) (H : Has T N.f__law_only (B._law_only N)) {L : List Row} {x s : List Nat} (hp : ∀ r ∈ L, r.1.length ≤ x.length) (hx : x.length ≤ LIM) : evFn T (n + 3) N.f__law_only [lr L, tn x, tn s] h = .ok (.int (valB L (maskX x s) : Nat)) h ∧ evFn T (n + 3) N.f__law_only [lr L, tn x, ln s] h = .ok (.int (valB L (maskX x s) : Nat)) h := by
  have ev := fun h => law_value_ok (n := n) (h := h) Hb Hv (L := L) (x := maskX x s) (by simpa [maskX] using hp) (by simpa [maskX] using hx)
  constructor
  · refine fn_eq H rfl rfl (by simp) rfl ?_
    simp only [B._law_only, B.b__law_only]
    simp [start]
    rw [rngO_0 hx]
    simp
    rw [compGo_aN (g := fun j => if j ∈ s then at0 x j else 0) rfl (by simp) ?_ (by simpa using hx)]
    · have e : (List.range x.length).map (fun j => if j ∈ s then at0 x j else 0) = maskX x s := rfl
      simp [e, ev]
    · intro j hj
      simp at hj
      simp [at0_some hj]
      by_cases c : j ∈ s
      · simp [c]
        rw [if_pos (mulOk_r (by omega) (by omega))]
        simp
      · simp [c]
        rw [if_pos (mulOk_r (by omega) (by omega))]
        simp
  · refine fn_eq H rfl rfl (by simp) rfl ?_
    simp only [B._law_only, B.b__law_only]
    simp [start]
    rw [rngO_0 hx]
    simp
    rw [compGo_aN (g := fun j => if j ∈ s then at0 x j else 0) rfl (by simp) ?_ (by simpa using hx)]
    · have e : (List.range x.length).map (fun j => if j ∈ s then at0 x j else 0) = maskX x s := rfl
      simp [e, ev]
    · intro j hj
      simp at hj
      simp [at0_some hj]
      by_cases c : j ∈ s
      · simp [c]
        rw [if_pos (mulOk_r (by omega) (by omega))]
        simp
      · simp [c]
        rw [if_pos (mulOk_r (by omega) (by omega))]
        simp
theorem asks_enough_ok (Hb : BoxFns T N) (H : Has T N.f_asks_enough (B.asks_enough N)) {a p : Nat} {L : List Row} {x s : List Nat} (hp : ∀ r ∈ L, r.1.length ≤ x.length) (hx : x.length ≤ LIM) : evFn T (n + 3) N.f_asks_enough [boxD N a p L, tn x, tn s] h = .ok (.bl (!decide (valB L (maskX x s) = 0))) h := by
  have ev := fun h => box_call_ok (n := n) (h := h) (a := a) (p := p) Hb (L := L) (x := maskX x s) (by simpa [maskX] using hp) (by simpa [maskX] using hx)
  refine fn_eq H rfl rfl (by simp) rfl ?_
  simp only [B.asks_enough, B.b_asks_enough]
  simp [start]
  rw [rngO_0 hx]
  simp
  rw [compGo_aN (g := fun j => if j ∈ s then at0 x j else 0) rfl (by simp) ?_ (by simpa using hx)]
  · have e : (List.range x.length).map (fun j => if j ∈ s then at0 x j else 0) = maskX x s := rfl
    have einst := fun (k : Nat → RE) => metK_box Hb (k := k)
    simp [e, ev, einst]
  · intro j hj
    simp at hj
    simp [at0_some hj]
    by_cases c : j ∈ s <;> simp [c]
/-! ### rows that keep together -/
structure GoodRows (rows : List Row) (p : Nat) : Prop where
  len : ∀ r ∈ rows, r.1.length = p
  pos : ∀ r ∈ rows, 1 ≤ r.2 ∧ r.2 ≤ 3
  le3 : ∀ r ∈ rows, ∀ v ∈ r.1, v ≤ 3
  cons : ∀ r ∈ rows, ∀ s ∈ rows, agr r.1 s.1 = true → r.2 = s.2
theorem GoodRows.noClash {rows p} (h : GoodRows rows p) : NoClash rows := by
  intro i j hi hj _
  cases e : agr rows[i].1 rows[j].1 with
  | false => exact .inr rfl
  | true => exact .inl (h.cons _ (List.getElem_mem hi) _ (List.getElem_mem hj) e)
theorem agr_comm {x y : List Nat} (hl : x.length = y.length) (h : agr x y = true) : agr y x = true := by
  rw [agr_iff] at h ⊢
  intro i hi
  rcases h i (by omega) with z | z | z
  · exact .inr (.inl z)
  · exact .inl z
  · exact .inr (.inr z.symm)
theorem agr_of_below {x y z : List Nat} (hx : bel x z = true) (hy : bel y z = true) (hl : x.length = y.length) : agr x y = true := by
  rw [bel_iff] at hx hy
  rw [agr_iff]
  intro i hi
  rcases hx i hi with a | a
  · exact .inl a
  · rcases hy i (by omega) with b | b
    · exact .inr (.inl b)
    · exact .inr (.inr (a.trans b.symm))
theorem GoodRows.least {rows p} (h : GoodRows rows p) : GoodRows (lawLeast rows) p := by
  have hs : ∀ r ∈ lawLeast rows, r ∈ rows := fun r hr => (mem_lawLeast.mp hr).1
  exact ⟨fun r hr => h.len r (hs r hr), fun r hr => h.pos r (hs r hr), fun r hr => h.le3 r (hs r hr), fun r hr s hs' => h.cons r (hs r hr) s (hs s hs')⟩
theorem at0_ext {x y : List Nat} (hl : x.length = y.length) (h : ∀ i < x.length, at0 x i = at0 y i) : x = y := by
  refine List.ext_getElem hl fun i h1 h2 => ?_
  have := h i h1
  unfold at0 at this
  rw [List.getD_eq_getElem?_getD, List.getD_eq_getElem?_getD, List.getElem?_eq_getElem h1, List.getElem?_eq_getElem h2] at this
  simpa using this
theorem bel_refl (x : List Nat) : bel x x = true := bel_iff.mpr fun i _ => .inr rfl
theorem bel_anti {x y : List Nat} (hl : x.length = y.length) (h1 : bel x y = true) (h2 : bel y x = true) : x = y := by
  rw [bel_iff] at h1 h2
  refine at0_ext hl fun i hi => ?_
  rcases h1 i hi with a | a
  · rcases h2 i (by omega) with b | b
    · rw [a, b]
    · exact b.symm
  · exact a
theorem agr_refl (x : List Nat) : agr x x = true := agr_iff.mpr fun i _ => .inr (.inr rfl)
theorem GoodRows.uniq {rows p} (h : GoodRows rows p) {r s : Row} (hr : r ∈ rows) (hs : s ∈ rows) (e : r.1 = s.1) : r = s := by
  have := h.cons r hr s hs (by rw [e]; exact agr_refl _)
  cases r; cases s
  simp_all
/-- the box of least rows has these rows -/
theorem mem_boxL {rows p} (h : GoodRows rows p) {r : Row} : r ∈ leastR (lawLeast rows) ↔ r ∈ lawLeast rows := by
  refine ⟨fun z => (leastR_sub z).1, fun z => ?_⟩
  refine (mem_leastR fun r' hr' e => h.least.uniq hr' z e).mpr ⟨z, ?_⟩
  have z2 := (mem_lawLeast.mp z).2
  unfold hasLow at z2 ⊢
  rw [List.any_eq_false] at z2 ⊢
  exact fun s hs => z2 s (mem_lawLeast.mp hs).1
/-- the value by rows in any order -/
theorem val_some {rows : List Row} {p x r} (h : GoodRows rows p) (hr : r ∈ rows) (hb : bel r.1 x = true) : valB rows x = r.2 := by
  unfold valB
  cases e : rows.find? fun r => bel r.1 x with
  | none =>
    have := List.find?_eq_none.mp e r hr
    exact absurd hb this
  | some s =>
    have hs := List.mem_of_find?_eq_some e
    have hb2 := List.find?_some e
    exact h.cons s hs r hr (agr_of_below hb2 hb (by rw [h.len s hs, h.len r hr]))
theorem val_zero {rows : List Row} {p x} (h : GoodRows rows p) : valB rows x = 0 ↔ ∀ r ∈ rows, bel r.1 x = false := by
  constructor
  · intro z r hr
    refine Bool.eq_false_iff.mpr fun hb => ?_
    have := val_some h hr hb
    have := (h.pos r hr).1
    omega
  · exact valB_iff
theorem val_box {rows : List Row} {p x} (h : GoodRows rows p) : valB (leastR (lawLeast rows)) x = valB (lawLeast rows) x := by
  have h' : GoodRows (leastR (lawLeast rows)) p := by
    have hs : ∀ r ∈ leastR (lawLeast rows), r ∈ lawLeast rows := fun r hr => (mem_boxL h).mp hr
    have g := h.least
    exact ⟨fun r hr => g.len r (hs r hr), fun r hr => g.pos r (hs r hr), fun r hr => g.le3 r (hs r hr), fun r hr s hs' => g.cons r (hs r hr) s (hs s hs')⟩
  by_cases c : ∃ r ∈ lawLeast rows, bel r.1 x = true
  · obtain ⟨r, hr, hb⟩ := c
    rw [val_some h.least hr hb, val_some h' ((mem_boxL h).mpr hr) hb]
  · have c' : ∀ r ∈ lawLeast rows, bel r.1 x = false := fun r hr => Bool.eq_false_iff.mpr fun z => c ⟨r, hr, z⟩
    rw [(val_zero h.least).mpr c', (val_zero h').mpr fun r hr => c' r ((mem_boxL h).mp hr)]
theorem len_maskX {x s} : (maskX x s).length = x.length := by simp [maskX]
theorem at0_maskX {x s j} : at0 (maskX x s) j = if j ∈ s then at0 x j else 0 := by
  unfold at0 maskX
  rw [List.getD_eq_getElem?_getD]
  by_cases c : j < x.length
  · simp [c, at0]
  · simp [c, List.getElem?_eq_none (Nat.not_lt.mp c)]
theorem mem_ansd {x j} : j ∈ ansd x ↔ j < x.length ∧ at0 x j ≠ 0 := by
  unfold ansd
  simp
theorem can_ansd (x) : Can (ansd x) := (can_range _).filter _
theorem bel_maskX {r x s : List Nat} (hl : r.length = x.length) : bel r (maskX x s) = true ↔ bel r x = true ∧ ∀ j ∈ ansd r, j ∈ s := by
  rw [bel_iff, bel_iff]
  constructor
  · intro h
    refine ⟨fun i hi => ?_, fun j hj => ?_⟩
    · rcases h i hi with a | a
      · exact .inl a
      · rw [at0_maskX] at a
        by_cases c : i ∈ s
        · rw [if_pos c] at a; exact .inr a
        · rw [if_neg c] at a; exact .inl a
    · obtain ⟨h1, h2⟩ := mem_ansd.mp hj
      refine Classical.byContradiction fun c => ?_
      rcases h j h1 with a | a
      · exact h2 a
      · rw [at0_maskX, if_neg c] at a
        exact h2 a
  · rintro ⟨h1, h2⟩ i hi
    rcases h1 i hi with a | a
    · exact .inl a
    · by_cases c : at0 r i = 0
      · exact .inl c
      · right
        rw [at0_maskX, if_pos (h2 i (mem_ansd.mpr ⟨hi, c⟩))]
        exact a
theorem ansd_sub {r x : List Nat} (hl : r.length = x.length) (hb : bel r x = true) : ∀ j ∈ ansd r, j ∈ ansd x := by
  intro j hj
  obtain ⟨h1, h2⟩ := mem_ansd.mp hj
  refine mem_ansd.mpr ⟨by omega, ?_⟩
  rcases bel_iff.mp hb j h1 with a | a
  · exact absurd a h2
  · rw [← a]; exact h2
section
variable {rows : List Row} {p : Nat} {x : List Nat}
theorem mem_en (h : GoodRows rows p) {s} : s ∈ enough (leastR (lawLeast rows)) x ↔ ∃ r ∈ lawLeast rows, bel r.1 x = true ∧ ansd r.1 = s := by
  unfold enough
  simp only [List.mem_map, List.mem_filter, mem_boxL h, and_assoc]
theorem only_ne (h : GoodRows rows p) (hx : x.length = p) {s} : valB (lawLeast rows) (maskX x s) ≠ 0 ↔ ∃ t ∈ enough (leastR (lawLeast rows)) x, ∀ j ∈ t, j ∈ s := by
  rw [ne_eq, val_zero h.least]
  constructor
  · intro z
    refine Classical.byContradiction fun c => z fun r hr => Bool.eq_false_iff.mpr fun hb => c ?_
    obtain ⟨h1, h2⟩ := (bel_maskX (by rw [h.least.len r hr, hx])).mp hb
    exact ⟨ansd r.1, (mem_en h).mpr ⟨r, hr, h1, rfl⟩, h2⟩
  · rintro ⟨t, ht, hj⟩ z
    obtain ⟨r, hr, hb, rfl⟩ := (mem_en h).mp ht
    have := z r hr
    rw [(bel_maskX (by rw [h.least.len r hr, hx])).mpr ⟨hb, hj⟩] at this
    cases this
theorem en_can (h : GoodRows rows p) : ∀ s ∈ enough (leastR (lawLeast rows)) x, Can s := by
  intro s hs
  obtain ⟨r, hr, hb, rfl⟩ := (mem_en h).mp hs
  exact can_ansd _
theorem en_sub (h : GoodRows rows p) (hx : x.length = p) : ∀ s ∈ enough (leastR (lawLeast rows)) x, ∀ j ∈ s, j ∈ ansd x := by
  intro s hs
  obtain ⟨r, hr, hb, rfl⟩ := (mem_en h).mp hs
  exact ansd_sub (by rw [h.least.len r hr, hx]) hb
/-- all sets of answered places -/
def setsIn (p : Nat) (x : List Nat) : List (List Nat) := (subs p).filter fun s => subB s (ansd x)
theorem mem_setsIn (hx : x.length = p) {s} : s ∈ setsIn p x ↔ Can s ∧ ∀ j ∈ s, j ∈ ansd x := by
  unfold setsIn
  rw [List.mem_filter, mem_subs, subB_iff]
  constructor
  · rintro ⟨⟨h1, _⟩, h2⟩
    exact ⟨h1, h2⟩
  · rintro ⟨h1, h2⟩
    exact ⟨⟨h1, fun j hj => by have := (mem_ansd.mp (h2 j hj)).1; omega⟩, h2⟩
theorem least_enough (h : GoodRows rows p) (hx : x.length = p) : leastF ((setsIn p x).filter fun s => !decide (valB (lawLeast rows) (maskX x s) = 0)) = leastF (enough (leastR (lawLeast rows)) x) := by
  have up : ∀ s, s ∈ (setsIn p x).filter (fun s => !decide (valB (lawLeast rows) (maskX x s) = 0)) ↔ (Can s ∧ ∀ j ∈ s, j ∈ ansd x) ∧ ∃ t ∈ enough (leastR (lawLeast rows)) x, ∀ j ∈ t, j ∈ s := by
    intro s
    rw [List.mem_filter, mem_setsIn hx]
    refine and_congr_right fun _ => ?_
    rw [← only_ne h hx]
    simp
  refine leastF_congr fun s => ?_
  simp only [isMin_iff, up]
  constructor
  · rintro ⟨⟨⟨h1, h2⟩, t, ht, htj⟩, h3⟩
    have e := h3 t ⟨⟨en_can h t ht, en_sub h hx t ht⟩, t, ht, fun j z => z⟩ htj
    subst e
    exact ⟨ht, fun o ho hj => h3 o ⟨⟨en_can h o ho, en_sub h hx o ho⟩, o, ho, fun j z => z⟩ hj⟩
  · rintro ⟨h1, h3⟩
    refine ⟨⟨⟨en_can h s h1, en_sub h hx s h1⟩, s, h1, fun j z => z⟩, fun o ⟨⟨o1, _⟩, t, ht, htj⟩ hj => ?_⟩
    have e := h3 t ht fun j z => hj j (htj j z)
    subst e
    exact can_anti o1 (en_can h t ht) hj htj
/-- sets that meet all, in a part that has all -/
theorem hits_in {F : List (List Nat)} {m : Nat} {U : List Nat} (hU : ∀ s ∈ F, ∀ j ∈ s, j ∈ U) : leastF (hits F ((subs m).filter fun s => subB s U)) = leastF (hits F (subs m)) := by
  refine leastF_congr fun s => ?_
  simp only [mem_hits, isMin_iff, List.mem_filter, mem_subs, subB_iff]
  constructor
  · rintro ⟨⟨⟨⟨h1, h2⟩, hu⟩, h3⟩, h4⟩
    exact ⟨⟨⟨h1, h2⟩, h3⟩, fun o ⟨⟨o1, o2⟩, o3⟩ hj => h4 o ⟨⟨⟨o1, o2⟩, fun j z => hu j (hj j z)⟩, o3⟩ hj⟩
  · rintro ⟨⟨⟨h1, h2⟩, h3⟩, h4⟩
    have key : ∀ j ∈ s, j ∈ U := by
      have e := h4 (s.filter fun j => decide (j ∈ U)) ⟨⟨h1.filter _, fun j hj => h2 j (List.mem_filter.mp hj).1⟩, fun t ht => by
        obtain ⟨j, j1, j2⟩ := h3 t ht
        exact ⟨j, by simp; exact ⟨j1, hU t ht j j2⟩, j2⟩⟩ (fun j hj => (List.mem_filter.mp hj).1)
      intro j hj
      rw [← e] at hj
      exact of_decide_eq_true (List.mem_filter.mp hj).2
    exact ⟨⟨⟨⟨h1, h2⟩, key⟩, h3⟩, fun o ⟨⟨⟨o1, o2⟩, _⟩, o3⟩ hj => h4 o ⟨⟨o1, o2⟩, o3⟩ hj⟩
/-- silent without these: just the sets that meet all enough ones -/
theorem stop_filter (h : GoodRows rows p) (hx : x.length = p) : (setsIn p x).filter (fun s => decide (valB (lawLeast rows) (maskX x ((List.range p).filter fun j => !decide (j ∈ s))) = 0)) = hits (enough (leastR (lawLeast rows)) x) (setsIn p x) := by
  unfold hits
  refine List.filter_congr fun s _ => ?_
  rw [Bool.eq_iff_iff, decide_eq_true_eq]
  have e := only_ne h hx (s := (List.range p).filter fun j => !decide (j ∈ s))
  constructor
  · intro z
    rw [List.all_eq_true]
    intro t ht
    rw [meetB_iff]
    refine Classical.byContradiction fun c => e.mpr ⟨t, ht, fun j hj => ?_⟩ z
    have := (mem_ansd.mp (en_sub h hx t ht j hj)).1
    simp
    exact ⟨by omega, fun y => c ⟨j, y, hj⟩⟩
  · intro z
    refine Classical.byContradiction fun c => ?_
    obtain ⟨t, ht, hj⟩ := e.mp c
    obtain ⟨j, j1, j2⟩ := meetB_iff.mp (List.all_eq_true.mp z t ht)
    have := hj j j2
    simp at this
    exact this.2 j1
end
end M
end

section
set_option Elab.async false
set_option linter.all false
set_option maxRecDepth 100000
/-! K90b: drawn rows. -/
namespace M
variable {T : Tb} {N : Nn} {n : Nat} {h : Hs}
theorem GoodRows.nil {p} : GoodRows [] p := ⟨by simp, by simp, by simp, by simp⟩
theorem GoodRows.snoc {rows p x a} (h : GoodRows rows p) (hx : x.length = p) (ha : 1 ≤ a ∧ a ≤ 3) (h3 : ∀ v ∈ x, v ≤ 3) (hc : ∀ r ∈ rows, agr r.1 x = true → r.2 = a) : GoodRows (rows ++ [(x, a)]) p := by
  constructor
  · intro r hr
    rcases List.mem_append.mp hr with z | z
    · exact h.len r z
    · simp at z; subst z; exact hx
  · intro r hr
    rcases List.mem_append.mp hr with z | z
    · exact h.pos r z
    · simp at z; subst z; exact ha
  · intro r hr
    rcases List.mem_append.mp hr with z | z
    · exact h.le3 r z
    · simp at z; subst z; exact h3
  · intro r hr s hs hag
    rcases List.mem_append.mp hr with z | z
    · rcases List.mem_append.mp hs with y | y
      · exact h.cons r z s y hag
      · simp at y; subst y; exact hc r z hag
    · simp at z
      subst z
      rcases List.mem_append.mp hs with y | y
      · exact (hc s y (agr_comm (by rw [h.len s y]; exact hx) hag)).symm
      · simp at y; subst y; rfl
theorem t10 : ∀ i, i < 10 → ∃ v, [0, 1, 2, 1, 2, 3, 0, 1, 2, 0][i]? = some v ∧ v ≤ 3 := by
  intro i hi
  have : ∀ i : Fin 10, ∃ v, [0, 1, 2, 1, 2, 3, 0, 1, 2, 0][i.1]? = some v ∧ v ≤ 3 := by decide
  exact this ⟨i, hi⟩
theorem t12 : ∀ i, i < 12 → ∃ v, [1, 2, 1, 1, 2, 3, 1, 2, 1, 2, 3, 1][i]? = some v ∧ 1 ≤ v ∧ v ≤ 3 := by
  intro i hi
  have : ∀ i : Fin 12, ∃ v, [1, 2, 1, 1, 2, 3, 1, 2, 1, 2, 3, 1][i.1]? = some v ∧ 1 ≤ v ∧ v ≤ 3 := by decide
  exact this ⟨i, hi⟩
theorem t7 : ∀ i, i < 7 → ∃ v, [3, 2, 4, 5, 1, 6, 0][i]? = some v ∧ v ≤ 6 := by
  intro i hi
  have : ∀ i : Fin 7, ∃ v, [3, 2, 4, 5, 1, 6, 0][i.1]? = some v ∧ v ≤ 6 := by decide
  exact this ⟨i, hi⟩
theorem law_rows_ok (Ha : Has T N.f__law_agree (B._law_agree N)) (H : Has T N.f__law_rows_v3 (B._law_rows_v3 N)) {A p : Nat} {row : List Nat} (hA : 1 ≤ A ∧ A ≤ 3) (hp : p ≤ 6) (hl : 1 + 6 * (p + 1) ≤ row.length) : ∃ d, evFn T (n + 2) N.f__law_rows_v3 [.int A, .int p, ln row] h = .ok d h ∧ ∃ rows, d = lr rows ∧ GoodRows rows p ∧ rows.length ≤ 6 := by
  obtain ⟨r0, h0⟩ : ∃ r0, row[0]? = some r0 := ⟨_, List.getElem?_eq_getElem (by omega)⟩
  obtain ⟨c, hc, hc6⟩ := t7 (r0 % 7) (Nat.mod_lt _ (by decide))
  have l7' : D.lst [.int 3, .int 2, .int 4, .int 5, .int 1, .int 6, .int 0] = ln [3, 2, 4, 5, 1, 6, 0] := rfl
  have l10 : D.lst [.int 0, .int 1, .int 2, .int 1, .int 2, .int 3, .int 0, .int 1, .int 2, .int 0] = ln [0, 1, 2, 1, 2, 3, 0, 1, 2, 0] := rfl
  have l12 : D.lst [.int 1, .int 2, .int 1, .int 1, .int 2, .int 3, .int 1, .int 2, .int 1, .int 2, .int 3, .int 1] = ln [1, 2, 1, 1, 2, 3, 1, 2, 1, 2, 3, 1] := rfl
  have hr := fun h => rngO_0 (h := h) (b := c) (by unfold LIM; omega)
  have hrp := fun h => rngO_0 (h := h) (b := p) (by unfold LIM; omega)
  refine fn_wp H rfl rfl (by simp) ?_
  simp only [B._law_rows_v3, B.b__law_rows_v3]
  simp [start, h0, l7', hc, hr]
  refine wp_range (fun i ρ h => ∃ rows o4 o5 o6 o7 o8, GoodRows rows p ∧ rows.length ≤ i ∧ ρ = [some (.int A), some (.int p), some (ln row), some (.ref 0), o4, o5, o6, o7, o8, none, none] ∧ h = [.opn (lr rows)]) ⟨[], _, _, _, _, _, GoodRows.nil, by simp, rfl, rfl⟩ ?_ ?_
  · rintro ρ h ⟨rows, o4, o5, o6, o7, o8, hG, hGl, rfl, rfl⟩
    simp
    exact ⟨rows, rfl, hG, by omega⟩
  · rintro k ρ h hk ⟨rows, o4, o5, o6, o7, o8, hG, hGl, rfl, rfl⟩
    refine ⟨rfl, ?_⟩
    have hb1 : k * (p + 1) ≤ 5 * (p + 1) := Nat.mul_le_mul_right _ (by omega)
    have hb2 : (k + 1) * (p + 1) = k * (p + 1) + (p + 1) := by rw [Nat.add_mul]; omega
    have m1 : mulOk (k : Int) ((p : Int) + 1) = true := mulOk_l (by omega) (by omega)
    have m2 : mulOk ((k : Int) + 1) ((p : Int) + 1) = true := mulOk_l (by omega) (by omega)
    have es := slc_ln (x := row) (i := 1 + (k : Int) * ((p : Int) + 1)) (j := 1 + ((k : Int) + 1) * ((p : Int) + 1)) (1 + k * (p + 1)) (1 + (k + 1) * (p + 1)) (by simp) (by simp) (by omega) (by omega)
    have hPl : ((row.drop (1 + k * (p + 1))).take (1 + (k + 1) * (p + 1) - (1 + k * (p + 1)))).length = p + 1 := by
      rw [List.length_take, List.length_drop]
      omega
    generalize (row.drop (1 + k * (p + 1))).take (1 + (k + 1) * (p + 1) - (1 + k * (p + 1))) = P at es hPl
    simp [m1, m2, es, hrp]
    rw [compGo_aN (g := fun j => [0, 1, 2, 1, 2, 3, 0, 1, 2, 0].getD (P.getD j 0 % 10) 0 % (A + 1)) rfl (by simp) ?_ (by simp; unfold LIM; omega)]
    · obtain ⟨vp, hvp⟩ : ∃ v, P[p]? = some v := ⟨_, List.getElem?_eq_getElem (by omega)⟩
      obtain ⟨a0, ha0, ha1, ha3⟩ := t12 (vp % 12) (Nat.mod_lt _ (by decide))
      have hxl : ((List.range p).map fun j => [0, 1, 2, 1, 2, 3, 0, 1, 2, 0].getD (P.getD j 0 % 10) 0 % (A + 1)).length = p := by simp
      have hx3 : ∀ v ∈ (List.range p).map (fun j => [0, 1, 2, 1, 2, 3, 0, 1, 2, 0].getD (P.getD j 0 % 10) 0 % (A + 1)), v ≤ 3 := by
        intro v hv
        obtain ⟨j, _, rfl⟩ := List.mem_map.mp hv
        have := Nat.mod_lt ([0, 1, 2, 1, 2, 3, 0, 1, 2, 0].getD (P.getD j 0 % 10) 0) (show 0 < A + 1 by omega)
        omega
      generalize (List.range p).map (fun j => [0, 1, 2, 1, 2, 3, 0, 1, 2, 0].getD (P.getD j 0 % 10) 0 % (A + 1)) = x at hxl hx3
      simp [l12, hvp, ha0]
      obtain ⟨a, ha, e⟩ : ∃ a : Nat, (1 ≤ a ∧ a ≤ 3) ∧ ∀ f : D → RS, (if A < a0 then f (.int 1) else f (.int a0)) = f (.int a) := by
        by_cases c : A < a0
        · exact ⟨1, by decide, fun f => by rw [if_pos c]; rfl⟩
        · exact ⟨a0, ⟨ha1, ha3⟩, fun f => by rw [if_neg c]⟩
      have e' := e fun d => RS.nx [some (.int A), some (.int p), some (ln row), some (.ref 0), some (.int k), some (ln P), some (tn x), some d, o8, none, none] [.opn (lr rows)]
      rw [e']
      simp
      rw [compGo_map (p := fun o => agr o.1 x && !decide (o.2 = a)) (g := rowD) (by simp) ?_ (by simp) (by simp; unfold LIM; omega)]
      · have ez : D.lst (List.replicate p (D.int 0)) = ln (List.replicate p 0) := by
          show _ = D.lst _
          rw [List.map_replicate]
          rfl
        have hL : rows.length < LIM := by unfold LIM; omega
        by_cases c : (rows.filter fun o => agr o.1 x && !decide (o.2 = a)).length = 0
        · have hcl : ∀ r ∈ rows, agr r.1 x = true → r.2 = a := by
            intro r hr hag
            have := List.filter_eq_nil_iff.mp (List.length_eq_zero_iff.mp c) r hr
            rw [hag] at this
            simpa using this
          have hgo := hG.snoc hxl ha hx3 hcl
          simp [c]
          by_cases c1 : (x, a) ∈ rows
          · simp [c1]
            exact ⟨rows, hG, by omega, rfl⟩
          · by_cases c2 : p = 0
            · subst c2
              simp [c1, hL]
              exact ⟨rows ++ [(x, a)], hgo, by simp; omega, rfl⟩
            · simp [c1, c2]
              rw [if_pos (by omega)]
              simp [ez]
              by_cases c3 : x = List.replicate p 0
              · simp [c3]
                exact ⟨rows, hG, by omega, rfl⟩
              · simp [c3, hL]
                exact ⟨rows ++ [(x, a)], hgo, by simp; omega, rfl⟩
        · have c' : ¬ (((rows.filter fun o => agr o.1 x && !decide (o.2 = a)).length : Nat) : Int) = 0 := by omega
          simp only [List.nil_append]
          simp
          rw [if_neg (fun z => c' (of_decide_eq_true z))]
          simp
          exact ⟨rows, hG, by omega, rfl⟩
      · intro o ho
        have := hG.len o ho
        simp [law_agree_ok Ha (x := o.1) (y := x) (by omega) (by unfold LIM; omega)]
        by_cases c : agr o.1 x = true
        · simp [c]
          omega
        · simp [c]
    · intro j hj
      simp at hj
      obtain ⟨v, hv⟩ : ∃ v, P[j]? = some v := ⟨_, List.getElem?_eq_getElem (by omega)⟩
      obtain ⟨w, hw, hw3⟩ := t10 (v % 10) (Nat.mod_lt _ (by decide))
      simp [hv, l10, hw]
/-! ### known boxes, turned about -/
theorem known_ok (H : Has T N.f__law_known_v2 (B._law_known_v2 N)) {d : Nat} (hd : d < 8) : ∃ p rows, evFn T (n + 1) N.f__law_known_v2 [.int d] h = .ok (.lst [.int ((p : Nat) : Int), lr rows]) h ∧ GoodRows rows p ∧ 0 < p ∧ p ≤ 3 ∧ rows.length ≤ 6 := by
  have key : ∀ {p : Nat} {rows : List Row}, GoodRows rows p ∧ 0 < p ∧ p ≤ 3 ∧ rows.length ≤ 6 → Wp (evSs T (evFn T n) (B._law_known_v2 N).body (start (B._law_known_v2 N).ns [.int d]) []) (fun r => ∃ h', r = .rt (.lst [.int ((p : Nat) : Int), lr rows]) h') → ∃ p rows, evFn T (n + 1) N.f__law_known_v2 [.int d] h = .ok (.lst [.int ((p : Nat) : Int), lr rows]) h ∧ GoodRows rows p ∧ 0 < p ∧ p ≤ 3 ∧ rows.length ≤ 6 := by
    intro p rows hg hw
    exact ⟨p, rows, fn_eq H rfl rfl (by simp) (by simp) hw, hg⟩
  have ev : ∀ {D' : D}, Wp (evSs T (evFn T n) (B._law_known_v2 N).body (start (B._law_known_v2 N).ns [.int d]) []) (fun r => ∃ h', r = .rt D' h') → ∀ D'', D' = D'' → Wp (evSs T (evFn T n) (B._law_known_v2 N).body (start (B._law_known_v2 N).ns [.int d]) []) (fun r => ∃ h', r = .rt D'' h') := fun h _ e => e ▸ h
  rcases (show d = 0 ∨ d = 1 ∨ d = 2 ∨ d = 3 ∨ d = 4 ∨ d = 5 ∨ d = 6 ∨ d = 7 by omega) with rfl | rfl | rfl | rfl | rfl | rfl | rfl | rfl
  · refine key (p := 2) (rows := [([0, 1], 1), ([1, 0], 1)]) ⟨⟨by decide, by decide, by decide, by decide⟩, by decide, by decide, by decide⟩ ?_
    simp only [B._law_known_v2, B.b__law_known_v2]
    simp [start]
    rfl
  · refine key (p := 2) (rows := [([0, 1], 1), ([1, 0], 1), ([2, 2], 2)]) ⟨⟨by decide, by decide, by decide, by decide⟩, by decide, by decide, by decide⟩ ?_
    simp only [B._law_known_v2, B.b__law_known_v2]
    simp [start]
    rfl
  · refine key (p := 3) (rows := [([0, 2, 1], 1), ([1, 0, 2], 1), ([2, 1, 0], 1)]) ⟨⟨by decide, by decide, by decide, by decide⟩, by decide, by decide, by decide⟩ ?_
    simp only [B._law_known_v2, B.b__law_known_v2]
    simp [start]
    rfl
  · refine key (p := 3) (rows := [([0, 2, 1], 1), ([1, 0, 2], 2), ([2, 1, 0], 2)]) ⟨⟨by decide, by decide, by decide, by decide⟩, by decide, by decide, by decide⟩ ?_
    simp only [B._law_known_v2, B.b__law_known_v2]
    simp [start]
    rfl
  · refine key (p := 3) (rows := [([0, 1, 1], 1), ([1, 0, 1], 1), ([1, 1, 0], 1), ([2, 2, 2], 2)]) ⟨⟨by decide, by decide, by decide, by decide⟩, by decide, by decide, by decide⟩ ?_
    simp only [B._law_known_v2, B.b__law_known_v2]
    simp [start]
    rfl
  · refine key (p := 3) (rows := [([0, 1, 1], 1), ([0, 2, 2], 2), ([1, 0, 1], 1), ([1, 1, 0], 1), ([2, 0, 2], 2), ([2, 2, 0], 2)]) ⟨⟨by decide, by decide, by decide, by decide⟩, by decide, by decide, by decide⟩ ?_
    simp only [B._law_known_v2, B.b__law_known_v2]
    simp [start]
    rfl
  · refine key (p := 2) (rows := [([1, 0], 1), ([2, 1], 2), ([2, 2], 1)]) ⟨⟨by decide, by decide, by decide, by decide⟩, by decide, by decide, by decide⟩ ?_
    simp only [B._law_known_v2, B.b__law_known_v2]
    simp [start]
    rfl
  · refine key (p := 3) (rows := [([0, 0, 1], 1), ([0, 1, 0], 1), ([1, 0, 0], 1)]) ⟨⟨by decide, by decide, by decide, by decide⟩, by decide, by decide, by decide⟩ ?_
    simp only [B._law_known_v2, B.b__law_known_v2]
    simp [start]
    rfl
def rotL (x : List Nat) (d : Nat) : List Nat := (List.range x.length).map fun k => at0 x ((k + d) % x.length)
def revL (x : List Nat) : List Nat := (List.range x.length).map fun k => at0 x (x.length - 1 - k)
def turnL (x : List Nat) (d : Nat) : List Nat := if 3 ≤ d then revL (rotL x d) else rotL x d
@[simp] theorem len_rotL {x d} : (rotL x d).length = x.length := by simp [rotL]
@[simp] theorem len_revL {x} : (revL x).length = x.length := by simp [revL]
@[simp] theorem len_turnL {x d} : (turnL x d).length = x.length := by
  unfold turnL
  split <;> simp
theorem at0_map {m : Nat} {f : Nat → Nat} {i : Nat} (h : i < m) : at0 ((List.range m).map f) i = f i := by
  unfold at0
  rw [List.getD_eq_getElem?_getD]
  simp [h]
theorem agr_rot {x y : List Nat} {d} (hl : x.length = y.length) (h : agr (rotL x d) (rotL y d) = true) : agr x y = true := by
  rw [agr_iff] at h ⊢
  intro i hi
  have hk : ((i + x.length - d % x.length) % x.length + d) % x.length = i := by
    have h1 : d % x.length < x.length := Nat.mod_lt _ (by omega)
    rw [Nat.mod_add_mod]
    have h2 : i + x.length - d % x.length + d = i + x.length * (1 + d / x.length) := by
      have := Nat.div_add_mod d x.length
      rw [Nat.mul_add, Nat.mul_one]
      omega
    rw [h2, Nat.add_mul_mod_self_left]
    exact Nat.mod_eq_of_lt hi
  have hlt : (i + x.length - d % x.length) % x.length < x.length := Nat.mod_lt _ (by omega)
  have := h _ (by simpa using hlt)
  unfold rotL at this
  rw [at0_map hlt, at0_map (by omega), ← hl, hk] at this
  exact this
theorem agr_rev {x y : List Nat} (hl : x.length = y.length) (h : agr (revL x) (revL y) = true) : agr x y = true := by
  rw [agr_iff] at h ⊢
  intro i hi
  have hlt : x.length - 1 - i < x.length := by omega
  have := h _ (by simpa using hlt)
  unfold revL at this
  rw [at0_map hlt, at0_map (by omega), ← hl, show x.length - 1 - (x.length - 1 - i) = i by omega] at this
  exact this
theorem agr_turn {x y : List Nat} {d} (hl : x.length = y.length) (h : agr (turnL x d) (turnL y d) = true) : agr x y = true := by
  unfold turnL at h
  split at h
  · exact agr_rot hl (agr_rev (by simpa using hl) h)
  · exact agr_rot hl h
theorem at0_mem {x : List Nat} {i} (h : i < x.length) : at0 x i ∈ x := by
  have := at0_some h
  exact List.mem_of_getElem? this
theorem rot_mem {x d v} (h : v ∈ rotL x d) : v ∈ x := by
  unfold rotL at h
  obtain ⟨k, hk, rfl⟩ := List.mem_map.mp h
  simp at hk
  exact at0_mem (Nat.mod_lt _ (by omega))
theorem rev_mem {x v} (h : v ∈ revL x) : v ∈ x := by
  unfold revL at h
  obtain ⟨k, hk, rfl⟩ := List.mem_map.mp h
  simp at hk
  exact at0_mem (by omega)
theorem turn_mem {x d v} (h : v ∈ turnL x d) : v ∈ x := by
  unfold turnL at h
  split at h
  · exact rot_mem (rev_mem h)
  · exact rot_mem h
theorem GoodRows.turn {rows p d} (h : GoodRows rows p) : GoodRows (rows.map fun r => (turnL r.1 d, r.2)) p := by
  constructor
  · intro r hr
    obtain ⟨s, hs, rfl⟩ := List.mem_map.mp hr
    simpa using h.len s hs
  · intro r hr
    obtain ⟨s, hs, rfl⟩ := List.mem_map.mp hr
    exact h.pos s hs
  · intro r hr
    obtain ⟨s, hs, rfl⟩ := List.mem_map.mp hr
    exact fun v hv => h.le3 s hs v (turn_mem hv)
  · intro r hr r' hr' hag
    obtain ⟨s, hs, rfl⟩ := List.mem_map.mp hr
    obtain ⟨s', hs', rfl⟩ := List.mem_map.mp hr'
    exact h.cons s hs s' hs' (agr_turn (by rw [h.len s hs, h.len s' hs']) hag)
def sw (v : Nat) : Nat := [0, 2, 1, 3].getD v 0
theorem swp_ok {v} (h : v ≤ 3) : [0, 2, 1, 3][v]? = some (sw v) ∧ sw v ≤ 3 ∧ (sw v = 0 ↔ v = 0) := by
  have : ∀ v : Fin 4, [0, 2, 1, 3][v.1]? = some (sw v.1) ∧ sw v.1 ≤ 3 ∧ (sw v.1 = 0 ↔ v.1 = 0) := by decide
  exact this ⟨v, by omega⟩
theorem sw_inj {u v} (hu : u ≤ 3) (hv : v ≤ 3) (h : sw u = sw v) : u = v := by
  have : ∀ u v : Fin 4, sw u.1 = sw v.1 → u.1 = v.1 := by decide
  exact this ⟨u, by omega⟩ ⟨v, by omega⟩ h
theorem at0_mapf {x : List Nat} {f : Nat → Nat} {i} (h : i < x.length) : at0 (x.map f) i = f (at0 x i) := by
  unfold at0
  rw [List.getD_eq_getElem?_getD, List.getD_eq_getElem?_getD, List.getElem?_map, List.getElem?_eq_getElem h]
  rfl
theorem GoodRows.swap {rows p} (h : GoodRows rows p) : GoodRows (rows.map fun r => (r.1.map sw, sw r.2)) p := by
  constructor
  · intro r hr
    obtain ⟨s, hs, rfl⟩ := List.mem_map.mp hr
    simpa using h.len s hs
  · intro r hr
    obtain ⟨s, hs, rfl⟩ := List.mem_map.mp hr
    obtain ⟨h1, h2⟩ := h.pos s hs
    obtain ⟨_, h3, h4⟩ := swp_ok h2
    refine ⟨?_, h3⟩
    have : sw s.2 ≠ 0 := fun z => by have := h4.mp z; omega
    show 1 ≤ sw s.2
    omega
  · intro r hr
    obtain ⟨s, hs, rfl⟩ := List.mem_map.mp hr
    intro v hv
    obtain ⟨u, hu, rfl⟩ := List.mem_map.mp hv
    exact (swp_ok (h.le3 s hs u hu)).2.1
  · intro r hr r' hr' hag
    obtain ⟨s, hs, rfl⟩ := List.mem_map.mp hr
    obtain ⟨s', hs', rfl⟩ := List.mem_map.mp hr'
    refine congrArg sw (h.cons s hs s' hs' ?_)
    rw [agr_iff] at hag ⊢
    intro i hi
    have hi' : i < s'.1.length := by rw [h.len s' hs', ← h.len s hs]; exact hi
    have := hag i (by simpa using hi)
    rw [at0_mapf hi, at0_mapf hi'] at this
    have b1 := h.le3 s hs _ (at0_mem hi)
    have b2 := h.le3 s' hs' _ (at0_mem hi')
    rcases this with z | z | z
    · exact .inl ((swp_ok b1).2.2.mp z)
    · exact .inr (.inl ((swp_ok b2).2.2.mp z))
    · exact .inr (.inr (sw_inj b1 b2 z))
theorem turned_ok (H : Has T N.f__law_turned_v2 (B._law_turned_v2 N)) {x : List Nat} {d : Nat} (hx : x.length ≤ LIM) (h0 : 0 < x.length) : evFn T (n + 1) N.f__law_turned_v2 [tn x, .int d] h = .ok (tn (turnL x d)) h := by
  refine fn_eq H rfl rfl (by simp) (by simp) ?_
  simp only [B._law_turned_v2, B.b__law_turned_v2]
  have hr := fun h => rngO_0 (h := h) (b := x.length) hx
  have hne : ¬ x = [] := fun z => by rw [z] at h0; simp at h0
  simp [start, hr, hne]
  rw [compGo_aN (g := fun k => at0 x ((k + d) % x.length)) rfl (by simp) ?_ (by simpa using hx)]
  · have e : (List.range x.length).map (fun k => at0 x ((k + d) % x.length)) = rotL x d := rfl
    simp [e, hr]
    refine wp_iteS (fun c => ?_) (fun c => ?_)
    · rw [compGo_aN (g := fun k => at0 (rotL x d) (x.length - 1 - k)) rfl (by simp) ?_ (by simpa using hx)]
      · have e2 : (List.range x.length).map (fun k => at0 (rotL x d) (x.length - 1 - k)) = turnL x d := by
          unfold turnL revL
          rw [if_pos (by omega)]
          simp
        simp [e2]
      · intro k hk
        simp at hk
        have e3 : (x.length : Int) - 1 - (k : Int) = ((x.length - 1 - k : Nat) : Int) := by omega
        simp
        rw [e3, idx_ln, at0_some (by simp; omega)]
        rfl
    · simp
      unfold turnL
      rw [if_neg (by omega)]
  · intro k hk
    simp at hk
    have e3 : ((k : Int) + (d : Int)) % (x.length : Int) = (((k + d) % x.length : Nat) : Int) := by simp
    simp [h0]
    rw [e3, idx_tn, at0_some (Nat.mod_lt _ h0)]
    rfl
theorem slc_ln' {x : List Nat} {a b : Nat} (h : a ≤ b) (hb : b ≤ x.length) : (evSlc (ln x) (some (a : Int)) (some (b : Int))) = some (ln ((x.drop a).take (b - a))) := slc_ln a b rfl rfl h hb
theorem law_box_ok (Ha : Has T N.f__law_agree (B._law_agree N)) (Hr : Has T N.f__law_rows_v3 (B._law_rows_v3 N)) (Hk : Has T N.f__law_known_v2 (B._law_known_v2 N)) (Ht : Has T N.f__law_turned_v2 (B._law_turned_v2 N)) (H : Has T N.f__law_box_v2 (B._law_box_v2 N)) {A : Nat} {row : List Nat} (hA : 1 ≤ A ∧ A ≤ 3) (hl : row.length = 29) (h1 : ∀ d, row[1]? = some d → d < 8) : ∃ d, evFn T (n + 3) N.f__law_box_v2 [.int A, ln row] h = .ok d h ∧ ∃ p rows, d = .lst [.int ((p : Nat) : Int), lr rows] ∧ GoodRows rows p ∧ p ≤ 3 ∧ rows.length ≤ 6 := by
  obtain ⟨r0, h0⟩ : ∃ r0, row[0]? = some r0 := ⟨_, List.getElem?_eq_getElem (by omega)⟩
  obtain ⟨r1, e1⟩ : ∃ r0, row[1]? = some r0 := ⟨_, List.getElem?_eq_getElem (by omega)⟩
  obtain ⟨r2, e2⟩ : ∃ r0, row[2]? = some r0 := ⟨_, List.getElem?_eq_getElem (by omega)⟩
  obtain ⟨r3, e3⟩ : ∃ r0, row[3]? = some r0 := ⟨_, List.getElem?_eq_getElem (by omega)⟩
  obtain ⟨p, rows, ek, hG, hp0, hp3, hrl⟩ := known_ok (n := n + 1) (h := []) Hk (h1 r1 e1)
  have l4 : D.lst [.int 0, .int 2, .int 1, .int 3] = ln [0, 2, 1, 3] := rfl
  refine fn_wp H rfl rfl (by simp) ?_
  simp only [B._law_box_v2, B.b__law_box_v2]
  simp [start, h0, e1, ek, e2, e3]
  refine wp_iteS (fun c => ?_) (fun c => ?_)
  · rw [compGo_all (g := fun r => rowD (turnL r.1 r2, r.2)) rfl (by simp) ?_ (by simp; unfold LIM; omega)]
    · have eT : D.lst (rows.map fun r => rowD (turnL r.1 r2, r.2)) = lr (rows.map fun r => (turnL r.1 r2, r.2)) := by
        unfold lr
        rw [List.map_map]
        rfl
      have hT := hG.turn (d := r2)
      have hTl : (rows.map fun r => (turnL r.1 r2, r.2)).length ≤ 6 := by simpa using hrl
      rw [List.nil_append, eT]
      generalize (rows.map fun r => (turnL r.1 r2, r.2)) = rows2 at hT hTl
      simp [e3]
      refine wp_iteS (fun c => ?_) (fun c => ?_)
      · rw [compGo_all (g := fun r => rowD (r.1.map sw, sw r.2)) rfl (by simp) ?_ (by simp; unfold LIM; omega)]
        · have eS : D.lst (rows2.map fun r => rowD (r.1.map sw, sw r.2)) = lr (rows2.map fun r => (r.1.map sw, sw r.2)) := by
            unfold lr
            rw [List.map_map]
            rfl
          have hS := hT.swap
          have hSl : (rows2.map fun r => (r.1.map sw, sw r.2)).length ≤ 6 := by simpa using hTl
          rw [List.nil_append, eS]
          generalize (rows2.map fun r => (r.1.map sw, sw r.2)) = rows3 at hS hSl
          simp
          exact ⟨p, rows3, ⟨rfl, rfl⟩, hS, hp3, hSl⟩
        · intro r hr
          have hrp := hT.len r hr
          have e5 := (swp_ok (hT.pos r hr).2).1
          have e5D : [D.int 0, D.int 2, D.int 1, D.int 3][r.2]? = some (.int (sw r.2)) := by
            have := congrArg (Option.map fun j : Nat => D.int j) e5
            rw [← List.getElem?_map] at this
            exact this
          simp
          rw [compGo_aN (g := sw) rfl (by simp) ?_ (by unfold LIM; omega)]
          · simp [e5D]
          · intro v hv
            simp [l4, (swp_ok (hT.le3 r hr v hv)).1]
      · simp
        exact ⟨p, rows2, ⟨rfl, rfl⟩, hT, hp3, hTl⟩
    · intro r hr
      have := hG.len r hr
      have := fun h => turned_ok (n := n + 1) (h := h) Ht (x := r.1) (d := r2) (by unfold LIM; omega) (by omega)
      simp [this]
  · obtain ⟨q, hq, hq3⟩ : ∃ q, [2, 3, 1, 2, 3, 2][r2 % 6]? = some q ∧ q ≤ 3 := by
      have : ∀ v : Fin 6, ∃ q, [2, 3, 1, 2, 3, 2][v.1]? = some q ∧ q ≤ 3 := by decide
      exact this ⟨r2 % 6, Nat.mod_lt _ (by decide)⟩
    have l6' : D.lst [.int 2, .int 3, .int 1, .int 2, .int 3, .int 2] = ln [2, 3, 1, 2, 3, 2] := rfl
    have es := slc_ln (x := row) (i := 4) (j := 5 + 6 * ((q : Int) + 1)) 4 (5 + 6 * (q + 1)) rfl (by simp) (by omega) (by omega)
    have m1 : mulOk 6 ((q : Int) + 1) = true := mulOk_l (by omega) (by omega)
    obtain ⟨_, er, rows', rfl, hG', hrl'⟩ := law_rows_ok (n := n) (h := []) Ha Hr (A := A) (p := q) (row := (row.drop 4).take (5 + 6 * (q + 1) - 4)) hA (by omega) (by rw [List.length_take, List.length_drop]; omega)
    simp [l6', hq, e2, m1, es, er]
    exact ⟨q, rows', ⟨rfl, rfl⟩, hG', hq3, hrl'⟩
end M
end

section
set_option Elab.async false
set_option linter.all false
set_option maxRecDepth 100000
/-! K90c: tolerance, asked. -/
namespace M
variable {T : Tb} {N : Nn} {n : Nat} {h : Hs}
theorem fn_excW {T : Tb} {n f : Nat} {F : Fn} {ws : List D} {h : Hs} {c : Nat} {vs : List D} (H : Has T f F) (hp : F.pure = true) (hl : ws.length = F.np) (hn : norefs ws = true) (hd : norefs vs = true)
    (hb : Wp (evSs T (evFn T n) F.body (start F.ns ws) []) fun r => ∃ ρ' h', r = .exc c vs ρ' h') : evFn T (n + 1) f ws h = .exc c vs h := by
  obtain ⟨ρ', h', e⟩ := hb
  exact fn_exc H.1 H.2 hp hl hn e hd
def tolV (St : List (List Nat)) (x : List Nat) : Int := if St = [] then ((ansd x).length : Int) else (minI ((St.map List.length).map Int.ofNat)).getD 0 - 1
theorem minI_some {l : List Nat} (h : l ≠ []) : minI (l.map Int.ofNat) = some ((minI (l.map Int.ofNat)).getD 0) := by
  cases l with
  | nil => exact absurd rfl h
  | cons a l => rfl
theorem tolerance_ok (Ha : Has T N.f_answered_places (B.answered_places N)) (H : Has T N.f_tolerance (B.tolerance N)) {b : D} {x : List Nat} {St : List (List Nat)} (nb : noref b = true) (hx : x.length ≤ LIM) (hSt : St.length ≤ LIM) (hS : ∀ h, evFn T (n + 4) N.f_stopping_sets [b, tn x] h = .ok (tt St) h) : evFn T (n + 5) N.f_tolerance [b, tn x] h = .ok (.int (tolV St x)) h := by
  refine fn_eq H rfl rfl (by simp [nb]) rfl ?_
  simp only [B.tolerance, B.b_tolerance]
  have ea := fun h => answered_ok (n := n + 3) (h := h) Ha hx
  simp [start, hS, ea]
  by_cases c : St = []
  · simp [c, tolV]
  · simp [c]
    rw [compGo_aN (g := List.length) rfl (by simp) (by simp) hSt]
    simp
    have e := intL_ints (l := St.map List.length)
    rw [List.map_map] at e
    rw [e]
    have e2 := minI_some (l := St.map List.length) (by simpa using c)
    simp only [Option.bind_some, Function.comp_apply]
    rw [e2]
    simp [tolV, c]
theorem tolerance_no (H : Has T N.f_tolerance (B.tolerance N)) {b : D} {x : List Nat} (nb : noref b = true) (hS : ∀ h, evFn T (n + 4) N.f_stopping_sets [b, tn x] h = .exc N.c_NoAnswer [tn x] h) : evFn T (n + 5) N.f_tolerance [b, tn x] h = .exc N.c_NoAnswer [tn x] h := by
  refine fn_excW H rfl rfl (by simp [nb]) (by simp) ?_
  simp only [B.tolerance, B.b_tolerance]
  simp [start, hS]
theorem stopping_no (H : Has T N.f_stopping_sets (B.stopping_sets N)) {b : D} {x : List Nat} (nb : noref b = true) (hS : ∀ h, evFn T (n + 3) N.f_enough_sets [b, tn x] h = .exc N.c_NoAnswer [tn x] h) : evFn T (n + 4) N.f_stopping_sets [b, tn x] h = .exc N.c_NoAnswer [tn x] h := by
  refine fn_excW H rfl rfl (by simp [nb]) (by simp) ?_
  simp only [B.stopping_sets, B.b_stopping_sets]
  simp [start, hS]
theorem stopping_nil (H : Has T N.f_stopping_sets (B.stopping_sets N)) {b : D} {x : List Nat} {F : List (List Nat)} (nb : noref b = true) (hF : [] ∈ F) (hS : ∀ h, evFn T (n + 3) N.f_enough_sets [b, tn x] h = .ok (tt F) h) : evFn T (n + 4) N.f_stopping_sets [b, tn x] h = .ok (tt []) h := by
  refine fn_eq H rfl rfl (by simp [nb]) (by simp) ?_
  simp only [B.stopping_sets, B.b_stopping_sets]
  simp [start, hS, hF]
  rfl
structure K90Fns (T : Tb) (N : Nn) : Prop where
  fam : FamFns T N
  box : BoxFns T N
  enough_sets : Has T N.f_enough_sets (B.enough_sets N)
  stopping_sets : Has T N.f_stopping_sets (B.stopping_sets N)
  tolerance : Has T N.f_tolerance (B.tolerance N)
  asks_enough : Has T N.f_asks_enough (B.asks_enough N)
  whole : Has T N.f__law_whole (B._law_whole N)
  same : Has T N.f__law_same (B._law_same N)
  cell : Has T N.f__law_cell (B._law_cell N)
  digits : Has T N.f__law_digits (B._law_digits N)
  below : Has T N.f__law_below (B._law_below N)
  agree : Has T N.f__law_agree (B._law_agree N)
  value : Has T N.f__law_value (B._law_value N)
  least : Has T N.f__law_least (B._law_least N)
  rows : Has T N.f__law_rows_v3 (B._law_rows_v3 N)
  known : Has T N.f__law_known_v2 (B._law_known_v2 N)
  turned : Has T N.f__law_turned_v2 (B._law_turned_v2 N)
  lbox : Has T N.f__law_box_v2 (B._law_box_v2 N)
  inside : Has T N.f__law_inside (B._law_inside N)
  least_sets : Has T N.f__law_least_sets (B._law_least_sets N)
  sets : Has T N.f__law_sets (B._law_sets N)
  asked : Has T N.f__law_asked_v4 (B._law_asked_v4 N)
  only : Has T N.f__law_only (B._law_only N)
  law : Has T N.f_law_v16 (B.law_v16 N)
  noAnswer : ∃ C, T.cls[N.c_NoAnswer]? = some C ∧ C.exc = true ∧ C.flds = [N.a_x] ∧ N.c_AnswersError ∈ C.up ∧ N.c_NoAnswer ∈ C.up ∧ N.c_NoInput ∉ C.up
theorem asked4_told (H : K90Fns T N) {b : D} {x : List Nat} {k : Nat} {A : D} (hk : k < 3) (nb : noref b = true) (nA : noref A = true) (hA : ∀ h, evFn T (n + 6) (if k = 0 then N.f_enough_sets else if k = 1 then N.f_stopping_sets else N.f_tolerance) [b, tn x] h = .ok A h) : evFn T (n + 7) N.f__law_asked_v4 [.int k, b, tn x] h = .ok (.lst [.str [116, 111, 108, 100], A]) h := by
  refine fn_rt H.asked.1 H.asked.2 rfl rfl (by simp [nb]) (h' := []) ?_ (by simp [nA])
  simp only [B._law_asked_v4, B.b__law_asked_v4]
  rcases (show k = 0 ∨ k = 1 ∨ k = 2 by omega) with rfl | rfl | rfl
  · simp at hA
    simp [start, hA]
  · simp at hA
    simp [start, hA]
  · simp at hA
    simp [start, hA]
theorem asked4_silent (H : K90Fns T N) {b : D} {x : List Nat} {k : Nat} (hk : k < 3) (nb : noref b = true) (nx : noX b = true) (hx : x.length ≤ LIM) (hA : ∀ h, evFn T (n + 6) (if k = 0 then N.f_enough_sets else if k = 1 then N.f_stopping_sets else N.f_tolerance) [b, tn x] h = .exc N.c_NoAnswer [tn x] h) : evFn T (n + 7) N.f__law_asked_v4 [.int k, b, tn x] h = .ok (.lst [.str [115, 105, 108, 101, 110, 116], .non]) h := by
  obtain ⟨C, h1, h2, h3, h4, h5, h6⟩ := H.noAnswer
  have es := fun h => same_ok H.whole H.same 1 (tn x) sm_tn (lens_tn hx) (n + 3) h
  refine fn_rt H.asked.1 H.asked.2 rfl rfl (by simp [nb]) (h' := []) ?_ (by simp)
  simp only [B._law_asked_v4, B.b__law_asked_v4]
  rcases (show k = 0 ∨ k = 1 ∨ k = 2 by omega) with rfl | rfl | rfl
  · simp at hA
    simp [start, hA, tryK, h1, exOk, h2, h3, h4, h5, h6, evXi, isExn, evXf, fldOf, es, nx]
  · simp at hA
    simp [start, hA, tryK, h1, exOk, h2, h3, h4, h5, h6, evXi, isExn, evXf, fldOf, es, nx]
  · simp at hA
    simp [start, hA, tryK, h1, exOk, h2, h3, h4, h5, h6, evXi, isExn, evXf, fldOf, es, nx]
section
variable {rows : List Row} {p : Nat} {x : List Nat}
theorem en_nil (h : GoodRows rows p) (hx : x.length = p) : valB (lawLeast rows) x = 0 ↔ enough (leastR (lawLeast rows)) x = [] := by
  rw [val_zero h.least]
  constructor
  · intro z
    refine List.eq_nil_iff_forall_not_mem.mpr fun s hs => ?_
    obtain ⟨r, hr, hb, _⟩ := (mem_en h).mp hs
    rw [z r hr] at hb
    cases hb
  · intro z r hr
    refine Bool.eq_false_iff.mpr fun hb => ?_
    have : ansd r.1 ∈ enough (leastR (lawLeast rows)) x := (mem_en h).mpr ⟨r, hr, hb, rfl⟩
    rw [z] at this
    simp at this
theorem stops_nil (h0 : [] ∈ enough (leastR (lawLeast rows)) x) : leastF (hits (enough (leastR (lawLeast rows)) x) (setsIn p x)) = [] := by
  have : hits (enough (leastR (lawLeast rows)) x) (setsIn p x) = [] := by
    refine List.eq_nil_iff_forall_not_mem.mpr fun s hs => ?_
    obtain ⟨j, _, j2⟩ := (mem_hits.mp hs).2 [] h0
    simp at j2
  rw [this]
  simp [leastF, dd]
theorem stops_some (h : GoodRows rows p) (hx : x.length = p) (hne : enough (leastR (lawLeast rows)) x ≠ []) (h0 : [] ∉ enough (leastR (lawLeast rows)) x) : leastF (hits (leastF (enough (leastR (lawLeast rows)) x)) (subs (topOf (leastF (enough (leastR (lawLeast rows)) x)) + 1))) = leastF (hits (enough (leastR (lawLeast rows)) x) (setsIn p x)) := by
  have hlt : ∀ s ∈ enough (leastR (lawLeast rows)) x, ∀ j ∈ s, j < p := fun s hs j hj => by
    have := (mem_ansd.mp (en_sub h hx s hs j hj)).1
    omega
  have hp0 : 0 < p := by
    obtain ⟨s, hs⟩ := List.exists_mem_of_ne_nil _ hne
    obtain ⟨j, hj⟩ := List.exists_mem_of_ne_nil s (fun z => h0 (z ▸ hs))
    have := hlt s hs j hj
    omega
  rw [hits_top (m := p) (fun s hs => hlt s (mem_leastF.mp hs).1) hp0, hits_least (en_can h)]
  exact (hits_in (en_sub h hx)).symm
end
end M
end

section
set_option Elab.async false
set_option linter.all false
set_option maxRecDepth 100000
/-! K90d: the law. -/
namespace M
variable {T : Tb} {N : Nn} {n : Nat} {h : Hs}
theorem law90_t3 (H : K90Fns T N) {A p : Nat} {rows : List Row} {x : List Nat} {sc hd dr : D} {o8 : Option D} (hG : GoodRows rows p) (hp : p ≤ 4) (hl : rows.length ≤ 6) (hx : x.length = p) : Wp (evSs T (evFn T (n + 7)) (ssDrop 11 (B.b_law_v16 N)) [some sc, some hd, some (.int A), some dr, some (.int p), some (lr (lawLeast rows)), some (boxD N A p (leastR (lawLeast rows))), some (tn x), o8, none, none, none, none, none, none, none, none, none, none] []) fun r => ∃ h', r = .rt (.bl true) h' := by
  have He : EnoughFns T N := ⟨H.fam, H.box, H.enough_sets, H.stopping_sets⟩
  have hxL : x.length ≤ LIM := by unfold LIM; omega
  have hlw : ∀ r ∈ lawLeast rows, r.1.length ≤ x.length := fun r hr => by rw [hG.least.len r hr, hx]; exact Nat.le_refl _
  have hlL : ∀ r ∈ leastR (lawLeast rows), r.1.length ≤ x.length := fun r hr => hlw r ((mem_boxL hG).mp hr)
  have hLl : (leastR (lawLeast rows)).length ≤ 6 := Nat.le_trans leastR_len (Nat.le_trans lawLeast_len hl)
  have esets := fun h => sets_ok (n := n + 6) (h := h) H.sets (m := p) (by omega)
  have eonly := fun s h => (law_only_ok (n := n + 4) (h := h) (s := s) H.below H.value H.only hlw hxL).1
  have eonly2 := fun s h => (law_only_ok (n := n + 4) (h := h) (s := s) H.below H.value H.only hlw hxL).2
  have easks := fun s h => asks_enough_ok (n := n + 4) (h := h) (s := s) (a := A) (p := p) H.box H.asks_enough hlL hxL
  have eval := fun h => law_value_ok (n := n + 5) (h := h) H.below H.value hlw hxL
  have esb := fun (b : Bool) h => same_ok H.whole H.same 0 (.bl b) rfl rfl (n + 5) h
  have hsl : (subs p).length ≤ 16 := by
    rw [subs_len]
    have : (2 : Nat) ^ p ≤ 2 ^ 4 := Nat.pow_le_pow_right (by decide) hp
    exact this
  have hr := fun h => rngO_0 (h := h) (b := p) (by unfold LIM; omega)
  simp only [B.b_law_v16, ssDrop]
  simp [esets]
  refine wp_for (fun R ρ h => ∃ o9 o10, (∀ s ∈ R, s ∈ subs p) ∧ ρ = [some sc, some hd, some (.int A), some dr, some (.int p), some (lr (lawLeast rows)), some (boxD N A p (leastR (lawLeast rows))), some (tn x), o8, o9, o10, none, none, none, none, none, none, none, none] ∧ h = []) ⟨_, _, fun _ h => h, rfl, rfl⟩ ?_ ?_
  · rintro ρ h ⟨o9, o10, _, rfl, rfl⟩
    refine ⟨rfl, ?_⟩
    by_cases c : valB (lawLeast rows) x = 0
    · have en := (en_nil hG hx).mp c
      obtain ⟨C, d1, d2, d3, d4, d5, d6⟩ := H.noAnswer
      have eA := fun n h => enough_sets_no (n := n) (h := h) (a := A) (p := p) He d1 d2 (by rw [d3]; rfl) hlL hxL (by unfold LIM; omega) en
      have eS := fun n h => stopping_no (n := n) (h := h) H.stopping_sets noref_boxD (fun h => eA n h)
      have eT := fun n h => tolerance_no (n := n) (h := h) H.tolerance noref_boxD (fun h => eS n h)
      have a0 : ∀ h, evFn T (n + 7) N.f__law_asked_v4 [.int 0, boxD N A p (leastR (lawLeast rows)), tn x] h = .ok (.lst [.str [115, 105, 108, 101, 110, 116], .non]) h := fun h => asked4_silent (n := n) (h := h) (k := 0) H (by decide) noref_boxD noX_boxD hxL (fun h => eA (n + 3) h)
      have a1 : ∀ h, evFn T (n + 7) N.f__law_asked_v4 [.int 1, boxD N A p (leastR (lawLeast rows)), tn x] h = .ok (.lst [.str [115, 105, 108, 101, 110, 116], .non]) h := fun h => asked4_silent (n := n) (h := h) (k := 1) H (by decide) noref_boxD noX_boxD hxL (fun h => eS (n + 2) h)
      have a2 : ∀ h, evFn T (n + 7) N.f__law_asked_v4 [.int 2, boxD N A p (leastR (lawLeast rows)), tn x] h = .ok (.lst [.str [115, 105, 108, 101, 110, 116], .non]) h := fun h => asked4_silent (n := n) (h := h) (k := 2) H (by decide) noref_boxD noX_boxD hxL (fun h => eT (n + 1) h)
      simp [a0, a1, a2, eval, c]
    · have hne : enough (leastR (lawLeast rows)) x ≠ [] := fun z => c ((en_nil hG hx).mpr z)
      have eA := fun n h => enough_sets_ok (n := n) (h := h) (a := A) (p := p) He hlL hxL (by unfold LIM; omega) hne
      have eE := least_enough hG hx
      have eF := stop_filter hG hx
      have hStl : (leastF (hits (enough (leastR (lawLeast rows)) x) (setsIn p x))).length ≤ 16 := by
        refine Nat.le_trans (leastF_len _) (Nat.le_trans (List.length_filter_le _ _) ?_)
        unfold setsIn
        exact Nat.le_trans (List.length_filter_le _ _) hsl
      have hEl : (leastF (enough (leastR (lawLeast rows)) x)).length ≤ 6 := by
        refine Nat.le_trans (leastF_len _) ?_
        unfold enough
        rw [List.length_map]
        exact Nat.le_trans (List.length_filter_le _ _) hLl
      have hStm : ∀ s ∈ leastF (hits (enough (leastR (lawLeast rows)) x) (setsIn p x)), s.length ≤ p := fun s hs => by
        have := (mem_hits.mp (mem_leastF.mp hs).1).1
        exact subs_mem_len (List.mem_filter.mp this).1
      have hEm : ∀ s ∈ leastF (enough (leastR (lawLeast rows)) x), s.length ≤ p := fun s hs => by
        rw [← hx]
        exact enough_lens hlL (mem_leastF.mp hs).1
      have eS : ∀ n h, evFn T (n + 4) N.f_stopping_sets [boxD N A p (leastR (lawLeast rows)), tn x] h = .ok (tt (leastF (hits (enough (leastR (lawLeast rows)) x) (setsIn p x)))) h := by
        intro n h
        by_cases c0 : [] ∈ enough (leastR (lawLeast rows)) x
        · rw [stops_nil c0]
          refine stopping_nil (n := n) (h := h) H.stopping_sets noref_boxD ?_ (fun h => eA n h)
          obtain ⟨t, ht, hj⟩ := ex_min (en_can hG) 0 [] (Nat.le_refl _) c0
          cases t with
          | nil => exact ht
          | cons a t => exact absurd (hj a (List.mem_cons_self ..)) (by simp)
        · rw [← stops_some hG hx hne c0]
          exact stopping_sets_ok (n := n) (h := h) (m := p) He hlL (by omega) (by omega) (by omega) hne c0 (leastF_ne (en_can hG) hne)
      generalize hSt : leastF (hits (enough (leastR (lawLeast rows)) x) (setsIn p x)) = St at hStl hStm eS
      generalize hEn : leastF (enough (leastR (lawLeast rows)) x) = En at hEl hEm eA eE
      have eT := fun n h => tolerance_ok (n := n) (h := h) H.box.answered_places H.tolerance noref_boxD hxL (by unfold LIM; omega) (fun h => eS n h)
      have a0 : ∀ h, evFn T (n + 7) N.f__law_asked_v4 [.int 0, boxD N A p (leastR (lawLeast rows)), tn x] h = .ok (.lst [.str [116, 111, 108, 100], tt En]) h := fun h => asked4_told (n := n) (h := h) (k := 0) H (by decide) noref_boxD (by simp) (fun h => eA (n + 3) h)
      have a1 : ∀ h, evFn T (n + 7) N.f__law_asked_v4 [.int 1, boxD N A p (leastR (lawLeast rows)), tn x] h = .ok (.lst [.str [116, 111, 108, 100], tt St]) h := fun h => asked4_told (n := n) (h := h) (k := 1) H (by decide) noref_boxD (by simp) (fun h => eS (n + 2) h)
      have a2 : ∀ h, evFn T (n + 7) N.f__law_asked_v4 [.int 2, boxD N A p (leastR (lawLeast rows)), tn x] h = .ok (.lst [.str [116, 111, 108, 100], .int (tolV St x)]) h := fun h => asked4_told (n := n) (h := h) (k := 2) H (by decide) noref_boxD rfl (fun h => eT (n + 1) h)
      have eval' : ∀ h, evFn T (n + 7) N.f__law_value [lr (lawLeast rows), tn x] h = .ok (.int (valB (lawLeast rows) x : Nat)) h := eval
      have ec : ¬ ((valB (lawLeast rows) x : Nat) : Int) = 0 := by omega
      have esE := fun h => same_ok H.whole H.same 2 (tt En) sm_tt (lens_tt (by unfold LIM; omega) fun s hs => by have := hEm s hs; unfold LIM; omega) (n + 3) h
      have esS := fun h => same_ok H.whole H.same 2 (tt St) sm_tt (lens_tt (by unfold LIM; omega) fun s hs => by have := hStm s hs; unfold LIM; omega) (n + 3) h
      have esI := fun (i : Int) h => same_ok H.whole H.same 0 (.int i) sm_int lens_int (n + 5) h
      have eins := fun s (hs : s.length ≤ LIM) b h => insidel_ok (n := n + 6) (h := h) H.inside (a := s) (b := b) hs
      have hsm : ∀ s ∈ subs p, s.length ≤ LIM := fun s hs => by have := subs_mem_len hs; unfold LIM; omega
      have hzl : (setsIn p x).length ≤ 16 := Nat.le_trans (List.length_filter_le _ _) hsl
      have hzm : ∀ s ∈ setsIn p x, s.length ≤ LIM := fun s hs => hsm s (List.mem_filter.mp hs).1
      have els := fun F (h1 : F.length < LIM) (h2 : ∀ s ∈ F, s.length ≤ LIM) h => least_sets_ok (n := n + 5) (h := h) H.inside H.least_sets (F := F) h1 h2
      have ebd : ∀ v : Nat, decide ((v : Int) = 0) = decide (v = 0) := fun v => by rw [Bool.eq_iff_iff]; simp
      simp [a0, a1, a2, eval', c, hr]
      rw [compGo_N (p := fun j => !decide (at0 x j = 0)) (g := fun j => j) rfl ?_ (by simp) (by simp; unfold LIM; omega)]
      · have e1 : (List.range p).filter (fun j => !decide (at0 x j = 0)) = ansd x := by unfold ansd; rw [hx]
        simp [e1, esets]
        rw [compGo_T (p := fun s => subB s (ansd x)) (g := fun s => s) rfl ?_ (by simp) (by unfold LIM; omega)]
        · have e2 : (subs p).filter (fun s => subB s (ansd x)) = setsIn p x := rfl
          simp [e2]
          rw [compGo_T (p := fun s => !decide (valB (lawLeast rows) (maskX x s) = 0)) (g := fun s => s) rfl ?_ (by simp) (by unfold LIM; omega)]
          · simp
            rw [els _ (by
              refine Nat.lt_of_le_of_lt (List.length_filter_le _ _) ?_
              unfold LIM; omega) (fun s hs => hzm s (List.mem_filter.mp hs).1)]
            simp [eE, hr]
            rw [compGo_aN (g := fun j => j) rfl (by simp) (by simp) (by simp; unfold LIM; omega)]
            simp
            refine wp_for (fun R ρ h => ∃ acc o9 o10 o18, (∀ s ∈ R, s ∈ setsIn p x) ∧ acc ++ R.filter (fun s => decide (valB (lawLeast rows) (maskX x ((List.range p).filter fun j => !decide (j ∈ s))) = 0)) = hits (enough (leastR (lawLeast rows)) x) (setsIn p x) ∧ acc.length + R.length ≤ 16 ∧ ρ = [some sc, some hd, some (.int A), some dr, some (.int p), some (lr (lawLeast rows)), some (boxD N A p (leastR (lawLeast rows))), some (tn x), o8, o9, o10, some (.lst [.lst [.str [116, 111, 108, 100], tt En], .lst [.str [116, 111, 108, 100], tt St], .lst [.str [116, 111, 108, 100], .int (tolV St x)]]), some (ln (ansd x)), some (lt (setsIn p x)), some (lt En), some (ln (List.range p)), some (.ref 0), none, o18] ∧ h = [.opn (lt acc)]) ⟨[], _, _, _, fun _ h => h, by rw [List.nil_append]; exact eF, by simp; exact hzl, rfl, rfl⟩ ?_ ?_
            · rintro ρ h ⟨acc, o9, o10, o18, _, hacc, hal, rfl, rfl⟩
              refine ⟨rfl, ?_⟩
              have hacc : acc = hits (enough (leastR (lawLeast rows)) x) (setsIn p x) := by simpa using hacc
              have ez := fun h => els acc (by simp at hal; unfold LIM; omega) (fun s hs => by
                rw [hacc] at hs
                exact hzm s (mem_hits.mp hs).1) h
              rw [hacc, hSt, ← hacc] at ez
              simp [ez]
              have etl : St.length = 0 → tolV St x = ((ansd x).length : Int) := fun z => by
                unfold tolV
                rw [if_pos (List.length_eq_zero_iff.mp z)]
              refine wp_iteS (fun c2 => ?_) (fun c2 => ?_)
              · rw [compGo_aN (g := List.length) rfl (by simp) (by simp) (by unfold LIM; omega)]
                have hn : ¬ St = [] := fun z => by rw [z] at c2; simp at c2
                have e := intL_ints (l := St.map List.length)
                rw [List.map_map] at e
                simp
                rw [e]
                have e2 := minI_some (l := St.map List.length) (by simpa using hn)
                simp only [Option.bind_some, Function.comp_apply]
                rw [e2]
                have e3 : (minI ((St.map List.length).map Int.ofNat)).getD 0 - 1 = tolV St x := by
                  unfold tolV
                  rw [if_neg hn]
                simp only [Option.map_some, Ro_some, bind_ok, pk_int, vB_sub, st_ok]
                rw [e3]
                simp [esE, esS, esI]
              · simp
                rw [← etl (by omega)]
                simp [esE, esS, esI]
            · rintro s R ρ h ⟨acc, o9, o10, o18, hR, hacc, hal, rfl, rfl⟩
              refine ⟨rfl, ?_⟩
              have hs := hR s (List.mem_cons_self ..)
              have hR' : ∀ t ∈ R, t ∈ setsIn p x := fun t ht => hR t (List.mem_cons_of_mem _ ht)
              simp only [List.length_cons] at hal
              simp
              rw [compGo_N (p := fun j => !decide (j ∈ s)) (g := fun j => j) rfl (by simp) (by simp) (by simp; unfold LIM; omega)]
              simp [eonly2, ebd]
              rw [List.filter_cons] at hacc
              have hL : acc.length < LIM := by unfold LIM; omega
              refine wp_iteS (fun c2 => ?_) (fun c2 => ?_)
              · simp [hL]
                rw [c2] at hacc
                exact ⟨hR', acc ++ [s], by simpa using hacc, by simp; omega, rfl⟩
              · simp
                have c3 : decide (valB (lawLeast rows) (maskX x ((List.range p).filter fun j => !decide (j ∈ s))) = 0) = false := by simpa using c2
                rw [c3] at hacc
                exact ⟨hR', acc, by simpa using hacc, by omega, rfl⟩
          · intro s hs
            simp [eonly, ebd]
        · intro s hs
          simp [eins s (hsm s hs)]
      · intro j hj
        simp at hj
        simp [at0_some (show j < x.length by omega), ebd]
  · rintro s R ρ h ⟨o9, o10, hR, rfl, rfl⟩
    refine ⟨rfl, ?_⟩
    have e0 : valB (leastR (lawLeast rows)) (maskX x s) = valB (lawLeast rows) (maskX x s) := val_box hG
    have ed : decide ((valB (lawLeast rows) (maskX x s) : Int) = 0) = decide (valB (lawLeast rows) (maskX x s) = 0) := by
      rw [Bool.eq_iff_iff]; simp
    simp [eonly, easks, e0, ed, esb]
    exact fun t ht => hR t (List.mem_cons_of_mem _ ht)
end M
end

section
set_option Elab.async false
set_option linter.all false
set_option maxRecDepth 100000
/-! K90e: the law's beginning. -/
namespace M
variable {T : Tb} {N : Nn} {n : Nat} {h : Hs}
theorem idx_lr_m {x : List Row} {a b : Nat} : evIdx (lr x) (.int ((a : Int) % (b : Int))) = x[a % b]?.map rowD := idx_lr (i := a % b)
theorem law90_t2 (H : K90Fns T N) {A p : Nat} {rows : List Row} {ds : List Nat} {sc : D} (hA : 1 ≤ A ∧ A ≤ 3) (hG : GoodRows rows p) (hp : p ≤ 4) (hl : rows.length ≤ 6) (hds : ds.length = 8) : Wp (evSs T (evFn T (n + 7)) (ssDrop 6 (B.b_law_v16 N)) [some sc, some (ln ds), some (.int A), some (.lst [.int p, lr rows]), none, none, none, none, none, none, none, none, none, none, none, none, none, none, none] []) fun r => ∃ h', r = .rt (.bl true) h' := by
  have tail := fun x (hx : List.length x = p) o8 => law90_t3 (n := n) (sc := sc) (hd := ln ds) (dr := .lst [.int p, lr rows]) (A := A) (o8 := o8) H hG hp hl hx
  have hLl : (lawLeast rows).length ≤ 6 := Nat.le_trans lawLeast_len hl
  have el := fun h => law_least_ok (n := n + 5) (h := h) H.below H.least hG.len (by unfold LIM; omega) (by unfold LIM; omega)
  have eb := fun h => box_make_ok (n := n + 2) (h := h) H.box (a := A) hG.least.len (by unfold LIM; omega) (by unfold LIM; omega) (by unfold LIM; omega) hG.least.noClash
  have hr := fun h => rngO_0 (h := h) (b := p) (by unfold LIM; omega)
  have hget : ∀ k, k < p → ∃ v, ds[4 + k]? = some v := fun k hk => ⟨_, List.getElem?_eq_getElem (by omega)⟩
  rw [evSs_split 5]
  generalize htl : ssDrop 5 (ssDrop 6 (B.b_law_v16 N)) = tl
  have htl2 : ssDrop 11 (B.b_law_v16 N) = tl := by rw [← htl]; rfl
  rw [htl2] at tail
  obtain ⟨d2, e2⟩ : ∃ v, ds[2]? = some v := ⟨_, List.getElem?_eq_getElem (by omega)⟩
  obtain ⟨d3, e3⟩ : ∃ v, ds[3]? = some v := ⟨_, List.getElem?_eq_getElem (by omega)⟩
  simp only [B.b_law_v16, ssDrop, ssTake]
  simp [el, eb, hr]
  rw [compGo_aN (g := fun k => 1 + ds.getD (4 + k) 0 % A) rfl (by simp) ?_ (by simp; unfold LIM; omega)]
  · simp [e2]
    refine wp_iteS (fun c => ?_) (fun c => ?_)
    · have hlt : d3 % (lawLeast rows).length < (lawLeast rows).length := Nat.mod_lt _ (by omega)
      obtain ⟨r, hrr⟩ : ∃ r, (lawLeast rows)[d3 % (lawLeast rows).length]? = some r := ⟨_, List.getElem?_eq_getElem hlt⟩
      have hrm : r ∈ lawLeast rows := List.mem_of_getElem? hrr
      have hrl := hG.least.len r hrm
      have hpos : 0 < (lawLeast rows).length := by omega
      simp [e3, hpos, idx_lr_m, hrr, hr]
      rw [compGo_aN (g := fun k => if (if at0 r.1 k = 0 then ds.getD (4 + k) 0 % (A + 1) else 0) > at0 r.1 k then (if at0 r.1 k = 0 then ds.getD (4 + k) 0 % (A + 1) else 0) else at0 r.1 k) rfl (by simp) ?_ (by simp; unfold LIM; omega)]
      · simp
        exact tail _ (by simp) _
      · intro k hk
        simp at hk
        obtain ⟨v, hv⟩ := hget k hk
        simp [at0_some (show k < r.1.length by omega), hv]
        by_cases c2 : at0 r.1 k = 0
        · simp [c2]
          rw [if_pos (mulOk_l (by omega) (by omega))]
          simp
          have ev : (v : Int) % ((A : Int) + 1) = ((v % (A + 1) : Nat) : Int) := by simp
          rw [ev]
          split <;> split <;> omega
        · simp [c2]
          rw [if_pos (mulOk_l (by omega) (by omega))]
          simp
          omega
    · simp
      exact tail _ (by simp) _
  · intro k hk
    simp at hk
    obtain ⟨v, hv⟩ := hget k hk
    have : 0 < A := by omega
    simp [hv, this]
theorem law90_ok (H : K90Fns T N) (ns : List Int) : evFn T (n + 8) N.f_law_v16 [.rol (ns.map .int)] h = .ok (.bl true) h := by
  obtain ⟨_, ec0, i0, rfl⟩ := cell_ok (n := n + 6) (h := []) H.cell (ns := ns) (k := 0) (by decide)
  obtain ⟨_, ec1, i1, rfl⟩ := cell_ok (n := n + 6) (h := []) H.cell (ns := ns) (k := 1) (by decide)
  obtain ⟨_, ed0, ds, rfl, hd⟩ := digits_ok (n := n + 6) (h := []) H.digits (c' := i0) (sizes := [5, 8, 2, 9, 4, 4, 4, 4]) (by decide) (by decide)
  obtain ⟨_, ed1, es, rfl, he⟩ := digits_ok (n := n + 6) (h := []) H.digits (c' := i1) (sizes := [9, 8, 6, 4, 7, 10, 10, 10, 12, 10, 10, 10, 12, 10, 10, 10, 12, 10, 10, 10, 12, 10, 10, 10, 12, 10, 10, 10, 12]) (by decide) (by decide)
  obtain ⟨_, ed2, fs, rfl, hf⟩ := digits_ok (n := n + 6) (h := []) H.digits (c' := i1) (sizes := [7, 10, 10, 10, 10, 12, 10, 10, 10, 10, 12, 10, 10, 10, 10, 12, 10, 10, 10, 10, 12, 10, 10, 10, 10, 12, 10, 10, 10, 10, 12]) (by decide) (by decide)
  have hdl : ds.length = 8 := hd.1
  obtain ⟨d0, e0⟩ : ∃ v, ds[0]? = some v := ⟨_, List.getElem?_eq_getElem (by omega)⟩
  obtain ⟨d1, e1⟩ : ∃ v, ds[1]? = some v := ⟨_, List.getElem?_eq_getElem (by omega)⟩
  obtain ⟨d3, e3⟩ : ∃ v, ds[3]? = some v := ⟨_, List.getElem?_eq_getElem (by omega)⟩
  have b0 : d0 < 5 := hd.2 0 d0 5 e0 rfl
  obtain ⟨A, hA, hA2⟩ : ∃ A, [2, 2, 3, 1, 2][d0]? = some A ∧ 1 ≤ A ∧ A ≤ 3 := by
    have : ∀ v : Fin 5, ∃ q, [2, 2, 3, 1, 2][v.1]? = some q ∧ 1 ≤ q ∧ q ≤ 3 := by decide
    exact this ⟨d0, b0⟩
  obtain ⟨_, ebx, p, rows, rfl, hG, hp, hl⟩ := law_box_ok (n := n + 4) (h := []) H.agree H.rows H.known H.turned H.lbox (A := A) (row := es) hA2 he.1 (fun d hd => he.2 1 d 8 hd rfl)
  obtain ⟨_, erw, rows4, rfl, hG4, hl4⟩ := law_rows_ok (n := n + 5) (h := []) H.agree H.rows (A := A) (p := 4) (row := fs) hA2 (by decide) (by rw [hf.1]; decide)
  have l1 : D.lst [.int 5, .int 8, .int 2, .int 9, .int 4, .int 4, .int 4, .int 4] = ln [5, 8, 2, 9, 4, 4, 4, 4] := rfl
  have l2 : D.lst [.int 2, .int 2, .int 3, .int 1, .int 2] = ln [2, 2, 3, 1, 2] := rfl
  have l3 : D.lst [.int 9, .int 8, .int 6, .int 4, .int 7, .int 10, .int 10, .int 10, .int 12, .int 10, .int 10, .int 10, .int 12, .int 10, .int 10, .int 10, .int 12, .int 10, .int 10, .int 10, .int 12, .int 10, .int 10, .int 10, .int 12, .int 10, .int 10, .int 10, .int 12] = ln [9, 8, 6, 4, 7, 10, 10, 10, 12, 10, 10, 10, 12, 10, 10, 10, 12, 10, 10, 10, 12, 10, 10, 10, 12, 10, 10, 10, 12] := rfl
  have l4 : D.lst [.int 7, .int 10, .int 10, .int 10, .int 10, .int 12, .int 10, .int 10, .int 10, .int 10, .int 12, .int 10, .int 10, .int 10, .int 10, .int 12, .int 10, .int 10, .int 10, .int 10, .int 12, .int 10, .int 10, .int 10, .int 10, .int 12, .int 10, .int 10, .int 10, .int 10, .int 12] = ln [7, 10, 10, 10, 10, 12, 10, 10, 10, 10, 12, 10, 10, 10, 10, 12, 10, 10, 10, 10, 12, 10, 10, 10, 10, 12, 10, 10, 10, 10, 12] := rfl
  have ec0' : evFn T (n + 7) N.f__law_cell [.rol (ns.map .int), .int 0] [] = .ok (.int i0) [] := ec0
  have ec1' : evFn T (n + 7) N.f__law_cell [.rol (ns.map .int), .int 1] [] = .ok (.int i1) [] := ec1
  have erw' : evFn T (n + 7) N.f__law_rows_v3 [.int A, .int 4, ln fs] [] = .ok (lr rows4) [] := erw
  have tail := fun p rows hG hp hl => law90_t2 (n := n) (A := A) (p := p) (rows := rows) (ds := ds) (sc := .rol (ns.map .int)) H hA2 hG hp hl hdl
  refine fn_eq H.law rfl rfl (by simp [nr_ints]) rfl ?_
  show Wp (evSs T (evFn T (n + 7)) (B.b_law_v16 N) _ _) _
  rw [evSs_split 6]
  generalize ssDrop 6 (B.b_law_v16 N) = tl at tail
  simp only [B.law_v16, B.b_law_v16, ssTake]
  simp [start, ec0', l1, ed0, l2, e0, e1, hA, ec1', l3, ed1, ebx]
  by_cases c0 : d1 = 0
  · simp [e1, c0]
    exact tail 3 [([0, 0, 0], 1)] ⟨by decide, by decide, by decide, by decide⟩ (by decide) (by decide)
  · by_cases c1 : d1 = 1
    · simp [e1, c1, ec1', l4, ed2, erw']
      exact tail 4 rows4 hG4 (by decide) hl4
    · by_cases c2 : d1 = 2
      · simp [e1, c2, e3]
        rcases (show d3 % 2 = 0 ∨ d3 % 2 = 1 by omega) with z | z
        · have z2 : (d3 : Int) % 2 = 0 := by omega
          have es0 : evSlc (D.lst [D.tup [tn [], D.int 1]]) none (some ((d3 : Int) % 2)) = some (lr []) := by
            rw [z2]
            rfl
          simp [es0]
          exact tail 0 [] GoodRows.nil (by decide) (by decide)
        · have z2 : (d3 : Int) % 2 = 1 := by omega
          have es0 : evSlc (D.lst [D.tup [tn [], D.int 1]]) none (some ((d3 : Int) % 2)) = some (lr [([], 1)]) := by
            rw [z2]
            rfl
          simp [es0]
          exact tail 0 [([], 1)] ⟨by decide, by decide, by decide, by decide⟩ (by decide) (by decide)
      · have g0 : ¬ (d1 : Int) = 0 := by omega
        have g1 : ¬ (d1 : Int) = 1 := by omega
        have g2 : ¬ (d1 : Int) = 2 := by omega
        simp [e1, c0, c1, c2, g0, g1, g2]
        exact tail p rows hG (by omega) hl
end M
end

section
set_option Elab.async false
set_option linter.all false
set_option autoImplicit false
set_option maxRecDepth 100000
set_option maxHeartbeats 0
namespace G
open PySem PySem.Spec PyProof.Rows L2 M
def top (i : Nat) : Stmt := PySem.Challenge.pw_eitheranswers_k90_enough_and_stopping.main.body.getD i (.Pass ⟨0, 0, 0, 0⟩)
def dTop (x : Str) (i : Nat) : He.DefD := ⟨(x, none), x, x, defArgs (top i), defBody (top i), defScope (top i), [], []⟩
def dIn (c m q : Str) (i j : Nat) : He.DefD := ⟨(c, some m), m, q, defArgs (inClass (top i) j), defBody (inClass (top i) j), defScope (inClass (top i) j), [], []⟩
def N : Nn := { f_contains_all := 0, f_size_order := 1, f_least_family := 2, f_have_common := 3, f_subsets_of := 4, f_is_blocking := 5, f_blockers := 6, f_NoInput___init__ := 7, f_Clash___init__ := 8, f_NoAnswer___init__ := 9, f_is_below := 10, f_contradicting_place := 11, f_agree := 12, f_answered_places := 13, f_enough_sets := 14, f_stopping_sets := 15, f_tolerance := 16, f_asks_enough := 17, f_first_clash := 18, f_has_lower := 19, f_least_rows := 20, f_Box___init__ := 21, f_Box___call__ := 22, f_Box___eq__ := 23, f__law_whole := 24, f__law_same := 25, f__law_cell := 26, f__law_digits := 27, f__law_below := 28, f__law_agree := 29, f__law_value := 30, f__law_least := 31, f__law_rows_v3 := 32, f__law_known_v2 := 33, f__law_turned_v2 := 34, f__law_box_v2 := 35, f__law_inside := 36, f__law_least_sets := 37, f__law_sets := 38, f__law_asked_v4 := 39, f__law_only := 40, f_law_v16 := 41, c_AnswersError := 0, c_NoInput := 1, c_Clash := 2, c_NoAnswer := 3, c_Box := 4, a_number := 0, a_second := 1, a_first := 2, a_x := 3, a_least := 4, a_kinds := 5, a_places := 6, a_answers := 7 }
def fns : List Fn := [B.contains_all N,
  B.size_order N,
  B.least_family N,
  B.have_common N,
  B.subsets_of N,
  B.is_blocking N,
  B.blockers N,
  B.NoInput___init__ N,
  B.Clash___init__ N,
  B.NoAnswer___init__ N,
  B.is_below N,
  B.contradicting_place N,
  B.agree N,
  B.answered_places N,
  B.enough_sets N,
  B.stopping_sets N,
  B.tolerance N,
  B.asks_enough N,
  B.first_clash N,
  B.has_lower N,
  B.least_rows N,
  B.Box___init__ N,
  B.Box___call__ N,
  B.Box___eq__ N,
  B._law_whole N,
  B._law_same N,
  B._law_cell N,
  B._law_digits N,
  B._law_below N,
  B._law_agree N,
  B._law_value N,
  B._law_least N,
  B._law_rows_v3 N,
  B._law_known_v2 N,
  B._law_turned_v2 N,
  B._law_box_v2 N,
  B._law_inside N,
  B._law_least_sets N,
  B._law_sets N,
  B._law_asked_v4 N,
  B._law_only N,
  B.law_v16 N]
def cls : List Cl := [⟨999999, [], true, [0], []⟩, ⟨7, [], true, [1, 0], [0]⟩, ⟨8, [], true, [2, 0], [2, 1]⟩, ⟨9, [], true, [3, 0], [3]⟩, ⟨21, [(0, 22), (1, 23)], false, [4], [7, 6, 4, 5]⟩]
def cons : List D := []
def tb : Tb := ⟨fns, cls, cons⟩
def fn : List He.DefD := [dTop "contains_all" 1,
  dTop "size_order" 2,
  dTop "least_family" 3,
  dTop "have_common" 4,
  dTop "subsets_of" 5,
  dTop "is_blocking" 7,
  dTop "blockers" 8,
  dIn "NoInput" "__init__" "NoInput.__init__" 11 0,
  dIn "Clash" "__init__" "Clash.__init__" 12 0,
  dIn "NoAnswer" "__init__" "NoAnswer.__init__" 13 0,
  dTop "is_below" 15,
  dTop "contradicting_place" 16,
  dTop "agree" 17,
  dTop "answered_places" 18,
  dTop "enough_sets" 20,
  dTop "stopping_sets" 21,
  dTop "tolerance" 22,
  dTop "asks_enough" 23,
  dTop "first_clash" 25,
  dTop "has_lower" 26,
  dTop "least_rows" 27,
  dIn "Box" "__init__" "Box.__init__" 28 0,
  dIn "Box" "__call__" "Box.__call__" 28 1,
  dIn "Box" "__eq__" "Box.__eq__" 28 2,
  dTop "_law_whole" 30,
  dTop "_law_same" 31,
  dTop "_law_cell" 32,
  dTop "_law_digits" 33,
  dTop "_law_below" 34,
  dTop "_law_agree" 35,
  dTop "_law_value" 36,
  dTop "_law_least" 37,
  dTop "_law_rows" 38,
  dTop "_law_known" 39,
  dTop "_law_turned" 40,
  dTop "_law_box" 41,
  dTop "_law_inside" 42,
  dTop "_law_least_sets" 43,
  dTop "_law_sets" 44,
  dTop "_law_asked" 45,
  dTop "_law_only" 46,
  dTop "law" 47]
def nps : List (List Str × List Str) := [([("places" : Str), ("others" : Str), ("missing" : Str), ("place" : Str)], [("places" : Str), ("others" : Str)]),
  ([("quorum" : Str)], [("quorum" : Str)]),
  ([("family" : Str), ("known" : Str), ("quorum" : Str), ("smaller" : Str), ("other" : Str)], [("family" : Str)]),
  ([("one" : Str), ("two" : Str), ("both" : Str), ("place" : Str)], [("one" : Str), ("two" : Str)]),
  ([("places" : Str), ("grown" : Str), ("place" : Str), ("chosen" : Str)], [("places" : Str)]),
  ([("chosen" : Str), ("family" : Str), ("missed" : Str), ("quorum" : Str)], [("chosen" : Str), ("family" : Str)]),
  ([("family" : Str), ("greatest" : Str), ("blocking" : Str), ("quorum" : Str), ("place" : Str), ("chosen" : Str)], [("family" : Str)]),
  ([("self" : Str), ("number" : Str)], [("self" : Str), ("number" : Str)]),
  ([("self" : Str), ("first" : Str), ("second" : Str)], [("self" : Str), ("first" : Str), ("second" : Str)]),
  ([("self" : Str), ("x" : Str)], [("self" : Str), ("x" : Str)]),
  ([("x" : Str), ("y" : Str), ("place" : Str)], [("x" : Str), ("y" : Str)]),
  ([("x" : Str), ("y" : Str), ("place" : Str)], [("x" : Str), ("y" : Str)]),
  ([("x" : Str), ("y" : Str)], [("x" : Str), ("y" : Str)]),
  ([("x" : Str), ("place" : Str)], [("x" : Str)]),
  ([("box" : Str), ("x" : Str), ("sets" : Str), ("row" : Str)], [("box" : Str), ("x" : Str)]),
  ([("box" : Str), ("x" : Str), ("sets" : Str)], [("box" : Str), ("x" : Str)]),
  ([("box" : Str), ("x" : Str), ("stops" : Str), ("stop" : Str)], [("box" : Str), ("x" : Str)]),
  ([("box" : Str), ("x" : Str), ("places" : Str), ("place" : Str)], [("box" : Str), ("x" : Str), ("places" : Str)]),
  ([("rows" : Str), ("first" : Str), ("second" : Str)], [("rows" : Str)]),
  ([("rows" : Str), ("x" : Str), ("row" : Str)], [("rows" : Str), ("x" : Str)]),
  ([("rows" : Str), ("known" : Str), ("row" : Str), ("x" : Str)], [("rows" : Str)]),
  ([("self" : Str), ("answers" : Str), ("places" : Str), ("rows" : Str), ("clash" : Str), ("given" : Str), ("row" : Str), ("answer" : Str)], [("self" : Str), ("answers" : Str), ("places" : Str), ("rows" : Str)]),
  ([("self" : Str), ("x" : Str), ("row" : Str)], [("self" : Str), ("x" : Str)]),
  ([("self" : Str), ("other" : Str)], [("self" : Str), ("other" : Str)]),
  ([("value" : Str)], [("value" : Str)]),
  ([("actual" : Str), ("due" : Str), ("k" : Str)], [("actual" : Str), ("due" : Str)]),
  ([("script" : Str), ("k" : Str), ("seed" : Str), ("cell" : Str)], [("script" : Str), ("k" : Str)]),
  ([("cell" : Str), ("sizes" : Str), ("row" : Str), ("rest" : Str), ("size" : Str), ("seed" : Str), ("k" : Str), ("twice" : Str)], [("cell" : Str), ("sizes" : Str)]),
  ([("x" : Str), ("y" : Str), ("k" : Str)], [("x" : Str), ("y" : Str)]),
  ([("x" : Str), ("y" : Str), ("k" : Str)], [("x" : Str), ("y" : Str)]),
  ([("rows" : Str), ("x" : Str), ("row" : Str)], [("rows" : Str), ("x" : Str)]),
  ([("rows" : Str), ("kept" : Str), ("row" : Str), ("lower" : Str), ("other" : Str)], [("rows" : Str)]),
  ([("answers" : Str), ("places" : Str), ("row" : Str), ("rows" : Str), ("k" : Str), ("part" : Str), ("x" : Str), ("answer" : Str), ("clash" : Str), ("j" : Str), ("other" : Str)], [("answers" : Str), ("places" : Str), ("row" : Str)]),
  ([("digit" : Str)], [("digit" : Str)]),
  ([("x" : Str), ("digit" : Str), ("many" : Str), ("turned" : Str), ("k" : Str)], [("x" : Str), ("digit" : Str)]),
  ([("answers" : Str), ("row" : Str), ("known" : Str), ("rows" : Str), ("places" : Str), ("pair" : Str), ("value" : Str)], [("answers" : Str), ("row" : Str)]),
  ([("small" : Str), ("great" : Str), ("missing" : Str), ("j" : Str)], [("small" : Str), ("great" : Str)]),
  ([("sets" : Str), ("found" : Str), ("one" : Str), ("smaller" : Str), ("other" : Str), ("pair" : Str)], [("sets" : Str)]),
  ([("places" : Str), ("many" : Str), ("number" : Str), ("j" : Str)], [("places" : Str)]),
  ([("kind" : Str), ("box" : Str), ("x" : Str), ("e" : Str)], [("kind" : Str), ("box" : Str), ("x" : Str)]),
  ([("rows" : Str), ("x" : Str), ("places" : Str), ("k" : Str)], [("rows" : Str), ("x" : Str), ("places" : Str)]),
  ([("script" : Str), ("head" : Str), ("answers" : Str), ("drawn" : Str), ("places" : Str), ("rows" : Str), ("box" : Str), ("x" : Str), ("row" : Str), ("chosen" : Str), ("due" : Str), ("asked" : Str), ("there" : Str), ("sets" : Str), ("enough" : Str), ("left" : Str), ("stops" : Str), ("bear" : Str), ("k" : Str)], [("script" : Str)])]
def cl : List Str := [("AnswersError" : Str), ("NoInput" : Str), ("Clash" : Str), ("NoAnswer" : Str), ("Box" : Str)]
def nm : Nm := { fn := [some ("contains_all" : Str), some ("size_order" : Str), some ("least_family" : Str), some ("have_common" : Str), some ("subsets_of" : Str), some ("is_blocking" : Str), some ("blockers" : Str), (none : Option Str), (none : Option Str), (none : Option Str), some ("is_below" : Str), some ("contradicting_place" : Str), some ("agree" : Str), some ("answered_places" : Str), some ("enough_sets" : Str), some ("stopping_sets" : Str), some ("tolerance" : Str), some ("asks_enough" : Str), some ("first_clash" : Str), some ("has_lower" : Str), some ("least_rows" : Str), (none : Option Str), (none : Option Str), (none : Option Str), some ("_law_whole" : Str), some ("_law_same" : Str), some ("_law_cell" : Str), some ("_law_digits" : Str), some ("_law_below" : Str), some ("_law_agree" : Str), some ("_law_value" : Str), some ("_law_least" : Str), some ("_law_rows" : Str), some ("_law_known" : Str), some ("_law_turned" : Str), some ("_law_box" : Str), some ("_law_inside" : Str), some ("_law_least_sets" : Str), some ("_law_sets" : Str), some ("_law_asked" : Str), some ("_law_only" : Str), some ("law" : Str)], cl := [(none : Option Str), (none : Option Str), (none : Option Str), (none : Option Str), some ("Box" : Str)], ex := [(none : Option Str), (none : Option Str), some ("Clash" : Str), some ("NoAnswer" : Str), (none : Option Str)], ats := [("number" : Str), ("second" : Str), ("first" : Str), ("x" : Str), ("least" : Str), ("kinds" : Str), ("places" : Str), ("answers" : Str)], sk := [1], xn := [some ("AnswersError" : Str), some ("NoInput" : Str), some ("Clash" : Str), some ("NoAnswer" : Str), (none : Option Str)], hs := [24, 25] }
def dat : Dat := ⟨fn, nps, cl, tb, nm⟩
theorem okB1 : nmB dat = true := by decide +kernel
theorem okB3 : hotB dat = true := by decide +kernel
theorem okB4 : exsB dat = true := by decide +kernel
theorem okB5 : skB dat = true := by decide +kernel
theorem okB2 : zipB nm tb.fns fn nps = true := by decide +kernel
theorem ok : okB dat = true := by
  unfold okB
  rw [okB1, show zipB dat.nm dat.tb.fns dat.fn dat.nps = true from okB2, okB3, okB4, okB5]
  rfl
theorem allB : AllB fn nps := ⟨fun _ _ _ _ _ _ us hl => match us, hl with | [_, _], _ => rfl,
  fun _ _ _ _ _ _ us hl => match us, hl with | [_], _ => rfl,
  fun _ _ _ _ _ _ us hl => match us, hl with | [_], _ => rfl,
  fun _ _ _ _ _ _ us hl => match us, hl with | [_, _], _ => rfl,
  fun _ _ _ _ _ _ us hl => match us, hl with | [_], _ => rfl,
  fun _ _ _ _ _ _ us hl => match us, hl with | [_, _], _ => rfl,
  fun _ _ _ _ _ _ us hl => match us, hl with | [_], _ => rfl,
  fun _ _ _ _ _ _ us hl => match us, hl with | [_, _], _ => rfl,
  fun _ _ _ _ _ _ us hl => match us, hl with | [_, _, _], _ => rfl,
  fun _ _ _ _ _ _ us hl => match us, hl with | [_, _], _ => rfl,
  fun _ _ _ _ _ _ us hl => match us, hl with | [_, _], _ => rfl,
  fun _ _ _ _ _ _ us hl => match us, hl with | [_, _], _ => rfl,
  fun _ _ _ _ _ _ us hl => match us, hl with | [_, _], _ => rfl,
  fun _ _ _ _ _ _ us hl => match us, hl with | [_], _ => rfl,
  fun _ _ _ _ _ _ us hl => match us, hl with | [_, _], _ => rfl,
  fun _ _ _ _ _ _ us hl => match us, hl with | [_, _], _ => rfl,
  fun _ _ _ _ _ _ us hl => match us, hl with | [_, _], _ => rfl,
  fun _ _ _ _ _ _ us hl => match us, hl with | [_, _, _], _ => rfl,
  fun _ _ _ _ _ _ us hl => match us, hl with | [_], _ => rfl,
  fun _ _ _ _ _ _ us hl => match us, hl with | [_, _], _ => rfl,
  fun _ _ _ _ _ _ us hl => match us, hl with | [_], _ => rfl,
  fun _ _ _ _ _ _ us hl => match us, hl with | [_, _, _, _], _ => rfl,
  fun _ _ _ _ _ _ us hl => match us, hl with | [_, _], _ => rfl,
  fun _ _ _ _ _ _ us hl => match us, hl with | [_, _], _ => rfl,
  fun _ _ _ _ _ _ us hl => match us, hl with | [_], _ => rfl,
  fun _ _ _ _ _ _ us hl => match us, hl with | [_, _], _ => rfl,
  fun _ _ _ _ _ _ us hl => match us, hl with | [_, _], _ => rfl,
  fun _ _ _ _ _ _ us hl => match us, hl with | [_, _], _ => rfl,
  fun _ _ _ _ _ _ us hl => match us, hl with | [_, _], _ => rfl,
  fun _ _ _ _ _ _ us hl => match us, hl with | [_, _], _ => rfl,
  fun _ _ _ _ _ _ us hl => match us, hl with | [_, _], _ => rfl,
  fun _ _ _ _ _ _ us hl => match us, hl with | [_], _ => rfl,
  fun _ _ _ _ _ _ us hl => match us, hl with | [_, _, _], _ => rfl,
  fun _ _ _ _ _ _ us hl => match us, hl with | [_], _ => rfl,
  fun _ _ _ _ _ _ us hl => match us, hl with | [_, _], _ => rfl,
  fun _ _ _ _ _ _ us hl => match us, hl with | [_, _], _ => rfl,
  fun _ _ _ _ _ _ us hl => match us, hl with | [_, _], _ => rfl,
  fun _ _ _ _ _ _ us hl => match us, hl with | [_], _ => rfl,
  fun _ _ _ _ _ _ us hl => match us, hl with | [_], _ => rfl,
  fun _ _ _ _ _ _ us hl => match us, hl with | [_, _, _], _ => rfl,
  fun _ _ _ _ _ _ us hl => match us, hl with | [_, _, _], _ => rfl,
  fun _ _ _ _ _ _ us hl => match us, hl with | [_], _ => rfl, trivial⟩
abbrev R : PySem.W.OpenRow := PySem.W.OpenLaw.row PySem.Challenge.rw_eitheranswers_k90_enough_and_stopping
abbrev hk : PySem.W.Hook := hookM 4 (factB dat) fn
def ob (s : PySem.W.SharedT) : He.AlD := obsMG 4 (factB dat) fn (HandSHeadRun.getT s)
theorem ob_eq (s : PySem.W.SharedT) : ob s = hk.obs s.abs := obsMG_eq (HandSHeadRun.getT_eq s)
def names : List Str := ([("AnswersError" : Str), ("Box" : Str), ("Clash" : Str), ("NoAnswer" : Str), ("NoInput" : Str), ("_law_agree" : Str), ("_law_asked" : Str), ("_law_below" : Str), ("_law_box" : Str), ("_law_cell" : Str), ("_law_digits" : Str), ("_law_inside" : Str), ("_law_known" : Str), ("_law_least" : Str), ("_law_least_sets" : Str), ("_law_only" : Str), ("_law_rows" : Str), ("_law_same" : Str), ("_law_sets" : Str), ("_law_turned" : Str)] : List Str) ++ ([("_law_value" : Str), ("_law_whole" : Str), ("agree" : Str), ("answered_places" : Str), ("asks_enough" : Str), ("blockers" : Str), ("contains_all" : Str), ("contradicting_place" : Str), ("enough_sets" : Str), ("first_clash" : Str), ("has_lower" : Str), ("have_common" : Str), ("is_below" : Str), ("is_blocking" : Str), ("least_family" : Str), ("least_rows" : Str), ("size_order" : Str), ("stopping_sets" : Str), ("subsets_of" : Str), ("tolerance" : Str)] : List Str)
theorem run (w : World) : HandSHeadRun.RunEq R (PySem.W.view R.prog [47]) hk ob 3000 names w := by
  intro os
  kernel_rfl
theorem fam : FamFns tb N := ⟨⟨rfl, rfl⟩, ⟨rfl, rfl⟩, ⟨rfl, rfl⟩, ⟨rfl, rfl⟩, ⟨rfl, rfl⟩, ⟨rfl, rfl⟩, ⟨rfl, rfl⟩⟩
theorem box : BoxFns tb N := ⟨⟨rfl, rfl⟩, ⟨rfl, rfl⟩, ⟨rfl, rfl⟩, ⟨rfl, rfl⟩, ⟨rfl, rfl⟩, ⟨rfl, rfl⟩, ⟨rfl, rfl⟩, ⟨rfl, rfl⟩, ⟨rfl, rfl⟩, ⟨_, rfl, rfl, rfl, rfl, by decide, by decide, by decide, by decide⟩, by decide, by decide, by decide, by decide, by decide, by decide⟩
theorem fs : K90Fns tb N := ⟨fam, box, ⟨rfl, rfl⟩, ⟨rfl, rfl⟩, ⟨rfl, rfl⟩, ⟨rfl, rfl⟩, ⟨rfl, rfl⟩, ⟨rfl, rfl⟩, ⟨rfl, rfl⟩, ⟨rfl, rfl⟩, ⟨rfl, rfl⟩, ⟨rfl, rfl⟩, ⟨rfl, rfl⟩, ⟨rfl, rfl⟩, ⟨rfl, rfl⟩, ⟨rfl, rfl⟩, ⟨rfl, rfl⟩, ⟨rfl, rfl⟩, ⟨rfl, rfl⟩, ⟨rfl, rfl⟩, ⟨rfl, rfl⟩, ⟨rfl, rfl⟩, ⟨rfl, rfl⟩, ⟨rfl, rfl⟩, ⟨_, rfl, rfl, rfl, by decide, by decide, by decide⟩⟩

end G
open PySem PySem.W PySem.Calls PyProof.Rows
theorem PySem.Challenge.cw_eitheranswers_k90_enough_and_stopping_holds : PySem.Challenge.rw_eitheranswers_k90_enough_and_stopping.Holds := by
  w_on; o_law
  refine HandSHeadRun.head_any (r := OpenLaw.row PySem.Challenge.rw_eitheranswers_k90_enough_and_stopping) (q := view (OpenLaw.row PySem.Challenge.rw_eitheranswers_k90_enough_and_stopping).prog [47]) (H := G.hk) (ob := G.ob) (M := 3000) (loose := G.names) (d := HandSHeadRun.topDef (OpenLaw.row PySem.Challenge.rw_eitheranswers_k90_enough_and_stopping).prog 47) (kwd := []) G.ob_eq
    (by kernel_rfl) (fun s => by kernel_rfl) G.run (by kernel_rfl) (by kernel_rfl) (by kernel_rfl) (by rfl) (by first | assumption | decide +kernel) (by decide +kernel) ⟨rfl, rfl, rfl, rfl, rfl, by decide +kernel⟩ ?hw ?hc
  case hw => w_witness2
  case hc =>
    refine L2.walk_ofE (l := PySem.Challenge.rw_eitheranswers_k90_enough_and_stopping) (n := 63) (k := 2 * 8 + 5) (x := "script") (CX := M.CXe) rfl (by decide) (by kernel_rfl) ⟨rfl, by decide, by decide⟩ ?F (fun _ _ _ _ z => by obtain ⟨_, _, _, z⟩ := z; exact z)
    intro w mg fa h Y G0 hmg0
    obtain ⟨K, KX, c⟩ := Y
    have hmg : mg ("law" : PySem.Str) = some (.ref fa) := by
      have e : (HandSHeadRun.topDef (OpenLaw.row PySem.Challenge.rw_eitheranswers_k90_enough_and_stopping).prog 47).name = ("law" : PySem.Str) := by kernel_rfl
      rw [← e]
      exact hmg0
    obtain ⟨fd, sp, hb, hsp, hF⟩ := M.top_of (Dt := G.dat) (P := (PySem.Challenge.rw_eitheranswers_k90_enough_and_stopping).prog) (w := w) (n := 8) (li := 41) (x := "law") (q := "script") G.ok c.fact G.allB c KX G0 rfl rfl rfl hmg (fun ns _ => M.law90_ok (n := 0) G.fs ns)
    exact ⟨K, fd, sp, KX, hb, hsp, fun base b1 b2 => M.toE (hF base b1 b2)⟩
end
