import PyProof.Rows.All
import Wide.All
import OpenK.AllK
import Wide.FinOn
import KE.KStateDown
import HandS.Base
import HandS.Call
import HandS.Ends
import HandS.More
import HandS.Words
import HandS.WordsExc
import HandS.Defaults
import HandS.Head0
import HandS.Head1
import HandS.Head2
import HandS.HeadEnd
import HandS.HeadHook1
import HandS.HeadHook2
import HandS.HeadHook4
import HandS.EndTab
import HandS.List
import HandS.Iter
import HandS.Zip
import KE.GoesEnum
import KE.GoesZip
import HandS.Strs
import HandS.SetFor
import PyProof.SumWalkG
import PyProof.ListOps
import HandS.Sort
import HandS.SortOrd
import HandS.SortInts
import HandS.NamedTupSort
import HandS.Deep
import PyProof.DictUpdate
import PyProof.DictDisplay
import HandS.Dict
import HandS.Conv
import HandS.TupMul
import HandS.TupAny
import HandS.Comp
import HandS.Exc
import HandS.ExcOwn
import HandS.Style
import HandS.Lambda
import HandS.IsInst
import PyProof.SetRoads
import HandS.Codes
import HandS.TryMany
import KE.KRevSl
import HandS.Small
import PyProof.TableCode
import PySem.Challenge.RW_rungonce_k05_whole_leads_and_how_they_ac
set_option Elab.async false
section
set_option autoImplicit false
set_option linter.all false
/-! PyCore: a small evaluator for the part of Python that these programs use: values are trees, lists and dicts that change are owned by one name. -/
namespace Py

inductive D where
  | non
  | bl (b : Bool)
  | int (i : Int)
  | str (s : List Nat)
  | tup (xs : List D)
  | lst (xs : List D)
  | dic (ks vs : List D)
  | set (xs : List D)
  | fz (ns : List Int)
  deriving Inhabited

abbrev SZ : Nat := 16777216

inductive R (α : Type) where
  | ok (a : α)
  | exc (c : Nat) (d : D)
  | bad

def R.bind {α β : Type} : R α → (α → R β) → R β
  | .ok a, f => f a
  | .exc c d, _ => .exc c d
  | .bad, _ => .bad
@[simp] theorem R.bind_ok {α β : Type} {a : α} {f : α → R β} : (R.ok a).bind f = f a := rfl
@[simp] theorem R.bind_exc {α β : Type} {c : Nat} {d : D} {f : α → R β} : (R.exc c d : R α).bind f = .exc c d := rfl
@[simp] theorem R.bind_bad {α β : Type} {f : α → R β} : (R.bad : R α).bind f = .bad := rfl
def R.ofO {α : Type} : Option α → R α
  | some a => .ok a
  | none => .bad

/-! ### equality as Python's == -/
mutual
def eqD : D → D → Bool
  | .non, .non => true
  | .bl a, .bl b => a == b
  | .int a, .int b => decide (a = b)
  | .bl a, .int b => decide ((cond a 1 0 : Int) = b)
  | .int a, .bl b => decide (a = (cond b 1 0 : Int))
  | .str a, .str b => decide (a = b)
  | .tup a, .tup b => eqDs a b
  | .lst a, .lst b => eqDs a b
  | _, _ => false
def eqDs : List D → List D → Bool
  | [], [] => true
  | a :: as, b :: bs => eqD a b && eqDs as bs
  | _, _ => false
end
/-- what may be compared: no dicts, no sets, at most n deep -/
def shal : Nat → D → Bool
  | _, .non => true
  | _, .bl _ => true
  | _, .int _ => true
  | _, .str s => s.all fun c => decide (c < 128)
  | n + 1, .tup xs => xs.all (shal n)
  | n + 1, .lst xs => xs.all (shal n)
  | _, _ => false
abbrev DEEP : Nat := 30

/-! ### the syntax -/
inductive BO where | add | sub | mul | div | mod | pow | and
  deriving DecidableEq
inductive CO where | eq | ne | lt | le | gt | ge | mem | nmem | is | nis
  deriving DecidableEq
inductive BF where | len | tuple | list | set | sorted | sum | sum2 | all | any | max | min | max2 | min2 | abs | int | str | dict | ltup | lrng | bool | set0 | repr
  deriving DecidableEq
inductive MF where | index | indexT | count | get | get2 | items | values | join | split
  deriving DecidableEq
inductive Ty where | int | bool | tuple | list | str | dict
  deriving DecidableEq

inductive T where
  | v (i : Nat)
  | tu (a : T)
  | nil
  | cons (a b : T)

inductive E where
  | nil
  | cons (a b : E)
  | loc (i : Nat)
  | bor (i : Nat)
  | cst (d : D)
  | bin (o : BO) (a b : E)
  | neg (a : E)
  | not (a : E)
  | cmp (o : CO) (a b : E)
  | chn (o o' : CO) (a b c : E)
  | and (a b : E)
  | or (a b : E)
  | ife (c a b : E)
  | tup (es : E)
  | lst (es : E)
  | dct (es : E)
  | dup (d k v : E)
  | mrg (d e : E)
  | sub (a i : E)
  | sli (a lo hi : E)
  | rev (a : E)
  | call (f : Nat) (io fr : Bool) (args : E)
  | blt (f : BF) (args : E)
  | met (m : MF) (a : E) (args : E)
  | pop (i : Nat) (args : E)
  | isi (a : E) (t : Ty)
  | rng (args : E)
  | enu (a : E)
  | zip (args : E)
  | lc (vs : List Nat) (t : T) (it cnd elt : E)
  | lc2 (vs vs1 : List Nat) (t : T) (it cnd : E) (t1 : T) (it1 cnd1 elt : E)
  | tri (f : Nat) (e : E)

inductive S where
  | nil
  | cons (a b : S)
  | asg (t : T) (e : E)
  | asO (i : Nat) (e : E)
  | par (is : List (Nat × Bool)) (es : E)
  | asS (i : Nat) (k e : E)
  | swp (i : Nat) (k : E) (i' : Nat) (k' : E) (es : E)
  | exp (e : E)
  | app (i : Nat) (e : E)
  | rem (i : Nat) (e : E)
  | ret (e : E)
  | reO (e : E)
  | ret0
  | ite (c : E) (a b : S)
  | whl (c : E) (b : S)
  | for_ (t : T) (it : E) (b : S)
  | rai (c : Nat) (a : E)
  | pas

/-! ### the environment -/
inductive Slot where
  | no
  | imm (d : D)
  | own (d : D)
  | io (d : D)
  deriving Inhabited
abbrev Env := List Slot
/-- what stands at a place, without a word about whose it is -/
def rd (env : Env) (i : Nat) : R D := match env[i]? with
  | some (.imm d) => .ok d
  | some (.own d) => .ok d
  | some (.io d) => .ok d
  | _ => .bad
/-- .. of what may be changed -/
def rdO (env : Env) (i : Nat) : R D := match env[i]? with
  | some (.own d) => .ok d
  | some (.io d) => .ok d
  | _ => .bad
/-- a content is put back where it was taken from -/
def put (env : Env) (i : Nat) (d : D) : R Env := match env[i]? with
  | some (.own _) => .ok (env.set i (.own d))
  | some (.io _) => .ok (env.set i (.io d))
  | _ => .bad
/-- a name is stored -/
def sto (env : Env) (i : Nat) (s : Slot) : R Env := match env[i]? with
  | some (.io _) => .bad
  | some _ => .ok (env.set i s)
  | none => .bad
def wipeE (env : Env) : List Nat → Env
  | [] => env
  | v :: vs => (wipeE env vs).set v .no
/-- the places vs as they were in the first one -/
def back (env0 env1 : Env) : List Nat → Env
  | [] => env1
  | v :: vs => (back env0 env1 vs).set v (env0.getD v .no)

mutual
def asgT : T → D → Env → R Env
  | .v i, d, env => sto env i (.imm d)
  | .tu a, d, env => (match d with
    | .tup ds => asgTs a ds env
    | _ => .bad)
  | _, _, _ => .bad
def asgTs : T → List D → Env → R Env
  | .nil, [], env => .ok env
  | .cons a b, d :: ds, env => (asgT a d env).bind fun e => asgTs b ds e
  | _, _, _ => .bad
end

/-! ### operations -/
def addD : D → D → R D
  | .int a, .int b => .ok (.int (a + b))
  | .str a, .str b => if a.length + b.length ≤ SZ then .ok (.str (a ++ b)) else .bad
  | .tup a, .tup b => if a.length + b.length ≤ SZ then .ok (.tup (a ++ b)) else .bad
  | .lst a, .lst b => if a.length + b.length ≤ SZ then .ok (.lst (a ++ b)) else .bad
  | _, _ => .bad
def subD : D → D → R D
  | .int a, .int b => .ok (.int (a - b))
  | _, _ => .bad
def small (a : Int) : Bool := decide (-(2 ^ 64) < a ∧ a < 2 ^ 64)
def repL (xs : List D) (k : Int) : List D := (List.replicate k.toNat xs).flatten
def mulD : D → D → R D
  | .int a, .int b => if (small a || small b) = true then .ok (.int (a * b)) else .bad
  | .tup a, .int k => if 1 ≤ k ∧ k ≤ 1000 ∧ a.length ≤ 1000 then .ok (.tup (repL a k)) else .bad
  | .lst a, .int k => if -(2 ^ 63) ≤ k ∧ k < 2 ^ 63 ∧ a.length * k.toNat ≤ SZ then .ok (.lst (repL a k)) else .bad
  | _, _ => .bad
def divD : D → D → R D
  | .int a, .int b => if 0 < b ∧ b < 1073741824 then .ok (.int (a / b)) else .bad
  | _, _ => .bad
def modD : D → D → R D
  | .int a, .int b => if 0 < b then .ok (.int (a % b)) else .bad
  | _, _ => .bad
def powD : D → D → R D
  | .int a, .int b => if 0 ≤ b ∧ b ≤ 1000000 ∧ a.natAbs < 2 ^ 64 then .ok (.int (a ^ b.toNat)) else .bad
  | _, _ => .bad
def binD : BO → D → D → R D
  | .add => addD
  | .sub => subD
  | .mul => mulD
  | .div => divD
  | .mod => modD
  | .pow => powD
  | .and => fun _ _ => .bad

def ltD : D → D → R Bool
  | .int a, .int b => .ok (decide (a < b))
  | _, _ => .bad
def leD : D → D → R Bool
  | .int a, .int b => .ok (decide (a ≤ b))
  | _, _ => .bad
def memD : D → List D → Bool
  | x, xs => xs.any fun y => eqD y x
/-! dicts whose keys are whole numbers -/
def hasI (i : Int) : List D → Bool
  | .int j :: ks => if j = i then true else hasI i ks
  | _ => false
def lookI (i : Int) : List D → List D → Option D
  | .int j :: ks, v :: vs => if j = i then some v else lookI i ks vs
  | _, _ => none
def setI (i : Int) (v : D) : List D → List D → List D
  | .int j :: ks, x :: xs => (if j = i then v else x) :: setI i v ks xs
  | _, xs => xs
def keysI (i : Int) (ks : List D) : List D := if hasI i ks = true then ks else ks ++ [.int i]
def valsI (i : Int) (v : D) (ks vs : List D) : List D := if hasI i ks = true then setI i v ks vs else vs ++ [v]
def putI (i : Int) (v : D) (ks vs : List D) : D := .dic (keysI i ks) (valsI i v ks vs)
/-- the pairs of a list, one by one -/
def pairsI : List D → Option (List (Int × D))
  | [] => some []
  | .tup [.int i, v] :: r => (pairsI r).map ((i, v) :: ·)
  | _ :: _ => none
def mergeI : List (Int × D) → List D → List D → List D × List D
  | [], ks, vs => (ks, vs)
  | (i, v) :: r, ks, vs => mergeI r (keysI i ks) (valsI i v ks vs)
def zipI : List D → List D → Option (List (Int × D))
  | [], [] => some []
  | .int i :: ks, v :: vs => (zipI ks vs).map ((i, v) :: ·)
  | _, _ => none
def dicR : D → R Unit
  | .dic _ _ => .ok ()
  | _ => .bad
def dupD : D → D → D → R D
  | .dic ks vs, .int i, v => if ks.length < SZ then .ok (putI i v ks vs) else .bad
  | _, _, _ => .bad
def mrgD : D → D → R D
  | .dic ks vs, .dic ks' vs' => (match zipI ks' vs' with
    | some ps => if ks.length + ks'.length ≤ SZ then .ok (.dic (mergeI ps ks vs).1 (mergeI ps ks vs).2) else .bad
    | none => .bad)
  | _, _ => .bad
def dctD : List D → R D
  | [] => .ok (.dic [] [])
  | [.int i, v] => .ok (.dic [.int i] [v])
  | _ => .bad
def inD : D → D → R Bool
  | .int i, .dic ks _ => .ok (hasI i ks)
  | x, .tup xs => if shal DEEP x && xs.all (shal DEEP) then .ok (memD x xs) else .bad
  | x, .lst xs => if shal DEEP x && xs.all (shal DEEP) then .ok (memD x xs) else .bad
  | _, _ => .bad
def isNon : D → Bool
  | .non => true
  | _ => false
def isD : D → D → R Bool
  | a, .non => .ok (isNon a)
  | .bl a, .bl b => .ok (a == b)
  | _, _ => .bad
def eqR (a b : D) : R Bool := if shal DEEP a && shal DEEP b then .ok (eqD a b) else .bad
def R.neg : R Bool → R Bool
  | .ok b => .ok (!b)
  | .exc c d => .exc c d
  | .bad => .bad
def cmpD : CO → D → D → R Bool
  | .eq, a, b => eqR a b
  | .ne, a, b => (eqR a b).neg
  | .lt, a, b => ltD a b
  | .le, a, b => leD a b
  | .gt, a, b => ltD b a
  | .ge, a, b => leD b a
  | .mem, a, b => inD a b
  | .nmem, a, b => (inD a b).neg
  | .is, a, b => isD a b
  | .nis, a, b => (isD a b).neg

/-- an index of any sign -/
def ixn (n : Nat) (i : Int) : Option Nat := if 0 ≤ i then (if i < n then some i.toNat else none) else if -(n : Int) ≤ i then some (i + n).toNat else none
def atD (xs : List D) (i : Int) : R D := match ixn xs.length i with
  | some j => R.ofO xs[j]?
  | none => .bad
def subsD : D → D → R D
  | .tup xs, .int i => atD xs i
  | .lst xs, .int i => atD xs i
  | .dic ks vs, .int i => (match lookI i ks vs with
    | some v => .ok v
    | none => .bad)
  | _, _ => .bad
def six (n d : Nat) : Option Int → Nat
  | none => d
  | some i => if i < 0 then (i + n).toNat else min i.toNat n
def cutL {α : Type} (xs : List α) (lo hi : Option Int) : List α := (xs.drop (six xs.length 0 lo)).take (six xs.length xs.length hi - six xs.length 0 lo)
/-- a slice's part: left out, or a whole number -/
def partR : E → D → R (Option Int)
  | .nil, _ => .ok none
  | _, .int i => .ok (some i)
  | _, _ => .bad
def slD : D → Option Int → Option Int → R D
  | .tup xs, lo, hi => .ok (.tup (cutL xs lo hi))
  | .lst xs, lo, hi => .ok (.lst (cutL xs lo hi))
  | _, _, _ => .bad
def revD : D → R D
  | .tup xs => .ok (.tup xs.reverse)
  | .lst xs => .ok (.lst xs.reverse)
  | _ => .bad
/-- xs[i] = v, d[k] = v -/
def setD : D → D → D → R D
  | .lst xs, .int i, v => (match ixn xs.length i with
    | some j => .ok (.lst (xs.set j v))
    | none => .bad)
  | .dic ks vs, .int i, v => if ks.length < SZ then .ok (putI i v ks vs) else .bad
  | _, _, _ => .bad

def intsD : List D → Option (List Int)
  | [] => some []
  | .int i :: r => (intsD r).map (i :: ·)
  | _ :: _ => none
def bls : List D → Option (List Bool)
  | [] => some []
  | .bl i :: r => (bls r).map (i :: ·)
  | _ :: _ => none
def maxI : Int → List Int → Int
  | n, [] => n
  | n, m :: ms => maxI (if m > n then m else n) ms
def minI : Int → List Int → Int
  | n, [] => n
  | n, m :: ms => minI (if m < n then m else n) ms
theorem maxI_mem : ∀ (n : Int) (ms : List Int), maxI n ms ∈ n :: ms
  | n, [] => by simp [maxI]
  | n, m :: ms => by
    have := maxI_mem (if m > n then m else n) ms
    unfold maxI
    rcases List.mem_cons.mp this with h | h
    · rw [h]; split <;> simp
    · exact List.mem_cons_of_mem _ (List.mem_cons_of_mem _ h)
theorem maxI_ge : ∀ (n : Int) (ms : List Int) (y : Int), y ∈ n :: ms → y ≤ maxI n ms
  | n, [], y, h => by simp at h; subst h; exact Int.le_refl _
  | n, m :: ms, y, h => by
    unfold maxI
    have ih := maxI_ge (if m > n then m else n) ms
    rcases List.mem_cons.mp h with rfl | h
    · have := ih _ List.mem_cons_self; split at this <;> rename_i q <;> simp only [q, if_true, if_false] <;> omega
    · rcases List.mem_cons.mp h with rfl | h
      · have := ih _ List.mem_cons_self; split at this <;> rename_i q <;> simp only [q, if_true, if_false] <;> omega
      · exact ih y (List.mem_cons_of_mem _ h)
theorem minI_mem : ∀ (n : Int) (ms : List Int), minI n ms ∈ n :: ms
  | n, [] => by simp [minI]
  | n, m :: ms => by
    have := minI_mem (if m < n then m else n) ms
    unfold minI
    rcases List.mem_cons.mp this with h | h
    · rw [h]; split <;> simp
    · exact List.mem_cons_of_mem _ (List.mem_cons_of_mem _ h)
theorem minI_le : ∀ (n : Int) (ms : List Int) (y : Int), y ∈ n :: ms → minI n ms ≤ y
  | n, [], y, h => by simp at h; subst h; exact Int.le_refl _
  | n, m :: ms, y, h => by
    unfold minI
    have ih := minI_le (if m < n then m else n) ms
    rcases List.mem_cons.mp h with rfl | h
    · have := ih _ List.mem_cons_self; split at this <;> rename_i q <;> simp only [q, if_true, if_false] <;> omega
    · rcases List.mem_cons.mp h with rfl | h
      · have := ih _ List.mem_cons_self; split at this <;> rename_i q <;> simp only [q, if_true, if_false] <;> omega
      · exact ih y (List.mem_cons_of_mem _ h)
/-- each once, as met first -/
def once : List Int → List Int
  | [] => []
  | x :: xs => if x ∈ xs then once xs else x :: once xs
def insI (x : Int) : List Int → List Int
  | [] => [x]
  | y :: ys => if x ≤ y then x :: y :: ys else y :: insI x ys
def sortI : List Int → List Int
  | [] => []
  | x :: xs => insI x (sortI xs)
/-- tuples of whole numbers -/
def lexI : List Int → List Int → Bool
  | _, [] => false
  | [], _ :: _ => true
  | a :: as, b :: bs => if a = b then lexI as bs else decide (a < b)
def insT (x : List Int) : List (List Int) → List (List Int)
  | [] => [x]
  | y :: ys => if lexI y x = true then y :: insT x ys else x :: y :: ys
def sortT : List (List Int) → List (List Int)
  | [] => []
  | x :: xs => insT x (sortT xs)
def tupsI : List D → Option (List (List Int))
  | [] => some []
  | .tup xs :: r => (match intsD xs, tupsI r with
    | some ns, some t => some (ns :: t)
    | _, _ => none)
  | _ :: _ => none
def tupI (ns : List Int) : D := .tup (ns.map .int)
def seqOf : D → Option (List D)
  | .tup xs => some xs
  | .lst xs => some xs
  | _ => none
def sumL : List (List D) → List D
  | [] => []
  | x :: xs => x ++ sumL xs
def lsts : List D → Option (List (List D))
  | [] => some []
  | .lst x :: r => (lsts r).map (x :: ·)
  | _ :: _ => none
def lenD : D → R D
  | .tup xs => .ok (.int xs.length)
  | .lst xs => .ok (.int xs.length)
  | .set xs => .ok (.int xs.length)
  | .str xs => .ok (.int xs.length)
  | _ => .bad
def rangeL (lo : Int) (n : Nat) : List D := (List.range n).map fun (i : Nat) => D.int (lo + (i : Int))
abbrev BIG : Int := 4611686018427387904
def rngD : List D → R (List D)
  | [.int n] => if -(BIG) ≤ n ∧ n ≤ SZ then .ok (rangeL 0 n.toNat) else .bad
  | [.int a, .int b] => if -(BIG) ≤ a ∧ a < BIG ∧ -(BIG) ≤ b ∧ b < BIG ∧ b - a ≤ SZ then .ok (rangeL a (b - a).toNat) else .bad
  | _ => .bad
def bltD : BF → List D → R D
  | .len, [d] => lenD d
  | .tuple, [.tup xs] => .ok (.tup xs)
  | .tuple, [.lst xs] => .ok (.tup xs)
  | .list, [.tup xs] => .ok (.lst xs)
  | .list, [.lst xs] => .ok (.lst xs)
  | .list, [.fz ns] => .ok (.lst (ns.map .int))
  | .set, [d] => (match (seqOf d).bind intsD with
    | some ns => if ns.length ≤ 1000 then .ok (.set ((once ns).map .int)) else .bad
    | none => .bad)
  | .sorted, [.set xs] => (match intsD xs with
    | some ns => if ns.length < 64 then .ok (.lst ((sortI ns).map .int)) else .bad
    | none => .bad)
  | .sorted, [.lst xs] => (match intsD xs with
    | some ns => .ok (.lst ((sortI ns).map .int))
    | none => (match tupsI xs with
      | some ts => .ok (.lst ((sortT ts).map tupI))
      | none => .bad))
  | .sorted, [.tup xs] => (match intsD xs with
    | some ns => .ok (.lst ((sortI ns).map .int))
    | none => (match tupsI xs with
      | some ts => .ok (.lst ((sortT ts).map tupI))
      | none => .bad))
  | .sum, [.lst xs] => (match intsD xs with
    | some ns => .ok (.int ns.sum)
    | none => .bad)
  | .sum2, [.lst xs, .lst []] => (match lsts xs with
    | some ls => if (sumL ls).length ≤ SZ then .ok (.lst (sumL ls)) else .bad
    | none => .bad)
  | .all, [.lst xs] => (match bls xs with
    | some bs => .ok (.bl (bs.all id))
    | none => .bad)
  | .any, [.lst xs] => (match bls xs with
    | some bs => .ok (.bl (bs.any id))
    | none => .bad)
  | .max2, [.int a, .int b] => .ok (.int (if b > a then b else a))
  | .min2, [.int a, .int b] => .ok (.int (if b < a then b else a))
  | .dict, [.lst xs] => (match pairsI xs with
    | some ps => if ps.length ≤ SZ then .ok (.dic (mergeI ps [] []).1 (mergeI ps [] []).2) else .bad
    | none => .bad)
  | .abs, [.int a] => .ok (.int (if a < 0 then -a else a))
  | .int, [.int a] => .ok (.int a)
  | .int, [.bl b] => .ok (.int (if b = true then 1 else 0))
  | .max, [.lst xs] => (match intsD xs with
    | some (n :: ns) => .ok (.int (maxI n ns))
    | _ => .bad)
  | .min, [.lst xs] => (match intsD xs with
    | some (n :: ns) => .ok (.int (minI n ns))
    | _ => .bad)
  | .lrng, ds => (rngD ds).bind fun xs => .ok (.lst xs)
  | .ltup, ds => (rngD ds).bind fun xs => .ok (.tup xs)
  | _, _ => .bad
/-- the place of the first item that is x -/
def indexL (x : D) : List D → Option Nat
  | [] => none
  | y :: ys => if eqD y x = true then some 0 else (indexL x ys).map (· + 1)
def metD : MF → D → List D → R D
  | .index, d, [x] => (match seqOf d with
    | some xs => if shal DEEP x && shal DEEP d then (match indexL x xs with
      | some j => .ok (.int (j : Int))
      | none => .bad) else .bad
    | none => .bad)
  | .indexT, .tup xs, [x] => if shal DEEP x && shal DEEP (.tup xs) then (match indexL x xs with
      | some j => .ok (.int (j : Int))
      | none => .bad) else .bad
  | _, _, _ => .bad
/-- of what kinds a method is asked -/
def metOk : MF → D → R Unit
  | .index, .lst _ => .ok ()
  | .indexT, .tup _ => .ok ()
  | _, _ => .bad
def isiD : D → Ty → Bool
  | .int _, .int => true
  | .bl _, .int => true
  | .bl _, .bool => true
  | .tup _, .tuple => true
  | .lst _, .list => true
  | .str _, .str => true
  | .dic _ _, .dict => true
  | _, _ => false
/-- whether it is asked of such a thing -/
def isiOk : D → Bool
  | .non | .bl _ | .int _ | .str _ | .tup _ | .lst _ => true
  | _ => false
def popD : D → List D → R (D × D)
  | .lst xs, [] => (match xs.getLast? with
    | some y => .ok (y, .lst xs.dropLast)
    | none => .bad)
  | .lst xs, [.int i] => if xs.length ≤ SZ then (match ixn xs.length i with
    | some j => (match xs[j]? with
      | some y => .ok (y, .lst (xs.eraseIdx j))
      | none => .bad)
    | none => .bad) else .bad
  | _, _ => .bad
def zip2 : List D → List D → List D
  | a :: as, b :: bs => .tup [a, b] :: zip2 as bs
  | _, _ => []
def zipD : D → R (List D)
  | .lst [.lst as, .lst bs] => .ok (zip2 as bs)
  | .lst [.tup as, .tup bs] => .ok (zip2 as bs)
  | _ => .bad
def enumL (i : Nat) : List D → List D
  | [] => []
  | x :: xs => .tup [.int (i : Int), x] :: enumL (i + 1) xs

/-! ### the evaluator -/
/-- a def: the arguments (the one that is changed first), its answer and what stands behind it in that one -/
abbrev Ft := Nat → List D → R (D × D)
/-- what is to be read late: a name's content, as it stands behind the others -/
def late (a : E) (d : D) (env : Env) : R D := match a with
  | .bor i => rd env i
  | _ => .ok d
def unL : D → R (List D)
  | .lst xs => .ok xs
  | _ => .bad
def bool : D × Env → R (Bool × Env)
  | (.bl b, e) => .ok (b, e)
  | _ => .bad
/-- a block over a list: each item into a value, or none -/
def mapL (f : D → Env → R (Option D × Env)) : List D → Env → R (List D × Env)
  | [], env => .ok ([], env)
  | d :: ds, env => (f d env).bind fun r => (mapL f ds r.2).bind fun q => .ok (match r.1 with
    | some x => x :: q.1
    | none => q.1, q.2)
def mapLL (f : D → Env → R (List D × Env)) : List D → Env → R (List D × Env)
  | [], env => .ok ([], env)
  | d :: ds, env => (f d env).bind fun r => (mapLL f ds r.2).bind fun q => .ok (r.1 ++ q.1, q.2)
/-- an exception may not leave a block -/
def R.calm {α : Type} : R α → R α
  | .exc _ _ => .bad
  | r => r
def items : D → R (List D)
  | .lst xs => .ok xs
  | .tup xs => .ok xs
  | _ => .bad

/-- what a lambda sees of its def's names: none that may change -/
def hide (env : Env) : Env := env.map fun s => match s with
  | .imm d => .imm d
  | _ => .no
/-- f(lambda: ..): the def f gets 0 and the value, or the class of the exception and what it bears -/
def triR (ft : Ft) (f : Nat) (r : R (D × Env)) (env : Env) : R (D × Env) := match r with
  | .ok x => (ft f [.int 0, x.1]).bind fun z => .ok (z.1, env)
  | .exc c d => (ft f [.int ((c + 1 : Nat) : Int), d]).bind fun z => .ok (z.1, env)
  | .bad => .bad

/-- an expression's value; of a list of expressions (nil, cons) the list of the values; of a thing that is walked alone (rng, enu, zip) the list of its items -/
def ev (ft : Ft) : E → Env → R (D × Env)
  | .nil, env => .ok (.lst [], env)
  | .cons a b, env => (ev ft a env).bind fun x => (ev ft b x.2).bind fun y => (unL y.1).bind fun ys => .ok (.lst (x.1 :: ys), y.2)
  | .loc i, env => (match env[i]? with
    | some (.imm d) => .ok (d, env)
    | some (.own d) => .ok (d, env.set i (.imm d))
    | _ => .bad)
  | .bor i, env => (rd env i).bind fun d => .ok (d, env)
  | .cst d, env => .ok (d, env)
  | .bin o a b, env => (ev ft a env).bind fun x => (ev ft b x.2).bind fun y => (late a x.1 y.2).bind fun x' => (binD o x' y.1).bind fun z => .ok (z, y.2)
  | .neg a, env => (ev ft a env).bind fun x => (match x.1 with
    | .int i => .ok (.int (-i), x.2)
    | _ => .bad)
  | .not a, env => (ev ft a env).bind fun x => (bool x).bind fun b => .ok (.bl (!b.1), b.2)
  | .cmp o a b, env => (ev ft a env).bind fun x => (ev ft b x.2).bind fun y => (late a x.1 y.2).bind fun x' => (cmpD o x' y.1).bind fun z => .ok (.bl z, y.2)
  | .chn o o' a b c, env => (ev ft a env).bind fun x => (ev ft b x.2).bind fun y => (cmpD o x.1 y.1).bind fun k =>
      if k = true then (ev ft c y.2).bind fun z => (cmpD o' y.1 z.1).bind fun k' => .ok (.bl k', z.2) else .ok (.bl false, y.2)
  | .and a b, env => (ev ft a env).bind fun x => (bool x).bind fun k => if k.1 = true then ev ft b k.2 else .ok (.bl false, k.2)
  | .or a b, env => (ev ft a env).bind fun x => (bool x).bind fun k => if k.1 = true then .ok (.bl true, k.2) else ev ft b k.2
  | .ife c a b, env => (ev ft c env).bind fun x => (bool x).bind fun k => if k.1 = true then ev ft a k.2 else ev ft b k.2
  | .tup es, env => (ev ft es env).bind fun x => (unL x.1).bind fun ds => if ds.length ≤ SZ then .ok (.tup ds, x.2) else .bad
  | .lst es, env => (ev ft es env).bind fun x => (unL x.1).bind fun ds => if ds.length ≤ SZ then .ok (.lst ds, x.2) else .bad
  | .dct es, env => (ev ft es env).bind fun x => (unL x.1).bind fun ds => (dctD ds).bind fun z => .ok (z, x.2)
  | .dup d a b, env => (ev ft d env).bind fun x => (dicR x.1).bind fun _ => (ev ft a x.2).bind fun y => (ev ft b y.2).bind fun z => (dupD x.1 y.1 z.1).bind fun q => .ok (q, z.2)
  | .mrg d a, env => (ev ft d env).bind fun x => (dicR x.1).bind fun _ => (ev ft a x.2).bind fun y => (mrgD x.1 y.1).bind fun q => .ok (q, y.2)
  | .sub a i, env => (ev ft a env).bind fun x => (ev ft i x.2).bind fun y => (late a x.1 y.2).bind fun x' => (subsD x' y.1).bind fun z => .ok (z, y.2)
  | .sli a lo hi, env => (ev ft a env).bind fun x => (ev ft lo x.2).bind fun l => (partR lo l.1).bind fun lo' => (ev ft hi l.2).bind fun h => (partR hi h.1).bind fun hi' => (late a x.1 h.2).bind fun x' =>
      (slD x' lo' hi').bind fun z => .ok (z, h.2)
  | .rev a, env => (ev ft a env).bind fun x => (revD x.1).bind fun z => .ok (z, x.2)
  | .call f io _ args, env => (match io, args with
    | false, as => (ev ft as env).bind fun x => (unL x.1).bind fun ds => (ft f ds).bind fun r => .ok (r.1, x.2)
    | true, .cons (.bor i) as => (rdO env i).bind fun _ => (ev ft as env).bind fun x => (unL x.1).bind fun ds => (rdO x.2 i).bind fun c => (ft f (c :: ds)).bind fun r => (put x.2 i r.2).bind fun e => .ok (r.1, e)
    | true, _ => .bad)
  | .blt f args, env => (ev ft args env).bind fun x => (unL x.1).bind fun ds => (bltD f ds).bind fun z => .ok (z, x.2)
  | .met m a args, env => (ev ft a env).bind fun x => (metOk m x.1).bind fun _ => (ev ft args x.2).bind fun y => (late a x.1 y.2).bind fun x' => (metOk m x').bind fun _ => (unL y.1).bind fun ds => (metD m x' ds).bind fun z => .ok (z, y.2)
  | .pop i args, env => (rd env i).bind fun c0 => (unL c0).bind fun _ => (ev ft args env).bind fun x => (unL x.1).bind fun ds => (rd x.2 i).bind fun c => (popD c ds).bind fun r => (put x.2 i r.2).bind fun e => .ok (r.1, e)
  | .isi a t, env => (ev ft a env).bind fun x => if isiOk x.1 = true then .ok (.bl (isiD x.1 t), x.2) else .bad
  | .rng args, env => (ev ft args env).bind fun x => (unL x.1).bind fun ds => (rngD ds).bind fun z => .ok (.lst z, x.2)
  | .enu a, env => (ev ft a env).bind fun x => (items x.1).bind fun ds => .ok (.lst (enumL 0 ds), x.2)
  | .zip args, env => (ev ft args env).bind fun x => (zipD x.1).bind fun z => .ok (.lst z, x.2)
  | .lc vs t it cnd elt, env => (ev ft it env).bind fun x => (items x.1).bind fun ds =>
      (mapL (fun d e => ((asgT t d (wipeE e vs)).bind fun e1 => match cnd with
        | .nil => (ev ft elt e1).bind fun y => .ok (some y.1, back e y.2 vs)
        | _ => (ev ft cnd e1).bind fun c => (bool c).bind fun k => if k.1 = true then (ev ft elt k.2).bind fun y => .ok (some y.1, back e y.2 vs) else .ok (none, back e k.2 vs)).calm) ds x.2).bind fun r =>
      if r.1.length ≤ SZ then .ok (.lst r.1, r.2) else .bad
  | .lc2 vs vs1 t it cnd t1 it1 cnd1 elt, env => .bad
  | .tri f e, env => triR ft f (ev ft e (hide env)) env

/-- where a statement ends -/
inductive SR where
  | nx (env : Env)
  | rt (d : D) (env : Env)
  | ex (c : Nat) (d : D)
  | bad
@[simp] def SR.ofR {α : Type} : R α → (α → SR) → SR
  | .ok a, f => f a
  | .exc c d, _ => .ex c d
  | .bad, _ => .bad
@[simp] def SR.thn : SR → (Env → SR) → SR
  | .nx e, f => f e
  | r, _ => r
def forL (f : D → Env → SR) : List D → Env → SR
  | [], env => .nx env
  | d :: ds, env => (f d env).thn (forL f ds)
def whileL (c : Env → R (Bool × Env)) (f : Env → SR) : Nat → Env → SR
  | 0, _ => .bad
  | n + 1, env => SR.ofR (c env) fun k => if k.1 = true then (f k.2).thn (whileL c f n) else .nx k.2
abbrev FUEL : Nat := 1000000
def isCont : D → Bool
  | .lst _ => true
  | .dic _ _ => true
  | _ => false
def parS : List (Nat × Bool) → List D → Env → R Env
  | [], [], env => .ok env
  | (i, o) :: is, d :: ds, env => if o = true then (if isCont d = true then (sto env i (.own d)).bind (parS is ds) else .bad) else (sto env i (.imm d)).bind (parS is ds)
  | _, _, _ => .bad
def un2 : D → R (D × D)
  | .tup [a, b] => .ok (a, b)
  | _ => .bad
def ownAt (env : Env) (i : Nat) : Bool := match env[i]? with
  | some (.own _) => true
  | _ => false

def evS (ft : Ft) : S → Env → SR
  | .nil, env => .nx env
  | .cons a b, env => (evS ft a env).thn (evS ft b)
  | .asg t e, env => SR.ofR (ev ft e env) fun x => SR.ofR (asgT t x.1 x.2) .nx
  | .asO i e, env => SR.ofR (ev ft e env) fun x => if isCont x.1 = true then SR.ofR (sto x.2 i (.own x.1)) .nx else .bad
  | .par is es, env => SR.ofR (ev ft es env) fun x => SR.ofR (unL x.1) fun ds => SR.ofR (parS is ds x.2) .nx
  | .asS i k e, env => SR.ofR (rd env i) fun _ => SR.ofR (ev ft e env) fun x => SR.ofR (ev ft k x.2) fun y => SR.ofR (rd y.2 i) fun c => SR.ofR (setD c y.1 x.1) fun c' => SR.ofR (put y.2 i c') .nx
  | .swp i k i' k' es, env => SR.ofR (rd env i) fun _ => SR.ofR (rd env i') fun _ => SR.ofR (ev ft (.tup es) env) fun x => SR.ofR (un2 x.1) fun ab =>
      SR.ofR (ev ft k x.2) fun y => SR.ofR (rd y.2 i) fun c => SR.ofR (setD c y.1 ab.1) fun c1 => SR.ofR (put y.2 i c1) fun e1 =>
      SR.ofR (ev ft k' e1) fun z => SR.ofR (rd z.2 i') fun c' => SR.ofR (setD c' z.1 ab.2) fun c2 => SR.ofR (put z.2 i' c2) .nx
  | .exp e, env => SR.ofR (ev ft e env) fun x => .nx x.2
  | .app i e, env => SR.ofR (rd env i) fun c0 => SR.ofR (unL c0) fun _ => SR.ofR (ev ft e env) fun x => SR.ofR (rd x.2 i) fun c => (match c with
    | .lst xs => if xs.length < SZ then SR.ofR (put x.2 i (.lst (xs ++ [x.1]))) .nx else .bad
    | _ => .bad)
  | .rem _ _, _ => .bad
  | .ret e, env => SR.ofR (ev ft e env) fun x => .rt x.1 x.2
  | .reO e, env => (match e with
    | .bor i => if ownAt env i = true then SR.ofR (rd env i) fun d => .rt d (env.set i .no) else .bad
    | e => SR.ofR (ev ft e env) fun x => if isCont x.1 = true then .rt x.1 x.2 else .bad)
  | .ret0, env => .rt .non env
  | .ite c a b, env => SR.ofR (ev ft c env) fun x => SR.ofR (bool x) fun k => if k.1 = true then evS ft a k.2 else evS ft b k.2
  | .whl c b, env => whileL (fun e => (ev ft c e).bind bool) (evS ft b) FUEL env
  | .for_ t it b, env => SR.ofR (ev ft it env) fun x => SR.ofR (items x.1) fun ds => forL (fun d e => SR.ofR (asgT t d e) fun e1 => evS ft b e1) ds x.2
  | .rai c a, env => SR.ofR (ev ft a env) fun x => .ex c x.1
  | .pas, env => .nx env

structure Fn where
  np : Nat
  ns : Nat
  io : Bool
  fr : Bool
  body : S
def env0 (f : Fn) (args : List D) : Env := (match f.io, args with
  | true, a :: as => .io a :: as.map .imm
  | _, as => as.map .imm) ++ List.replicate (f.ns - f.np) .no
def ioOut (f : Fn) (env : Env) : R D := if f.io = true then (match env.head? with
  | some (Slot.io c) => .ok c
  | _ => .bad) else .ok .non
def evF (ft : Ft) (f : Fn) (args : List D) : R (D × D) :=
  if args.length = f.np then (match evS ft f.body (env0 f args) with
  | .nx env => if f.fr = true then .bad else (ioOut f env).bind fun c => .ok (.non, c)
  | .rt d env => (ioOut f env).bind fun c => .ok (d, c)
  | .ex c d => .exc c d
  | .bad => .bad) else .bad
/-- the defs, the last one first; a def calls defs that stand behind it in the list -/
def tab : List Fn → Ft
  | [] => fun _ _ => .bad
  | f :: fs => fun i args => if i = fs.length then evF (tab fs) f args else tab fs i args
/-- the table of the first n defs -/
def ftAt (fs : List Fn) (n : Nat) : Ft := tab (fs.take n).reverse
theorem ftAt_lt {fs : List Fn} {f : Fn} {i : Nat} (h : fs[i]? = some f) : ∀ {n : Nat}, i < n → ftAt fs n i = evF (ftAt fs i) f := by
  have hi : i < fs.length := (List.getElem?_eq_some_iff.mp h).1
  intro n
  induction n with
  | zero => exact fun z => absurd z (Nat.not_lt_zero i)
  | succ n ih =>
    intro hin
    by_cases hn : n < fs.length
    · have e1 : (fs.take (n + 1)).reverse = fs[n] :: (fs.take n).reverse := by
        rw [List.take_add_one, List.getElem?_eq_getElem hn]
        simp
      have e2 : ((fs.take n).reverse).length = n := by simp; omega
      funext args
      show tab (fs.take (n + 1)).reverse i args = _
      rw [e1]
      unfold tab
      rw [e2]
      by_cases hq : i = n
      · rw [if_pos hq]
        subst hq
        have : fs[i] = f := by
          have h2 := h
          rw [List.getElem?_eq_getElem hi] at h2
          exact Option.some.inj h2
        rw [this]
        rfl
      · rw [if_neg hq]
        exact congrFun (ih (by omega)) args
    · have e1 : fs.take (n + 1) = fs.take n := by rw [List.take_of_length_le (by omega), List.take_of_length_le (by omega)]
      show tab (fs.take (n + 1)).reverse i = _
      rw [e1]
      exact ih (by omega)
end Py
end
section
set_option linter.all false
set_option maxRecDepth 100000
set_option maxHeartbeats 1000000
/-! PyIt1: enumerate over tuples. -/
namespace Py
open PySem PySem.Spec PyProof.Rows L2

theorem newB1 {v : Value} {o : Obj} {Hh : Heap → Prop} (B : Begins v o Hh) :
    Meets (Builtin.«enumerate.__new__» ⟨[.type "enumerate", v], []⟩) (fun _ R s => Hh s.heap ∧
      R (.ok (.ret (.ref (s.heap.push o).objs.size))) { s with heap := (s.heap.push o).push { cls := .type "enumerate", data := .fields #[.none, .bool false, .ref s.heap.objs.size, rawInt 0, .none, .none] } }) :=
  .of_wp fun prog w A R s h => by
    obtain ⟨hp, g, d, tk, os⟩ := s; obtain ⟨h1, h⟩ := h
    have hsub := sub_enumerate
    have q1 : ∀ {A' : Around} {E : Value → Shared → Prop} {Q : Value → Shared → Prop}, Q (.ref hp.objs.size) ⟨hp.push o, g, d, tk, os⟩ → wpAny (model prog w) A' (pyIter v) Q E ⟨hp, g, d, tk, os⟩ :=
      fun q => B.iter prog w _ _ ⟨hp, g, d, tk, os⟩ _ h1 q
    wp_walk using q1
    refine wpAny_stack_any fun st => wpAny_pure ?_
    split
    · rename_i c _ _ _ _ _
      cases (c == Value.type "enumerate")
      · wp_walk using q1
        exact ⟨_, rfl, h⟩
      · wp_walk using q1
        exact ⟨_, rfl, h⟩
    · wp_walk using q1
      exact ⟨_, rfl, h⟩
section
variable {prog : Program} {w : World} {A : Around} {E : Value → Shared → Prop} {s : Shared}
theorem enumBegins {v : Value} {o : Obj} {Hh : Heap → Prop} {Q : Value → Shared → Prop} (B : Begins v o Hh) (h1 : Hh s.heap)
    (h : ∀ h', IsEnum h' (s.heap.objs.size + 1) s.heap.objs.size 0 .none → h'.get? s.heap.objs.size = some o → h'.objs.size = s.heap.objs.size + 2 →
      (∀ b o, s.heap.get? b = some o → h'.get? b = some o) → Q (.ref (s.heap.objs.size + 1)) { s with heap := h' }) :
    wpAny (model prog w) A (call (.type "enumerate") [v]) Q E s := by
  refine callType_new F.called_enumerate (by decide) (F.typeCall_enumerate_1 _) (F.newCall_enumerate_1 _) (fun obj => F.args_object_init_2 obj _) F.entry_enumerate_new
    (newB1 B) ⟨h1, ?_⟩
  have hz : (s.heap.push o).objs.size = s.heap.objs.size + 1 := Heap.size_push ..
  show _ ∧ _
  rw [hz]
  have he : IsEnum ((s.heap.push o).push { cls := .type "enumerate", data := .fields #[.none, .bool false, .ref s.heap.objs.size, rawInt 0, .none, .none] }) (s.heap.objs.size + 1) s.heap.objs.size 0 .none := by
    have := Heap.get?_push_size (s.heap.push o) (o := { cls := .type "enumerate", data := .fields #[.none, .bool false, .ref s.heap.objs.size, rawInt 0, .none, .none] }) rfl
    rw [hz] at this; exact this
  refine ⟨⟨_, he, rfl⟩, h _ he (Heap.get?_push_of_some _ (Heap.get?_push_size _ B.free)) (by rw [Heap.size_push, hz]) fun b o x => Heap.get?_push_of_some _ (Heap.get?_push_of_some _ x)⟩
end

def IteT (K : PySem.W.Frag) (a : Addr) : It :=
  ⟨fun i H => ∃ (xs : List V) (x : V), SqT K H a xs ∧ xs[i]? = some x, fun i H v H' => ∃ T x, v = .ref T ∧ H T = none ∧ H' = upd H T (.tup [.int (i : Nat), x]) ∧ ∀ xs, SqT K H a xs → xs[i]? = some x, fun i H => ∃ xs : List V, SqT K H a xs ∧ xs.length ≤ i⟩
theorem turnET {P : Program} {w : World} {K : PySem.W.Frag} {elts : List Expr} {kk : Nat} {tpos : Pos} (a e it : Addr) :
    Turn P w K (.Tuple elts kk tpos) (IteT K a) [e, it] e (fun i h => (∃ old, IsEnum h e it ((i : Nat) : Int) old) ∧ h.IsTupleIter it a i ∧ e ≠ it) where
  mem := by simp
  obj := fun i h st b hb => by
    obtain ⟨⟨old, he⟩, ⟨o, ho, hc, hd⟩, _⟩ := st
    have e' : b = e ∨ b = it := by simpa using hb
    rcases e' with z | z
    · rw [z]; exact ⟨_, he, fun v q => nomatch q⟩
    · rw [z]; exact ⟨o, ho, fun v q => by rw [hd] at q; cases q⟩
  keep := fun i h h' st k => let ⟨⟨old, he⟩, hi, hne⟩ := st; ⟨⟨old, k e (by simp) _ he⟩, hi.at fun o q => k it (by simp) o q, hne⟩
  item := by
    intro X hP hw hK hc i pins s σ H E I hf st hg
    subst hP hw hK
    obtain ⟨⟨old, he⟩, hit, hne⟩ := st
    obtain ⟨xs, x, hq, hx⟩ := hg
    obtain ⟨its, rv, p, hz⟩ := I.tuple hq
    obtain ⟨u, hu, ru⟩ := rv.get hx
    have hel : e < s.heap.objs.size := Heap.lt_size he
    have hil : it < s.heap.objs.size := by obtain ⟨_, q, _⟩ := hit; exact Heap.lt_size q
    have p' : s.heap.IsTuple a its.toArray := p
    obtain ⟨oa, hoa, hca, na, hda⟩ := id p'
    obtain ⟨oi, hoi, hci, hdi⟩ := id hit
    have hae : a ≠ e := fun z => by rw [z, he] at hoa; cases hoa; injection hca with q; exact absurd q (by decide)
    have hai : a ≠ it := fun z => by rw [z, hoi] at hoa; cases hoa; rw [hci] at hca; injection hca with q; exact absurd q (by decide)
    have D := Draws.tuple (prog := X.prog) (w := X.w) (A := X.A.in1) (I.ok.hd hc) it a hai its.toArray
    have hlt : i < its.toArray.size := by
      have := (List.getElem?_eq_some_iff.mp hu).1
      simpa using this
    refine wpAny_pyNext_enum_itemD D he ⟨hit, p'⟩ hlt hne (fun z => ?_) fun x1 h' tk hP ho hs' hT hsz hk => ?_
    · have e' : e = it ∨ e = a := by simpa using z
      rcases e' with z | z
      · exact hne z
      · exact hae z.symm
    have hxu : x1 = u := by
      have h2 : its.toArray[i]? = some u := by simpa using hu
      rw [h2] at hP; cases hP; rfl
    subst hxu
    refine ⟨_, rfl, wpAny_letOwnedTupleGo_enum (s := { s with heap := h', toks := tk + 1 }) ho fun h'' he' sb => ?_⟩
    have hT2 : h''.get? s.heap.objs.size = some { cls := .type "tuple", data := .seq #[.int i tk, x1] } := (sb.2 _ (Nat.ne_of_gt hel)).trans hT
    have new : ObjOk X.prog X.w (upd H s.heap.objs.size (.tup [.int (i : Nat), x])) h'' s.heap.objs.size (.tup [.int (i : Nat), x]) :=
      ⟨by show 2 ≤ sizeLine; decide, [.int i tk, x1], .cons ⟨_, rfl⟩ (.cons ru .nil), ⟨_, hT2, rfl, _, rfl⟩⟩
    have I1 : Inv X pins σ (upd H s.heap.objs.size (.tup [.int (i : Nat), x])) { s with heap := h'', toks := tk + 1 } :=
      I.turnedNew (ch := [e, it]) (fun b ob hb q => (sb.2 b (fun z => hb (by simp [z]))).trans (hk b ob (fun z => hb (by simp [z])) (fun z => hb (by simp [z])) q)) hf (Nat.le_refl _) new
    refine ⟨.ref s.heap.objs.size, _, I1, rfl, ⟨_, x, rfl, I.hok.fresh (Nat.le_refl _), rfl, fun ys hy => by rw [I.tuple_inj hy hq]; exact hx⟩, ⟨⟨x1, ?_⟩, hs'.1.at fun o q => (sb.2 it (Ne.symm hne)).trans q, hne⟩, fun b hb => ?_⟩
    · have e1 : ((i + 1 : Nat) : Int) = (i : Int) + 1 := by omega
      rw [e1]; exact he'
    · have hb' : b < s.heap.objs.size := by
        have e' : b = e ∨ b = it := by simpa using hb
        rcases e' with z | z
        · rw [z]; exact hel
        · rw [z]; exact hil
      rw [upd_ne (Nat.ne_of_lt hb')]
      exact (hf b hb).1
  done := by
    intro X hP hw hK hc i pins s σ H E I hf st hg
    subst hP hw hK
    obtain ⟨⟨old, he⟩, hit, hne⟩ := st
    obtain ⟨xs, hq, hx⟩ := hg
    obtain ⟨its, rv, p, hz⟩ := I.tuple hq
    obtain ⟨f0, f1, f2, f3, f4, f5⟩ := hf it (by simp)
    have hl := rv.length
    have hT : s.TypeIs (.ref e) "enumerate" := ⟨_, he, rfl⟩
    unfold pyNext
    refine wpAny_bind (wpAny_attempt (wpAny_callSpecial?_slot (name := Str.ofString "__next__") hT F.slot_enumerate_next
      (wpAny_call_entry F.slot_enumerate_next hT F.entry_enumerate_next ?_ (F.args_enumerate_next_1 _))))
    show wpAny _ _ (field (.ref e) 2 >>= _) _ _ _
    refine wpAny_bind (wpAny_field he rfl (x := .ref it) rfl ?_)
    refine wpAny_bind (wpAny_nextOf_tuple_end (I.ok.hd hc) hit (show s.heap.IsTuple a its.toArray from p) (by simp; omega) fun h' x he' hx' => ?_)
    obtain ⟨o, ho, hc⟩ := hx'
    refine wpAny_bind (wpAny_isInstance (T := "StopIteration") (b := true) ⟨o, ho, hc⟩ isSubtype_stop ?_)
    exact wpAny_pure ⟨rfl, I.turned (t' := s.toks) (fun b o hb q => he' b o hb q) f0 f1 f3 f4 f5⟩
  self := fun A i s Q E st h => let ⟨⟨_, he⟩, _⟩ := st; wpAny_pyIter_enum he h
/-- enumerate of a list, of a tuple -/
def iEnumA (K : PySem.W.Frag) (ta : TA) : TI := fun σ H R => ta σ H fun vs H1 => ∃ a, vs = [.ref a] ∧ ((∃ xs, SqL K H1 a xs ∧ R (Ite K a) H1) ∨ ∃ xs, SqT K H1 a xs ∧ R (IteT K a) H1)
theorem pi_enumA {X : Cx} {e : Expr} {ta : TA} {p pos tpos : Pos} {elts : List Expr} {kk : Nat} (hg : Gl X "enumerate") (hm : X.mg "enumerate" = none) (ha : PA X [e] ta) (hs : starEach [e] X.env = [(false, eval e X.env)]) :
    PI X (.Tuple elts kk tpos) (.Call (.Name "enumerate" p) [e] [] pos) (iEnumA X.K ta) := by
  refine ⟨fun pins s σ H R I h => ?_⟩
  refine Call_ (ld_blt I hg hm boot_enumerate (PyProof.Rows.callWith_type1 (thn (ha.run pos pins s σ H _ I h) fun us s1 ⟨vs, H1, I1, r1, q1⟩ => ?_) hs rfl))
  obtain ⟨a, ex, q1⟩ := q1
  subst ex
  cases r1 with
  | cons r rr =>
    cases rr
    cases r
    have fin : ∀ b, b ∈ [s1.heap.objs.size + 1, s1.heap.objs.size] → FpOk X pins H1 b := fun b hb => by
      have e' : b = s1.heap.objs.size + 1 ∨ b = s1.heap.objs.size := by simpa using hb
      have hle : s1.heap.objs.size ≤ b := by
        rcases e' with z | z
        · rw [z]; exact Nat.le_add_right _ _
        · rw [z]; exact Nat.le_refl _
      exact I1.fpOk hle (I1.hok.fresh hle)
    rcases q1 with ⟨xs, hq, q⟩ | ⟨xs, hq, q⟩
    · obtain ⟨its, rv, p', hz⟩ := I1.list hq
      refine call_enumerate_list p'.isList fun h' he hit hsz hk => wpAny_pyIter_enum he ?_
      have I2 : Inv X pins σ H1 { s1 with heap := h' } := I1.kept (t' := s1.toks) hk
      exact ⟨s1.heap.objs.size + 1, [s1.heap.objs.size + 1, s1.heap.objs.size], _, _, H1, rfl, I2, turn_enum a (s1.heap.objs.size + 1) s1.heap.objs.size, ⟨⟨.none, he⟩, hit, Nat.succ_ne_self _⟩, fin, q⟩
    · obtain ⟨its, rv, p', hz⟩ := I1.tuple hq
      refine enumBegins (begins_tuple a its.toArray) (show s1.heap.IsTuple a its.toArray from p') fun h' he hit hsz hk => wpAny_pyIter_enum he ?_
      have I2 : Inv X pins σ H1 { s1 with heap := h' } := I1.kept (t' := s1.toks) hk
      exact ⟨s1.heap.objs.size + 1, [s1.heap.objs.size + 1, s1.heap.objs.size], _, _, H1, rfl, I2, turnET a (s1.heap.objs.size + 1) s1.heap.objs.size, ⟨⟨.none, he⟩, ⟨_, hit, rfl, rfl⟩, Nat.succ_ne_self _⟩, fin, q⟩
end Py
end
section
set_option linter.all false
set_option maxRecDepth 100000
set_option maxHeartbeats 4000000
/-! PyIt2: set(list of intsD): HandS.SetFor's tuple case, for lists. -/
namespace Py
open PySem PySem.Spec PyProof.Rows L2
section
variable {P : Program} {w : World} {A : Around} {E : Value → Shared → Prop} {s : Shared}
set_option maxHeartbeats 3200000 in
theorem setLI {l : Addr} {items : Array Value} (ns : List Int) {Q : Value → Shared → Prop} (hh : A.handled = none) (hl : s.heap.IsList l items) (hit : IntsAre items.toList ns) (hb : ns.length + 1 < scanBound)
    (h : ∀ (h' : Heap) (tk c : Nat), SetR w h' s.heap.objs.size (fun j => decide (j ∈ ns)) c → c ≤ ns.length → (∀ b o, s.heap.get? b = some o → h'.get? b = some o) → Q (.ref s.heap.objs.size) { s with heap := h', toks := tk }) :
    wpAny (model P w) A (call (.type "set") [.ref l]) Q E s := by
  have hisz : items.size = ns.length := by
    have q := IntsAre.length hit
    rw [Array.length_toList] at q
    exact q
  obtain ⟨c, tl, hmro⟩ := F.called_set.mro
  have hmade := F.called_set.made
  have hsub := F.called_set.sub
  refine wpAny_call (codeAny_of_tree ?_)
  show wpAny _ _ (callAny (.type "set") _) _ _ _
  refine wpAny_pure ⟨Code.quiet_builtin _ (by decide +kernel), codeAny_builtin F.entry_type_call ?_⟩
  rw [Around.under_plain (weight_type_call_type "set" [.ref l] []) rfl]
  have h1 := F.called_set.notType
  have h2 := F.called_set.canCreate
  have hct := F.typeCall_set_1 (.ref l)
  repeat (any_goals (first | assumption | wp_step))

  refine codeAny_mono (code_set_led1 (.ref l) (E := E) (Q₁ := fun obj s₁ => obj = .ref s.heap.objs.size ∧ s₁ = { s with heap := s.heap.push { cls := .type "set", dict := none, data := .set #[] 0 (.fresh 0 0 (!w.params.followText "set-order")) } }) ⟨rfl, rfl⟩) fun r s₁ hr => ?_
  cases r with
  | error e => exact hr
  | ok fl =>
    cases fl with
    | ret obj =>
      obtain ⟨rfl, rfl⟩ := hr
      have hS : (s.heap.push { cls := .type "set", dict := none, data := .set #[] 0 (.fresh 0 0 (!w.params.followText "set-order")) }).get? s.heap.objs.size = some { cls := .type "set", dict := none, data := .set #[] 0 (.fresh 0 0 (!w.params.followText "set-order")) } := Heap.get?_push_size _ rfl
      have hT : Shared.TypeIs { s with heap := s.heap.push { cls := .type "set", dict := none, data := .set #[] 0 (.fresh 0 0 (!w.params.followText "set-order")) } } (.ref s.heap.objs.size) "set" := ⟨_, hS, rfl⟩
      have hli := F.called_set.init.lookup
      have hbi := F.called_set.init.bind (.ref s.heap.objs.size)
      repeat (any_goals (first | assumption | wp_step))

      refine codeAny_mono (codeAny_call_builtin (R := wants (fun r s₂ => r = .none ∧ ∃ h' tk c, s₂ = { s with heap := h', toks := tk } ∧ SetR w h' s.heap.objs.size (fun j => decide (j ∈ ns)) c ∧ c ≤ ns.length ∧
          (∀ b o, s.heap.get? b = some o → h'.get? b = some o)) E) F.called_set.init.plain F.entry_set_init (check_set_init_1 hT ?_)) fun r₂ s₂ hr₂ => ?_
      · obtain ⟨ol, hol, hcl, nl, hdl⟩ := hl
        obtain ⟨ocls, odict, odata, oslots⟩ := ol
        simp only at hcl hdl
        subst hcl; subst hdl
        have hol' : (s.heap.push { cls := .type "set", dict := none, data := .set #[] 0 (.fresh 0 0 (!w.params.followText "set-order")) }).get? l = some { cls := .type "list", dict := odict, data := .seq items nl, slots := oslots } := Heap.get?_push_of_some _ hol
        have hsls := F.sub_list_set
        have hslf := F.sub_list_frozenset
        have hne : (Value.type "list" == Value.type "dict") = false := by decide
        have hl1 : (s.heap.push { cls := .type "set", dict := none, data := .set #[] 0 (.fresh 0 0 (!w.params.followText "set-order")) }).IsList l items := ⟨_, hol', rfl, nl, rfl⟩
        unfold Builtin.«set.__init__» noKeywords Builtin.Frozenset.updateFrom
        generalize hPI : pyIter = PI
        wp_walk
        subst hPI

        refine wpAny_pyIter_list hl1 ?_
        refine wpAny_bind (wpAny_runValue ?_)
        have hlS : l < s.heap.objs.size := Heap.lt_size hol
        have hh3 : A.in1.in1.in1.handled = none := by simp [hh]
        have hz1 : (s.heap.push { cls := .type "set", dict := none, data := .set #[] 0 (.fresh 0 0 (!w.params.followText "set-order")) }).objs.size = s.heap.objs.size + 1 := Heap.size_push ..
        have hneI : l ≠ (s.heap.push { cls := .type "set", dict := none, data := .set #[] 0 (.fresh 0 0 (!w.params.followText "set-order")) }).objs.size := by
          rw [Heap.size_push]; exact Nat.ne_of_lt (Nat.lt_succ_of_lt hlS)
        have hSf : s.heap.objs.size ∉ [(s.heap.push { cls := .type "set", dict := none, data := .set #[] 0 (.fresh 0 0 (!w.params.followText "set-order")) }).objs.size, l] := by
          rw [Heap.size_push]; simp only [List.mem_cons, List.mem_singleton, List.not_mem_nil, or_false, not_or]
          exact ⟨Nat.ne_of_lt (Nat.lt_succ_self _), Nat.ne_of_gt hlS⟩
        have hval : ∀ (i : Nat) (v : Value), items[i]? = some v → ∃ k t, ns[i]? = some k ∧ v = .int k t := fun i v hv => by
          have hi : i < ns.length := by rw [← hisz]; exact (Array.getElem?_eq_some_iff.mp hv).1
          obtain ⟨t, e⟩ := PyProof.Rows.IntsAre.int_at hit i v (by rw [Array.getElem?_toList]; exact hv)
          refine ⟨ns[i], t, List.getElem?_eq_getElem hi, ?_⟩
          rw [e, List.getD_eq_getElem?_getD, List.getElem?_eq_getElem hi] <;> rfl
        refine set_update_ints ((Walks.list hh3 _ l hneI items).toS) s.heap.objs.size
          hSf ns hisz hb hval (items.size - 0) 0 _ (by omega) (Nat.zero_le _)
          ⟨⟨_, Heap.get?_push_size _ rfl, rfl, rfl⟩, (hl1.push _)⟩ ?hS0 ?hR
        case hS0 =>
          have hget : ((s.heap.push { cls := .type "set", dict := none, data := .set #[] 0 (.fresh 0 0 (!w.params.followText "set-order")) }).push { cls := .type "list_iterator", data := .fields #[.ref l, .int 0 0] }).get? s.heap.objs.size
              = some { cls := .type "set", dict := none, data := .set #[] 0 (.fresh 0 0 (!w.params.followText "set-order")) } := Heap.get?_push_of_some _ hS
          exact ⟨0, Nat.le_refl 0, setR_new_at hget⟩
        case hR =>
          intro s' c' hm hc' hS'
          obtain ⟨h', g2, d', tk', os'⟩ := s'
          have eg : g2 = s.gens := hm.gens
          have ed : d' = s.drawn := hm.drawn
          have eo : os' = s.os := hm.os
          subst eg; subst ed; subst eo
          show wpAny _ _ _ _ _ _
          refine wpAny_pure ?_
          show wpAny _ _ (ret Value.none) _ _ _
          rw [hisz] at hc'
          refine wpAny_pure ⟨rfl, h', tk', c', rfl, hS', hc', fun b o e => ?_⟩
          have hb0 : b < s.heap.objs.size := Heap.lt_size e
          have hb1 : b ≠ s.heap.objs.size := Nat.ne_of_lt hb0
          have hb2 : b ≠ (s.heap.push { cls := .type "set", dict := none, data := .set #[] 0 (.fresh 0 0 (!w.params.followText "set-order")) }).objs.size := by
            rw [Heap.size_push]; exact Nat.ne_of_lt (Nat.lt_succ_of_lt hb0)
          exact hm.heap b o (by simp only [List.mem_cons, List.mem_singleton, List.not_mem_nil, or_false, not_or]; exact ⟨hb1, hb2⟩) (Heap.get?_push_of_some _ (Heap.get?_push_of_some _ e))

      · cases r₂ with
        | error e => exact hr₂
        | ok fl₂ =>
          cases fl₂ with
          | ret r =>
            obtain ⟨rfl, h', tk, c', rfl, hS', hc', hk'⟩ := hr₂
            repeat (any_goals (first | assumption | wp_step))
            exact h _ _ _ hS' hc' hk'
          | _ => exact hr₂.elim
    | _ => exact hr.elim

end
end Py
end
section
set_option linter.all false
set_option maxRecDepth 100000
set_option maxHeartbeats 4000000
/-! PyIt3: sum(list of lists, []). -/
namespace Py
open PySem PySem.Spec PyProof.Rows L2
theorem args_sum2 (a b : Value) : argsOk "sum" ⟨[a, b], []⟩ := by unfold argsOk; kernel_rfl
section
variable {prog : Program} {w : World} {A : Around} {R : Result → Shared → Prop} {E : Value → Shared → Prop} {s : Shared}
abbrev LO (h : Heap) (a : Addr) (its : List Value) (n : Nat) : Prop := h.get? a = some { cls := .type "list", data := .seq its.toArray n }
theorem sumLoopC (hh : A.handled = none) (I l S : Addr) (bs : List Addr) (its : Addr → List Value) (mm : Addr → Nat) (hlI : l ≠ I) (hSI : S ≠ I) (hSl : S ≠ l) :
    ∀ (k i : Nat) (s : Shared) (T c nT : Nat) (acc : List Value), bs.length - i = k → i ≤ bs.length → (s.heap.IsListIter I l i ∧ s.heap.IsList l (bs.map Value.ref).toArray) → LO s.heap S [.ref T] c → LO s.heap T acc nT → T ≠ S → T ≠ I →
    (∀ b ∈ bs, LO s.heap b (its b) (mm b) ∧ b ≠ S ∧ b ≠ I) → acc.length + ((bs.drop i).flatMap its).length ≤ sizeLine →
    (∀ (h' : Heap) (tk T' n' : Nat), LO h' T' (acc ++ (bs.drop i).flatMap its) n' → ((T' = T ∧ i = bs.length) ∨ (s.heap.objs.size ≤ T' ∧ i < bs.length)) → (∀ b o, b ≠ I → b ≠ S → s.heap.get? b = some o → h'.get? b = some o) → R (.ok (.ret (.ref T'))) { s with heap := h', toks := tk }) →
    codeAny (model prog w) A (.builtin "sum.loop" ⟨[.ref I, .ref S, rawInt 2, rawInt 0], []⟩) R s := by
  have W := Walks.list (prog := prog) (w := w) (A := A.in1) hh I l hlI (bs.map Value.ref).toArray
  have hn : (bs.map Value.ref).toArray.size = bs.length := by simp
  intro k
  induction k with
  | zero =>
    intro i s T c nT acc hk hi hst hS hT hTS hTI hb hz hR
    have hin : i = bs.length := by omega
    refine codeAny_builtin F.entry_sum_loop ?_
    rw [Around.under_plainId F.plain_sum_loop _]
    show wpAny _ A.in1 (seqItems? (.ref S) >>= _) _ _ s
    refine wpAny_bind (wpAny_seqItems hS rfl ?_)
    show wpAny _ A.in1 (tryCatch (pyNext (.ref I)) _ >>= _) _ _ s
    refine wpAny_bind (wpAny_tryCatch (W.done s _ _ (by rw [hn, ← hin]; exact hst) fun h' tk hk' => ?_))
    refine wpAny_pure (hR h' tk T nT ?_ (.inl ⟨rfl, hin⟩) fun b o hbI hbS e => hk' b o (by simpa using hbI) e)
    rw [List.drop_eq_nil_of_le (by omega)]
    simp only [List.flatMap_nil, List.append_nil]
    exact hk' T _ (by simpa using hTI) hT
  | succ k ih =>
    intro i s T c nT acc hk hi hst hS hT hTS hTI hb hz hR
    have hlt : i < bs.length := by omega
    refine codeAny_builtin F.entry_sum_loop ?_
    rw [Around.under_plainId F.plain_sum_loop _]
    show wpAny _ A.in1 (seqItems? (.ref S) >>= _) _ _ s
    refine wpAny_bind (wpAny_seqItems hS rfl ?_)
    show wpAny _ A.in1 (tryCatch (pyNext (.ref I)) _ >>= _) _ _ s
    refine wpAny_bind (wpAny_tryCatch (wpAny_pyNext_list_item hst.1 hst.2 (x := .ref bs[i]) (by simp [hlt]) fun h' hit' hs' => ?_))
    have hst' : h'.IsListIter I l (i + 1) ∧ h'.IsList l (bs.map Value.ref).toArray := ⟨hit', hst.2.extBut hs'.extBut hlI⟩
    have kp : ∀ b o, b ≠ I → s.heap.get? b = some o → h'.get? b = some o := fun b o hbI e => hs'.extBut b o hbI e
    have hS' := kp S _ hSI hS
    have hT' := kp T _ hTI hT
    obtain ⟨hB, hBS, hBI⟩ := hb bs[i] (List.getElem_mem hlt)
    have hB' := kp _ _ hBI hB
    have hd : (bs.drop i).flatMap its = its bs[i] ++ (bs.drop (i + 1)).flatMap its := by rw [List.drop_eq_getElem_cons hlt, List.flatMap_cons]
    rw [hd, List.length_append] at hz
    show wpAny _ A.in1 ((holding [Value.ref bs[i]] (binaryOp .Add (.ref T) (.ref bs[i]))).attempt >>= _) _ _ _
    refine wpAny_bind (wpAny_attempt (wpAny_holding (PySem.P.add_list (s := { s with heap := h' }) hT' hB' ?_ (by rw [List.size_toArray, List.size_toArray]; omega))))
    have hTs : T < h'.objs.size := Heap.lt_size hT'
    have hIs : I < h'.objs.size := by obtain ⟨o, e, _⟩ := hst'.1; exact Heap.lt_size e
    have hSs : S < h'.objs.size := Heap.lt_size hS'
    have ea : acc.toArray ++ (its bs[i]).toArray = (acc ++ its bs[i]).toArray := by simp
    rw [ea]
    have hN : (h'.push { cls := .type "list", data := .seq (acc ++ its bs[i]).toArray }).get? h'.objs.size = some { cls := .type "list", data := .seq (acc ++ its bs[i]).toArray } := Heap.get?_push_size _ rfl
    have hS1 : (h'.push { cls := .type "list", data := .seq (acc ++ its bs[i]).toArray }).get? S = some { cls := .type "list", data := .seq #[.ref T] c } := Heap.get?_push_of_some _ hS'
    show wpAny _ A.in1 (updateSeq S (fun _ => #[.ref h'.objs.size]) >>= _) _ _ _
    refine wpAny_bind ?_
    refine wpAny_updateSeq hS1 rfl ?_
    have hS2 := Heap.get?_update_self (Obj.mapSeq fun _ => #[Value.ref h'.objs.size]) hS1 rfl
    refine wpAny_bind (wpAny_letGo ?_)
    refine wpAny_bind ?_
    have up2 : ∀ (b : Addr) (f g : Obj → Obj), b ≠ S → ∀ o, h'.get? b = some o → (((h'.push { cls := .type "list", data := .seq (acc ++ its bs[i]).toArray }).update S f).update S g).get? b = some o := fun b f g hb o e =>
      (Heap.get?_update_other _ _ (Ne.symm hb)).trans ((Heap.get?_update_other _ _ (Ne.symm hb)).trans (Heap.get?_push_of_some _ e))
    refine wpAny_updateSeq hS2 rfl (wpAny_pure ⟨plainId_quiet F.plain_sum_loop _, ih (i + 1) _ h'.objs.size _ 0 (acc ++ its bs[i]) (by omega) hlt (W.frame _ _ _ hst' fun b hbm o e => ?_) (Heap.get?_update_self _ hS2 rfl) ?_ (Nat.ne_of_gt hSs) (Nat.ne_of_gt hIs) (fun b hbm => ?_) (by rw [List.length_append]; omega) fun h'' tk'' T' n' hT'' hc hk'' => ?_⟩)
    · have hbS : b ≠ S := by
        have : b = I ∨ b = l := by simpa using hbm
        rcases this with z | z
        · rw [z]; exact Ne.symm hSI
        · rw [z]; exact Ne.symm hSl
      exact up2 b _ _ hbS o e
    · exact (Heap.get?_update_other _ _ (Nat.ne_of_lt hSs)).trans ((Heap.get?_update_other _ _ (Nat.ne_of_lt hSs)).trans hN)
    · obtain ⟨q1, q2, q3⟩ := hb b hbm
      exact ⟨up2 b _ _ q2 _ (kp _ _ q3 q1), q2, q3⟩
    · refine hR h'' tk'' T' n' ?_ (.inr ⟨?_, hlt⟩) fun b o hbI hbS e => hk'' b o hbI hbS (up2 b _ _ hbS o (kp b o hbI e))
      · rw [hd, ← List.append_assoc]; exact hT''
      · have hsz : s.heap.objs.size = h'.objs.size := hs'.1.symm
        rcases hc with ⟨z, _⟩ | ⟨z, _⟩
        · rw [z, hsz]; exact Nat.le_refl _
        · refine Nat.le_trans ?_ z
          show s.heap.objs.size ≤ (((h'.push { cls := .type "list", data := .seq (acc ++ its bs[i]).toArray }).update S _).update S _).objs.size
          rw [Heap.size_update, Heap.size_update, Heap.size_push, hsz]
          exact Nat.le_succ _
theorem sub_l_str : isSubtype (.type "list") (.type "str") = pure false := by rw [isSubtype_type]; kernel_rfl
theorem sub_l_byt : isSubtype (.type "list") (.type "bytes") = pure false := by rw [isSubtype_type]; kernel_rfl
theorem sub_l_bya : isSubtype (.type "list") (.type "bytearray") = pure false := by rw [isSubtype_type]; kernel_rfl
theorem sumCat (hh : A.handled = none) {l T : Addr} {bs : List Addr} {its : Addr → List Value} {mm : Addr → Nat} {nT : Nat} {Q : Value → Shared → Prop} (hl : s.heap.IsList l (bs.map Value.ref).toArray) (hT : LO s.heap T [] nT)
    (hb : ∀ b ∈ bs, LO s.heap b (its b) (mm b)) (hz : (bs.flatMap its).length ≤ sizeLine)
    (h : ∀ (h' : Heap) (tk T' n' : Nat), LO h' T' (bs.flatMap its) n' → ((T' = T ∧ bs = []) ∨ (s.heap.objs.size ≤ T' ∧ bs ≠ [])) → (∀ b o, s.heap.get? b = some o → h'.get? b = some o) → Q (.ref T') { s with heap := h', toks := tk }) :
    wpAny (model prog w) A (call (.builtin "sum") [.ref l, .ref T]) Q E s := by
  refine call_function_tree F.kind_sum F.plain_sum F.entry_sum (args_sum2 _ _) ?_
  unfold Builtin.«sum»
  simp only [List.length_cons, List.length_nil]
  rw [if_neg (by decide)]
  refine wpAny_bind (wpAny_of_eq (show Builtin.Builtins.bindParams "sum" ["start"] 0 ⟨[.ref T], []⟩ = pure [some (.ref T)] from rfl) ?_)
  refine wpAny_bind (wpAny_pyIter_list hl ?_)
  refine wpAny_bind (wpAny_pure ?_)
  have hlt : l < s.heap.objs.size := by obtain ⟨_, e, _⟩ := hl; exact Heap.lt_size e
  have hTt : T < s.heap.objs.size := Heap.lt_size hT
  have ty : Shared.TypeIs { s with heap := s.heap.push { cls := .type "list_iterator", data := .fields #[.ref l, .int 0 0] } } (.ref T) "list" := ⟨_, Heap.get?_push_of_some _ hT, rfl⟩
  simp only [List.forIn_cons, List.forIn_nil]
  refine wpAny_bind (wpAny_bind (wpAny_bind (wpAny_isInstance (T := "list") (b := false) ty sub_l_str ?_)))
  simp only [Bool.false_eq_true, if_false]
  refine wpAny_pure (wpAny_bind (wpAny_bind (wpAny_isInstance (T := "list") (b := false) ty sub_l_byt ?_)))
  simp only [Bool.false_eq_true, if_false]
  refine wpAny_pure (wpAny_bind (wpAny_bind (wpAny_isInstance (T := "list") (b := false) ty sub_l_bya ?_)))
  simp only [Bool.false_eq_true, if_false]
  refine wpAny_pure (wpAny_pure ?_)
  refine wpAny_bind (wpAny_newObj_type ?_)
  have z1 : (s.heap.push { cls := .type "list_iterator", data := .fields #[.ref l, .int 0 0] }).objs.size = s.heap.objs.size + 1 := Heap.size_push ..
  refine wpAny_pure ⟨plainId_quiet F.plain_sum_loop _, sumLoopC (by exact hh) s.heap.objs.size l _ bs its mm (Nat.ne_of_lt hlt) (by rw [z1]; exact Nat.ne_of_gt (Nat.lt_succ_self _)) (by rw [z1]; exact Nat.ne_of_gt (Nat.lt_succ_of_lt hlt)) bs.length 0 _ T 0 nT [] rfl (Nat.zero_le _)
    ⟨⟨_, Heap.get?_push_of_some _ (Heap.get?_push_size _ rfl), rfl, rfl⟩, (hl.push _).push _⟩ (Heap.get?_push_size _ rfl) (Heap.get?_push_of_some _ (Heap.get?_push_of_some _ hT)) (by rw [z1]; exact Nat.ne_of_lt (Nat.lt_succ_of_lt hTt)) (Nat.ne_of_lt hTt)
    (fun b hbm => ?_) (by simpa using hz) fun h' tk T' n' hT' hc hk => ?_⟩
  · have q := hb b hbm
    have hbt : b < s.heap.objs.size := Heap.lt_size q
    exact ⟨Heap.get?_push_of_some _ (Heap.get?_push_of_some _ q), by rw [z1]; exact Nat.ne_of_lt (Nat.lt_succ_of_lt hbt), Nat.ne_of_lt hbt⟩
  · refine h h' tk T' n' (by simpa using hT') ?_ fun b o e => ?_
    · rcases hc with ⟨a, b⟩ | ⟨a, b⟩
      · exact .inl ⟨a, by cases bs with | nil => rfl | cons _ _ => simp at b⟩
      · refine .inr ⟨?_, by intro z; rw [z] at b; simp at b⟩
        have a' : ((s.heap.push { cls := .type "list_iterator", data := .fields #[.ref l, .int 0 0] }).push { cls := .type "list", data := .seq #[.ref T] }).objs.size ≤ T' := a
        rw [Heap.size_push, Heap.size_push] at a'
        omega
    · have hbt : b < s.heap.objs.size := Heap.lt_size e
      exact hk b o (Nat.ne_of_lt hbt) (by rw [z1]; exact Nat.ne_of_lt (Nat.lt_succ_of_lt hbt)) (Heap.get?_push_of_some _ (Heap.get?_push_of_some _ e))
end
end Py
end
section
set_option linter.all false
set_option maxRecDepth 100000
set_option maxHeartbeats 4000000
/-! PyIt4: sorted(list of tuples of ints), of any lengths. -/
namespace SrtO
open PySem PyProof.Rows
section
variable {prog : Program} {w : World} {A : Around} {E : Value → Shared → Prop} {s : Shared}
/-- what a tuple's items are, collected -/
theorem collect_tup {l : Addr} {us : List Value} {R : List Value → Shared → Prop} (hl : IsTup s.heap l us.toArray)
    (h : R us { s with heap := (s.heap.push (seqObj "list" #[] 0)).update s.heap.objs.size (Obj.mapSeq (· ++ us.toArray)) }) (hz : us.length ≤ sizeLine) : wpAny (model prog w) A (collect (.ref l)) R E s := by
  obtain ⟨ob, hob, hcl, k, hdt⟩ := id hl
  unfold collect
  refine wpAny_bind (wpAny_runValue (codeAny_builtin entry_proto_collect' ?_))
  show wpAny _ _ (do again (.builtin "list.__iadd__" ⟨[← newList [], .ref l], []⟩)) _ _ s
  refine wpAny_bind (wpAny_newList (wpAny_pure ⟨Code.quiet_builtin _ (by decide +kernel), codeAny_builtin entry_list_iadd' ?_⟩))
  show wpAny _ _ (Builtin.List.listExtendWith (.ref s.heap.objs.size) (.ref l) (.ref s.heap.objs.size)) _ _ { s with heap := s.heap.push (seqObj "list" #[] 0) }
  unfold Builtin.List.listExtendWith
  have hob' : (s.heap.push (seqObj "list" #[] 0)).get? l = some ob := Heap.get?_push_of_some _ hob
  refine wpAny_bind (wpAny_typeOf (T := "tuple") ⟨ob, hob', hcl⟩ ?_)
  have ht : (Value.type "tuple" == Value.type "tuple") = true := by rfl
  rw [if_pos (by rw [ht]; simp)]
  refine wpAny_bind (listItems_at hob' hdt (wpAny_bind (listItems_at (xs := #[]) (n := 0) (Heap.get?_push_size _ rfl) rfl ?_)))
  rw [if_neg (by simp)]
  refine wpAny_bind (listUpdate_at (xs := #[]) (n := 0) (Heap.get?_push_size _ rfl) rfl ?_ (Nat.zero_le _) (by show (#[] ++ us.toArray).size ≤ sizeLine + 1; simp only [Array.size_append, List.size_toArray, List.length_nil]; omega))
  refine wpAny_pure ?_
  show wpAny (model prog w) A (do
      let o ← load s.heap.objs.size
      match o.data with
      | .seq xs _ => pure xs.toList
      | _ => unsupported "internal:collect") R E { s with heap := (s.heap.push (seqObj "list" #[] 0)).update s.heap.objs.size (Obj.mapSeq (· ++ us.toArray)) }
  refine wpAny_bind (wpAny_load (get?_update_seq (Heap.get?_push_size _ rfl) _) ?_)
  show wpAny _ _ (pure ((#[] : Array Value) ++ us.toArray).toList) R E _
  rw [show ((#[] : Array Value) ++ us.toArray).toList = us by simp]
  exact wpAny_pure h
/-- sorted(l), l a list or a tuple -/
theorem sorted_sq {l : Addr} {vs : List Value} {ltv : Value → Value → Bool} {R : Value → Shared → Prop} (O : Swo ltv) (hl : s.heap.IsList l vs.toArray ∨ IsTup s.heap l vs.toArray) (hz : vs.length ≤ sizeLine)
    (hS : 2 ≤ vs.length → ∀ (h₁ : Heap) (a : Addr), h₁.get? a = some (seqObj "list" vs.toArray 0) → (∀ b o, s.heap.get? b = some o → b ≠ a ∧ h₁.get? b = some o) → SortableO prog w A.in1.in1 { s with heap := h₁ } a vs ltv)
    (h : ∀ out : List Value, Srtd ltv out → Stb ltv out vs → R (.ref (s.heap.objs.size + 1)) { s with heap := sortedAll s.heap vs out.toArray }) : wpAny (model prog w) A (call (.builtin "sorted") [.ref l]) R E s := by
  rcases hl with hl | hl
  · exact sorted_ord O hl hz hS h
  refine Calls.call_function_entry kind_sorted plain_sorted entry_sorted (args_sorted1 _) ?_
  unfold Builtin.«sorted»
  refine wpAny_bind (m := checkCount "sorted" 1 1 _) (wpAny_pure ?_)
  refine wpAny_bind (collect_tup hl (wpAny_bind (wpAny_newList ?_ hz)) hz)
  let h0 : Heap := (s.heap.push (seqObj "list" #[] 0)).update s.heap.objs.size (Obj.mapSeq (· ++ vs.toArray))
  have hsz : h0.objs.size = s.heap.objs.size + 1 := by
    show ((s.heap.push (seqObj "list" #[] 0)).update s.heap.objs.size (Obj.mapSeq (· ++ vs.toArray))).objs.size = _
    rw [Heap.size_update, size_push']
  have hoL : (h0.push (seqObj "list" vs.toArray 0)).get? (s.heap.objs.size + 1) = some (seqObj "list" vs.toArray 0) := by
    rw [← hsz]; exact Heap.get?_push_size _ rfl
  have kp : ∀ b o, s.heap.get? b = some o → b ≠ s.heap.objs.size + 1 ∧ (h0.push (seqObj "list" vs.toArray 0)).get? b = some o := fun b o q => by
    have hlt : b < s.heap.objs.size := Heap.lt_size q
    refine ⟨Nat.ne_of_lt (Nat.lt_succ_of_lt hlt), Heap.get?_push_of_some _ ?_⟩
    show ((s.heap.push (seqObj "list" #[] 0)).update s.heap.objs.size (Obj.mapSeq (· ++ vs.toArray))).get? b = some o
    rw [Heap.get?_update_ne _ _ _ _ (Nat.ne_of_lt hlt)]
    exact Heap.get?_push_of_some _ q
  show wpAny _ _ _ _ _ { s with heap := h0.push (seqObj "list" vs.toArray 0) }
  have e0 : ((s.heap.push (seqObj "list" #[] 0)).update s.heap.objs.size (Obj.mapSeq (· ++ vs.toArray))).objs.size = s.heap.objs.size + 1 := hsz
  rw [e0]
  exact wpAny_bind (wpAny_holding (wpAny_call_entry slot_list_sort ⟨_, hoL, rfl⟩ entry_list_sort (list_sort_ord O hoL hz (fun h2 => hS h2 _ _ hoL kp) fun out hs hb => ⟨_, rfl, wpAny_pure ⟨_, rfl, h out hs hb⟩⟩) (args_list_sort _)))
end
section
variable {prog : Program} {w : World} {A : Around} {E : Value → Shared → Prop} {s : Shared}
/-- a tuple's first item, by the heap -/
def fstO (h : Heap) : Value → Option Value
  | .ref a => match h.get? a with
    | some o => match o.data with
      | .seq xs _ => xs[0]?
      | _ => none
    | none => none
  | _ => none
theorem first_tup {M : Model} {v : Value} {ns : List Int} {Q : Option Value → Shared → Prop} (x : TS.TupInts s.heap v ns) (h : Q (fstO s.heap v) s) : wpAny M A (firstOfTuple' v) Q E s := by
  obtain ⟨a, xs, rfl, ⟨o, ho, hc, n, hd⟩, i⟩ := x
  rw [PySem.W.kas_first_eq]
  refine wpAny_bind (PySem.W.Looks.here (show PySem.W.Looks M s.heap (typeOf (.ref a)) o.cls from (PySem.W.Looks.ld ho).andThen .now) ?_)
  rw [hc, if_neg (by first | decide | simp)]
  refine wpAny_bind (listItems_at ho hd (wpAny_pure ?_))
  have e : fstO s.heap (.ref a) = xs[0]? := by simp only [fstO, ho, hd]
  rw [← e]
  exact h
theorem fst_int {h : Heap} {v f : Value} {ns : List Int} (x : TS.TupInts h v ns) (e : fstO h v = some f) : ∃ i t, f = .int i t := by
  obtain ⟨a, xs, rfl, ⟨o, ho, hc, n, hd⟩, i⟩ := x
  have e1 : xs[0]? = some f := by simpa only [fstO, ho, hd] using e
  have : f ∈ xs.toList := by
    rw [Array.mem_toList_iff]
    exact Array.mem_of_getElem? e1
  exact ints_mem i f this
theorem firsts_tup {M : Model} : ∀ (vs : List Value) {Q : List (Option Value) → Shared → Prop}, (∀ v ∈ vs, ∃ ns, TS.TupInts s.heap v ns) → Q (vs.map (fstO s.heap)) s → wpAny M A (vs.mapM firstOfTuple') Q E s
  | [], _, _, h => by rw [List.mapM_nil]; exact wpAny_pure h
  | v :: vs, Q, x, h => by
    obtain ⟨ns, hv⟩ := x v List.mem_cons_self
    rw [List.mapM_cons]
    refine wpAny_bind (first_tup hv ?_)
    exact wpAny_bind (firsts_tup vs (Q := fun bs s' => wpAny M A (pure (fstO s.heap v :: bs)) Q E s') (fun u hu => x u (List.mem_cons_of_mem _ hu)) (wpAny_pure h))
/-- comparisons -/
theorem lex_tup {b fin : Bool} {Q : Bool → Shared → Prop} : ∀ (ps qs : List Value) (i : Nat) (as bs : List Int), IntsAre ps as → IntsAre qs bs → fin = decide (ps.length < qs.length) → Q (HT.lexLt as bs) s → PySem.W.KatLex prog w A b fin Q (ps.zip qs) i s
  | _, _, i, _, _, .nil, .nil, hf, h => by
    rw [HT.lexLt_nil_nil] at h
    have e : fin = false := by rw [hf]; rfl
    subst e
    exact PySem.W.kat_nil h
  | _, _, i, _, _, .nil, .cons c u r, hf, h => by
    rw [HT.lexLt_nil_cons] at h
    have e : fin = true := by rw [hf]; exact decide_eq_true (Nat.succ_pos _)
    subst e
    exact PySem.W.kat_nil h
  | _, _, i, _, _, .cons a t r, .nil, hf, h => by
    rw [HT.lexLt_cons_nil] at h
    have e : fin = false := by rw [hf]; exact decide_eq_false (Nat.not_lt_zero _)
    subst e
    exact PySem.W.kat_nil h
  | _, _, i, _, _, .cons (vs := ps) a t r, .cons (vs := qs) c u r', hf, h => by
    have hf' : fin = decide (ps.length < qs.length) := by
      rw [hf]; simp only [List.length_cons, Nat.add_lt_add_iff_right]
    rw [HT.lexLt_cons] at h
    refine PySem.W.kat_cons (SeqAt.EqAt.int_int a t c u prog w _ _ ?_)
    refine PySem.W.kat_go (fun e => PySem.W.kat_yes ?_) (fun e => PySem.W.kat_no ?_)
    · have hnm : a = c := by simpa using e
      rw [if_pos hnm] at h
      exact lex_tup ps qs (i + 1) _ _ r r' hf' h
    · have hnm : ¬ a = c := by simpa using e
      rw [if_neg hnm] at h
      cases hb : (b && i == 0) with
      | true => exact oneLt_int h
      | false => exact PySem.W.kat_one _ _ (PyProof.Rows.lt_int h)
theorem lt_tups {v u : Value} {ns ms : List Int} {Q : Bool → Shared → Prop} (hv : TS.TupInts s.heap v ns) (hu : TS.TupInts s.heap u ms) (h : Q (HT.lexLt ns ms) s) : wpAny (model prog w) A (keyLt' (tuples' true) v u) Q E s := by
  obtain ⟨a, xs, rfl, ⟨o, ho, hc, n, hd⟩, i⟩ := hv
  obtain ⟨b, ys, rfl, ⟨o', ho', hc', n', hd'⟩, i'⟩ := hu
  exact PySem.W.kat_lt ho hd ho' hd' (lex_tup _ _ 0 _ _ i i' (by rw [Array.length_toList, Array.length_toList]) h)
theorem lt_gen {v u : Value} {ns ms : List Int} {Q : Bool → Shared → Prop} (hA : A.units < cLine) (hv : TS.TupInts s.heap v ns) (hu : TS.TupInts s.heap u ms) (h : Q (HT.lexLt ns ms) s) : wpAny (model prog w) A (keyLt' general' v u) Q E s := by
  obtain ⟨a, xs, rfl, p, i⟩ := hv
  obtain ⟨b, ys, rfl, p', i'⟩ := hu
  exact PySem.W.kat_one _ _ (HT.lt_tupInts p p' i i' hA h)
theorem lt_one {v u : Value} {ns ms : List Int} {Q : Bool → Shared → Prop} (hA : A.units < cLine) (hv : TS.TupInts s.heap v ns) (hu : TS.TupInts s.heap u ms) (h : Q (HT.lexLt ns ms) s) : wpAny (model prog w) A (keyLt' oneType' v u) Q E s := by
  obtain ⟨a, xs, rfl, p, i⟩ := hv
  obtain ⟨b, ys, rfl, p', i'⟩ := hu
  obtain ⟨⟨cls, dd, data, sl⟩, ho, hc, n, hd⟩ := id p
  obtain ⟨⟨cls2, dd2, data2, sl2⟩, ho2, hc2, n2, hd2⟩ := id p'
  simp only at hc hd hc2 hd2
  subst hc hd hc2 hd2
  rw [keyLt'_oneType, oneLt'_eq]
  simp only [if_true]
  refine wpAny_bind (wpAny_cRoomFor hA ?_)
  refine wpAny_bind (wpAny_callSpecialIfBound?_slot ⟨_, ho, rfl⟩ PySem.F.slot_tuple_lt ?_)
  refine call_meets PySem.F.slot_tuple_lt ⟨_, ho, rfl⟩ PySem.F.entry_tuple_lt (PySem.F.args_tuple_lt_2 _ _) (HT.tuple_lt_ints a b xs ys n n2 dd dd2 sl sl2 ns ms i i') ⟨ho, ho2, ?_⟩
  exact wpAny_truthy_bool h
theorem tups_sortable {a : Addr} {vs : List Value} (h2 : 2 ≤ vs.length) (hA : A.units < cLine) (hp : ∀ v ∈ vs, ∃ ns, TS.TupInts s.heap v ns) (ha : ∀ o, s.heap.get? a = some o → o.cls ≠ .type "tuple") :
    SortableO prog w A s a vs fun v u => HT.lexLt (TS.intsOf s.heap v) (TS.intsOf s.heap u) := by
  intro h' keep
  have hp' : ∀ v ∈ vs, TS.TupInts h' v (TS.intsOf s.heap v) := fun v hm => by
    obtain ⟨ns, x⟩ := hp v hm
    rw [x.ints]
    exact x.keeps fun b o e c => keep b o (fun z => by subst z; exact ha o e c) e
  have hp2 : ∀ v ∈ vs, ∃ ns, TS.TupInts h' v ns := fun v hm => ⟨_, hp' v hm⟩
  have types : ∀ M : Model, ∀ v ∈ vs, PySem.W.Looks M h' (typeOf v) (.type "tuple") := fun M v hm => by
    obtain ⟨a, xs, rfl, ⟨o, ho, hc, n, hd⟩, i⟩ := hp' v hm
    rw [← hc]
    exact (PySem.W.Looks.ld ho).andThen .now
  by_cases c1 : (vs.map (fstO h')).toArray.all (fun x => x.isSome) = true
  · refine ⟨tuples' true, fun Q E hq => ?_, fun p q hm hm' => lt_tups (s := { s with heap := h' }) (hp' _ hm) (hp' _ hm') ⟨rfl, rfl⟩⟩
    rw [kat_kind_eq, List.mapM_toArray, map_eq_pure_bind]
    refine wpAny_bind (wpAny_bind (firsts_tup (s := { s with heap := h' }) vs hp2 (wpAny_pure ?_)))
    rw [if_pos c1]
    refine wpAny_bind (wpAny_rule ?_)
    obtain ⟨fs, hfs⟩ : ∃ fs : List Value, vs.map (fstO h') = fs.map some ∧ ∀ f ∈ fs, ∃ i t, f = .int i t := by
      have c1' : ∀ v ∈ vs, (fstO h' v).isSome = true := by simpa using c1
      clear c1 types hp hp2 h2
      induction vs with
      | nil => exact ⟨[], rfl, fun f hf => by cases hf⟩
      | cons v vs ih =>
        obtain ⟨fs, e, g⟩ := ih (fun u hu => hp' u (List.mem_cons_of_mem _ hu)) fun u hu => c1' u (List.mem_cons_of_mem _ hu)
        obtain ⟨f, hf⟩ := Option.isSome_iff_exists.mp (c1' v List.mem_cons_self)
        refine ⟨f :: fs, by rw [List.map_cons, List.map_cons, hf, e], fun x hx => ?_⟩
        rcases List.mem_cons.mp hx with rfl | hx
        · exact fst_int (hp' v List.mem_cons_self) hf
        · exact g x hx
    obtain ⟨hfs, hint⟩ := hfs
    have hlen : fs.length = vs.length := by have := congrArg List.length hfs; simpa using this.symm
    rw [hfs]
    have hfm : ((fs.map some).toArray.filterMap id) = fs.toArray := by simp
    rw [hfm, oneTypeOnly'_eq, List.mapM_toArray, map_eq_pure_bind]
    refine wpAny_bind (wpAny_bind (wpAny_bind (PySem.W.kas_mapM (r := Value.type "int") _ (fun v hv Q' hq => ?_) (wpAny_pure ?_))))
    · obtain ⟨i, t, rfl⟩ := hint v hv
      exact (PySem.W.Looks.of_pure rfl : PySem.W.Looks _ _ (typeOf (.int i t)) (.type "int")).here hq
    have hall2 : ((List.map (fun _ => Value.type "int") fs).toArray.all fun x => x == Value.type "int") = true := by
      simp only [List.all_toArray, List.all_map, List.all_eq_true]
      intro _ _
      rfl
    have h0 : (List.map (fun _ => Value.type "int") fs).toArray[0]? = some (Value.type "int") := by
      cases fs with
      | nil => simp at hlen; omega
      | cons => simp
    rw [h0]
    simp only [hall2, if_true]
    have e : (Value.type "int" != Value.type "tuple") = true := by first | rfl | decide
    refine wpAny_pure (wpAny_pure ?_)
    show Q (tuples' (Value.type "int" != Value.type "tuple")) _
    rw [e]
    exact hq
  · by_cases c2 : ((vs.map (fstO h')).toArray[0]?.bind id).isSome = true
    · refine ⟨general', fun Q E hq => ?_, fun p q hm hm' => lt_gen (s := { s with heap := h' }) hA (hp' _ hm) (hp' _ hm') ⟨rfl, rfl⟩⟩
      rw [kat_kind_eq, List.mapM_toArray, map_eq_pure_bind]
      refine wpAny_bind (wpAny_bind (firsts_tup (s := { s with heap := h' }) vs hp2 (wpAny_pure ?_)))
      rw [if_neg c1, if_pos c2]
      exact wpAny_pure hq
    · refine ⟨oneType', fun Q E hq => ?_, fun p q hm hm' => lt_one (s := { s with heap := h' }) hA (hp' _ hm) (hp' _ hm') ⟨rfl, rfl⟩⟩
      rw [kat_kind_eq, List.mapM_toArray, map_eq_pure_bind]
      refine wpAny_bind (wpAny_bind (firsts_tup (s := { s with heap := h' }) vs hp2 (wpAny_pure ?_)))
      rw [if_neg c1, if_neg c2]
      rw [oneTypeOnly'_eq, List.mapM_toArray, map_eq_pure_bind]
      refine wpAny_bind (wpAny_bind (wpAny_bind (PySem.W.kas_mapM (r := Value.type "tuple") _ (fun v hv Q' hq => (types _ v hv).here hq) (wpAny_pure ?_))))
      have hall2 : ((List.map (fun _ => Value.type "tuple") vs).toArray.all fun x => x == Value.type "tuple") = true := by
        simp only [List.all_toArray, List.all_map, List.all_eq_true]
        intro _ _
        rfl
      have h0 : (List.map (fun _ => Value.type "tuple") vs).toArray[0]? = some (Value.type "tuple") := by
        cases vs with
        | nil => simp at h2
        | cons => simp
      rw [h0]
      simp only [hall2, if_true]
      exact wpAny_pure (wpAny_pure hq)
end
end SrtO
namespace L2
open PySem PySem.Spec PyProof.Rows
/-- sorted(xs), tuples of ints; k tells what stands in each -/
def rSortedT (K : PySem.W.Frag) : List V → Hp → VK → Prop := fun vs H Q => ∃ (a : Addr) (ts : List Addr) (k : Addr → List Int), vs = [V.ref a] ∧ (SqL K H a (ts.map V.ref) ∨ SqT K H a (ts.map V.ref)) ∧ (∀ t ∈ ts, SqT K H t ((k t).map V.int)) ∧
  ∀ (ts' : List Addr) (p : Addr), ts'.Perm ts → ts'.Pairwise (fun p q => HT.lexLt (k q) (k p) = false) → H p = none → Q (.ref p) (upd H p (.lst (ts'.map V.ref)))
section
variable {X : Cx}
theorem sq_ref {pins : List (Addr × Obj)} {σ : L2.St} {H : Hp} {s : Shared} {a : Addr} {xs : List V} (I : Inv X pins σ H s) (h : SqL X.K H a xs ∨ SqT X.K H a xs) :
    ∃ its : List Value, Vals xs its ∧ (s.heap.IsList a its.toArray ∨ IsTup s.heap a its.toArray) ∧ xs.length ≤ sizeLine := by
  rcases h with h | h
  · obtain ⟨its, rv, hl, hz⟩ := I.list h
    exact ⟨its, rv, .inl hl.isList, hz⟩
  · obtain ⟨its, rv, hl, hz⟩ := I.tuple h
    exact ⟨its, rv, .inr hl, hz⟩
/-- sorted(t), a tuple of whole numbers -/
def rSortedIT (K : PySem.W.Frag) : List V → Hp → VK → Prop := fun vs H Q => ∃ (a : Addr) (ns : List Int), vs = [V.ref a] ∧ SqT K H a (ns.map V.int) ∧
  ∀ (ns' : List Int) (p : Addr), ns'.Perm ns → ns'.Pairwise (· ≤ ·) → H p = none → Q (.ref p) (upd H p (.lst (ns'.map V.int)))
theorem cr_sortedIT : CallR X (.builtin "sorted") (rSortedIT X.K) := by
  intro pins s σ H vs us Q I r h
  obtain ⟨a, ns, rfl, hs, q⟩ := h
  obtain ⟨its, rv, hl, hz⟩ := sq_ref I (.inr hs)
  rw [Vals.ref1 r]
  have hi := rv.ints
  refine SrtO.sorted_sq SrtO.swo_int hl (by rw [← rv.length]; exact hz) (fun h2 h₁ a' _ _ => SrtO.ints_sortable hi h2) fun out h1 h2 => ?_
  obtain ⟨k1, k2, k3⟩ := SrtO.ints_out hi h1 h2
  obtain ⟨ep, he'⟩ := PyProof.Rows.sortedAll_at s.heap its out.toArray
  have hln : ((out.map SrtO.iv).map V.int).length ≤ sizeLine := by
    rw [List.length_map, k2.length_eq]
    rw [List.length_map] at hz
    exact hz
  refine ⟨.ref (s.heap.objs.size + 1), upd H (s.heap.objs.size + 1) (.lst ((out.map SrtO.iv).map V.int)), ?_, rfl, q _ _ k2 k3 (I.hok.fresh (Nat.le_succ _))⟩
  exact I.laid (t' := s.toks) (fun _ _ => PyProof.Rows.sortedAll_old) (Nat.le_succ _) ⟨hln, out, ep, vals_of_ints k1, he'⟩
theorem cr_sortedT (hu : X.A.units + 64 < cLine) : CallR X (.builtin "sorted") (rSortedT X.K) := by
  intro pins s σ H vs us Q I r h
  obtain ⟨a, ts, k, rfl, hs, hk, q⟩ := h
  obtain ⟨its, rv, hl, hz⟩ := sq_ref I hs
  rw [Vals.ref1 r]
  have ei := nts_of rv
  have hp : ∀ v ∈ its, TS.TupInts s.heap v (k (adO v)) := fun v hv => by
    rw [ei] at hv
    obtain ⟨t, ht, rfl⟩ := List.mem_map.mp hv
    obtain ⟨xs, r1, p1, _⟩ := I.tuple (hk t ht)
    exact ⟨t, _, rfl, p1, intsAre_of r1⟩
  refine SrtO.sorted_sq (NtL.swo_lexL fun v => TS.intsOf s.heap v) hl (by rw [← rv.length]; exact hz) (fun h2 h₁ a' ha' keep => ?_) fun out h1 h2 => ?_
  · have hp1 : ∀ v ∈ its, TS.TupInts h₁ v (k (adO v)) := fun v hv => (hp v hv).keeps fun b o e _ => (keep b o e).2
    have := SrtO.tups_sortable (prog := X.prog) (w := X.w) (A := X.A.in1.in1) (s := { s with heap := h₁ }) (a := a') h2 (by simp only [Around.in1_units]; omega) (fun v hv => ⟨_, hp1 v hv⟩) (fun o e => by
      have e' : some o = some (seqObj "list" its.toArray 0) := e.symm.trans ha'
      cases e'
      intro c
      exact absurd (Value.type.inj c) (by decide))
    intro h' kp
    obtain ⟨κ, g1, g2⟩ := this h' kp
    refine ⟨κ, g1, fun p q hm hm' => ?_⟩
    have := g2 p q hm hm'
    have e1 : TS.intsOf h₁ p.1 = TS.intsOf s.heap p.1 := (hp1 _ hm).ints.trans (hp _ hm).ints.symm
    have e2 : TS.intsOf h₁ q.1 = TS.intsOf s.heap q.1 := (hp1 _ hm').ints.trans (hp _ hm').ints.symm
    show wpAny _ _ _ (fun r s' => s' = _ ∧ r = HT.lexLt (TS.intsOf s.heap p.1) (TS.intsOf s.heap q.1)) _ _
    rw [← e1, ← e2]
    exact this
  · obtain ⟨ep, he'⟩ := PyProof.Rows.sortedAll_at s.heap its out.toArray
    have eo : out = (out.map adO).map Value.ref := ref_map fun u hm => by
      have hm' : u ∈ its := h2.perm.mem_iff.mp hm
      rw [ei] at hm'
      obtain ⟨t, _, e⟩ := List.mem_map.mp hm'
      exact ⟨t, e.symm⟩
    have hpm : (out.map adO).Perm ts := by
      have p1 := h2.perm.map adO
      rw [ei, ad_map] at p1
      exact p1
    have hs : (out.map adO).Pairwise (fun p q => HT.lexLt (k q) (k p) = false) := by
      refine List.pairwise_map.mpr (List.Pairwise.imp_of_mem (fun {x y} hx hy z => ?_) h1)
      have ex := (hp x (h2.perm.mem_iff.mp hx)).ints
      have ey := (hp y (h2.perm.mem_iff.mp hy)).ints
      rw [← ex, ← ey]
      exact z
    have hlen : ((out.map adO).map V.ref).length ≤ sizeLine := by
      rw [List.length_map, hpm.length_eq]
      rw [List.length_map] at hz
      exact hz
    have rvo : Vals ((out.map adO).map V.ref) out := by
      have z := of_nts (out.map adO)
      rw [← eo] at z
      exact z
    exact ⟨.ref _, upd H (s.heap.objs.size + 1) (.lst ((out.map adO).map V.ref)), I.laid (t' := s.toks) (fun _ _ => PyProof.Rows.sortedAll_old) (Nat.le_succ _) ⟨hlen, out, ep, rvo, he'⟩, rfl, q _ _ hpm hs (I.hok.fresh (Nat.le_succ _))⟩
end
end L2
end
section
set_option linter.all false
set_option maxRecDepth 100000
set_option maxHeartbeats 4000000
/-! PyIt5: t.index(x), items of any depth: HandS.Deep's list case, for tuples. -/
namespace L2
open PySem PySem.Spec PyProof.Rows
section
variable {X : Cx}
def rIndexDT (K : PySem.W.Frag) : V → List V → Hp → VK → Prop := fun x xs H Q => ∃ (a : Addr) (y : V) (d : PyData) (ds : List PyData) (j : Nat) (z : PyData), x = V.ref a ∧ xs = [y] ∧ Dp K H (V.ref a) (.tuple ds) ∧ Dp K H y d ∧
  SeqAt.shaped (.tuple ds) = true ∧ SeqAt.shaped d = true ∧ ds[j]? = some z ∧ PyData.eqv z d = true ∧ (∀ (m : Nat) (z' : PyData), m < j → ds[m]? = some z' → PyData.eqv z' d = false) ∧ Q (.int (j : Nat)) H
theorem mt_indexDT (hu : X.A.units + 65 < cLine) : MtR X "tuple.index" (rIndexDT X.K) := by
  intro pins s σ H x xs v us Q I rx rxs h
  obtain ⟨a, y, d, ds, j, z, rfl, rfl, hl, hy, sl, sd, hz, hzj, hno, q⟩ := h
  cases rx
  cases rxs with
  | cons ry rt =>
    rename_i uy ut
    cases rt
    obtain ⟨bs, r1⟩ := Dp.reads I d y uy hy ry
    have hxs : PyData.canLayAll0 ds = true := SeqAt.canLay_of_shaped sl
    have hroom : X.A.units + 1 + min (PyData.depthAll ds) d.depth < cLine := room_in_shaped sd hu
    cases hl with
    | tup hs ha =>
      obtain ⟨its, rv, ⟨⟨cls, dd, data, sls⟩, ho, hc, n, hdt⟩, hlen⟩ := I.tuple hs
      simp only at hc hdt
      subst hc hdt
      obtain ⟨as, h4⟩ := Dp.readsAll I ds _ its ha rv
      have hn : its.length = ds.length := SeqAt.ReadsAll.length ds its as h4
      have hmap : its.map (SeqAt.readOf s.heap) = ds := SeqAt.readsAll_map ds its as hxs h4
      obtain ⟨hjd, _⟩ := List.getElem?_eq_some_iff.mp hz
      have hjl : j < its.length := by omega
      have hj : j < its.toArray.size := by simpa using hjl
      have at_ : ∀ (m : Nat) (hm : m < its.toArray.size) (z' : PyData), ds[m]? = some z' → SeqAt.readOf s.heap its.toArray[m] = z' := by
        intro m hm z' hz'
        have hml : m < its.length := by simpa using hm
        rw [← hmap, List.getElem?_map, List.getElem?_eq_getElem hml] at hz'
        have e1 : SeqAt.readOf s.heap its[m] = z' := Option.some.inj (show some (SeqAt.readOf s.heap its[m]) = some z' from hz')
        simpa using e1
      refine call_meets PySem.F.slot_tuple_index ⟨_, ho, rfl⟩ PySem.F.entry_tuple_index (PySem.F.args_tuple_index_2 _ _)
        (TI.tuple_indexAt a its.toArray n dd sls uy (fun u => PyData.eqv (SeqAt.readOf s.heap u) d) j hj ?_ ?_) ⟨ho, SeqAt.items_eqAt (vs := its.toArray) (show ReadsAll s.heap its.toArray.toList ds as from h4) r1 hxs (SeqAt.canLay_of_shaped sd) hroom, ?_⟩
      · show PyData.eqv (SeqAt.readOf s.heap its.toArray[j]) d = true
        rw [at_ j hj z hz]
        exact hzj
      · intro m hm hmj
        have hmd : m < ds.length := by omega
        have hz' : ds[m]? = some ds[m] := List.getElem?_eq_getElem hmd
        show PyData.eqv (SeqAt.readOf s.heap its.toArray[m]) d = false
        rw [at_ m hm _ hz']
        exact hno m _ hmj hz'
      · exact ⟨.int (j : Nat), H, I.tok _, ⟨_, rfl⟩, q⟩
end
end L2
end
section
set_option linter.all false
set_option maxRecDepth 100000
set_option maxHeartbeats 1000000
/-! PyDx: dict displays that begin with another dict's pairs. -/
namespace Py
open PySem PySem.Spec PyProof.Rows L2
section
variable {prog : Program} {w : World} {K : Type} [DecidableEq K] {knd : KeyKind prog w K} {A : Around} {E : Value → Shared → Prop} {s : Shared}
theorem wpAny_dictPut_pairs {d : Addr} {kvs : List (K × Value)} {k : K} {key v : Value} {Q : Unit → Shared → Prop} (hkey : knd.is k key = true) (hm : s.heap.DictOf knd d kvs)
    (hQ : ∀ h', h'.DictOf knd d (stored kvs k v) → Heap.SameBut d s.heap h' → Q () { s with heap := h' })
    (hsz : kvs.length ≤ sizeLine) :
    wpAny (model prog w) A (dictPut d (knd.hash k) key v) Q E s := by
  obtain ⟨o, es, ep, ho, hc, hd, hk, hp, hn⟩ := hm
  have hes : es.size ≤ sizeLine := by
    have e1 := hp.length
    have e2 : es.toList.length = es.size := by simp
    omega
  unfold dictPut
  refine wpAny_bind (wpAny_dictFind_of hkey ho hd hk ?_)
  have hidx : (es.findIdx? fun e => knd.is k e.key) = kvs.findIdx? fun kv => decide (kv.1 = k) := by
    rw [← hp.findIdx k]; obtain ⟨l⟩ := es; simp
  cases hi : es.findIdx? fun e => knd.is k e.key with
  | some i =>
    refine wpAny_updateDict ho hd (hQ _ ⟨_, _, ep, Heap.get?_update_self _ ho (Obj.isFreed_of_dict (Obj.data_mapDict hd _)),
      hc.mapDict _, Obj.data_mapDict hd _, hk.modify _ _, ?_, ?_⟩ (Heap.SameBut.update ..))
    · rw [stored, if_pos (any_of_findIdx_some (hidx ▸ hi))]
      have hl : (es.toList.findIdx? fun e => knd.is k e.key) = some i := by rw [← hi]; obtain ⟨l⟩ := es; simp
      have := hp.modify hn hl v
      obtain ⟨l⟩ := es
      simpa using this
    · rw [stored, if_pos (any_of_findIdx_some (hidx ▸ hi)), keys_map_store]; exact hn
  | none =>
    have hnot : k ∉ kvs.map (·.1) := not_mem_of_findIdx_none (hidx ▸ hi)
    have hany : ¬ (kvs.any fun kv => decide (kv.1 = k)) = true := by
      rw [List.any_eq_true]; rintro ⟨kv, hkv, he⟩
      exact hnot (List.mem_map.mpr ⟨kv, hkv, of_decide_eq_true he⟩)
    refine wpAny_updateDictKeys (hz := hes) ho hd (hQ _ ⟨_, _, ep + 1, Heap.get?_update_self _ ho (Obj.isFreed_of_dict (Obj.data_mapDictKeys hd _)),
      hc.mapDictKeys _, Obj.data_mapDictKeys hd _, hk.push hkey _, ?_, ?_⟩ (Heap.SameBut.update ..))
    · rw [stored, if_neg hany]
      have := hp.append hkey (knd.hash k) v
      obtain ⟨l⟩ := es
      simpa using this
    · rw [stored, if_neg hany, List.map_append, List.nodup_append]
      refine ⟨hn, by simp, ?_⟩
      intro a ha b hb
      simp only [List.map_cons, List.map_nil, List.mem_singleton] at hb
      subst hb
      exact fun e => hnot (e ▸ ha)
theorem wpAny_mergeMapping {d o : Addr} {kvs more : List (K × Value)} {Q : Unit → Shared → Prop} (hdo : d ≠ o) (hoS : (o == sysModules) = false)
    (hd : s.heap.DictOf knd d kvs) (ho : s.heap.DictOf knd o more)
    (hQ : ∀ h', h'.DictOf knd d (merged kvs more) → h'.DictOf knd o more → Heap.SameBut d s.heap h' → Q () { s with heap := h' })
    (hsz : kvs.length + more.length ≤ sizeLine) :
    wpAny (model prog w) A (mergeMapping d (.ref o) false) Q E s := by
  obtain ⟨od, esd, epd, hod, hcd, hdd, hkd, hpd, hnd⟩ := id hd
  obtain ⟨oo, eso, epo, hoo, hco, hdo', hko, hpo, hno⟩ := id ho
  have hlen : more.length = eso.size := by rw [← hpo.length]; simp
  have loop1 : (forIn eso PUnit.unit fun e (_ : PUnit) => (match e.key with
      | Value.ref a => do
        let q ← specialOf e.key (Str.ofString "__eq__")
        if (q != some (Value.builtin "object.__eq__")) = true then
            if (Array.filter (fun x => x.hash == e.hash) eso).size > 1 then do
              unsupported "dict.merge-into-an-empty-dict:keys-of-equal-hash"
              pure (ForInStep.yield PUnit.unit)
            else pure (ForInStep.yield PUnit.unit)
          else pure (ForInStep.yield PUnit.unit)
      | x => pure (ForInStep.yield PUnit.unit) : Sem (ForInStep PUnit))) = pure PUnit.unit := by
    rw [← Array.forIn_toList]
    refine forIn_yield_id _ fun e he c => ?_
    obtain ⟨k, hkey, _⟩ := hko e (Array.mem_toList_iff.mp he)
    have hb := knd.byValue k _ hkey
    cases hq : e.key with
    | ref a => rw [hq] at hb; cases hb
    | _ => rfl
  have loop : wpAny (model prog w) A (do
      let l ← dictEntries o
      have size : Nat := l.size
      let epoch ← dictEpoch o
      forIn (List.range size) PUnit.unit fun i (_ : PUnit) => (do
          let l' ← dictEntries o
          match l'[i]? with
            | some e => do
              holding [e.key, e.val] (dictPut d e.hash e.key e.val)
              let ep' ← dictEpoch o
              if (ep' != epoch) = true then do
                  (unsupported "dict.changed-during-merge" : Sem PUnit)
                  pure (ForInStep.yield PUnit.unit)
                else pure (ForInStep.yield PUnit.unit)
            | _ => do
              (unsupported "dict.changed-during-merge" : Sem PUnit)
              pure (ForInStep.yield PUnit.unit) : Sem (ForInStep PUnit))
      pure ()) Q E s := by
    refine wpAny_bind (wpAny_dictEntries hoo hdo' ?_)
    refine wpAny_bind (wpAny_dictEpoch hoo hdo' ?_)
    refine wpAny_bind ?_
    refine wpAny_forIn_list _
      (fun rest _ s' => ∃ h' i, s' = { s with heap := h' } ∧ rest = List.range' i (eso.size - i) ∧ i ≤ eso.size ∧ h'.DictOf knd d (merged kvs (more.take i)) ∧ h'.get? o = some oo ∧ Heap.SameBut d s.heap h')
      _ ?_ ?_ _ _ ⟨s.heap, 0, rfl, by simp [List.range_eq_range'], Nat.zero_le _, by simpa [merged] using hd, hoo, Heap.SameBut.refl _ _⟩
    · rintro x rest b s' ⟨h', i, rfl, hr, hi, hd', hoo', hs'⟩
      have hlt : i < eso.size := by
        rcases Nat.lt_or_ge i eso.size with h | h
        · exact h
        · rw [Nat.sub_eq_zero_of_le h] at hr; simp at hr
      obtain ⟨rfl, hrest⟩ : x = i ∧ rest = List.range' (i + 1) (eso.size - (i + 1)) := by
        have e : eso.size - i = (eso.size - (i + 1)) + 1 := by omega
        rw [e, List.range'_succ] at hr
        injection hr with h1 h2
        exact ⟨h1, h2⟩
      refine wpAny_bind (wpAny_dictEntries hoo' hdo' ?_)
      rw [Array.getElem?_eq_getElem hlt]
      obtain ⟨kv, hkv⟩ : ∃ kv, more[x]? = some kv := ⟨more[x]'(by rw [hlen]; exact hlt), List.getElem?_eq_getElem _⟩
      obtain ⟨k, v⟩ := kv
      obtain ⟨hkey, hval⟩ := hpo.get? (e := eso[x]) (by simp [hlt]) hkv
      obtain ⟨k', hkey', hhash⟩ := hko eso[x] (Array.getElem_mem hlt)
      obtain rfl : k' = k := knd.inj _ _ _ hkey' hkey
      show wpAny _ _ (holding [eso[x].key, eso[x].val] (dictPut d eso[x].hash eso[x].key eso[x].val) >>= _) _ _ _
      rw [hhash, hval]
      have hmx : (merged kvs (more.take x)).length ≤ sizeLine := by
        have e1 := merged_length_le kvs (more.take x)
        have e2 : (more.take x).length ≤ more.length := by rw [List.length_take]; omega
        omega
      refine wpAny_bind (wpAny_holding (wpAny_dictPut_pairs (hsz := hmx) hkey hd' fun h'' hd'' hs'' => ?_))
      have hoo'' : h''.get? o = some oo := (hs''.2 o (Ne.symm hdo)).trans hoo'
      refine wpAny_bind (wpAny_dictEpoch hoo'' hdo' ?_)
      rw [if_neg (by simp)]
      exact wpAny_pure ⟨h'', x + 1, rfl, hrest, hlt, by rw [merged_take_succ kvs more x (k', v) hkv]; exact hd'', hoo'', hs'.trans hs''⟩
    · rintro b s' ⟨h', i, rfl, hr, hi, hd', hoo', hs'⟩
      have hin : i = eso.size := by
        rcases Nat.lt_or_ge i eso.size with h | h
        · have e : eso.size - i = (eso.size - (i + 1)) + 1 := by omega
          rw [e, List.range'_succ] at hr; exact nomatch hr
        · exact Nat.le_antisymm hi h
      refine wpAny_pure (hQ h' ?_ ⟨oo, eso, epo, hoo', hco, hdo', hko, hpo, hno⟩ hs')
      rw [hin, ← hlen, List.take_length] at hd'; exact hd'
  unfold mergeMapping
  refine wpAny_bind (wpAny_isInstance ho.typeIs isSubtype_dict_dict ?_)
  simp only [if_true]
  refine wpAny_bind (wpAny_specialOf ho.typeIs F.slot_dict_iter.lookup (wpAny_bind (wpAny_pure ?_)))
  simp only [beq_self_eq_true]
  rw [if_neg (by rw [hoS]; exact Bool.false_ne_true)]
  refine wpAny_bind (wpAny_dictEntries hod hdd ?_)
  split
  · refine wpAny_bind (wpAny_dictEntries hoo hdo' ?_)
    exact wpAny_bind (wpAny_of_eq loop1 loop)
  · exact loop

/-- {**d, k: v}, by the library's own words -/
theorem wpAny_display_ns {tv tk tx : Sem Value} {Q : Value → Shared → Prop}
    (h : wpAny (model prog w) A tv (fun m s1 => ∃ o kvs, m = .ref o ∧ s.heap.objs.size ≠ o ∧ (o == sysModules) = false ∧ s1.heap.DictOf knd s.heap.objs.size [] ∧ s1.heap.DictOf knd o kvs ∧ kvs.length ≤ sizeLine ∧
      ∀ h1, h1.DictOf knd s.heap.objs.size (merged [] kvs) → Heap.SameBut s.heap.objs.size s1.heap h1 →
        wpAny (model prog w) A (evalPairs [(tk, tx)]) (fun vs s2 => ∃ rs ks2, Carries knd vs rs ∧ h1.objs.size ≠ s.heap.objs.size ∧ (h1.objs.size == sysModules) = false ∧ s2.heap.DictOf knd h1.objs.size [] ∧ s2.heap.DictOf knd s.heap.objs.size ks2 ∧
          ks2.length + (merged [] rs).length ≤ sizeLine ∧
          ∀ h2 h3 tk2, h2.DictOf knd h1.objs.size (merged [] rs) → Heap.SameBut h1.objs.size s2.heap h2 → h3.DictOf knd s.heap.objs.size (merged ks2 (merged [] rs)) → h3.DictOf knd h1.objs.size (merged [] rs) → Heap.SameBut s.heap.objs.size h2 h3 →
            Q (.ref s.heap.objs.size) { s2 with heap := h3, toks := tk2 }) E { s1 with heap := h1.push { cls := .type "dict", data := .dict #[] } }) E { s with heap := s.heap.push { cls := .type "dict", data := .dict #[] } }) :
    wpAny (model prog w) A (dictDisplay [(none, tv), (some tk, tx)]) Q E s := by
  unfold dictDisplay
  simp only [List.forIn_cons, List.forIn_nil]
  refine wpAny_bind (wpAny_bind (wpAny_bind ?_))
  simp only [List.isEmpty_nil, if_true]
  refine wpAny_pure ?_
  refine wpAny_bind (wpAny_alloc ?_)
  refine wpAny_bind (wpAny_holding (wpAny_mono h (fun m s1 hm => ?_) fun _ _ e => e))
  obtain ⟨o, kvs, rfl, ho, hS, hd0, hdo, hl, hk⟩ := hm
  refine wpAny_bind (wpAny_onRaise (wpAny_tryCatch (wpAny_onRaise (wpAny_holding (wpAny_mergeMapping ho hS hd0 hdo (fun h1 hd1 ho1 hs1 => ?_) (by simpa using hl))))))
  refine wpAny_pure ?_
  refine wpAny_bind ?_
  have e17 : (([] ++ [(tk, tx)] : List (Sem Value × Sem Value)).length == 17) = false := rfl
  simp only [e17, Bool.false_eq_true, if_false]
  refine wpAny_pure ?_
  refine wpAny_pure ?_
  have e0 : (([] ++ [(tk, tx)] : List (Sem Value × Sem Value)).isEmpty) = false := rfl
  simp only [e0, Bool.false_eq_true, if_false, List.nil_append]
  refine wpAny_bind (wpAny_bind (wpAny_holding ?_))
  have h2 := hk h1 hd1 hs1
  refine wpAny_subDict (knd := knd) (by simp) (wpAny_mono h2 (fun vs s2 q => ?_) fun _ _ e => e)
  obtain ⟨rs, ks2, hc, hne, hsn, hd2, hdd, hz, hq⟩ := q
  refine ⟨rs, hc, hd2, fun h2 hm2 hs2 => ?_⟩
  refine wpAny_bind (wpAny_onRaise (wpAny_holding (wpAny_mergeMapping (Ne.symm hne) hsn (hdd.sameBut hs2 (Ne.symm hne)) hm2 (fun h3 hd3 ho3 hs3 => ?_) hz)))
  refine wpAny_pure (wpAny_pure ?_)
  exact hq h2 h3 _ hm2 hs2 hd3 ho3 hs3

/-- {**d, **e} -/
theorem wpAny_display_nn {tv tx : Sem Value} {Q : Value → Shared → Prop}
    (h : wpAny (model prog w) A tv (fun m s1 => ∃ o kvs, m = .ref o ∧ s.heap.objs.size ≠ o ∧ (o == sysModules) = false ∧ s1.heap.DictOf knd s.heap.objs.size [] ∧ s1.heap.DictOf knd o kvs ∧ kvs.length ≤ sizeLine ∧
      ∀ h1, h1.DictOf knd s.heap.objs.size (merged [] kvs) → Heap.SameBut s.heap.objs.size s1.heap h1 →
        wpAny (model prog w) A tx (fun m2 s2 => ∃ o2 rs ks2, m2 = .ref o2 ∧ s.heap.objs.size ≠ o2 ∧ (o2 == sysModules) = false ∧ s2.heap.DictOf knd s.heap.objs.size ks2 ∧ s2.heap.DictOf knd o2 rs ∧
          ks2.length + rs.length ≤ sizeLine ∧
          ∀ h3, h3.DictOf knd s.heap.objs.size (merged ks2 rs) → Heap.SameBut s.heap.objs.size s2.heap h3 →
            Q (.ref s.heap.objs.size) { s2 with heap := h3 }) E { s1 with heap := h1 }) E { s with heap := s.heap.push { cls := .type "dict", data := .dict #[] } }) :
    wpAny (model prog w) A (dictDisplay [(none, tv), (none, tx)]) Q E s := by
  unfold dictDisplay
  simp only [List.forIn_cons, List.forIn_nil]
  refine wpAny_bind (wpAny_bind (wpAny_bind ?_))
  simp only [List.isEmpty_nil, if_true]
  refine wpAny_pure ?_
  refine wpAny_bind (wpAny_alloc ?_)
  refine wpAny_bind (wpAny_holding (wpAny_mono h (fun m s1 hm => ?_) fun _ _ e => e))
  obtain ⟨o, kvs, rfl, ho, hS, hd0, hdo, hl, hk⟩ := hm
  refine wpAny_bind (wpAny_onRaise (wpAny_tryCatch (wpAny_onRaise (wpAny_holding (wpAny_mergeMapping ho hS hd0 hdo (fun h1 hd1 ho1 hs1 => ?_) (by simpa using hl))))))
  refine wpAny_pure ?_
  refine wpAny_bind (wpAny_bind (wpAny_pure ?_))
  refine wpAny_bind (wpAny_pure ?_)
  refine wpAny_bind (wpAny_holding (wpAny_mono (hk h1 hd1 hs1) (fun m2 s2 hm2 => ?_) fun _ _ e => e))
  obtain ⟨o2, rs, ks2, rfl, ho2, hS2, hd2, hdo2, hl2, hk2⟩ := hm2
  refine wpAny_bind (wpAny_onRaise (wpAny_tryCatch (wpAny_onRaise (wpAny_holding (wpAny_mergeMapping ho2 hS2 hd2 hdo2 (fun h3 hd3 ho3 hs3 => ?_) hl2)))))
  refine wpAny_pure (wpAny_pure ?_)
  refine wpAny_bind (wpAny_pure (wpAny_pure ?_))
  exact hk2 h3 hd3 hs3
end
end Py
end
section
set_option linter.all false
set_option maxRecDepth 100000
set_option maxHeartbeats 1000000
/-! PyDy: the rules of such displays. -/
namespace Py
open PySem PySem.Spec PyProof.Rows L2
theorem KV.keys {kvs : List (Key × V)} {vs : List (Key × Value)} (rel : KV kvs vs) : kvs.map (·.1) = vs.map (·.1) := by
  unfold KV at rel
  induction rel with
  | nil => rfl
  | cons h t ih => rw [List.map_cons, List.map_cons, ih, h.1]
theorem KV.nodup {P : Program} {w : World} {h : Heap} {a : Addr} {kvs : List (Key × V)} {vs : List (Key × Value)} (rel : KV kvs vs) (dd : h.DictOf (mixKind P w) a vs) : (kvs.map (·.1)).Nodup ∧ (vs.map (·.1)).Nodup := by
  obtain ⟨_, _, _, _, _, _, _, _, hn⟩ := dd
  exact ⟨KV.keys rel ▸ hn, hn⟩
/-- {**d, k: v}: the new dict stands ahead of all, that of the pair behind the first merge -/
def tDup (td tk tv : TE) : TE := fun σ H Q => ∀ p, H p = none → td σ (upd H p (.dK [])) fun x H1 => ∃ a kvs, x = .ref a ∧ a ≠ p ∧ H1 a = some (.dK kvs) ∧ H1 p = some (.dK []) ∧
  ∀ q, upd H1 p (.dK kvs) q = none → tk σ (upd (upd H1 p (.dK kvs)) q (.dK [])) fun y H2 => tv σ H2 fun z H3 => ∃ k, y = kV k ∧ p ≠ q ∧ H3 q = some (.dK []) ∧ H3 p = some (.dK kvs) ∧ kvs.length < sizeLine ∧
    Q (.ref p) (upd (upd H3 q (.dK [(k, z)])) p (.dK (putK kvs k z)))
/-- {**d, **e} -/
def tMrg (td te : TE) : TE := fun σ H Q => ∀ p, H p = none → td σ (upd H p (.dK [])) fun x H1 => ∃ a kvs, x = .ref a ∧ a ≠ p ∧ H1 a = some (.dK kvs) ∧ H1 p = some (.dK []) ∧
  te σ (upd H1 p (.dK kvs)) fun y H2 => ∃ b more, y = .ref b ∧ b ≠ p ∧ H2 b = some (.dK more) ∧ H2 p = some (.dK kvs) ∧ kvs.length + more.length ≤ sizeLine ∧ Q (.ref p) (upd H2 p (.dK (mergeK kvs more)))
section
variable {X : Cx} {d k v : Expr} {td tk tv : TE} {pos : Pos}
theorem pe_dup (hd : PE X d td) (hk : PE X k tk) (hv : PE X v tv) : PE X (.Dict [none, some k] [d, v] pos) (tDup td tk tv) := by
  refine ⟨fun pins s σ H Q I q => ?_⟩
  have hn := I.hok.fresh (Nat.le_refl s.heap.objs.size)
  have I1 := I.laid (a := s.heap.objs.size) (o := .dK []) (h' := s.heap.push { cls := .type "dict", data := .dict #[] }) (t' := s.toks) (fun _ _ q => Heap.get?_push_of_some _ q) (Nat.le_refl _) (dk_empty s.heap I.big)
  rw [arm_eval_Dict]
  refine wpAny_bind (wpAny_standAt ?_)
  show wpAny _ _ (dictDisplay [(none, do let x ← eval d X.env; standAt pos; pure x), (some (eval k X.env), do let x ← eval v X.env; standAt pos; pure x)]) _ _ s
  refine wpAny_display_ns (knd := mixKind X.prog X.w) (wpAny_bind (thn (hd.run pins _ σ _ _ I1 (q _ hn)) fun u s1 ⟨x, H1, I2, rx, a, kvs, ex, hap, ha, hp, q1⟩ => wpAny_bind (wpAny_standAt (wpAny_pure ?_))))
  subst ex
  obtain rfl : u = Value.ref a := rx
  obtain ⟨z, hsa, vs, rel, dd⟩ := dk_of I2.hok ha
  obtain ⟨z0, hs0, vs0, rel0, dd0⟩ := dk_of I2.hok hp
  cases rel0
  have nd := KV.nodup rel dd
  have hz : vs.length ≤ sizeLine := by rw [← rel.length]; exact z
  refine ⟨a, vs, rfl, Ne.symm hap, hsa, dd0, dd, hz, fun h1 dd1 hs1 => ?_⟩
  rw [merged_nil_of_nodup vs nd.2] at dd1
  have he1 : ∃ q, h1.get? s.heap.objs.size = some q := let ⟨q, _, _, hq, _⟩ := dd1; ⟨q, hq⟩
  have I3 := d_write (t' := s1.toks) I2 (by rw [hp]; exact True.intro) hs1 he1 (dk_new z hs0 rel dd1)
  have hn3 := I3.hok.fresh (Nat.le_refl h1.objs.size)
  have I4 := I3.laid (a := h1.objs.size) (o := .dK []) (h' := h1.push { cls := .type "dict", data := .dict #[] }) (t' := s1.toks) (fun _ _ q => Heap.get?_push_of_some _ q) (Nat.le_refl _) (dk_empty h1 I3.big)
  refine evalPairs_cons (thn (hk.run pins _ σ _ _ I4 (q1 _ hn3)) fun u2 s2 ⟨y, H2, I5, ry, q2⟩ => wpAny_bind (thn (hv.run pins s2 σ H2 _ I5 q2) fun u3 s3 ⟨zv, H3, I6, rz, kk, ey, hpq, hq3, hp3, hl, q3⟩ => wpAny_bind (wpAny_standAt (wpAny_pure (evalPairs_nil ?_)))))
  subst ey
  obtain ⟨_, hsq, vsq, relq, ddq⟩ := dk_of I6.hok hq3
  cases relq
  obtain ⟨_, hsp, vsp, relp, ddp⟩ := dk_of I6.hok hp3
  have hzp : vsp.length = kvs.length := (Paired.length relp).symm
  have ndp := KV.nodup relp ddp
  have hsz : h1.objs.size ≠ s.heap.objs.size := fun e => hpq e.symm
  have e1 : merged [] [(kk, u3)] = [(kk, u3)] := rfl
  refine ⟨[(kk, u3)], vsp, ⟨kV_is ry, rfl, True.intro⟩, hsz, hsq, ddq, ddp, (by rw [e1, hzp, List.length_singleton]; exact hl), fun h2 h3 tk2 dd2 hs2 dd3 dd2' hs3 => ?_⟩
  rw [e1] at dd2 dd3 dd2'
  have relk : KV [(kk, zv)] [(kk, u3)] := .cons ⟨rfl, rz⟩ .nil
  have he2 : ∃ q, h2.get? h1.objs.size = some q := let ⟨q, _, _, hq, _⟩ := dd2; ⟨q, hq⟩
  have he3 : ∃ q, h3.get? s.heap.objs.size = some q := let ⟨q, _, _, hq, _⟩ := dd3; ⟨q, hq⟩
  have I7 := d_write (t' := tk2) I6 (by rw [hq3]; exact True.intro) hs2 he2 (dk_new (by rw [sizeLine_eq, List.length_singleton]; decide) hsq relk dd2)
  have hp7 : upd H3 h1.objs.size (.dK [(kk, zv)]) s.heap.objs.size = some (.dK kvs) := by rw [upd_ne hpq]; exact hp3
  have hl7 : (putK kvs kk zv).length ≤ sizeLine := by have := length_putK kvs kk zv; omega
  have I8 := d_write (t' := tk2) I7 (by rw [hp7]; exact True.intro) hs3 he3 (dk_new hl7 hsp (KV.put relp kk rz) dd3)
  exact ⟨.ref s.heap.objs.size, _, I8, rfl, q3⟩
theorem pe_mrg {e : Expr} {te : TE} (hd : PE X d td) (he : PE X e te) : PE X (.Dict [none, none] [d, e] pos) (tMrg td te) := by
  refine ⟨fun pins s σ H Q I q => ?_⟩
  have hn := I.hok.fresh (Nat.le_refl s.heap.objs.size)
  have I1 := I.laid (a := s.heap.objs.size) (o := .dK []) (h' := s.heap.push { cls := .type "dict", data := .dict #[] }) (t' := s.toks) (fun _ _ q => Heap.get?_push_of_some _ q) (Nat.le_refl _) (dk_empty s.heap I.big)
  rw [arm_eval_Dict]
  refine wpAny_bind (wpAny_standAt ?_)
  show wpAny _ _ (dictDisplay [(none, do let x ← eval d X.env; standAt pos; pure x), (none, do let x ← eval e X.env; standAt pos; pure x)]) _ _ s
  refine wpAny_display_nn (knd := mixKind X.prog X.w) (wpAny_bind (thn (hd.run pins _ σ _ _ I1 (q _ hn)) fun u s1 ⟨x, H1, I2, rx, a, kvs, ex, hap, ha, hp, q1⟩ => wpAny_bind (wpAny_standAt (wpAny_pure ?_))))
  subst ex
  obtain rfl : u = Value.ref a := rx
  obtain ⟨z, hsa, vs, rel, dd⟩ := dk_of I2.hok ha
  obtain ⟨z0, hs0, vs0, rel0, dd0⟩ := dk_of I2.hok hp
  cases rel0
  have nd := KV.nodup rel dd
  have hz : vs.length ≤ sizeLine := by rw [← rel.length]; exact z
  refine ⟨a, vs, rfl, Ne.symm hap, hsa, dd0, dd, hz, fun h1 dd1 hs1 => ?_⟩
  rw [merged_nil_of_nodup vs nd.2] at dd1
  have he1 : ∃ q, h1.get? s.heap.objs.size = some q := let ⟨q, _, _, hq, _⟩ := dd1; ⟨q, hq⟩
  have I3 := d_write (t' := s1.toks) I2 (by rw [hp]; exact True.intro) hs1 he1 (dk_new z hs0 rel dd1)
  refine wpAny_bind (thn (he.run pins _ σ _ _ I3 q1) fun u2 s2 ⟨y, H2, I5, ry, b, more, ey, hbp, hb, hp2, hl, q2⟩ => wpAny_bind (wpAny_standAt (wpAny_pure ?_)))
  subst ey
  obtain rfl : u2 = Value.ref b := ry
  obtain ⟨zb, hsb, vsb, relb, ddb⟩ := dk_of I5.hok hb
  obtain ⟨_, hsp, vsp, relp, ddp⟩ := dk_of I5.hok hp2
  have l1 : vsp.length = kvs.length := (Paired.length relp).symm
  have l2 : vsb.length = more.length := (Paired.length relb).symm
  refine ⟨b, vsb, vsp, rfl, Ne.symm hbp, hsb, ddp, ddb, by rw [l1, l2]; exact hl, fun h3 dd3 hs3 => ?_⟩
  have he3 : ∃ q, h3.get? s.heap.objs.size = some q := let ⟨q, _, _, hq, _⟩ := dd3; ⟨q, hq⟩
  have hz3 : (mergeK kvs more).length ≤ sizeLine := Nat.le_trans (length_mergeK more kvs) hl
  exact ⟨.ref s.heap.objs.size, _, d_write (t' := s2.toks) I5 (by rw [hp2]; exact True.intro) hs3 he3 (dk_new hz3 hsp (KV.merge relb relp) dd3), rfl, q2⟩
end
end Py
end
section
set_option linter.all false
set_option maxRecDepth 100000
set_option maxHeartbeats 4000000
/-! PyTup: tuples whose very object is known (it has no dict of its own): the library's rules that make tuples, once more. -/
namespace Py
open PySem PySem.Spec PyProof.Rows L2
/-- an abstract object that is such a tuple -/
def IsTO (o : HO) (xs : List V) : Prop := ∃ ob : Obj, o = .frz ob (.tup xs) ∧ ob.cls = .type "tuple" ∧ ob.dict = none
def TupO (G : Hp) (a : Addr) (xs : List V) : Prop := ∃ o, G a = some o ∧ IsTO o xs
theorem TupO.sqt {K : PySem.W.Frag} {H : Hp} {a : Addr} {xs : List V} (h : TupO H a xs) : SqT K H a xs := by
  obtain ⟨_, h, ob, rfl, _⟩ := h
  exact .inl (.inr ⟨ob, h⟩)
theorem TupO.sub {G H : Hp} {a : Addr} {xs : List V} (s : ∀ a o, G a = some o → H a = some o) (h : TupO G a xs) : TupO H a xs := by
  obtain ⟨o, h, q⟩ := h
  exact ⟨o, s _ _ h, q⟩
theorem TupO.inj {G : Hp} {a : Addr} {xs ys : List V} (h : TupO G a xs) (h' : TupO G a ys) : xs = ys := by
  obtain ⟨_, h, ob, rfl, _⟩ := h
  obtain ⟨_, h', ob', rfl, _⟩ := h'
  rw [h] at h'
  cases h'
  rfl
theorem TupO.new {G : Hp} {p : Addr} {o : HO} {xs : List V} (h : IsTO o xs) : TupO (upd G p o) p xs := ⟨o, upd_same, h⟩
/-- the object that is made -/
abbrev tobj (vs : Array Value) : Obj := { cls := .type "tuple", data := .seq vs }
theorem isTO (vs : Array Value) (xs : List V) : IsTO (.frz (tobj vs) (.tup xs)) xs := ⟨_, rfl, rfl, rfl⟩
theorem okTO {P : Program} {w : World} {H : Hp} {h : Heap} {a : Addr} {vs : List Value} {xs : List V} (e : h.get? a = some (tobj vs.toArray)) (z : xs.length ≤ sizeLine) (r : Vals xs vs) : ObjOk P w H h a (.frz (tobj vs.toArray) (.tup xs)) :=
  ⟨e, z, vs, r, ⟨_, e, rfl, _, rfl⟩⟩
section
variable {X : Cx}
/-! ### displays -/
def tTupF (t : TA) : TE := fun σ H Q => t σ H fun xs H1 => xs.length ≤ sizeLine ∧ ∀ p o, H1 p = none → IsTO o xs → Q (.ref p) (upd H1 p o)
theorem pe_tupF {es : List Expr} {t : TA} {pos : Pos} {x1} (h : PA X es t) : PE X (.Tuple es x1 pos) (tTupF t) := by
  refine ⟨fun pins s σ H Q I hq => ?_⟩
  refine wpAny_Tuple_spliced (thn (h.run pos pins s σ H _ I hq) fun us s1 ⟨xs, H1, I1, r, z, q⟩ => ⟨by rw [← r.length]; exact z, ?_⟩)
  have hf : H1 s1.heap.objs.size = none := I1.hok.fresh (Nat.le_refl _)
  exact ⟨.ref s1.heap.objs.size, upd H1 s1.heap.objs.size (.frz (tobj us.toArray) (.tup xs)), I1.laid (t' := s1.toks) (fun b u e => Heap.get?_push_of_some _ e) (Nat.le_refl _) (okTO (Heap.get?_push_size _ rfl) z r), rfl, q _ _ hf (isTO _ _)⟩
/-! ### t + u -/
def rCatF (K : PySem.W.Frag) : R2 := fun x y H Q => ∃ a b xs ys, x = .ref a ∧ y = .ref b ∧ SqT K H a xs ∧ SqT K H b ys ∧ xs.length + ys.length ≤ sizeLine ∧
  (xs = [] → Q (.ref b) H) ∧ (xs ≠ [] → ys = [] → Q (.ref a) H) ∧ (xs ≠ [] → ys ≠ [] → ∀ p o, H p = none → IsTO o (xs ++ ys) → Q (.ref p) (upd H p o))
theorem op_catF : OpR X (binaryOp .Add) (rCatF X.K) := by
  intro pins s σ H x y v u Q I rx ry h
  obtain ⟨a, b, xs, ys, rfl, rfl, ha, hb, hz, q0, q1, q2⟩ := h
  cases rx
  cases ry
  obtain ⟨its, r1, p1, _⟩ := I.tuple ha
  obtain ⟨its2, r2, p2, _⟩ := I.tuple hb
  by_cases hx : xs = []
  · subst hx
    cases r1
    exact cat_tup0 p1 p2 ⟨.ref b, H, I, rfl, q0 rfl⟩
  · refine HT.cat_tup p1 p2 (fun z => hx (r1.nil_iff.mp z)) (fun z => ⟨.ref a, H, I, rfl, q1 hx (r2.nil_iff.mp z)⟩) (fun z => ?_) (by rw [← r1.length, ← r2.length]; exact hz)
    exact ⟨.ref s.heap.objs.size, _, I.laid (t' := s.toks) (o := .frz (tobj (its ++ its2).toArray) (.tup (xs ++ ys))) (fun b ob q => Heap.get?_push_of_some _ q) (Nat.le_refl _) (okTO (Heap.get?_push_size _ rfl) (by rw [List.length_append]; exact hz) (r1.append r2)), rfl,
      q2 hx (fun w => z (r2.nil_iff.mpr w)) _ _ (I.hok.fresh (Nat.le_refl _)) (isTO _ _)⟩
/-! ### t[lo:hi] -/
def rSlF (K : PySem.W.Frag) : V → Option Int → Option Int → Hp → VK → Prop := fun x lo hi H Q => ∃ a xs, x = .ref a ∧ SqT K H a xs ∧
  (HT.sIx xs.length 0 lo = 0 ∧ HT.sIx xs.length xs.length hi = xs.length → Q (.ref a) H) ∧ (¬ (HT.sIx xs.length 0 lo = 0 ∧ HT.sIx xs.length xs.length hi = xs.length) → ∀ p o, H p = none → IsTO o (cutV xs lo hi) → Q (.ref p) (upd H p o))
theorem sl_tupF : SlR X (rSlF X.K) := by
  intro pins s σ H x v vl vu lo hi sl Q I rx hs pl pu h
  obtain ⟨a, xs, rfl, hx, q1, q2⟩ := h
  cases rx
  obtain ⟨its, r, ht, hz⟩ := I.tuple hx
  have hlen : its.toArray.size = xs.length := by rw [List.size_toArray]; exact r.length.symm
  refine ⟨"tuple", _, PyProof.Rows.slot_tuple_getitem.lookup, ht.typeIs, ?_⟩
  by_cases hw : HT.sIx xs.length 0 lo = 0 ∧ HT.sIx xs.length xs.length hi = xs.length
  · exact getItem_tuple_whole ht hs pl pu (by rw [hlen]; exact hw) ⟨.ref a, H, I, rfl, q1 hw⟩
  · refine HT.getItem_tuple_cut ht hs pl pu (by rw [hlen]; exact hw) ?_ (by rw [hlen]; exact hz)
    rw [hlen]
    exact ⟨.ref s.heap.objs.size, _, I.laid (t' := s.toks) (o := .frz (tobj _) (.tup (cutV xs lo hi))) (fun b ob q => Heap.get?_push_of_some _ q) (Nat.le_refl _) (okTO (Heap.get?_push_size _ rfl) (Nat.le_trans (cutV_length xs lo hi) hz) ((r.drop (HT.sIx xs.length 0 lo)).take (HT.sIx xs.length xs.length hi - HT.sIx xs.length 0 lo))), rfl,
      q2 hw _ _ (I.hok.fresh (Nat.le_refl _)) (isTO _ _)⟩
/-! ### tuple(xs), tuple(range(..)) -/
theorem call_tupleF : CallR X (.type "tuple") (fun xs H Q => ∃ p ys, xs = [.ref p] ∧ ((SqL X.K H p ys ∧ ∀ l o, H l = none → IsTO o ys → Q (.ref l) (upd H l o)) ∨ (SqT X.K H p ys ∧ Q (.ref p) H))) := by
  intro pins s σ H xs us Q I r h
  obtain ⟨p, ys, rfl, h⟩ := h
  obtain ⟨u, rfl, rx⟩ := vals1 r
  cases rx
  rcases h with ⟨hq, q⟩ | ⟨hq, q⟩
  · obtain ⟨its, r', pl, hz⟩ := I.list hq
    have hlen := r'.length
    refine call_tuple_list pl.isList (fun h' kp => ?_) (by simp only [List.size_toArray] <;> omega)
    have I1 : Inv X pins σ H { s with heap := h' } := I.kept (t' := s.toks) kp
    exact ⟨.ref h'.objs.size, _, I1.laid (t' := s.toks) (o := .frz (tobj its.toArray) (.tup ys)) (fun b o e => Heap.get?_push_of_some _ e) (Nat.le_refl _) (okTO (Heap.get?_push_size _ rfl) hz r'), rfl, q _ _ (I1.hok.fresh (Nat.le_refl _)) (isTO _ _)⟩
  · obtain ⟨its, r', pl, hz⟩ := I.tuple hq
    exact call_tuple_same pl ⟨.ref p, H, I, rfl, q⟩
def tTupRgF (te : L2.St → Hp → (Int → Int → Hp → Prop) → Prop) : TE := fun σ H Q => te σ H fun a b H1 => RgOk a b ∧ ∀ q o, H1 q = none → IsTO o (rgV a b) → Q (.ref q) (upd H1 q o)
theorem pe_tupRgF {e : Expr} {te : L2.St → Hp → (Int → Int → Hp → Prop) → Prop} {p pos : Pos} (hc : X.calm = true) (hg : Gl X "tuple") (hm : X.mg "tuple" = none) (he : PRg X e te) (na : starEach [e] X.env = (false, eval e X.env) :: starEach [] X.env := by rfl) : PE X (.Call (.Name "tuple" p) [e] [] pos) (tTupRgF te) := by
  refine ⟨fun pins s σ H Q I h => ?_⟩
  refine Call_ (ld_blt I hg hm boot_tuple (PyProof.Rows.callWith_type1 (args_cons (thn (he pins s σ H _ I h) fun x s1 ⟨r, a, b, t, u, v, H1, ex, hr, I1, ok, q⟩ => args_nil ?_) na) na))
  subst ex
  obtain ⟨b1, b2, b3, b4, b5⟩ := ok
  refine call_tuple_range (n := (b - a).toNat) (I1.ok.hd hc) hr (small_one b1 b2 b3 b4) (rangeSize_nat a b) b5 fun h' tk acc hk hi => ?_
  have I2 : Inv X pins σ H1 { s1 with heap := h', toks := tk } := I1.kept hk
  refine ⟨.ref h'.objs.size, upd H1 h'.objs.size (.frz (tobj acc.toList.toArray) (.tup (rgV a b))), I2.laid (t' := tk) (fun c o e => Heap.get?_push_of_some _ e) (Nat.le_refl _) (okTO ?_ ?_ (vals_rg hi)), rfl, q _ _ (I2.hok.fresh (Nat.le_refl _)) (isTO _ _)⟩
  · rw [Array.toArray_toList]; exact Heap.get?_push_size _ rfl
  · rw [rgV_length, sizeLine_eq]; omega
/-! ### t * n -/
def rRepF (K : PySem.W.Frag) : R2 := fun x y H Q => ∃ l k xs, x = .ref l ∧ y = .int k ∧ SqT K H l xs ∧ xs ≠ [] ∧ 2 ≤ k ∧ k ≤ 1000 ∧ xs.length ≤ 1000 ∧ ∀ p o, H p = none → IsTO o (List.replicate k.toNat xs).flatten → Q (.ref p) (upd H p o)
theorem op_repF : OpR X (binaryOp .Mult) (rRepF X.K) := by
  intro pins s σ H x y v u Q I rx ry h
  obtain ⟨l, k, xs, rfl, rfl, hT, hne, h1, h2, hz, q⟩ := h
  cases rx
  obtain ⟨t, rfl⟩ := ry
  obtain ⟨its, r, ⟨⟨cls, dd, data, sl⟩, ho, hc, n, hd⟩, hs⟩ := I.tuple hT
  simp only at hc hd
  subst hc hd
  have hle : its.length = xs.length := r.length.symm
  have hn : its ≠ [] := fun e => hne (by
    rw [e] at hle
    exact List.eq_nil_of_length_eq_zero hle.symm)
  have hi : its.toArray.isEmpty = false := by
    cases its with
    | nil => exact absurd rfl hn
    | cons a b => rfl
  have hsz0 : its.toArray.size = xs.length := by rw [List.size_toArray, hle]
  have hm : ((its.toArray.size : Nat) : Int) * k ≤ 1000000 := by
    rw [hsz0]
    have a1 : ((xs.length : Nat) : Int) * k ≤ 1000 * k := Int.mul_le_mul_of_nonneg_right (by omega) (by omega)
    omega
  have flen : (List.replicate k.toNat its).flatten.length ≤ sizeLine := by
    rw [PyProof.Rows.lm_len_rep_flat, hle, sizeLine_eq]
    have a1 : k.toNat * xs.length ≤ 1000 * 1000 := Nat.mul_le_mul (by omega) hz
    omega
  have c0 : (decide (k < -(2 ^ 63)) || decide (k ≥ 2 ^ 63)) = false := by
    rw [decide_eq_false (by omega), decide_eq_false (by omega)] <;> rfl
  have c1 : (its.toArray.isEmpty || k == 1) = false := by
    rw [hi, Bool.false_or]
    exact beq_eq_false_iff_ne.mpr (by omega)
  have c2 : (decide (k ≤ 0) || its.toArray.isEmpty) = false := by
    rw [hi, Bool.or_false]
    exact decide_eq_false (by omega)
  have c4 : Builtin.Tuple.tupleTooMany (((its.toArray.size : Nat) : Int) * k) = false := by
    unfold Builtin.Tuple.tupleTooMany
    rw [sizeLine_eq]
    exact decide_eq_false (by omega)
  refine wpAny_binaryOp_repeat_ref (T := "tuple") (U := "int") (by decide) ⟨_, ho, rfl⟩ (fun s' => typeIs_int s' k t) noFill_tuple_mul F.fills_int_mul F.slot_int_rmul repeat_tuple F.slot_int_index.lookup
    (call_meets F.slot_int_rmul (typeIs_int s k t) F.entry_int_rmul (F.args_int_rmul_2 _ _) (int_rmul_tuple k t l its.toArray n dd sl)
      ⟨ho, rfl, ⟨_, ho, rfl⟩, call_meets F.slot_tuple_mul ⟨_, ho, rfl⟩ F.entry_tuple_mul (F.args_tuple_mul_2 _ _) (tuple_mulW l its.toArray n dd sl k t c0 c1 c2 (by omega) c4 (by rw [size_rep, List.size_toArray]; exact flen)) ⟨ho, ?_⟩⟩)
  rw [size_rep]
  refine ⟨.ref s.heap.objs.size, _, I.laid (t' := s.toks) (o := .frz (tobj _) (.tup (List.replicate k.toNat xs).flatten)) (fun b ob q => Heap.get?_push_of_some _ q) (Nat.le_refl _) (okTO (Heap.get?_push_size _ rfl) ?_ (r.rep k.toNat)), rfl, q _ _ (I.hok.fresh (Nat.le_refl _)) (isTO _ _)⟩
  rw [PyProof.Rows.lm_len_rep_flat, sizeLine_eq]; have a1 : k.toNat * xs.length ≤ 1000 * 1000 := Nat.mul_le_mul (by omega) hz; omega
end
/-! ### walks whose items are new pairs -/
def IteF (K : PySem.W.Frag) (a : Addr) : It :=
  ⟨fun i H => ∃ (xs : List V) (x : V), SqL K H a xs ∧ xs[i]? = some x, fun i H v H' => ∃ T o x, v = .ref T ∧ H T = none ∧ IsTO o [.int (i : Nat), x] ∧ H' = upd H T o ∧ ∀ xs, SqL K H a xs → xs[i]? = some x, fun i H => ∃ xs : List V, SqL K H a xs ∧ xs.length ≤ i⟩
theorem turn_enumF {P : Program} {w : World} {K : PySem.W.Frag} {elts : List Expr} {kk : Nat} {tpos : Pos} (a e it : Addr) :
    Turn P w K (.Tuple elts kk tpos) (IteF K a) [e, it] e (fun i h => (∃ old, IsEnum h e it ((i : Nat) : Int) old) ∧ h.IsListIter it a i ∧ e ≠ it) where
  mem := by simp
  obj := fun i h st b hb => by
    obtain ⟨⟨old, he⟩, ⟨o, ho, hc, hd⟩, _⟩ := st
    have e' : b = e ∨ b = it := by simpa using hb
    rcases e' with z | z
    · rw [z]; exact ⟨_, he, fun v q => nomatch q⟩
    · rw [z]; exact ⟨o, ho, fun v q => by rw [hd] at q; cases q⟩
  keep := fun i h h' st k => let ⟨⟨old, he⟩, hi, hne⟩ := st; ⟨⟨old, k e (by simp) _ he⟩, hi.at fun o q => k it (by simp) o q, hne⟩
  item := by
    intro X hP hw hK hc i pins s σ H E I hf st hg
    subst hP hw hK
    obtain ⟨⟨old, he⟩, hit, hne⟩ := st
    obtain ⟨xs, x, hq, hx⟩ := hg
    obtain ⟨its, rv, p, hz⟩ := I.list hq
    obtain ⟨u, hu, ru⟩ := rv.get hx
    have hel : e < s.heap.objs.size := Heap.lt_size he
    have hil : it < s.heap.objs.size := by obtain ⟨_, q, _⟩ := hit; exact Heap.lt_size q
    refine wpAny_pyNext_enum_item he hit p.isList (x := u) (by simpa using hu) hne fun h' ho hit' hT hsz hk => ?_
    refine ⟨_, rfl, wpAny_letOwnedTupleGo_enum (s := { s with heap := h', toks := s.toks + 1 }) ho fun h'' he' sb => ?_⟩
    have hT2 : h''.get? s.heap.objs.size = some { cls := .type "tuple", data := .seq #[.int i s.toks, u] } := (sb.2 _ (Nat.ne_of_gt hel)).trans hT
    have new : ObjOk X.prog X.w (upd H s.heap.objs.size (.frz (tobj #[.int i s.toks, u]) (.tup [.int (i : Nat), x]))) h'' s.heap.objs.size (.frz (tobj #[.int i s.toks, u]) (.tup [.int (i : Nat), x])) :=
      okTO (vs := [.int i s.toks, u]) hT2 (by show 2 ≤ sizeLine; decide) (.cons ⟨_, rfl⟩ (.cons ru .nil))
    have I1 : Inv X pins σ (upd H s.heap.objs.size (.frz (tobj #[.int i s.toks, u]) (.tup [.int (i : Nat), x]))) { s with heap := h'', toks := s.toks + 1 } :=
      I.turnedNew (ch := [e, it]) (fun b ob hb q => (sb.2 b (fun z => hb (by simp [z]))).trans (hk b ob (fun z => hb (by simp [z])) (fun z => hb (by simp [z])) q)) hf (Nat.le_refl _) new
    refine ⟨.ref s.heap.objs.size, _, I1, rfl, ⟨_, _, x, rfl, I.hok.fresh (Nat.le_refl _), isTO _ _, rfl, fun ys hy => by rw [I.list_inj hy hq]; exact hx⟩, ⟨⟨u, ?_⟩, hit'.at fun o q => (sb.2 it (Ne.symm hne)).trans q, hne⟩, fun b hb => ?_⟩
    · have e1 : ((i + 1 : Nat) : Int) = (i : Int) + 1 := by omega
      rw [e1]; exact he'
    · have hb' : b < s.heap.objs.size := by
        have e' : b = e ∨ b = it := by simpa using hb
        rcases e' with z | z
        · rw [z]; exact hel
        · rw [z]; exact hil
      rw [upd_ne (Nat.ne_of_lt hb')]
      exact (hf b hb).1
  done := by
    intro X hP hw hK hc i pins s σ H E I hf st hg
    subst hP hw hK
    obtain ⟨⟨old, he⟩, hit, hne⟩ := st
    obtain ⟨xs, hq, hx⟩ := hg
    obtain ⟨its, rv, p, hz⟩ := I.list hq
    obtain ⟨f0, f1, f2, f3, f4, f5⟩ := hf it (by simp)
    have hl := rv.length
    exact wpAny_pyNext_enum_end (I.ok.hd hc) he hit p.isList (by simp; omega) fun h' eb => ⟨rfl, I.turned (t' := s.toks) (fun b o hb q => eb b o hb q) f0 f1 f3 f4 f5⟩
  self := fun A i s Q E st h => let ⟨⟨_, he⟩, _⟩ := st; wpAny_pyIter_enum he h
def IteTF (K : PySem.W.Frag) (a : Addr) : It :=
  ⟨fun i H => ∃ (xs : List V) (x : V), SqT K H a xs ∧ xs[i]? = some x, fun i H v H' => ∃ T o x, v = .ref T ∧ H T = none ∧ IsTO o [.int (i : Nat), x] ∧ H' = upd H T o ∧ ∀ xs, SqT K H a xs → xs[i]? = some x, fun i H => ∃ xs : List V, SqT K H a xs ∧ xs.length ≤ i⟩
theorem turnETF {P : Program} {w : World} {K : PySem.W.Frag} {elts : List Expr} {kk : Nat} {tpos : Pos} (a e it : Addr) :
    Turn P w K (.Tuple elts kk tpos) (IteTF K a) [e, it] e (fun i h => (∃ old, IsEnum h e it ((i : Nat) : Int) old) ∧ h.IsTupleIter it a i ∧ e ≠ it) where
  mem := by simp
  obj := fun i h st b hb => by
    obtain ⟨⟨old, he⟩, ⟨o, ho, hc, hd⟩, _⟩ := st
    have e' : b = e ∨ b = it := by simpa using hb
    rcases e' with z | z
    · rw [z]; exact ⟨_, he, fun v q => nomatch q⟩
    · rw [z]; exact ⟨o, ho, fun v q => by rw [hd] at q; cases q⟩
  keep := fun i h h' st k => let ⟨⟨old, he⟩, hi, hne⟩ := st; ⟨⟨old, k e (by simp) _ he⟩, hi.at fun o q => k it (by simp) o q, hne⟩
  item := by
    intro X hP hw hK hc i pins s σ H E I hf st hg
    subst hP hw hK
    obtain ⟨⟨old, he⟩, hit, hne⟩ := st
    obtain ⟨xs, x, hq, hx⟩ := hg
    obtain ⟨its, rv, p, hz⟩ := I.tuple hq
    obtain ⟨u, hu, ru⟩ := rv.get hx
    have hel : e < s.heap.objs.size := Heap.lt_size he
    have hil : it < s.heap.objs.size := by obtain ⟨_, q, _⟩ := hit; exact Heap.lt_size q
    have p' : s.heap.IsTuple a its.toArray := p
    obtain ⟨oa, hoa, hca, na, hda⟩ := id p'
    obtain ⟨oi, hoi, hci, hdi⟩ := id hit
    have hae : a ≠ e := fun z => by rw [z, he] at hoa; cases hoa; injection hca with q; exact absurd q (by decide)
    have hai : a ≠ it := fun z => by rw [z, hoi] at hoa; cases hoa; rw [hci] at hca; injection hca with q; exact absurd q (by decide)
    have D := Draws.tuple (prog := X.prog) (w := X.w) (A := X.A.in1) (I.ok.hd hc) it a hai its.toArray
    have hlt : i < its.toArray.size := by
      have := (List.getElem?_eq_some_iff.mp hu).1
      simpa using this
    refine wpAny_pyNext_enum_itemD D he ⟨hit, p'⟩ hlt hne (fun z => ?_) fun x1 h' tk hP ho hs' hT hsz hk => ?_
    · have e' : e = it ∨ e = a := by simpa using z
      rcases e' with z | z
      · exact hne z
      · exact hae z.symm
    have hxu : x1 = u := by
      have h2 : its.toArray[i]? = some u := by simpa using hu
      rw [h2] at hP; cases hP; rfl
    subst hxu
    refine ⟨_, rfl, wpAny_letOwnedTupleGo_enum (s := { s with heap := h', toks := tk + 1 }) ho fun h'' he' sb => ?_⟩
    have hT2 : h''.get? s.heap.objs.size = some { cls := .type "tuple", data := .seq #[.int i tk, x1] } := (sb.2 _ (Nat.ne_of_gt hel)).trans hT
    have new : ObjOk X.prog X.w (upd H s.heap.objs.size (.frz (tobj #[.int i tk, x1]) (.tup [.int (i : Nat), x]))) h'' s.heap.objs.size (.frz (tobj #[.int i tk, x1]) (.tup [.int (i : Nat), x])) :=
      okTO (vs := [.int i tk, x1]) hT2 (by show 2 ≤ sizeLine; decide) (.cons ⟨_, rfl⟩ (.cons ru .nil))
    have I1 : Inv X pins σ (upd H s.heap.objs.size (.frz (tobj #[.int i tk, x1]) (.tup [.int (i : Nat), x]))) { s with heap := h'', toks := tk + 1 } :=
      I.turnedNew (ch := [e, it]) (fun b ob hb q => (sb.2 b (fun z => hb (by simp [z]))).trans (hk b ob (fun z => hb (by simp [z])) (fun z => hb (by simp [z])) q)) hf (Nat.le_refl _) new
    refine ⟨.ref s.heap.objs.size, _, I1, rfl, ⟨_, _, x, rfl, I.hok.fresh (Nat.le_refl _), isTO _ _, rfl, fun ys hy => by rw [I.tuple_inj hy hq]; exact hx⟩, ⟨⟨x1, ?_⟩, hs'.1.at fun o q => (sb.2 it (Ne.symm hne)).trans q, hne⟩, fun b hb => ?_⟩
    · have e1 : ((i + 1 : Nat) : Int) = (i : Int) + 1 := by omega
      rw [e1]; exact he'
    · have hb' : b < s.heap.objs.size := by
        have e' : b = e ∨ b = it := by simpa using hb
        rcases e' with z | z
        · rw [z]; exact hel
        · rw [z]; exact hil
      rw [upd_ne (Nat.ne_of_lt hb')]
      exact (hf b hb).1
  done := by
    intro X hP hw hK hc i pins s σ H E I hf st hg
    subst hP hw hK
    obtain ⟨⟨old, he⟩, hit, hne⟩ := st
    obtain ⟨xs, hq, hx⟩ := hg
    obtain ⟨its, rv, p, hz⟩ := I.tuple hq
    obtain ⟨f0, f1, f2, f3, f4, f5⟩ := hf it (by simp)
    have hl := rv.length
    have hT : s.TypeIs (.ref e) "enumerate" := ⟨_, he, rfl⟩
    unfold pyNext
    refine wpAny_bind (wpAny_attempt (wpAny_callSpecial?_slot (name := Str.ofString "__next__") hT F.slot_enumerate_next
      (wpAny_call_entry F.slot_enumerate_next hT F.entry_enumerate_next ?_ (F.args_enumerate_next_1 _))))
    show wpAny _ _ (field (.ref e) 2 >>= _) _ _ _
    refine wpAny_bind (wpAny_field he rfl (x := .ref it) rfl ?_)
    refine wpAny_bind (wpAny_nextOf_tuple_end (I.ok.hd hc) hit (show s.heap.IsTuple a its.toArray from p) (by simp; omega) fun h' x he' hx' => ?_)
    obtain ⟨o, ho, hc⟩ := hx'
    refine wpAny_bind (wpAny_isInstance (T := "StopIteration") (b := true) ⟨o, ho, hc⟩ isSubtype_stop ?_)
    exact wpAny_pure ⟨rfl, I.turned (t' := s.toks) (fun b o hb q => he' b o hb q) f0 f1 f3 f4 f5⟩
  self := fun A i s Q E st h => let ⟨⟨_, he⟩, _⟩ := st; wpAny_pyIter_enum he h
def ItzF (K : PySem.W.Frag) (a b : Addr) : It :=
  ⟨fun i H => ∃ (xs ys : List V) (x y : V), SqL K H a xs ∧ SqL K H b ys ∧ xs[i]? = some x ∧ ys[i]? = some y,
    fun i H v H' => ∃ T o x y, v = .ref T ∧ H T = none ∧ IsTO o [x, y] ∧ H' = upd H T o ∧ (∀ xs, SqL K H a xs → xs[i]? = some x) ∧ ∀ ys, SqL K H b ys → ys[i]? = some y,
    fun i H => ∃ xs ys : List V, SqL K H a xs ∧ SqL K H b ys ∧ (xs.length ≤ i ∨ ys.length ≤ i)⟩
theorem turn_zipF {P : Program} {w : World} {K : PySem.W.Frag} {elts : List Expr} {kk : Nat} {tpos : Pos} {a b z TI TO i1 i2 : Addr} (D : ZipApart z TI TO i1 i2 a b) :
    Turn P w K (.Tuple elts kk tpos) (ItzF K a b) [z, TI, TO, i1, i2] z (fun i h => IsZip h z TI TO .none ∧ IsPair h TI (.ref i1) (.ref i2) ∧ (∃ x y, IsPair h TO x y) ∧ h.IsListIter i1 a i ∧ h.IsListIter i2 b i) where
  mem := by simp
  obj := fun i h st c hc => by
    obtain ⟨hz, hTI, ⟨x, y, hTO⟩, ⟨o1, e1, _, d1⟩, ⟨o2, e2, _, d2⟩⟩ := st
    have e' : c = z ∨ c = TI ∨ c = TO ∨ c = i1 ∨ c = i2 := by simpa using hc
    rcases e' with q | q | q | q | q
    · rw [q]; exact ⟨_, hz, fun v q => nomatch q⟩
    · rw [q]; exact ⟨_, hTI, fun v q => nomatch q⟩
    · rw [q]; exact ⟨_, hTO, fun v q => nomatch q⟩
    · rw [q]; exact ⟨o1, e1, fun v q => by rw [d1] at q; cases q⟩
    · rw [q]; exact ⟨o2, e2, fun v q => by rw [d2] at q; cases q⟩
  keep := fun i h h' st k => by
    obtain ⟨hz, hTI, ⟨x, y, hTO⟩, h1, h2⟩ := st
    exact ⟨k z (by simp) _ hz, k TI (by simp) _ hTI, ⟨x, y, k TO (by simp) _ hTO⟩, h1.at fun o q => k i1 (by simp) o q, h2.at fun o q => k i2 (by simp) o q⟩
  item := by
    intro X hP hw hK hc i pins s σ H E I hf st hg
    subst hP hw hK
    obtain ⟨hz, hTI, ⟨x0, y0, hTO⟩, h1, h2⟩ := st
    obtain ⟨xs, ys, x, y, hqx, hqy, hx, hy⟩ := hg
    obtain ⟨its, rv, p, _⟩ := I.list hqx
    obtain ⟨its2, rv2, p2, _⟩ := I.list hqy
    obtain ⟨u, hu, ru⟩ := rv.get hx
    obtain ⟨u2, hu2, ru2⟩ := rv2.get hy
    have hzl : z < s.heap.objs.size := Heap.lt_size hz
    refine wpAny_pyNext_zip_item D hz hTI hTO h1 h2 p.isList p2.isList (x := u) (y := u2) (by simpa using hu) (by simpa using hu2) fun h' z' TO' h1' h2' hT hsz hk => ?_
    refine ⟨_, rfl, wpAny_letOwnedTupleGo_zip (s := { s with heap := h' }) z' fun h'' z'' sb => ?_⟩
    have hT2 : h''.get? s.heap.objs.size = some { cls := .type "tuple", data := .seq #[u, u2] } := (sb.2 _ (Nat.ne_of_gt hzl)).trans hT
    have new : ObjOk X.prog X.w (upd H s.heap.objs.size (.frz (tobj #[u, u2]) (.tup [x, y]))) h'' s.heap.objs.size (.frz (tobj #[u, u2]) (.tup [x, y])) :=
      okTO (vs := [u, u2]) hT2 (by show 2 ≤ sizeLine; decide) (.cons ru (.cons ru2 .nil))
    have I1 : Inv X pins σ (upd H s.heap.objs.size (.frz (tobj #[u, u2]) (.tup [x, y]))) { s with heap := h'' } :=
      I.turnedNew (t' := s.toks) (ch := [z, TI, TO, i1, i2]) (fun c o hb q => (sb.2 c (fun q' => hb (by simp [q']))).trans (hk c o (fun q' => hb (by simp [q'])) (fun q' => hb (by simp [q'])) (fun q' => hb (by simp [q'])) (fun q' => hb (by simp [q'])) q)) hf (Nat.le_refl _) new
    refine ⟨.ref s.heap.objs.size, _, I1, rfl, ⟨_, _, x, y, rfl, I.hok.fresh (Nat.le_refl _), isTO _ _, rfl, fun l hl => by rw [I.list_inj hl hqx]; exact hx, fun l hl => by rw [I.list_inj hl hqy]; exact hy⟩, ⟨z'', ?_, ⟨u, u2, ?_⟩, ?_, ?_⟩, fun c hcm => ?_⟩
    · exact (sb.2 _ D.TIz).trans (hk _ _ D.TIz D.TITO D.TIi1 D.TIi2 hTI)
    · exact (sb.2 _ D.TOz).trans TO'
    · exact h1'.at fun o q => (sb.2 _ D.i1z).trans q
    · exact h2'.at fun o q => (sb.2 _ D.i2z).trans q
    · have hlt : c < s.heap.objs.size := by
        have e' : c = z ∨ c = TI ∨ c = TO ∨ c = i1 ∨ c = i2 := by simpa using hcm
        rcases e' with q | q | q | q | q
        · rw [q]; exact hzl
        · rw [q]; exact Heap.lt_size hTI
        · rw [q]; exact Heap.lt_size hTO
        · rw [q]; obtain ⟨_, e1, _⟩ := h1; exact Heap.lt_size e1
        · rw [q]; obtain ⟨_, e2, _⟩ := h2; exact Heap.lt_size e2
      rw [upd_ne (Nat.ne_of_lt hlt)]
      exact (hf c hcm).1
  done := by
    intro X hP hw hK hc i pins s σ H E I hf st hg
    subst hP hw hK
    obtain ⟨hz, hTI, ⟨x0, y0, hTO⟩, h1, h2⟩ := st
    obtain ⟨xs, ys, hqx, hqy, hend⟩ := hg
    obtain ⟨its, rv, p, _⟩ := I.list hqx
    obtain ⟨its2, rv2, p2, _⟩ := I.list hqy
    have l1 := rv.length
    have l2 := rv2.length
    have he : its.toArray[i]? = none ∨ its2.toArray[i]? = none := by
      rcases hend with q | q
      · exact .inl (by simp; omega)
      · exact .inr (by simp; omega)
    exact wpAny_pyNext_zip_end (I.ok.hd hc) D hz hTI hTO h1 h2 p.isList p2.isList he fun h' hk => ⟨rfl, I.turnedL (t' := s.toks) (ch := [z, TI, TO, i1, i2]) (fun c o hb q =>
      hk c o (fun q' => hb (by simp [q'])) (fun q' => hb (by simp [q'])) (fun q' => hb (by simp [q'])) (fun q' => hb (by simp [q'])) q) hf⟩
  self := fun A i s Q E st h => wpAny_pyIter_zip st.1 h
def ItzTF (K : PySem.W.Frag) (a b : Addr) : It :=
  ⟨fun i H => ∃ (xs ys : List V) (x y : V), SqT K H a xs ∧ SqT K H b ys ∧ xs[i]? = some x ∧ ys[i]? = some y,
    fun i H v H' => ∃ T o x y, v = .ref T ∧ H T = none ∧ IsTO o [x, y] ∧ H' = upd H T o ∧ (∀ xs, SqT K H a xs → xs[i]? = some x) ∧ ∀ ys, SqT K H b ys → ys[i]? = some y,
    fun i H => ∃ xs ys : List V, SqT K H a xs ∧ SqT K H b ys ∧ (xs.length ≤ i ∨ ys.length ≤ i)⟩
theorem turn_zipTF {P : Program} {w : World} {K : PySem.W.Frag} {elts : List Expr} {kk : Nat} {tpos : Pos} {a b z TI TO i1 i2 : Addr} (D : ZipApart z TI TO i1 i2 a b) :
    Turn P w K (.Tuple elts kk tpos) (ItzTF K a b) [z, TI, TO, i1, i2] z (fun i h => IsZip h z TI TO .none ∧ IsPair h TI (.ref i1) (.ref i2) ∧ (∃ x y, IsPair h TO x y) ∧ h.IsTupleIter i1 a i ∧ h.IsTupleIter i2 b i) where
  mem := by simp
  obj := fun i h st c hc => by
    obtain ⟨hz, hTI, ⟨x, y, hTO⟩, ⟨o1, e1, _, d1⟩, ⟨o2, e2, _, d2⟩⟩ := st
    have e' : c = z ∨ c = TI ∨ c = TO ∨ c = i1 ∨ c = i2 := by simpa using hc
    rcases e' with q | q | q | q | q
    · rw [q]; exact ⟨_, hz, fun v q => nomatch q⟩
    · rw [q]; exact ⟨_, hTI, fun v q => nomatch q⟩
    · rw [q]; exact ⟨_, hTO, fun v q => nomatch q⟩
    · rw [q]; exact ⟨o1, e1, fun v q => by rw [d1] at q; cases q⟩
    · rw [q]; exact ⟨o2, e2, fun v q => by rw [d2] at q; cases q⟩
  keep := fun i h h' st k => by
    obtain ⟨hz, hTI, ⟨x, y, hTO⟩, h1, h2⟩ := st
    exact ⟨k z (by simp) _ hz, k TI (by simp) _ hTI, ⟨x, y, k TO (by simp) _ hTO⟩, h1.at fun o q => k i1 (by simp) o q, h2.at fun o q => k i2 (by simp) o q⟩
  item := by
    intro X hP hw hK hc i pins s σ H E I hf st hg
    subst hP hw hK
    obtain ⟨hz, hTI, ⟨x0, y0, hTO⟩, h1, h2⟩ := st
    obtain ⟨xs, ys, x, y, hqx, hqy, hx, hy⟩ := hg
    obtain ⟨its, rv, p, _⟩ := I.tuple hqx
    obtain ⟨its2, rv2, p2, _⟩ := I.tuple hqy
    obtain ⟨u, hu, ru⟩ := rv.get hx
    obtain ⟨u2, hu2, ru2⟩ := rv2.get hy
    have hzl : z < s.heap.objs.size := Heap.lt_size hz
    refine RZ.pyNext_zipT_item D hz hTI hTO h1 h2 p p2 (x := u) (y := u2) (by simpa using hu) (by simpa using hu2) fun h' z' TO' h1' h2' hT hsz hk => ?_
    refine ⟨_, rfl, wpAny_letOwnedTupleGo_zip (s := { s with heap := h' }) z' fun h'' z'' sb => ?_⟩
    have hT2 : h''.get? s.heap.objs.size = some { cls := .type "tuple", data := .seq #[u, u2] } := (sb.2 _ (Nat.ne_of_gt hzl)).trans hT
    have new : ObjOk X.prog X.w (upd H s.heap.objs.size (.frz (tobj #[u, u2]) (.tup [x, y]))) h'' s.heap.objs.size (.frz (tobj #[u, u2]) (.tup [x, y])) :=
      okTO (vs := [u, u2]) hT2 (by show 2 ≤ sizeLine; decide) (.cons ru (.cons ru2 .nil))
    have I1 : Inv X pins σ (upd H s.heap.objs.size (.frz (tobj #[u, u2]) (.tup [x, y]))) { s with heap := h'' } :=
      I.turnedNew (t' := s.toks) (ch := [z, TI, TO, i1, i2]) (fun c o hb q => (sb.2 c (fun q' => hb (by simp [q']))).trans (hk c o (fun q' => hb (by simp [q'])) (fun q' => hb (by simp [q'])) (fun q' => hb (by simp [q'])) (fun q' => hb (by simp [q'])) q)) hf (Nat.le_refl _) new
    refine ⟨.ref s.heap.objs.size, _, I1, rfl, ⟨_, _, x, y, rfl, I.hok.fresh (Nat.le_refl _), isTO _ _, rfl, fun l hl => by rw [I.tuple_inj hl hqx]; exact hx, fun l hl => by rw [I.tuple_inj hl hqy]; exact hy⟩, ⟨z'', ?_, ⟨u, u2, ?_⟩, ?_, ?_⟩, fun c hcm => ?_⟩
    · exact (sb.2 _ D.TIz).trans (hk _ _ D.TIz D.TITO D.TIi1 D.TIi2 hTI)
    · exact (sb.2 _ D.TOz).trans TO'
    · exact h1'.at fun o q => (sb.2 _ D.i1z).trans q
    · exact h2'.at fun o q => (sb.2 _ D.i2z).trans q
    · have hlt : c < s.heap.objs.size := by
        have e' : c = z ∨ c = TI ∨ c = TO ∨ c = i1 ∨ c = i2 := by simpa using hcm
        rcases e' with q | q | q | q | q
        · rw [q]; exact hzl
        · rw [q]; exact Heap.lt_size hTI
        · rw [q]; exact Heap.lt_size hTO
        · rw [q]; obtain ⟨_, e1, _⟩ := h1; exact Heap.lt_size e1
        · rw [q]; obtain ⟨_, e2, _⟩ := h2; exact Heap.lt_size e2
      rw [upd_ne (Nat.ne_of_lt hlt)]
      exact (hf c hcm).1
  done := by
    intro X hP hw hK hc i pins s σ H E I hf st hg
    subst hP hw hK
    obtain ⟨hz, hTI, ⟨x0, y0, hTO⟩, h1, h2⟩ := st
    obtain ⟨xs, ys, hqx, hqy, hend⟩ := hg
    obtain ⟨its, rv, p, _⟩ := I.tuple hqx
    obtain ⟨its2, rv2, p2, _⟩ := I.tuple hqy
    have l1 := rv.length
    have l2 := rv2.length
    have he : its.toArray[i]? = none ∨ its2.toArray[i]? = none := by
      rcases hend with q | q
      · exact .inl (by simp; omega)
      · exact .inr (by simp; omega)
    exact RZ.pyNext_zipT_end (I.ok.hd hc) D hz hTI hTO h1 h2 p p2 he fun h' hk => ⟨rfl, I.turnedL (t' := s.toks) (ch := [z, TI, TO, i1, i2]) (fun c o hb q =>
      hk c o (fun q' => hb (by simp [q'])) (fun q' => hb (by simp [q'])) (fun q' => hb (by simp [q'])) (fun q' => hb (by simp [q'])) q) hf⟩
  self := fun A i s Q E st h => wpAny_pyIter_zip st.1 h

/-- enumerate of a list, of a tuple -/
def iEnumF (K : PySem.W.Frag) (ta : TA) : TI := fun σ H R => ta σ H fun vs H1 => ∃ a, vs = [.ref a] ∧ ((∃ xs, SqL K H1 a xs ∧ R (IteF K a) H1) ∨ ∃ xs, SqT K H1 a xs ∧ R (IteTF K a) H1)
theorem pi_enumF {X : Cx} {e : Expr} {ta : TA} {p pos tpos : Pos} {elts : List Expr} {kk : Nat} (hg : Gl X "enumerate") (hm : X.mg "enumerate" = none) (ha : PA X [e] ta) (hs : starEach [e] X.env = [(false, eval e X.env)]) :
    PI X (.Tuple elts kk tpos) (.Call (.Name "enumerate" p) [e] [] pos) (iEnumF X.K ta) := by
  refine ⟨fun pins s σ H R I h => ?_⟩
  refine Call_ (ld_blt I hg hm boot_enumerate (PyProof.Rows.callWith_type1 (thn (ha.run pos pins s σ H _ I h) fun us s1 ⟨vs, H1, I1, r1, q1⟩ => ?_) hs rfl))
  obtain ⟨a, ex, q1⟩ := q1
  subst ex
  cases r1 with
  | cons r rr =>
    cases rr
    cases r
    have fin : ∀ b, b ∈ [s1.heap.objs.size + 1, s1.heap.objs.size] → FpOk X pins H1 b := fun b hb => by
      have e' : b = s1.heap.objs.size + 1 ∨ b = s1.heap.objs.size := by simpa using hb
      have hle : s1.heap.objs.size ≤ b := by
        rcases e' with z | z
        · rw [z]; exact Nat.le_add_right _ _
        · rw [z]; exact Nat.le_refl _
      exact I1.fpOk hle (I1.hok.fresh hle)
    rcases q1 with ⟨xs, hq, q⟩ | ⟨xs, hq, q⟩
    · obtain ⟨its, rv, p', hz⟩ := I1.list hq
      refine call_enumerate_list p'.isList fun h' he hit hsz hk => wpAny_pyIter_enum he ?_
      have I2 : Inv X pins σ H1 { s1 with heap := h' } := I1.kept (t' := s1.toks) hk
      exact ⟨s1.heap.objs.size + 1, [s1.heap.objs.size + 1, s1.heap.objs.size], _, _, H1, rfl, I2, turn_enumF a (s1.heap.objs.size + 1) s1.heap.objs.size, ⟨⟨.none, he⟩, hit, Nat.succ_ne_self _⟩, fin, q⟩
    · obtain ⟨its, rv, p', hz⟩ := I1.tuple hq
      refine enumBegins (begins_tuple a its.toArray) (show s1.heap.IsTuple a its.toArray from p') fun h' he hit hsz hk => wpAny_pyIter_enum he ?_
      have I2 : Inv X pins σ H1 { s1 with heap := h' } := I1.kept (t' := s1.toks) hk
      exact ⟨s1.heap.objs.size + 1, [s1.heap.objs.size + 1, s1.heap.objs.size], _, _, H1, rfl, I2, turnETF a (s1.heap.objs.size + 1) s1.heap.objs.size, ⟨⟨.none, he⟩, ⟨_, hit, rfl, rfl⟩, Nat.succ_ne_self _⟩, fin, q⟩
def iZipF (K : PySem.W.Frag) (ta : TA) : TI := fun σ H R => ta σ H fun vs H1 => ∃ a b xs ys, vs = [.ref a, .ref b] ∧ ((SqL K H1 a xs ∧ SqL K H1 b ys ∧ R (ItzF K a b) H1) ∨ (SqT K H1 a xs ∧ SqT K H1 b ys ∧ R (ItzTF K a b) H1))
theorem pi_zipF {X : Cx} {e e2 : Expr} {ta : TA} {p pos tpos : Pos} {elts : List Expr} {kk : Nat} (hg : Gl X "zip") (hm : X.mg "zip" = none) (ha : PA X [e, e2] ta)
    (hs : starEach [e, e2] X.env = (false, eval e X.env) :: starEach [e2] X.env := by rfl) (hpl : (backTo pos (starEach [e2] X.env)).any (·.1) = false := by rfl) :
    PI X (.Tuple elts kk tpos) (.Call (.Name "zip" p) [e, e2] [] pos) (iZipF X.K ta) := by
  refine ⟨fun pins s σ H R I h => ?_⟩
  refine Call_ (ld_blt I hg hm PyProof.Rows.boot_zip (PyProof.Rows.callWith_type1 (thn (ha.run pos pins s σ H _ I h) fun us s1 ⟨vs, H1, I1, r1, q1⟩ => ?_) hs hpl))
  obtain ⟨a, b, xs, ys, ex, q1⟩ := q1
  subst ex
  cases r1 with
  | cons r rr =>
    cases rr with
    | cons r' rr =>
      cases rr
      cases r
      cases r'
      have fresh5 : ∀ c, c ∈ [s1.heap.objs.size + 4, s1.heap.objs.size + 2, s1.heap.objs.size + 3, s1.heap.objs.size, s1.heap.objs.size + 1] → FpOk X pins H1 c := fun c hcm => by
        have e' : c = s1.heap.objs.size + 4 ∨ c = s1.heap.objs.size + 2 ∨ c = s1.heap.objs.size + 3 ∨ c = s1.heap.objs.size ∨ c = s1.heap.objs.size + 1 := by simpa using hcm
        have hle : s1.heap.objs.size ≤ c := by
          rcases e' with z | z | z | z | z
          · rw [z]; exact Nat.le_add_right _ _
          · rw [z]; exact Nat.le_add_right _ _
          · rw [z]; exact Nat.le_add_right _ _
          · rw [z]; exact Nat.le_refl _
          · rw [z]; exact Nat.le_add_right _ _
        exact I1.fpOk hle (I1.hok.fresh hle)
      rcases q1 with ⟨hqx, hqy, q⟩ | ⟨hqx, hqy, q⟩
      · obtain ⟨its, rv, p1, _⟩ := I1.list hqx
        obtain ⟨its2, rv2, p2, _⟩ := I1.list hqy
        refine call_zip_2 p1.isList p2.isList fun h' hz hTI hTO h1 h2 hsz hk => wpAny_pyIter_zip hz ?_
        have I2 : Inv X pins σ H1 { s1 with heap := h' } := I1.kept (t' := s1.toks) hk
        exact ⟨s1.heap.objs.size + 4, [s1.heap.objs.size + 4, s1.heap.objs.size + 2, s1.heap.objs.size + 3, s1.heap.objs.size, s1.heap.objs.size + 1], _, _, H1, rfl, I2, turn_zipF (PySem.W.ktu_apart s1.heap.objs.size a b p1.lt p2.lt), ⟨hz, hTI, ⟨_, _, hTO⟩, h1, h2⟩, fresh5, q⟩
      · obtain ⟨its, rv, p1, _⟩ := I1.tuple hqx
        obtain ⟨its2, rv2, p2, _⟩ := I1.tuple hqy
        obtain ⟨o1, ho1, _⟩ := id p1
        obtain ⟨o2, ho2, _⟩ := id p2
        refine RZ.call_zipT (show s1.heap.IsTuple a its.toArray from p1) (show s1.heap.IsTuple b its2.toArray from p2) fun h' hz hTI hTO h1 h2 hsz hk => wpAny_pyIter_zip hz ?_
        have I2 : Inv X pins σ H1 { s1 with heap := h' } := I1.kept (t' := s1.toks) hk
        exact ⟨s1.heap.objs.size + 4, [s1.heap.objs.size + 4, s1.heap.objs.size + 2, s1.heap.objs.size + 3, s1.heap.objs.size, s1.heap.objs.size + 1], _, _, H1, rfl, I2, turn_zipTF (PySem.W.ktu_apart s1.heap.objs.size a b (Heap.lt_size ho1) (Heap.lt_size ho2)), ⟨hz, hTI, ⟨_, _, hTO⟩, h1, h2⟩, fresh5, q⟩


/-! ### methods of such tuples -/
section
variable {X : Cx} {o e : Expr} {es : List Expr} {to : TE} {t : TA} {name : Str} {apos cpos : Pos} {id : String} {r : V → List V → Hp → VK → Prop}
def tBMF (r : V → List V → Hp → VK → Prop) (to : TE) (t : TA) : TE := fun σ H Q => to σ H fun x H1 => (∃ a xs, x = .ref a ∧ TupO H1 a xs) ∧ t σ H1 fun xs H2 => r x xs H2 Q
theorem pe_bmF (pa : PlainAttrs "tuple") (slot : PySem.Slot "tuple" name id) (hty : typeOf (.builtin id) = pure (.type "method_descriptor")) (hm : MtR X id r) (ho : PE X o to) (ha : PA X (e :: es) t)
    (hbase : attributeBase o name X.env (eval o X.env) = eval o X.env)
    (hfew : ((backTo cpos (starEach (e :: es) X.env)).all (fun x => !x.1) && (backToKw cpos (keywordEach [] X.env)).all (fun x => x.1.isSome)
      && decide ((e :: es).length + ([] : List Keyword).length + (if ([] : List Keyword).isEmpty then 0 else 1) < 30)) = true)
    (hline : (apos.endLine == cpos.line) = true) (hs : starEach (e :: es) X.env = (false, eval e X.env) :: starEach es X.env) (hplain : (backTo cpos (starEach es X.env)).any (·.1) = false) :
    PE X (.Call (.Attribute o name apos) (e :: es) [] cpos) (tBMF r to t) := by
  refine ⟨fun pins s σ H Q I h => ?_⟩
  refine wpAny_Call_method_late hbase hfew hline rfl (thn (ho.run pins s σ H _ I h) fun v s1 ⟨x, H1, I1, r1, ty, q1⟩ => ?_)
  obtain ⟨a, xs, rfl, _, hx, ob, rfl, hc, hd⟩ := ty
  have r1' := r1
  cases r1'
  obtain ⟨e1, _⟩ : s1.heap.get? a = some ob ∧ _ := I1.hok a _ hx
  refine ⟨"tuple", id, pa, slot, hty, ⟨ob, e1, hc⟩, fun b eb => (by cases eb; exact ⟨ob, e1, hd⟩), ?_⟩
  have hA := ha.run cpos pins s1 σ H1 _ I1 q1
  rw [hs] at hA ⊢
  refine Calls.callWith_builtin (by show (false || (backTo cpos (starEach es X.env)).any (·.1)) = false; rw [hplain] <;> rfl) (Calls.evalArgs_plain ?_)
  exact thn hA fun us s2 ⟨vs, H2, I2, r2, q2⟩ => hm pins s2 σ H2 _ vs _ us Q I2 r1 r2 q2
end
end Py
end
section
set_option linter.all false
set_option maxRecDepth 100000
set_option maxHeartbeats 1000000
/-! PySnd1: trees that stand in a heap; what changes and what stays. -/
namespace Py
open PySem PySem.Spec PyProof.Rows L2

def sS (s : List Nat) : Str := ⟨s.toArray⟩
abbrev Fg := PySem.W.Frag
abbrev Sg := L2.St

/-- a dict's pairs: keys and values -/
def dkv : List Int → List V → List (Key × V)
  | n :: ns, x :: xs => (Sum.inl n, x) :: dkv ns xs
  | _, _ => []
mutual
/-- the value v is the tree d, of things in G that never change -/
inductive Rep (K : Fg) (w : World) (G : Hp) : V → D → Prop
  | non : Rep K w G .non .non
  | bl (b : Bool) : Rep K w G (.bl b) (.bl b)
  | int (i : Int) : Rep K w G (.int i) (.int i)
  | str (s : List Nat) : s.length ≤ SZ → Rep K w G (.str (sS s)) (.str s)
  | tup {a : Addr} {xs : List V} {ds : List D} : TupO G a xs → Reps K w G xs ds → Rep K w G (.ref a) (.tup ds)
  | lst {a : Addr} {xs : List V} {ds : List D} : G a = some (.lst xs) → Reps K w G xs ds → Rep K w G (.ref a) (.lst ds)
  | set {a : Addr} {ns : List Int} : G a = some (SetO w a (fun k => decide (k ∈ ns)) ns.length) → ns.Nodup → Rep K w G (.ref a) (.set (ns.map D.int))
  | fz {a : Addr} {ns : List Int} : SqL K G a (ns.map V.int) → Rep K w G (.ref a) (.fz ns)
  | dic {a : Addr} {ns : List Int} {xs : List V} {ds : List D} : G a = some (.dK (dkv ns xs)) → ns.length = xs.length → Reps K w G xs ds → Rep K w G (.ref a) (.dic (ns.map D.int) ds)
inductive Reps (K : Fg) (w : World) (G : Hp) : List V → List D → Prop
  | nil : Reps K w G [] []
  | cons {v : V} {vs : List V} {d : D} {ds : List D} : Rep K w G v d → Reps K w G vs ds → Reps K w G (v :: vs) (d :: ds)
end

def Sub (G H : Hp) : Prop := ∀ a o, G a = some o → H a = some o
theorem Sub.refl (G : Hp) : Sub G G := fun _ _ h => h
theorem Sub.trans {G H I : Hp} (a : Sub G H) (b : Sub H I) : Sub G I := fun x o h => b x o (a x o h)
theorem Sub.upd {H : Hp} {p : Addr} {o : HO} (h : H p = none) : Sub H (upd H p o) := fun a u e => by
  rw [upd_ne (ne_of_none e h)]; exact e
theorem Sub.none {G H : Hp} (s : Sub G H) {a : Addr} (h : H a = none) : G a = none := by
  cases e : G a with
  | none => rfl
  | some o => rw [s a o e] at h; cases h

section
variable {K : Fg} {w : World} {G G' H H' : Hp}
theorem sqL_sub (s : Sub G G') {a : Addr} {xs : List V} (h : SqL K G a xs) : SqL K G' a xs := by
  rcases h with (h | ⟨o, h⟩) | h
  · exact .inl (.inl (s _ _ h))
  · exact .inl (.inr ⟨o, s _ _ h⟩)
  · exact .inr h
mutual
theorem Rep.sub (s : Sub G G') : ∀ {d : D} {v : V}, Rep K w G v d → Rep K w G' v d
  | _, _, .non => .non
  | _, _, .bl b => .bl b
  | _, _, .int i => .int i
  | _, _, .str x h => .str x h
  | _, _, .tup h r => .tup (TupO.sub s h) (Reps.sub s r)
  | _, _, .lst h r => .lst (s _ _ h) (Reps.sub s r)
  | _, _, .set h n => .set (s _ _ h) n
  | _, _, .fz h => .fz (sqL_sub s h)
  | _, _, .dic h l r => .dic (s _ _ h) l (Reps.sub s r)
theorem Reps.sub (s : Sub G G') : ∀ {ds : List D} {vs : List V}, Reps K w G vs ds → Reps K w G' vs ds
  | _, _, .nil => .nil
  | _, _, .cons a b => .cons (Rep.sub s a) (Reps.sub s b)
end
theorem Reps.length : ∀ {vs : List V} {ds : List D}, Reps K w G vs ds → vs.length = ds.length
  | _, _, .nil => rfl
  | _, _, .cons _ b => congrArg Nat.succ (Reps.length b)
theorem Reps.get : ∀ {vs : List V} {ds : List D} {i : Nat} {d : D}, Reps K w G vs ds → ds[i]? = some d → ∃ v, vs[i]? = some v ∧ Rep K w G v d
  | _, _, _, _, .nil, h => by simp at h
  | _, _, 0, d, .cons a _, h => by simp at h; subst h; exact ⟨_, rfl, a⟩
  | _, _, i + 1, d, .cons _ b, h => by
    obtain ⟨v, h1, h2⟩ := Reps.get (i := i) b (by simpa using h)
    exact ⟨v, by simpa using h1, h2⟩
theorem Reps.getV : ∀ {vs : List V} {ds : List D} {i : Nat} {v : V}, Reps K w G vs ds → vs[i]? = some v → ∃ d, ds[i]? = some d ∧ Rep K w G v d
  | _, _, _, _, .nil, h => by simp at h
  | _, _, 0, d, .cons a _, h => by simp at h; subst h; exact ⟨_, rfl, a⟩
  | _, _, i + 1, d, .cons _ b, h => by
    obtain ⟨v, h1, h2⟩ := Reps.getV (i := i) b (by simpa using h)
    exact ⟨v, by simpa using h1, h2⟩
theorem Reps.append : ∀ {vs us : List V} {ds es : List D}, Reps K w G vs ds → Reps K w G us es → Reps K w G (vs ++ us) (ds ++ es)
  | _, _, _, _, .nil, r => r
  | _, _, _, _, .cons a b, r => .cons a (Reps.append b r)
theorem Reps.set {v : V} {d : D} (r : Rep K w G v d) : ∀ {vs : List V} {ds : List D} (i : Nat), Reps K w G vs ds → Reps K w G (vs.set i v) (ds.set i d)
  | _, _, _, .nil => .nil
  | _, _, 0, .cons _ b => .cons r b
  | _, _, i + 1, .cons a b => .cons a (Reps.set r i b)
theorem Reps.take : ∀ {vs : List V} {ds : List D} (n : Nat), Reps K w G vs ds → Reps K w G (vs.take n) (ds.take n)
  | _, _, 0, _ => .nil
  | _, _, _ + 1, .nil => .nil
  | _, _, n + 1, .cons a b => .cons a (Reps.take n b)
theorem Reps.drop : ∀ {vs : List V} {ds : List D} (n : Nat), Reps K w G vs ds → Reps K w G (vs.drop n) (ds.drop n)
  | _, _, 0, r => r
  | _, _, _ + 1, .nil => .nil
  | _, _, n + 1, .cons _ b => Reps.drop n b
theorem Reps.rev {vs : List V} {ds : List D} (h : Reps K w G vs ds) : Reps K w G vs.reverse ds.reverse := by
  induction vs generalizing ds with
  | nil => cases h; exact .nil
  | cons v vs ih => cases h with
    | cons a b => rw [List.reverse_cons, List.reverse_cons]; exact Reps.append (ih b) (.cons a .nil)
theorem Reps.dropLast {vs : List V} {ds : List D} (h : Reps K w G vs ds) : Reps K w G vs.dropLast ds.dropLast := by
  rw [List.dropLast_eq_take, List.dropLast_eq_take, h.length]; exact h.take _
theorem Reps.eraseIdx : ∀ {vs : List V} {ds : List D} (i : Nat), Reps K w G vs ds → Reps K w G (vs.eraseIdx i) (ds.eraseIdx i)
  | _, _, _, .nil => .nil
  | _, _, 0, .cons _ b => b
  | _, _, i + 1, .cons a b => .cons a (Reps.eraseIdx i b)
theorem Reps.flatten : ∀ {vs : List (List V)} {ds : List (List D)}, vs.length = ds.length → (∀ (i : Nat) (v : List V) (d : List D), vs[i]? = some v → ds[i]? = some d → Reps K w G v d) → Reps K w G vs.flatten ds.flatten
  | [], [], _, _ => .nil
  | [], _ :: _, h, _ => by cases h
  | _ :: _, [], h, _ => by cases h
  | v :: vs, d :: ds, h, f => by
    rw [List.flatten_cons, List.flatten_cons]
    exact Reps.append (f 0 v d rfl rfl) (Reps.flatten (by simpa using h) fun i a b ha hb => f (i + 1) a b (by simpa using ha) (by simpa using hb))
theorem Reps.rep {vs : List V} {ds : List D} (h : Reps K w G vs ds) (n : Nat) : Reps K w G (List.replicate n vs).flatten (List.replicate n ds).flatten := by
  refine Reps.flatten (by simp) fun i a b ha hb => ?_
  rw [List.getElem?_replicate] at ha hb
  split at ha
  · rename_i hi
    rw [if_pos hi] at hb
    cases ha; cases hb; exact h
  · cases ha
/-- a list of whole numbers -/
theorem Reps.intsD : ∀ {vs : List V} {ns : List Int}, Reps K w G vs (ns.map D.int) → vs = ns.map V.int
  | _, [], h => by cases h; rfl
  | _, n :: ns, h => by
    cases h with
    | cons a b => cases a; rw [Reps.intsD b]; rfl
theorem Reps.of_ints : ∀ ns : List Int, Reps K w G (ns.map V.int) (ns.map D.int)
  | [] => .nil
  | n :: ns => .cons (.int n) (Reps.of_ints ns)
theorem Reps.bls : ∀ {vs : List V} {ns : List Bool}, Reps K w G vs (ns.map D.bl) → vs = ns.map V.bl
  | _, [], h => by cases h; rfl
  | _, n :: ns, h => by
    cases h with
    | cons a b => cases a; rw [Reps.bls b]; rfl
theorem ints_map : ∀ {ds : List D} {ns : List Int}, Py.intsD ds = some ns → ds = ns.map D.int
  | [], ns, h => by simp [Py.intsD] at h; subst h; rfl
  | d :: ds, ns, h => by
    cases d with
    | int i =>
      simp only [Py.intsD, Option.map_eq_some_iff] at h
      obtain ⟨m, h1, h2⟩ := h
      subst h2
      rw [ints_map h1]; rfl
    | _ => simp [Py.intsD] at h
theorem bls_map : ∀ {ds : List D} {ns : List Bool}, Py.bls ds = some ns → ds = ns.map D.bl
  | [], ns, h => by simp [Py.bls] at h; subst h; rfl
  | d :: ds, ns, h => by
    cases d with
    | bl i =>
      simp only [Py.bls, Option.map_eq_some_iff] at h
      obtain ⟨m, h1, h2⟩ := h
      subst h2
      rw [bls_map h1]; rfl
    | _ => simp [Py.bls] at h

/-! ### tables of code objects -/
/-- the law's tables, each with the name that its code objects bear -/
class Tb where
  T : List (Addr × Str)
variable [tb : Tb]
def NT (o : HO) : Prop := ∀ ps, o ≠ .tbl ps
/-- no table -/
def NTs (G : Hp) : Prop := ∀ a o, G a = some o → NT o
theorem NTs.upd {G : Hp} {p : Addr} {o : HO} (h : NTs G) (n : NT o) : NTs (L2.upd G p o) := fun a u e => by
  by_cases q : a = p
  · rw [q, upd_same] at e; cases e; exact n
  · rw [upd_ne q] at e; exact h a u e
/-- nothing, or a table -/
def Fsh (H : Hp) (a : Addr) : Prop := ∀ o, H a = some o → ¬ NT o
theorem Fsh.of {H : Hp} {a : Addr} (h : H a = none) : Fsh H a := fun o e => by rw [h] at e; cases e
theorem Fsh.no {H : Hp} {a : Addr} {o : HO} (h : Fsh H a) (e : H a = some o) (n : NT o) : False := h o e n
def Tk (H H' : Hp) : Prop := LamX.Tabs Tb.T H → LamX.Tabs Tb.T H'
theorem Tk.refl (H : Hp) : Tk H H := fun h => h
theorem Tk.trans {H H1 H2 : Hp} (a : Tk H H1) (b : Tk H1 H2) : Tk H H2 := fun h => b (a h)
theorem Tk.of {H H' : Hp} (s : Sub H H') : Tk H H' := fun h => h.ext s
/-- a thing that is no table and no code object is changed -/
theorem Tk.upd {H : Hp} {p : Addr} {o u : HO} (h : H p = some u) (hu : NT u) (hc : ∀ φ, u ≠ .ext φ) : Tk H (L2.upd H p o) := by
  intro t q hq
  obtain ⟨ps, h1, h2, h3⟩ := t q hq
  refine ⟨ps, by rw [upd_ne (fun z => by rw [z, h] at h1; exact hu ps (Option.some.inj h1))]; exact h1, h2, fun pos cv e => ?_⟩
  obtain ⟨c, e1, e2⟩ := h3 pos cv e
  refine ⟨c, e1, ?_⟩
  rw [upd_ne (fun z => by rw [z, h] at e2; exact hc _ (Option.some.inj e2))]
  exact e2
theorem IsTO.nt {o : HO} {xs : List V} (h : IsTO o xs) : NT o := by
  obtain ⟨ob, rfl, _⟩ := h
  exact fun _ z => nomatch z
theorem setO_nt (w : World) (a : Addr) (S : Int → Bool) (n : Nat) : NT (SetO w a S n) := fun _ z => by unfold SetO at z; cases z
/-! ### growth: new things alone -/
structure Grow (G H G' H' : Hp) : Prop where
  gs : Sub G G'
  hs : ∀ a o, H a = some o → NT o → H' a = some o
  fr : ∀ a o, G' a = some o → G a = none → Fsh H a
  gh : Sub G' H'
  tk : Tk H H'
  nt : NTs G → NTs G'
theorem Grow.refl (s : Sub G H) : Grow G H G H := ⟨.refl _, fun _ _ h _ => h, fun a o h n => (by rw [n] at h; cases h), s, .refl _, id⟩
theorem Grow.trans {G1 H1 : Hp} (a : Grow G H G1 H1) (b : Grow G1 H1 G' H') : Grow G H G' H' where
  gs := a.gs.trans b.gs
  hs := fun x o h n => b.hs x o (a.hs x o h n) n
  tk := a.tk.trans b.tk
  nt := fun h => b.nt (a.nt h)
  gh := b.gh
  fr := fun x o h n => by
    cases e : G1 x with
    | none => exact fun u hu nu => b.fr x o h e u (a.hs x u hu nu) nu
    | some u => exact a.fr x u e n
theorem Grow.upd {p : Addr} {o : HO} (s : Sub G H) (h : H p = none) (n : NT o) : Grow G H (L2.upd G p o) (L2.upd H p o) where
  gs := Sub.upd (s.none h)
  nt := fun z => z.upd n
  hs := fun a u e _ => Sub.upd h a u e
  tk := .of (Sub.upd h)
  fr := fun a u e n => by
    by_cases q : a = p
    · rw [q]; exact .of h
    · rw [upd_ne q] at e; rw [e] at n; cases n
  gh := fun a u e => by
    by_cases q : a = p
    · rw [q, upd_same] at e ⊢; exact e
    · rw [upd_ne q] at e ⊢; exact s _ _ e
/-- a new thing that isn't kept -/
theorem Grow.waste {p : Addr} {o : HO} (s : Sub G H) (h : H p = none) : Grow G H G (L2.upd H p o) :=
  ⟨.refl _, fun a u e _ => Sub.upd h a u e, fun a u e n => (by rw [n] at e; cases e), s.trans (Sub.upd h), .of (Sub.upd h), id⟩

/-! ### what belongs to a name -/
def Cont (K : Fg) (w : World) (G H : Hp) (p : Addr) : D → Prop
  | .lst ds => ∃ xs, H p = some (.lst xs) ∧ Reps K w G xs ds
  | .dic ks ds => ∃ ns xs, ks = ns.map D.int ∧ ns.length = xs.length ∧ H p = some (.dK (dkv ns xs)) ∧ Reps K w G xs ds
  | _ => False
theorem Cont.sub {p : Addr} {d : D} (a : Sub G G') (b : ∀ o, H p = some o → NT o → H' p = some o) (c : Cont K w G H p d) : Cont K w G' H' p d := by
  cases d with
  | lst ds => obtain ⟨xs, h, r⟩ := c; exact ⟨xs, b _ h (fun _ z => nomatch z), r.sub a⟩
  | dic ks ds => obtain ⟨ns, xs, e, l, h, r⟩ := c; exact ⟨ns, xs, e, l, b _ h (fun _ z => nomatch z), r.sub a⟩
  | _ => exact c.elim
theorem Cont.there {p : Addr} {d : D} (c : Cont K w G H p d) : ∃ o, H p = some o ∧ NT o ∧ ∀ φ, o ≠ .ext φ := by
  cases d with
  | lst ds => obtain ⟨xs, h, r⟩ := c; exact ⟨_, h, (fun _ z => nomatch z), fun _ z => nomatch z⟩
  | dic ks ds => obtain ⟨ns, xs, e, l, h, r⟩ := c; exact ⟨_, h, (fun _ z => nomatch z), fun _ z => nomatch z⟩
  | _ => exact c.elim
/-- kept for good -/
theorem Cont.freeze {p : Addr} {d : D} (s : Sub G H) (n : G p = none) (c : Cont K w G H p d) : ∃ o, H p = some o ∧ Sub G (L2.upd G p o) ∧ Sub (L2.upd G p o) H ∧ Rep K w (L2.upd G p o) (.ref p) d := by
  cases d with
  | lst ds =>
    obtain ⟨xs, h, r⟩ := c
    refine ⟨_, h, Sub.upd n, fun a o e => ?_, .lst upd_same (r.sub (Sub.upd n))⟩
    by_cases q : a = p
    · rw [q, upd_same] at e; rw [q, h]; exact e
    · rw [upd_ne q] at e; exact s _ _ e
  | dic ks ds =>
    obtain ⟨ns, xs, rfl, l, h, r⟩ := c
    refine ⟨_, h, Sub.upd n, fun a o e => ?_, .dic upd_same l (r.sub (Sub.upd n))⟩
    by_cases q : a = p
    · rw [q, upd_same] at e; rw [q, h]; exact e
    · rw [upd_ne q] at e; exact s _ _ e
  | _ => exact c.elim
def RepB (K : Fg) (w : World) (G H : Hp) (v : V) (d : D) : Prop := Rep K w G v d ∨ ∃ p, v = .ref p ∧ G p = none ∧ Cont K w G H p d

def Slot.cont : Slot → Option D
  | .own d => some d
  | .io d => some d
  | _ => none
def SlotOk (K : Fg) (w : World) (G H : Hp) (v : Option (Option V)) : Slot → Prop
  | .no => True
  | .imm d => ∃ x, v = some (some x) ∧ Rep K w G x d
  | .own d => ∃ p, v = some (some (.ref p)) ∧ G p = none ∧ Cont K w G H p d
  | .io d => ∃ p, v = some (some (.ref p)) ∧ G p = none ∧ Cont K w G H p d
/-- p is what a name of env alone has -/
def Ow (σ : Sg) (env : Env) (p : Addr) : Prop := ∃ (i : Nat) (s : Slot), env[i]? = some s ∧ s.cont ≠ none ∧ σ[i]? = some (some (.ref p))
structure EOk (K : Fg) (w : World) (G H : Hp) (σ : Sg) (env : Env) : Prop where
  sub : Sub G H
  len : env.length = σ.length
  slot : ∀ (i : Nat) (s : Slot), env[i]? = some s → SlotOk K w G H σ[i]? s
  apart : ∀ (i j : Nat) (s t : Slot) (p : Addr), env[i]? = some s → env[j]? = some t → s.cont ≠ none → t.cont ≠ none → σ[i]? = some (some (.ref p)) → σ[j]? = some (some (.ref p)) → i = j
  tabs : LamX.Tabs Tb.T H
  ntb : NTs G

variable {σ σ' : Sg} {env env' : Env}
theorem EOk.ow (e : EOk K w G H σ env) {p : Addr} (o : Ow σ env p) : G p = none ∧ ∃ u, H p = some u ∧ NT u ∧ ∀ φ, u ≠ .ext φ := by
  obtain ⟨i, s, h1, h2, h3⟩ := o
  have q := e.slot i s h1
  cases s with
  | no => exact (h2 rfl).elim
  | imm d => exact (h2 rfl).elim
  | own d =>
    obtain ⟨p', e1, e2, e3⟩ := q
    rw [h3] at e1; cases e1
    exact ⟨e2, e3.there⟩
  | io d =>
    obtain ⟨p', e1, e2, e3⟩ := q
    rw [h3] at e1; cases e1
    exact ⟨e2, e3.there⟩
theorem SlotOk.sub {v : Option (Option V)} {s : Slot} (a : Sub G G') (n : ∀ p, v = some (some (.ref p)) → s.cont ≠ none → G' p = none ∧ ∀ o, H p = some o → NT o → H' p = some o) (q : SlotOk K w G H v s) : SlotOk K w G' H' v s := by
  cases s with
  | no => trivial
  | imm d => obtain ⟨x, e, r⟩ := q; exact ⟨x, e, r.sub a⟩
  | own d =>
    obtain ⟨p, e, g, c⟩ := q
    have z := n p e (by intro h; cases h)
    exact ⟨p, e, z.1, c.sub a z.2⟩
  | io d =>
    obtain ⟨p, e, g, c⟩ := q
    have z := n p e (by intro h; cases h)
    exact ⟨p, e, z.1, c.sub a z.2⟩
theorem EOk.grow (e : EOk K w G H σ env) (g : Grow G H G' H') : EOk K w G' H' σ env := by
  refine ⟨g.gh, e.len, fun i s h => (e.slot i s h).sub g.gs fun p hp hc => ?_, e.apart, g.tk e.tabs, g.nt e.ntb⟩
  obtain ⟨z, u, hu, nu, _⟩ := e.ow ⟨i, s, h, hc, hp⟩
  refine ⟨?_, fun o ho => g.hs _ _ ho⟩
  cases q : G' p with
  | none => rfl
  | some x => exact ((g.fr p x q z).no hu nu).elim

/-- from one state to a later one -/
structure Go (G H : Hp) (σ : Sg) (env : Env) (G' H' : Hp) (σ' : Sg) (env' : Env) : Prop where
  gs : Sub G G'
  hs : ∀ a o, H a = some o → ¬ Ow σ env a → NT o → H' a = some o
  fr : ∀ a o, G' a = some o → G a = none → Fsh H a ∨ Ow σ env a
  ow : ∀ a, Ow σ' env' a → Ow σ env a ∨ Fsh H a
  io : ∀ (i : Nat) (d : D), env'[i]? = some (.io d) → (∃ d0, env[i]? = some (.io d0)) ∧ σ'[i]? = σ[i]?
  tk : Tk H H'
theorem Go.refl : Go G H σ env G H σ env := ⟨.refl _, fun _ _ h _ _ => h, fun a o h n => (by rw [n] at h; cases h), fun _ h => .inl h, fun i d h => ⟨⟨d, h⟩, rfl⟩, .refl _⟩
theorem Go.back (go : Go G H σ env G' H' σ' env') {a : Addr} (h : Fsh H' a) : Fsh H a ∨ Ow σ env a := by
  by_cases q : Ow σ env a
  · exact .inr q
  · exact .inl fun u hu nu => h u (go.hs a u hu q nu) nu
theorem Go.trans {G1 H1 : Hp} {σ1 : Sg} {env1 : Env} (a : Go G H σ env G1 H1 σ1 env1) (b : Go G1 H1 σ1 env1 G' H' σ' env') : Go G H σ env G' H' σ' env' where
  gs := a.gs.trans b.gs
  tk := a.tk.trans b.tk
  hs := fun x o h n nt => by
    refine b.hs x o (a.hs x o h n nt) (fun q => ?_) nt
    rcases a.ow x q with z | z
    · exact n z
    · exact z.no h nt
  fr := fun x o h n => by
    cases e : G1 x with
    | some u => exact a.fr x u e n
    | none =>
      rcases b.fr x o h e with z | z
      · exact a.back z
      · exact (a.ow x z).symm
  ow := fun x q => by
    rcases b.ow x q with z | z
    · exact a.ow x z
    · exact (a.back z).symm
  io := fun i d h => by
    obtain ⟨⟨d1, h1⟩, e1⟩ := b.io i d h
    obtain ⟨h2, e2⟩ := a.io i d1 h1
    exact ⟨h2, e1.trans e2⟩
theorem Go.grow (g : Grow G H G' H') : Go G H σ env G' H' σ env :=
  ⟨g.gs, fun a o h _ => g.hs a o h, fun a o h n => .inl (g.fr a o h n), fun _ h => .inl h, fun i d h => ⟨⟨d, h⟩, rfl⟩, g.tk⟩
end
end Py
end
section
set_option linter.all false
set_option maxRecDepth 100000
set_option maxHeartbeats 1000000
/-! PySnd2: what the environment's operations do to a state. -/
namespace Py
open PySem PySem.Spec PyProof.Rows L2
variable [tb : Tb]
section
variable {K : Fg} {w : World} {G G' H H' : Hp} {σ σ' : Sg} {env env' : Env}

theorem gset {α : Type} {l : List α} {i j : Nat} {a : α} : (l.set i a)[j]? = if i = j then (if i < l.length then some a else none) else l[j]? := by
  rw [List.getElem?_set]

theorem EOk.lt (e : EOk K w G H σ env) {i : Nat} {s : Slot} (h : env[i]? = some s) : i < σ.length := by
  rw [← e.len]; exact (List.getElem?_eq_some_iff.mp h).1
theorem EOk.rd (e : EOk K w G H σ env) {i : Nat} {d : D} (h : rd env i = .ok d) : ∃ v, σ[i]? = some (some v) ∧ RepB K w G H v d := by
  unfold Py.rd at h
  split at h
  · rename_i q
    cases h
    obtain ⟨v, e1, e2⟩ := e.slot _ _ q
    exact ⟨v, e1, .inl e2⟩
  · rename_i q
    cases h
    obtain ⟨p, e1, e2, e3⟩ := e.slot _ _ q
    exact ⟨_, e1, .inr ⟨p, rfl, e2, e3⟩⟩
  · rename_i q
    cases h
    obtain ⟨p, e1, e2, e3⟩ := e.slot _ _ q
    exact ⟨_, e1, .inr ⟨p, rfl, e2, e3⟩⟩
  · cases h

/-- a name's own thing is kept for good -/
theorem EOk.freeze (e : EOk K w G H σ env) {i : Nat} {d : D} (h : env[i]? = some (.own d)) :
    ∃ G' v, σ[i]? = some (some v) ∧ EOk K w G' H σ (env.set i (.imm d)) ∧ Go G H σ env G' H σ (env.set i (.imm d)) ∧ Rep K w G' v d := by
  obtain ⟨p, e1, e2, e3⟩ := e.slot _ _ h
  obtain ⟨o, h1, h2, h3, h4⟩ := e3.freeze e.sub e2
  have hi : i < env.length := (List.getElem?_eq_some_iff.mp h).1
  refine ⟨L2.upd G p o, .ref p, e1, ⟨h3, by rw [List.length_set]; exact e.len, fun j s hj => ?_, fun j k s t q hj hk hs ht a b => ?_, e.tabs, e.ntb.upd (by obtain ⟨u, q1, q2, _⟩ := e3.there; rw [h1] at q1; cases q1; exact q2)⟩, ⟨h2, fun a o h _ _ => h, fun a u hu n => ?_, fun a q => ?_, fun j d' hj => ?_, .refl _⟩, h4⟩
  · rw [gset] at hj
    split at hj
    · rename_i q
      subst q
      try rw [if_pos hi] at hj
      cases hj
      exact ⟨_, e1, h4⟩
    · rename_i q
      refine (e.slot j s hj).sub h2 fun p' hp hc => ⟨?_, fun _ x _ => x⟩
      have ne : p' ≠ p := fun z => q (e.apart i j (.own d) s p h hj (by intro z; cases z) hc e1 (by rw [← z]; exact hp))
      rw [upd_ne ne]
      exact (e.ow ⟨j, s, hj, hc, hp⟩).1
  · have back : ∀ (j : Nat) (s : Slot), (env.set i (.imm d))[j]? = some s → s.cont ≠ none → env[j]? = some s := fun j s hj hc => by
      rw [gset] at hj
      split at hj
      · try rw [if_pos hi] at hj
        cases hj
        exact (hc rfl).elim
      · exact hj
    exact e.apart j k s t q (back j s hj hs) (back k t hk ht) hs ht a b
  · by_cases q : a = p
    · exact .inr ⟨i, .own d, h, (by intro z; cases z), by rw [q]; exact e1⟩
    · rw [upd_ne q] at hu; rw [hu] at n; cases n
  · obtain ⟨j, s, hj, hc, hp⟩ := q
    rw [gset] at hj
    split at hj
    · try rw [if_pos hi] at hj
      cases hj
      exact (hc rfl).elim
    · exact .inl ⟨j, s, hj, hc, hp⟩
  · rw [gset] at hj
    split at hj
    · try rw [if_pos hi] at hj
      cases hj
    · exact ⟨⟨_, hj⟩, rfl⟩

/-- a content is changed in place -/
theorem EOk.put (e : EOk K w G H σ env) {i : Nat} {d : D} (h : put env i d = .ok env') :
    ∃ p, σ[i]? = some (some (.ref p)) ∧ G p = none ∧ Ow σ env p ∧ ∀ o, Cont K w G (L2.upd H p o) p d → EOk K w G (L2.upd H p o) σ env' ∧ Go G H σ env G (L2.upd H p o) σ env' := by
  have key : ∃ s0 s1 : Slot, env[i]? = some s0 ∧ env' = env.set i s1 ∧ s0.cont ≠ none ∧ s1.cont = some d ∧ (∀ d', s1 = .io d' → ∃ d0, s0 = .io d0) := by
    unfold Py.put at h
    split at h
    · rename_i q
      cases h
      exact ⟨_, _, q, rfl, (by intro z; cases z), rfl, fun d' z => by cases z⟩
    · rename_i d0 q
      cases h
      exact ⟨_, _, q, rfl, (by intro z; cases z), rfl, fun d' z => ⟨d0, rfl⟩⟩
    · cases h
  obtain ⟨s0, s1, h0, rfl, c0, c1, hio⟩ := key
  have hi : i < env.length := (List.getElem?_eq_some_iff.mp h0).1
  have own : ∃ p, σ[i]? = some (some (.ref p)) ∧ G p = none := by
    have q := e.slot i s0 h0
    cases s0 with
    | no => exact (c0 rfl).elim
    | imm _ => exact (c0 rfl).elim
    | own _ => obtain ⟨p, a, b, _⟩ := q; exact ⟨p, a, b⟩
    | io _ => obtain ⟨p, a, b, _⟩ := q; exact ⟨p, a, b⟩
  obtain ⟨p, hp, hg⟩ := own
  have hO : Ow σ env p := ⟨i, s0, h0, c0, hp⟩
  refine ⟨p, hp, hg, hO, fun o c => ?_⟩
  have sub : Sub G (L2.upd H p o) := fun a u hu => by
    have ne : a ≠ p := fun z => by rw [z, hg] at hu; cases hu
    rw [upd_ne ne]; exact e.sub _ _ hu
  have tk : Tk H (L2.upd H p o) := by obtain ⟨u, h1, h2, h3⟩ := (e.ow hO).2; exact .upd h1 h2 h3
  refine ⟨⟨sub, by rw [List.length_set]; exact e.len, fun j s hj => ?_, fun j k s t q hj hk hs ht a b => ?_, tk e.tabs, e.ntb⟩, ⟨.refl _, fun a u hu n _ => ?_, fun a u hu n => (by rw [hu] at n; cases n), fun a q => ?_, fun j d' hj => ?_, tk⟩⟩
  · rw [gset] at hj
    split at hj
    · rename_i q
      subst q
      try rw [if_pos hi] at hj
      cases hj
      cases s1 with
      | no => cases c1
      | imm _ => cases c1
      | own x => cases c1; exact ⟨p, hp, hg, c⟩
      | io x => cases c1; exact ⟨p, hp, hg, c⟩
    · rename_i q
      refine (e.slot j s hj).sub (.refl _) fun p' hp' hc => ⟨(e.ow ⟨j, s, hj, hc, hp'⟩).1, fun u hu _ => ?_⟩
      have ne : p' ≠ p := fun z => q (e.apart i j s0 s p h0 hj c0 hc hp (by rw [← z]; exact hp'))
      rw [upd_ne ne]; exact hu
  · have back : ∀ (j : Nat) (s : Slot), (env.set i s1)[j]? = some s → s.cont ≠ none → ∃ s', env[j]? = some s' ∧ s'.cont ≠ none := fun j s hj hc => by
      rw [gset] at hj
      split at hj
      · rename_i q
        subst q
        exact ⟨s0, h0, c0⟩
      · exact ⟨s, hj, hc⟩
    obtain ⟨s', a1, a2⟩ := back j s hj hs
    obtain ⟨t', b1, b2⟩ := back k t hk ht
    exact e.apart j k s' t' q a1 b1 a2 b2 a b
  · have ne : a ≠ p := fun z => n (by rw [z]; exact hO)
    rw [upd_ne ne]; exact hu
  · obtain ⟨j, s, hj, hc, hq⟩ := q
    rw [gset] at hj
    split at hj
    · rename_i z
      subst z
      exact .inl ⟨_, s0, h0, c0, hq⟩
    · exact .inl ⟨j, s, hj, hc, hq⟩
  · rw [gset] at hj
    split at hj
    · rename_i z
      subst z
      try rw [if_pos hi] at hj
      cases hj
      obtain ⟨d0, hd⟩ := hio d' rfl
      exact ⟨⟨d0, by rw [h0, hd]⟩, rfl⟩
    · exact ⟨⟨_, hj⟩, rfl⟩

theorem sto_ok {i : Nat} {s : Slot} (h : sto env i s = .ok env') : ∃ s0, env[i]? = some s0 ∧ (∀ d, s0 ≠ .io d) ∧ env' = env.set i s := by
  unfold sto at h
  split at h
  · cases h
  · rename_i s0 hn q
    cases h
    exact ⟨s0, q, fun d z => hn d (by first | rw [z] | rw [q, z]), rfl⟩
  · cases h
/-- a name is stored: a value -/
theorem EOk.sto (e : EOk K w G H σ env) {i : Nat} {d : D} {v : V} (h : sto env i (.imm d) = .ok env') (r : Rep K w G v d) :
    EOk K w G H (σ.set i (some v)) env' ∧ Go G H σ env G H (σ.set i (some v)) env' := by
  obtain ⟨s0, h0, hn, rfl⟩ := sto_ok h
  have hi : i < env.length := (List.getElem?_eq_some_iff.mp h0).1
  have hi' : i < σ.length := e.lt h0
  have back : ∀ (j : Nat) (s : Slot) (p : Addr), (env.set i (.imm d))[j]? = some s → s.cont ≠ none → (σ.set i (some v))[j]? = some (some (.ref p)) → env[j]? = some s ∧ σ[j]? = some (some (.ref p)) := fun j s p hj hc hp => by
    rw [gset] at hj hp
    split at hj
    · try rw [if_pos hi] at hj
      cases hj
      exact (hc rfl).elim
    · rename_i q
      rw [if_neg q] at hp
      exact ⟨hj, hp⟩
  refine ⟨⟨e.sub, by rw [List.length_set, List.length_set]; exact e.len, fun j s hj => ?_, fun j k s t q hj hk hs ht a b => ?_, e.tabs, e.ntb⟩, ⟨.refl _, fun a o h _ _ => h, fun a o hu n => (by rw [hu] at n; cases n), fun a q => ?_, fun j d' hj => ?_, .refl _⟩⟩
  · rw [gset] at hj ⊢
    split at hj
    · rename_i q
      try rw [if_pos hi] at hj
      cases hj
      rw [if_pos q, if_pos hi']
      exact ⟨v, rfl, r⟩
    · rename_i q
      rw [if_neg q]
      exact e.slot j s hj
  · obtain ⟨a1, a2⟩ := back j s q hj hs a
    obtain ⟨b1, b2⟩ := back k t q hk ht b
    exact e.apart j k s t q a1 b1 hs ht a2 b2
  · obtain ⟨j, s, hj, hc, hp⟩ := q
    obtain ⟨a1, a2⟩ := back j s a hj hc hp
    exact .inl ⟨j, s, a1, hc, a2⟩
  · rw [gset] at hj ⊢
    split at hj
    · try rw [if_pos hi] at hj
      cases hj
    · rename_i q
      rw [if_neg q]
      exact ⟨⟨_, hj⟩, rfl⟩
/-- .. a thing of its own, that is new -/
theorem EOk.stoO (e : EOk K w G H σ env) {i : Nat} {d : D} {p : Addr} {o : HO} (h : Py.sto env i (.own d) = .ok env') (hp : H p = none) (c : Cont K w G (L2.upd H p o) p d) :
    EOk K w G (L2.upd H p o) (σ.set i (some (.ref p))) env' ∧ Go G H σ env G (L2.upd H p o) (σ.set i (some (.ref p))) env' := by
  obtain ⟨s0, h0, hn, rfl⟩ := sto_ok h
  have hi : i < env.length := (List.getElem?_eq_some_iff.mp h0).1
  have hi' : i < σ.length := e.lt h0
  have gr : Grow G H G (L2.upd H p o) := .waste e.sub hp
  have e2 := e.grow gr
  have hg : G p = none := e.sub.none hp
  have nop : ∀ (j : Nat) (s : Slot), env[j]? = some s → s.cont ≠ none → σ[j]? ≠ some (some (.ref p)) := fun j s hj hc q => by
    obtain ⟨u, hu, _⟩ := (e.ow ⟨j, s, hj, hc, q⟩).2
    rw [hp] at hu; cases hu
  have back : ∀ (j : Nat) (s : Slot) (q : Addr), (env.set i (.own d))[j]? = some s → s.cont ≠ none → (σ.set i (some (.ref p)))[j]? = some (some (.ref q)) → (i = j ∧ q = p) ∨ (i ≠ j ∧ q ≠ p ∧ env[j]? = some s ∧ σ[j]? = some (some (.ref q))) := fun j s q hj hc hq => by
    rw [gset] at hj hq
    by_cases z : i = j
    · rw [if_pos z, if_pos hi'] at hq
      cases hq
      exact .inl ⟨z, rfl⟩
    · rw [if_neg z] at hj hq
      exact .inr ⟨z, fun y => nop j s hj hc (by rw [← y]; exact hq), hj, hq⟩
  refine ⟨⟨gr.gh, by rw [List.length_set, List.length_set]; exact e.len, fun j s hj => ?_, fun j k s t q hj hk hs ht a b => ?_, gr.tk e.tabs, gr.nt e.ntb⟩, ⟨.refl _, fun a u hu _ nt => gr.hs _ _ hu nt, fun a u hu n => (by rw [hu] at n; cases n), fun a q => ?_, fun j d' hj => ?_, gr.tk⟩⟩
  · rw [gset] at hj ⊢
    split at hj
    · rename_i q
      try rw [if_pos hi] at hj
      cases hj
      rw [if_pos q, if_pos hi']
      exact ⟨p, rfl, hg, c⟩
    · rename_i q
      rw [if_neg q]
      exact e2.slot j s hj
  · rcases back j s q hj hs a with ⟨a1, a2⟩ | ⟨a1, a2, a3, a4⟩
    · rcases back k t q hk ht b with ⟨b1, b2⟩ | ⟨b1, b2, b3, b4⟩
      · exact a1.symm.trans b1
      · exact (b2 a2).elim
    · rcases back k t q hk ht b with ⟨b1, b2⟩ | ⟨b1, b2, b3, b4⟩
      · exact (a2 b2).elim
      · exact e.apart j k s t q a3 b3 hs ht a4 b4
  · obtain ⟨j, s, hj, hc, hq⟩ := q
    rcases back j s a hj hc hq with ⟨a1, a2⟩ | ⟨a1, a2, a3, a4⟩
    · exact .inr (by rw [a2]; exact .of hp)
    · exact .inl ⟨j, s, a3, hc, a4⟩
  · rw [gset] at hj ⊢
    split at hj
    · try rw [if_pos hi] at hj
      cases hj
    · rename_i q
      rw [if_neg q]
      exact ⟨⟨_, hj⟩, rfl⟩

/-! ### blocks -/
theorem wipe_at {i : Nat} : ∀ {vs : List Nat} {σ : Sg}, (wipe σ vs)[i]? = if i ∈ vs then (if i < σ.length then some none else none) else σ[i]?
  | [], σ => by simp [wipe]
  | v :: vs, σ => by
    unfold wipe
    rw [gset, wipe_length, wipe_at (vs := vs)]
    by_cases h : v = i
    · subst h; simp
    · have h' : ¬ i = v := fun z => h z.symm
      simp [h, h']
theorem wipeE_length : ∀ {vs : List Nat} {env : Env}, (wipeE env vs).length = env.length
  | [], _ => rfl
  | v :: vs, env => by unfold wipeE; rw [List.length_set, wipeE_length]
theorem wipeE_at {i : Nat} : ∀ {vs : List Nat} {env : Env}, (wipeE env vs)[i]? = if i ∈ vs then (if i < env.length then some .no else none) else env[i]?
  | [], env => by simp [wipeE]
  | v :: vs, env => by
    unfold wipeE
    rw [gset, wipeE_length, wipeE_at (vs := vs)]
    by_cases h : v = i
    · subst h; simp
    · have h' : ¬ i = v := fun z => h z.symm
      simp [h, h']
theorem back_length : ∀ {vs : List Nat} {e0 e1 : Env}, (back e0 e1 vs).length = e1.length
  | [], _, _ => rfl
  | v :: vs, e0, e1 => by unfold back; rw [List.length_set, back_length]
theorem back_at {i : Nat} : ∀ {vs : List Nat} {e0 e1 : Env}, (back e0 e1 vs)[i]? = if i ∈ vs then (if i < e1.length then some (e0.getD i .no) else none) else e1[i]?
  | [], _, _ => by simp [back]
  | v :: vs, e0, e1 => by
    unfold back
    rw [gset, back_length, back_at (vs := vs)]
    by_cases h : v = i
    · subst h; simp
    · have h' : ¬ i = v := fun z => h z.symm
      simp [h, h']
theorem EOk.wipe (e : EOk K w G H σ env) (vs : List Nat) : EOk K w G H (L2.wipe σ vs) (wipeE env vs) := by
  have at1 : ∀ (i : Nat) (s : Slot), (wipeE env vs)[i]? = some s → s = .no ∨ (i ∉ vs ∧ env[i]? = some s ∧ (L2.wipe σ vs)[i]? = σ[i]?) := fun i s h => by
    rw [wipeE_at] at h
    split at h
    · split at h
      · cases h; exact .inl rfl
      · cases h
    · rename_i q
      exact .inr ⟨q, h, by rw [wipe_at, if_neg q]⟩
  refine ⟨e.sub, by rw [wipeE_length, wipe_length]; exact e.len, fun i s h => ?_, fun i j s t p hi hj hs ht a b => ?_, e.tabs, e.ntb⟩
  · rcases at1 i s h with rfl | ⟨_, h1, h2⟩
    · trivial
    · rw [h2]; exact e.slot i s h1
  · rcases at1 i s hi with rfl | ⟨_, h1, h2⟩
    · exact (hs rfl).elim
    · rcases at1 j t hj with rfl | ⟨_, h3, h4⟩
      · exact (ht rfl).elim
      · rw [h2] at a; rw [h4] at b
        exact e.apart i j s t p h1 h3 hs ht a b
theorem Go.wipe (vs : List Nat) (e : EOk K w G H σ env) : Go G H σ env G H (L2.wipe σ vs) (wipeE env vs) := by
  refine ⟨.refl _, fun _ _ h _ _ => h, fun a o h n => (by rw [h] at n; cases n), fun a q => ?_, fun i d h => ?_, .refl _⟩
  · obtain ⟨i, s, hi, hc, hp⟩ := q
    rw [wipeE_at] at hi
    rw [wipe_at] at hp
    split at hi
    · split at hi
      · cases hi; exact (hc rfl).elim
      · cases hi
    · rename_i z
      rw [if_neg z] at hp
      exact .inl ⟨i, s, hi, hc, hp⟩
  · rw [wipeE_at] at h
    split at h
    · split at h
      · cases h
      · cases h
    · rename_i z
      exact ⟨⟨d, h⟩, by rw [wipe_at, if_neg z]⟩
/-- what a block has of the names around it -/
theorem ow_wipe {vs : List Nat} {p : Addr} (q : Ow (L2.wipe σ vs) (wipeE env vs) p) : ∃ (i : Nat) (s : Slot), i ∉ vs ∧ env[i]? = some s ∧ s.cont ≠ none ∧ σ[i]? = some (some (.ref p)) := by
  obtain ⟨i, s, hi, hc, hp⟩ := q
  rw [wipeE_at] at hi
  rw [wipe_at] at hp
  split at hi
  · split at hi
    · cases hi; exact (hc rfl).elim
    · cases hi
  · rename_i z
    rw [if_neg z] at hp
    exact ⟨i, s, z, hi, hc, hp⟩
/-- behind a block: the names around it again -/
theorem EOk.back {e1 : Env} {vs : List Nat} (e : EOk K w G H σ env) (b : EOk K w G' H' (L2.wipe σ vs) e1) (g : Go G H (L2.wipe σ vs) (wipeE env vs) G' H' (L2.wipe σ vs) e1) :
    EOk K w G' H' σ (back env e1 vs) ∧ Go G H σ env G' H' σ (Py.back env e1 vs) := by
  have len1 : e1.length = env.length := by rw [b.len, wipe_length, e.len]
  have at1 : ∀ (i : Nat) (s : Slot), (Py.back env e1 vs)[i]? = some s → (i ∈ vs ∧ env[i]? = some s) ∨ (i ∉ vs ∧ e1[i]? = some s ∧ (L2.wipe σ vs)[i]? = σ[i]?) := fun i s h => by
    rw [back_at] at h
    split at h
    · rename_i q
      split at h
      · rename_i hl
        cases h
        refine .inl ⟨q, ?_⟩
        rw [len1] at hl
        rw [List.getD_eq_getElem?_getD, List.getElem?_eq_getElem hl]
        rfl
      · cases h
    · rename_i q
      exact .inr ⟨q, h, by rw [wipe_at, if_neg q]⟩
  -- what is hidden stays
  have hid : ∀ (i : Nat) (s : Slot) (p : Addr), i ∈ vs → env[i]? = some s → s.cont ≠ none → σ[i]? = some (some (.ref p)) → ¬ Ow (L2.wipe σ vs) (wipeE env vs) p := fun i s p hv hi hc hp q => by
    obtain ⟨j, t, hj, h1, h2, h3⟩ := ow_wipe q
    exact hj (e.apart i j s t p hi h1 hc h2 hp h3 ▸ hv)
  refine ⟨⟨b.sub, by rw [back_length, len1, e.len], fun i s h => ?_, fun i j s t p hi hj hs ht x y => ?_, b.tabs, b.ntb⟩, ⟨g.gs, fun a o h n nt => g.hs a o h (fun q => ?_) nt, fun a o h n => ?_, fun a q => ?_, fun i d h => ?_, g.tk⟩⟩
  · rcases at1 i s h with ⟨hv, h1⟩ | ⟨_, h1, h2⟩
    · refine (e.slot i s h1).sub g.gs fun p hp hc => ?_
      have nq := hid i s p hv h1 hc hp
      obtain ⟨z, u, hu, nu, _⟩ := e.ow ⟨i, s, h1, hc, hp⟩
      refine ⟨?_, fun o ho => g.hs p o ho nq⟩
      cases y : G' p with
      | none => rfl
      | some x =>
        rcases g.fr p x y z with k | k
        · exact (k.no hu nu).elim
        · exact (nq k).elim
    · rw [← h2]; exact b.slot i s h1
  · have cross : ∀ (i j : Nat) (s t : Slot), i ∈ vs → env[i]? = some s → s.cont ≠ none → σ[i]? = some (some (.ref p)) → j ∉ vs → e1[j]? = some t → t.cont ≠ none → (L2.wipe σ vs)[j]? = some (some (.ref p)) → False := fun i j s t hv h1 hc hp _ h2 hd hq => by
      rcases g.ow p ⟨j, t, h2, hd, hq⟩ with k | k
      · exact hid i s p hv h1 hc hp k
      · obtain ⟨u, hu, nu, _⟩ := (e.ow ⟨i, s, h1, hc, hp⟩).2
        exact k.no hu nu
    rcases at1 i s hi with ⟨v1, a1⟩ | ⟨v1, a1, a2⟩
    · rcases at1 j t hj with ⟨v2, b1⟩ | ⟨v2, b1, b2⟩
      · exact e.apart i j s t p a1 b1 hs ht x y
      · exact (cross i j s t v1 a1 hs x v2 b1 ht (by rw [b2]; exact y)).elim
    · rcases at1 j t hj with ⟨v2, b1⟩ | ⟨v2, b1, b2⟩
      · exact (cross j i t s v2 b1 ht y v1 a1 hs (by rw [a2]; exact x)).elim
      · exact b.apart i j s t p a1 b1 hs ht (by rw [a2]; exact x) (by rw [b2]; exact y)
  · obtain ⟨j, t, _, h1, h2, h3⟩ := ow_wipe q
    exact n ⟨j, t, h1, h2, h3⟩
  · rcases g.fr a o h n with k | k
    · exact .inl k
    · obtain ⟨j, t, _, h1, h2, h3⟩ := ow_wipe k
      exact .inr ⟨j, t, h1, h2, h3⟩
  · obtain ⟨i, s, hi, hc, hp⟩ := q
    rcases at1 i s hi with ⟨v1, a1⟩ | ⟨v1, a1, a2⟩
    · exact .inl ⟨i, s, a1, hc, hp⟩
    · rcases g.ow a ⟨i, s, a1, hc, by rw [a2]; exact hp⟩ with k | k
      · obtain ⟨j, t, _, h1, h2, h3⟩ := ow_wipe k
        exact .inl ⟨j, t, h1, h2, h3⟩
      · exact .inr k
  · rcases at1 i _ h with ⟨v1, a1⟩ | ⟨v1, a1, a2⟩
    · exact ⟨⟨d, a1⟩, rfl⟩
    · obtain ⟨⟨d0, h0⟩, _⟩ := g.io i d a1
      rw [wipeE_at, if_neg v1] at h0
      exact ⟨⟨d0, h0⟩, rfl⟩
end
end Py
end
section
set_option linter.all false
set_option maxRecDepth 100000
set_option maxHeartbeats 1000000
/-! PySnd3: readings by the evaluator; operations. -/
namespace Py
open PySem PySem.Spec PyProof.Rows L2
variable [tb : Tb]

/-- a wish about exceptions: the class by its number, its one argument -/
abbrev WN := Nat → D → Sg → Hp → Prop
structure Fr (H : Hp) (σ : Sg) (env : Env) (H' : Hp) : Prop where
  hs : ∀ a o, H a = some o → ¬ Ow σ env a → NT o → H' a = some o
  tk : Tk H H'
/-- what is asked of a run's end -/
def K1 {α : Type} (WO : WN) (H : Hp) (σ : Sg) (env : Env) (r : R α) (P : α → Prop) : Prop := match r with
  | .ok x => P x
  | .exc c d => ∀ H', Fr H σ env H' → WO c d σ H'
  | .bad => False
section
variable {K : Fg} {w : World} {G G' G1 H H' H1 : Hp} {σ σ' : Sg} {env env' env1 : Env} {WO : WN} {α β : Type}
theorem Go.fr' (g : Go G H σ env G' H' σ' env') : ∀ {H2 : Hp}, Fr H' σ' env' H2 → Fr H σ env H2 := fun {H2} f => ⟨fun a o h n nt => by
  refine f.hs a o (g.hs a o h n nt) (fun q => ?_) nt
  rcases g.ow a q with z | z
  · exact n z
  · exact z.no h nt, g.tk.trans f.tk⟩
theorem K1.bind {r : R α} {f : α → R β} {P : β → Prop} (h : K1 WO H σ env (r.bind f) P) : K1 WO H σ env r fun x => K1 WO H σ env (f x) P := by
  cases r with
  | ok x => exact h
  | exc c d => exact h
  | bad => exact h
theorem K1.mono {r : R α} {P P' : α → Prop} (h : K1 WO H σ env r P) (f : ∀ x, r = .ok x → P x → P' x) : K1 WO H σ env r P' := by
  cases r with
  | ok x => exact f x rfl h
  | exc c d => exact h
  | bad => exact h
theorem K1.go {r : R α} {P : α → Prop} (h : K1 WO H σ env r P) (g : Go G H σ env G' H' σ env') : K1 WO H' σ env' r P := by
  cases r with
  | ok x => exact h
  | exc c d => exact fun H2 f => h H2 (g.fr' f)
  | bad => exact h
theorem K1.ok {r : R α} {P : α → Prop} (h : K1 WO H σ env r P) (n : ∀ c d, r ≠ .exc c d) : ∃ x, r = .ok x ∧ P x := by
  cases r with
  | ok x => exact ⟨x, rfl, h⟩
  | exc c d => exact (n c d rfl).elim
  | bad => exact h.elim

/-- the readings: G and env are what is known where it begins -/
def tE (K : Fg) (w : World) (WO : WN) (rf : Env → R (D × Env)) : TE := fun σ H Q => ∃ G env, EOk K w G H σ env ∧ K1 WO H σ env (rf env) fun x =>
  ∀ v G' H', Go G H σ env G' H' σ x.2 → EOk K w G' H' σ x.2 → Rep K w G' v x.1 → Q v H'
def tB (K : Fg) (w : World) (WO : WN) (rf : Env → R (D × Env)) : TE := fun σ H Q => ∃ G env, EOk K w G H σ env ∧ K1 WO H σ env (rf env) fun x =>
  ∀ v G' H', Go G H σ env G' H' σ x.2 → EOk K w G' H' σ x.2 → RepB K w G' H' v x.1 → Q v H'
/-- a new thing: a list or a dict -/
def New (K : Fg) (w : World) (G H : Hp) (z : D) (v : V) (H' : Hp) : Prop := ∃ p o, v = .ref p ∧ H p = none ∧ H' = upd H p o ∧ Cont K w G (upd H p o) p z
def tO (K : Fg) (w : World) (WO : WN) (rf : Env → R (D × Env)) : TE := fun σ H Q => ∃ G env, EOk K w G H σ env ∧ K1 WO H σ env (rf env) fun x =>
  isCont x.1 = true ∧ ∀ v G' H' H2, Go G H σ env G' H' σ x.2 → EOk K w G' H' σ x.2 → New K w G' H' x.1 v H2 → Q v H2
def tA (K : Fg) (w : World) (WO : WN) (rf : Env → R (D × Env)) : TA := fun σ H Q => ∃ G env, EOk K w G H σ env ∧ K1 WO H σ env (rf env) fun x =>
  ∃ ds, x.1 = .lst ds ∧ ∀ vs G' H', Go G H σ env G' H' σ x.2 → EOk K w G' H' σ x.2 → Reps K w G' vs ds → Q vs H'
def tT (K : Fg) (w : World) (WO : WN) (rf : Env → R (D × Env)) : TT := fun σ H Q => ∃ G env, EOk K w G H σ env ∧ K1 WO H σ env ((rf env).bind bool) fun x =>
  ∀ G' H', Go G H σ env G' H' σ x.2 → EOk K w G' H' σ x.2 → Q x.1 H'

theorem New.grow {z : D} {v : V} (s : Sub G H) (n : New K w G H z v H') : ∃ G', Grow G H G' H' ∧ Rep K w G' v z := by
  obtain ⟨p, o, rfl, hp, rfl, c⟩ := n
  obtain ⟨o', e1, e2, e3, e4⟩ := c.freeze (s.trans (Sub.upd hp)) (s.none hp)
  rw [upd_same] at e1
  cases e1
  exact ⟨upd G p o, .upd s hp (by obtain ⟨u, q1, q2, _⟩ := c.there; rw [upd_same] at q1; cases q1; exact q2), e4⟩
end

section
variable {X : Cx} {WO : WN} {e : Expr} {rf : Env → R (D × Env)}
theorem peW {t t' : TE} (h : PE X e t) (f : ∀ σ H Q, t' σ H Q → t σ H Q) : PE X e t' := ⟨fun pins s σ H Q I q => h.run pins s σ H Q I (f σ H Q q)⟩
theorem ptW {t t' : TT} (h : PT X e t) (f : ∀ σ H Q, t' σ H Q → t σ H Q) : PT X e t' := ⟨fun pins s σ H Q I q => h.run pins s σ H Q I (f σ H Q q)⟩
theorem paW {es : List Expr} {t t' : TA} (h : PA X es t) (f : ∀ σ H Q, t' σ H Q → t σ H Q) : PA X es t' := ⟨fun p pins s σ H Q I q => h.run p pins s σ H Q I (f σ H Q q)⟩
theorem peB (h : PE X e (tE X.K X.w WO rf)) : PE X e (tB X.K X.w WO rf) := peW h fun σ H Q ⟨G, env, ok, k⟩ => ⟨G, env, ok, k.mono fun x _ f v G' H' a b c => f v G' H' a b (.inl c)⟩
/-- what is new may be kept for good -/
theorem toO {σ : Sg} {H : Hp} {Q : VK} {G : Hp} {env : Env} (ok : EOk X.K X.w G H σ env)
    (k : K1 WO H σ env (rf env) fun x => isCont x.1 = true ∧ ∀ v G' H', Go G H σ env G' H' σ x.2 → EOk X.K X.w G' H' σ x.2 → Rep X.K X.w G' v x.1 → Q v H') : tO X.K X.w WO rf σ H Q :=
  ⟨G, env, ok, k.mono fun x _ ⟨c, f⟩ => ⟨c, fun v G' H' H2 a b n => by
    obtain ⟨G2, g, r⟩ := n.grow b.sub
    exact f v G2 H2 (a.trans (.grow g)) (b.grow g) r⟩⟩
end

/-! ### two-place operations, by values -/
/-- what an operation hands on: a value that is kept -/
def Out (K : Fg) (w : World) (G H : Hp) (z : D) (Q : VK) : Prop := ∀ v G' H', Grow G H G' H' → Rep K w G' v z → Q v H'
def OutO (K : Fg) (w : World) (G H : Hp) (z : D) (Q : VK) : Prop := ∀ v H', New K w G H z v H' → Q v H'
/-- r serves f: its wants hold where f has an answer -/
def Op2 (K : Fg) (w : World) (f : D → D → R D) (r : R2) : Prop := ∀ (G H : Hp) (x y : V) (a b z : D) (Q : VK), Sub G H → RepB K w G H x a → RepB K w G H y b → f a b = .ok z →
  (if isCont z = true then OutO K w G H z Q else Out K w G H z Q) → r x y H Q
/-- the test's answer -/
def Op2B (K : Fg) (w : World) (f : D → D → R Bool) (r : R2) : Prop := ∀ (G H : Hp) (x y : V) (a b : D) (z : Bool) (Q : VK), Sub G H → RepB K w G H x a → RepB K w G H y b → f a b = .ok z → Q (.bl z) H → r x y H Q
section
variable {K : Fg} {w : World} {G G' H H' : Hp}
theorem RepB.int_ {v : V} {i : Int} (r : RepB K w G H v (.int i)) : v = .int i := by
  rcases r with r | ⟨p, _, _, c⟩
  · cases r; rfl
  · exact c.elim
theorem RepB.bl_ {v : V} {i : Bool} (r : RepB K w G H v (.bl i)) : v = .bl i := by
  rcases r with r | ⟨p, _, _, c⟩
  · cases r; rfl
  · exact c.elim
theorem RepB.non_ {v : V} (r : RepB K w G H v .non) : v = .non := by
  rcases r with r | ⟨p, _, _, c⟩
  · cases r; rfl
  · exact c.elim
theorem RepB.str_ {v : V} {s : List Nat} (r : RepB K w G H v (.str s)) : v = .str (sS s) ∧ s.length ≤ SZ := by
  rcases r with r | ⟨p, _, _, c⟩
  · cases r; rename_i h; exact ⟨rfl, h⟩
  · exact c.elim
theorem RepB.tup_ {v : V} {ds : List D} (s : Sub G H) (r : RepB K w G H v (.tup ds)) : ∃ a xs, v = .ref a ∧ TupO H a xs ∧ Reps K w G xs ds ∧ TupO G a xs := by
  rcases r with r | ⟨p, _, _, c⟩
  · cases r
    rename_i h r
    exact ⟨_, _, rfl, TupO.sub s h, r, h⟩
  · exact c.elim
theorem RepB.lst_ {v : V} {ds : List D} (s : Sub G H) (r : RepB K w G H v (.lst ds)) : ∃ a xs, v = .ref a ∧ H a = some (.lst xs) ∧ Reps K w G xs ds := by
  rcases r with r | ⟨p, rfl, _, c⟩
  · cases r
    rename_i h r
    exact ⟨_, _, rfl, s _ _ h, r⟩
  · obtain ⟨xs, h, r⟩ := c
    exact ⟨p, xs, rfl, h, r⟩
theorem newL {p : Addr} {xs : List V} {ds : List D} (hp : H p = none) (r : Reps K w G xs ds) : New K w G H (.lst ds) (.ref p) (upd H p (.lst xs)) := ⟨p, _, rfl, hp, rfl, xs, upd_same, r⟩
theorem outI {Q : VK} {i : Int} (s : Sub G H) (o : Out K w G H (.int i) Q) : Q (.int i) H := o _ _ _ (.refl s) (.int i)
theorem outT {Q : VK} {ds : List D} {xs : List V} {p : Addr} {u : HO} (s : Sub G H) (o : Out K w G H (.tup ds) Q) (hp : H p = none) (hu : IsTO u xs) (r : Reps K w G xs ds) : Q (.ref p) (upd H p u) :=
  o _ (upd G p u) _ (.upd s hp hu.nt) (.tup (.new hu) (r.sub (Sub.upd (s.none hp))))
theorem SZ_line : SZ = sizeLine := sizeLine_eq.symm
theorem line_of {n : Nat} (h : n ≤ SZ) : n ≤ sizeLine := by rw [← SZ_line]; exact h

/-! ### trees as the library's data -/
mutual
def toP : D → PyData
  | .non => .none
  | .bl b => .bool b
  | .int i => .int i
  | .str s => .str (sS s)
  | .tup xs => .tuple (toPs xs)
  | .lst xs => .list (toPs xs)
  | _ => .none
def toPs : List D → List PyData
  | [] => []
  | x :: xs => toP x :: toPs xs
end
theorem toPs_map : ∀ xs : List D, toPs xs = xs.map toP
  | [] => rfl
  | x :: xs => by rw [toPs, toPs_map xs]; rfl
mutual
theorem Rep.dp (s : Sub G H) : ∀ {d : D} {v : V} {n : Nat}, shal n d = true → Rep K w G v d → Dp K H v (toP d)
  | _, _, _, _, .non => .non
  | _, _, _, _, .bl b => .bl b
  | _, _, _, _, .int i => .int i
  | _, _, _, _, .str x h => .str _
  | _, _, n + 1, h, .tup a r => .tup (TupO.sqt (TupO.sub s a)) (Reps.dp s (by simpa [shal] using h) r)
  | _, _, n + 1, h, .lst a r => .lst (.of (s _ _ a)) (Reps.dp s (by simpa [shal] using h) r)
  | _, _, 0, h, .tup a r => by simp [shal] at h
  | _, _, 0, h, .lst a r => by simp [shal] at h
  | _, _, n, h, .set a r => by cases n <;> simp [shal] at h
  | _, _, n, h, .fz a => by cases n <;> simp [shal] at h
  | _, _, n, h, .dic a _ _ => by cases n <;> simp [shal] at h
theorem Reps.dp (s : Sub G H) : ∀ {ds : List D} {vs : List V} {n : Nat}, (∀ d ∈ ds, shal n d = true) → Reps K w G vs ds → DpAll K H vs (toPs ds)
  | _, _, _, _, .nil => .nil
  | _, _, _, h, .cons a b => .cons (Rep.dp s (h _ List.mem_cons_self) a) (Reps.dp s (fun d hd => h d (List.mem_cons_of_mem _ hd)) b)
end
theorem RepB.dp {v : V} {d : D} {n : Nat} (s : Sub G H) (h : shal n d = true) (r : RepB K w G H v d) : Dp K H v (toP d) := by
  rcases r with r | ⟨p, rfl, _, c⟩
  · exact r.dp s h
  · cases d with
    | lst ds =>
      obtain ⟨xs, a, q⟩ := c
      cases n with
      | zero => simp [shal] at h
      | succ n => exact .lst (.of a) (q.dp s (by simpa [shal] using h))
    | dic ks ds => cases n <;> simp [shal] at h
    | _ => exact c.elim
end
end Py
end
section
set_option linter.all false
set_option maxRecDepth 100000
set_option maxHeartbeats 1000000
/-! PySnd4: operators. -/
namespace Py
open PySem PySem.Spec PyProof.Rows L2
variable [tb : Tb]

theorem shal_strOk {s : List Nat} (h : (s.all fun c => decide (c < 128)) = true) : PySem.PyData.strOk (sS s) = true := by
  have h' : ∀ c ∈ s, c < 128 := by simpa using h
  unfold PySem.PyData.strOk sS
  simp only [Array.all_toList.symm, List.all_eq_true] at *
  intro c hc
  have := h' c (by simpa using hc)
  simp
  omega
theorem sS_beq (xs ys : List Nat) : (sS xs == sS ys) = decide (xs = ys) := by
  by_cases h : xs = ys
  · subst h; simp
  · have h' : ¬ sS xs = sS ys := fun e => h (by
      have e2 := congrArg (fun z : Str => z.cps.toList) e
      simpa [sS] using e2)
    rw [decide_eq_false h]
    exact beq_eq_false_iff_ne.mpr h'
mutual
theorem shal_lay : ∀ (n : Nat) (d : D), shal n d = true → (toP d).canLay0 = true ∧ (toP d).depth ≤ n
  | n, .non, _ => by cases n <;> simp [toP, PyData.canLay0, PyData.depth]
  | n, .bl b, _ => by cases n <;> simp [toP, PyData.canLay0, PyData.depth]
  | n, .int b, _ => by cases n <;> simp [toP, PyData.canLay0, PyData.depth]
  | n, .str s, h => by
    have h' : (s.all fun c => decide (c < 128)) = true := by cases n <;> exact h
    have := shal_strOk h'
    constructor
    · simpa [toP, PyData.canLay0] using this
    · simp [toP, PyData.depth]
  | 0, .tup xs, h => by simp [shal] at h
  | 0, .lst xs, h => by simp [shal] at h
  | n + 1, .tup xs, h => by
    have := shal_lays n xs (by simpa [shal] using h)
    simp only [toP, PyData.canLay0, PyData.depth]
    exact ⟨this.1, by omega⟩
  | n + 1, .lst xs, h => by
    have := shal_lays n xs (by simpa [shal] using h)
    simp only [toP, PyData.canLay0, PyData.depth]
    exact ⟨this.1, by omega⟩
  | n, .set xs, h => by cases n <;> simp [shal] at h
  | n, .dic ks vs, h => by cases n <;> simp [shal] at h
  | n, .fz xs, h => by cases n <;> simp [shal] at h
theorem shal_lays : ∀ (n : Nat) (ds : List D), (∀ d ∈ ds, shal n d = true) → PyData.canLayAll0 (toPs ds) = true ∧ PyData.depthAll (toPs ds) ≤ n
  | n, [], _ => by simp [toPs, PyData.canLayAll0, PyData.depthAll]
  | n, d :: ds, h => by
    have h1 := shal_lay n d (h d List.mem_cons_self)
    have h2 := shal_lays n ds fun e he => h e (List.mem_cons_of_mem _ he)
    simp only [toPs, PyData.canLayAll0, PyData.depthAll, h1.1, h2.1, Bool.and_self, true_and]
    exact Nat.max_le.mpr ⟨h1.2, h2.2⟩
end
theorem shaped_of {d : D} (h : shal DEEP d = true) : SeqAt.shaped (toP d) = true := by
  have := shal_lay DEEP d h
  unfold SeqAt.shaped
  rw [this.1, Bool.true_and]
  exact decide_eq_true (by have := this.2; unfold DEEP at this; omega)
mutual
theorem eqv_eqD : ∀ (n m : Nat) (a b : D), shal n a = true → shal m b = true → PyData.eqv (toP a) (toP b) = eqD a b
  | n, m, a, b, ha, hb => by
    cases a <;> cases b <;> first
      | (cases n <;> cases m <;> simp [shal] at ha hb; done)
      | rfl
      | (simp only [toP, PyData.eqv, eqD]; done)
      | (simp only [toP, PyData.eqv, eqD]; exact sS_beq _ _)
      | (simp only [toP, PyData.eqv, eqD]; rename_i x y; exact Bool.beq_eq_decide_eq x y)
      | (simp only [toP, PyData.eqv, eqD]; rename_i x y; cases x <;> rfl)
      | (simp only [toP, PyData.eqv, eqD]; rename_i x y; cases y <;> rfl)
      | (rename_i xs ys; simp only [toP, PyData.eqv, eqD]
         cases n with
         | zero => simp [shal] at ha
         | succ n =>
           cases m with
           | zero => simp [shal] at hb
           | succ m => exact eqvs_eqD n m xs ys (by simpa [shal] using ha) (by simpa [shal] using hb))
theorem eqvs_eqD : ∀ (n m : Nat) (as bs : List D), (∀ d ∈ as, shal n d = true) → (∀ d ∈ bs, shal m d = true) → PyData.eqvAll (toPs as) (toPs bs) = eqDs as bs
  | _, _, [], [], _, _ => rfl
  | _, _, [], _ :: _, _, _ => rfl
  | _, _, _ :: _, [], _, _ => rfl
  | n, m, a :: as, b :: bs, ha, hb => by
    simp only [toPs, PyData.eqvAll, eqDs]
    rw [eqv_eqD n m a b (ha a List.mem_cons_self) (hb b List.mem_cons_self), eqvs_eqD n m as bs (fun d hd => ha d (List.mem_cons_of_mem _ hd)) fun d hd => hb d (List.mem_cons_of_mem _ hd)]
end

/-! ### dicts -/
section
variable {K : Fg} {w : World} {G H : Hp}
theorem RepB.dic_ {v : V} {ks ds : List D} (s : Sub G H) (r : RepB K w G H v (.dic ks ds)) : ∃ p ns xs, v = .ref p ∧ ks = ns.map D.int ∧ ns.length = xs.length ∧ H p = some (.dK (dkv ns xs)) ∧ Reps K w G xs ds := by
  rcases r with r | ⟨p, rfl, _, c⟩
  · generalize hk : D.dic ks ds = z at r
    cases r <;> cases hk
    rename_i a ns xs h l r
    exact ⟨a, ns, xs, rfl, rfl, l, s _ _ h, r⟩
  · obtain ⟨ns, xs, e, l, h, r⟩ := c
    exact ⟨p, ns, xs, rfl, e, l, h, r⟩
theorem dkv_len : ∀ {ns : List Int} {xs : List V}, ns.length = xs.length → (dkv ns xs).length = ns.length
  | [], _, _ => rfl
  | _ :: _, [], h => by cases h
  | n :: ns, x :: xs, h => congrArg Nat.succ (dkv_len (by simpa using h))
theorem dkv_none {i : Int} : ∀ {ns : List Int} {xs : List V}, ns.length = xs.length → hasI i (ns.map D.int) = false → valV (dkv ns xs) (.inl i) = none
  | [], _, _, _ => rfl
  | _ :: _, [], h, _ => by cases h
  | n :: ns, x :: xs, h, e => by
    simp only [List.map_cons, hasI] at e
    split at e
    · cases e
    · rename_i q
      show valV ((Sum.inl n, x) :: dkv ns xs) (.inl i) = none
      rw [valV_neg (p := (Sum.inl n, x)) (fun z => q (Sum.inl.inj z))]
      exact dkv_none (by simpa using h) e
theorem dkv_look {i : Int} {d : D} : ∀ {ns : List Int} {xs : List V} {ds : List D}, ns.length = xs.length → Reps K w G xs ds → lookI i (ns.map D.int) ds = some d → ∃ v, valV (dkv ns xs) (.inl i) = some v ∧ Rep K w G v d
  | [], _, _, _, _, e => by cases e
  | _ :: _, [], _, h, _, _ => by cases h
  | n :: ns, x :: xs, _, h, .cons a b, e => by
    simp only [List.map_cons, lookI] at e
    split at e
    · rename_i q
      cases e
      exact ⟨x, valV_pos (p := (Sum.inl n, x)) (by rw [q]), a⟩
    · rename_i q
      obtain ⟨v, h1, h2⟩ := dkv_look (by simpa using h) b e
      exact ⟨v, (valV_neg (p := (Sum.inl n, x)) (fun z => q (Sum.inl.inj z))).trans h1, h2⟩
theorem dkv_has {i : Int} : ∀ {ns : List Int} {xs : List V}, ns.length = xs.length → (valV (dkv ns xs) (.inl i)).isSome = hasI i (ns.map D.int)
  | [], _, _ => rfl
  | _ :: _, [], h => by cases h
  | n :: ns, x :: xs, h => by
    simp only [List.map_cons, hasI]
    split
    · rename_i q
      show (valV ((Sum.inl n, x) :: dkv ns xs) (.inl i)).isSome = true
      rw [valV_pos (p := (Sum.inl n, x)) (by rw [q])]; rfl
    · rename_i q
      show (valV ((Sum.inl n, x) :: dkv ns xs) (.inl i)).isSome = _
      rw [valV_neg (p := (Sum.inl n, x)) (fun z => q (Sum.inl.inj z))]
      exact dkv_has (by simpa using h)
theorem dkv_set {i : Int} {v : V} {d : D} (r : Rep K w G v d) : ∀ {ns : List Int} {xs : List V} {ds : List D}, ns.length = xs.length → Reps K w G xs ds →
    ∃ xs', ((dkv ns xs).map fun kv => if kv.1 = Sum.inl i then (kv.1, v) else kv) = dkv ns xs' ∧ ns.length = xs'.length ∧ Reps K w G xs' (setI i d (ns.map D.int) ds)
  | [], [], _, _, .nil => ⟨[], rfl, rfl, .nil⟩
  | [], _ :: _, _, h, _ => by cases h
  | _ :: _, [], _, h, _ => by cases h
  | n :: ns, x :: xs, _, h, .cons a b => by
    obtain ⟨ys, h1, h2, h3⟩ := dkv_set r (by simpa using h) b
    by_cases q : n = i
    · refine ⟨v :: ys, ?_, by simpa using h2, ?_⟩
      · show _ :: _ = _ :: _
        rw [h1]; show (if (Sum.inl n : Key) = Sum.inl i then _ else _) :: _ = _; rw [if_pos (by rw [q])]
      · simp only [List.map_cons, setI]
        rw [if_pos q]; exact .cons r h3
    · refine ⟨x :: ys, ?_, by simpa using h2, ?_⟩
      · show _ :: _ = _ :: _
        rw [h1]; show (if (Sum.inl n : Key) = Sum.inl i then _ else _) :: _ = _; rw [if_neg (fun z => q (Sum.inl.inj z))]
      · simp only [List.map_cons, setI]
        rw [if_neg q]; exact .cons a h3
theorem dkv_app {i : Int} {v : V} : ∀ {ns : List Int} {xs : List V}, ns.length = xs.length → dkv ns xs ++ [(Sum.inl i, v)] = dkv (ns ++ [i]) (xs ++ [v])
  | [], [], _ => rfl
  | [], _ :: _, h => by cases h
  | _ :: _, [], h => by cases h
  | n :: ns, x :: xs, h => congrArg _ (dkv_app (by simpa using h))
/-- one pair put -/
theorem dkv_put {i : Int} {v : V} {d : D} (r : Rep K w G v d) {ns : List Int} {xs : List V} {ds : List D} (l : ns.length = xs.length) (rs : Reps K w G xs ds) :
    ∃ ns' xs', putK (dkv ns xs) (.inl i) v = dkv ns' xs' ∧ ns'.length = xs'.length ∧ keysI i (ns.map D.int) = ns'.map D.int ∧ Reps K w G xs' (valsI i d (ns.map D.int) ds) := by
  unfold putK keysI valsI
  rw [valV_any, dkv_has l]
  by_cases h : hasI i (ns.map D.int) = true
  · simp only [if_pos h]
    obtain ⟨ys, h1, h2, h3⟩ := dkv_set r l rs (i := i)
    exact ⟨ns, ys, h1, h2, rfl, h3⟩
  · simp only [if_neg h]
    exact ⟨ns ++ [i], xs ++ [v], dkv_app l, by simp [l], by simp, rs.append (.cons r .nil)⟩
theorem keysI_len {i : Int} {ks : List D} : (keysI i ks).length ≤ ks.length + 1 := by
  unfold keysI; split <;> simp
/-- many pairs put -/
theorem dkv_merge : ∀ {ps : List (Int × D)} {vs : List V} {ns : List Int} {xs : List V} {ds : List D}, Reps K w G vs (ps.map (·.2)) → ns.length = xs.length → Reps K w G xs ds →
    ∃ ns' xs', mergeK (dkv ns xs) (dkv (ps.map (·.1)) vs) = dkv ns' xs' ∧ ns'.length = xs'.length ∧ (mergeI ps (ns.map D.int) ds).1 = ns'.map D.int ∧ Reps K w G xs' (mergeI ps (ns.map D.int) ds).2
  | [], vs, ns, xs, ds, r, l, rs => by cases r; exact ⟨ns, xs, rfl, l, rfl, rs⟩
  | (i, d) :: ps, vs, ns, xs, ds, r, l, rs => by
    cases r with
    | cons a b =>
      obtain ⟨ns1, xs1, h1, h2, h3, h4⟩ := dkv_put a l rs (i := i)
      obtain ⟨ns2, xs2, g1, g2, g3, g4⟩ := dkv_merge b h2 h4
      refine ⟨ns2, xs2, ?_, g2, ?_, ?_⟩
      · show mergeK (putK (dkv ns xs) (.inl i) _) _ = _
        rw [h1]; exact g1
      · show (mergeI ps (keysI i (ns.map D.int)) (valsI i d (ns.map D.int) ds)).1 = _
        rw [h3]; exact g3
      · show Reps K w G xs2 (mergeI ps (keysI i (ns.map D.int)) (valsI i d (ns.map D.int) ds)).2
        rw [h3]; exact g4
theorem newD {p : Addr} {ns : List Int} {xs : List V} {ks ds : List D} (hp : H p = none) (e : ks = ns.map D.int) (l : ns.length = xs.length) (r : Reps K w G xs ds) : New K w G H (.dic ks ds) (.ref p) (upd H p (.dK (dkv ns xs))) := ⟨p, _, rfl, hp, rfl, ns, xs, e, l, upd_same, r⟩
end
end Py
end
section
set_option linter.all false
set_option maxRecDepth 100000
set_option maxHeartbeats 1000000
/-! PySnd5: operators, comparisons, subscripts by values. -/
namespace Py
open PySem PySem.Spec PyProof.Rows L2
variable [tb : Tb]

/-! ### tuple * int -/
theorem mul_same (l : Addr) (items : Array Value) (n : Nat) (dd : Option Addr) (sl : Array (Option Value)) (x : Int) (u : Tok) (c0 : (decide (x < -(2 ^ 63)) || decide (x ≥ 2 ^ 63)) = false) (c1 : (items.isEmpty || x == 1) = true) :
    Meets (Builtin.«tuple.__mul__» ⟨[.ref l, .int x u], []⟩) (fun _ R s => s.heap.get? l = some { cls := .type "tuple", dict := dd, data := .seq items n, slots := sl } ∧ R (.ok (.ret (Value.ref l))) s) :=
  .of_wp fun prog w A R s h => by
    obtain ⟨hp, g, d, tk, os⟩ := s
    obtain ⟨hl, h⟩ := h
    have f1 := AutoSeq1.idx_int
    wp_walk using wpAny_loadPart' hl
    repeat (first
      | (refine wpAny_ite_false (decide_eq_false (by rw [c0]; exact Bool.false_ne_true)) ?_; wp_walk using wpAny_loadPart' hl)
      | (refine wpAny_ite_true (decide_eq_true c1) ?_; wp_walk using wpAny_loadPart' hl))
    all_goals first
      | exact ⟨_, rfl, h⟩
      | skip
section
variable {X : Cx}
def rSame (K : Fg) : R2 := fun x y H Q => ∃ l k xs, x = .ref l ∧ y = .int k ∧ SqT K H l xs ∧ (xs = [] ∨ k = 1) ∧ 1 ≤ k ∧ k ≤ 1000 ∧ Q (.ref l) H
theorem op_same : OpR X (binaryOp .Mult) (rSame X.K) := by
  intro pins s σ H x y v u Q I rx ry h
  obtain ⟨l, k, xs, rfl, rfl, hT, hk, k1, k2, q⟩ := h
  cases rx
  obtain ⟨t, rfl⟩ := ry
  obtain ⟨its, r, ⟨⟨cls, dd, data, sl⟩, ho, hc, n, hd⟩, hs⟩ := I.tuple hT
  simp only at hc hd
  subst hc hd
  have c0 : (decide (k < -(2 ^ 63)) || decide (k ≥ 2 ^ 63)) = false := by
    rw [decide_eq_false (by omega), decide_eq_false (by omega)] <;> rfl
  have c1 : (its.toArray.isEmpty || k == 1) = true := by
    rcases hk with e | e
    · subst e
      cases r
      rfl
    · subst e; simp
  exact wpAny_binaryOp_repeat_ref (U := "int") (T := "tuple") (by decide) ⟨_, ho, rfl⟩ (fun s' => typeIs_int s' k t) noFill_tuple_mul F.fills_int_mul F.slot_int_rmul repeat_tuple F.slot_int_index.lookup
    (call_meets F.slot_int_rmul (typeIs_int s k t) F.entry_int_rmul (F.args_int_rmul_2 _ _) (int_rmul_tuple k t l its.toArray n dd sl)
      ⟨ho, rfl, ⟨_, ho, rfl⟩, call_meets F.slot_tuple_mul ⟨_, ho, rfl⟩ F.entry_tuple_mul (F.args_tuple_mul_2 _ _) (mul_same l its.toArray n dd sl k t c0 c1) ⟨ho, ⟨.ref l, H, I, rfl, q⟩⟩⟩)

/-! ### the operators -/
def rAdd (K : Fg) : R2 := fun x y H Q => rI0 (fun i j => .int (i + j)) x y H Q ∨ (∃ i j, x = .str i ∧ y = .str j ∧ i.length + j.length ≤ sizeLine ∧ Q (.str (i ++ j)) H) ∨ rCatF K x y H Q ∨ rCat x y H Q
theorem or_add : OpR X (binaryOp .Add) (rAdd X.K) := op_add.or (op_add_str.or (op_catF.or op_cat))
def rMul (K : Fg) : R2 := fun x y H Q => rI CMul (fun i j => .int (i * j)) x y H Q ∨ rSame K x y H Q ∨ rRepF K x y H Q ∨ rRep x y H Q
theorem or_mul : OpR X (binaryOp .Mult) (rMul X.K) := op_mul.or (op_same.or (op_repF.or op_rep))
theorem sS_len (a : List Nat) : (sS a).length = a.length := by simp [sS, Str.length]
theorem sS_app (a b : List Nat) : sS (a ++ b) = sS a ++ sS b := by
  show (⟨(a ++ b).toArray⟩ : Str) = ⟨a.toArray ++ b.toArray⟩
  simp
end
section
variable {K : Fg} {w : World}
theorem outN {G H : Hp} {z : D} {Q : VK} (h : isCont z = false) (o : if isCont z = true then OutO K w G H z Q else Out K w G H z Q) : Out K w G H z Q := by
  rw [h] at o; exact o
theorem outC {G H : Hp} {z : D} {Q : VK} (h : isCont z = true) (o : if isCont z = true then OutO K w G H z Q else Out K w G H z Q) : OutO K w G H z Q := by
  rw [h] at o; exact o
theorem o2_add : Op2 K w addD (rAdd K) := by
  intro G H x y a b z Q s rx ry h o
  cases a <;> cases b <;> simp only [addD] at h <;> try cases h
  · replace o := outN rfl o
    exact .inl ⟨_, _, rx.int_, ry.int_, outI s o⟩
  · split at h <;> cases h
    rename_i hl
    replace o := outN rfl o
    obtain ⟨rfl, l1⟩ := rx.str_
    obtain ⟨rfl, l2⟩ := ry.str_
    refine .inr (.inl ⟨_, _, rfl, rfl, by rw [sS_len, sS_len]; exact line_of hl, ?_⟩)
    rw [← sS_app]
    exact o _ _ _ (.refl s) (.str _ (by simpa using hl))
  · split at h <;> cases h
    rename_i hl
    replace o := outN rfl o
    obtain ⟨p, xs, rfl, h1, r1, g1⟩ := rx.tup_ s
    obtain ⟨q, ys, rfl, h2, r2, g2⟩ := ry.tup_ s
    refine .inr (.inr (.inl ⟨p, q, xs, ys, rfl, rfl, h1.sqt, h2.sqt, by rw [r1.length, r2.length]; exact line_of hl, fun e => ?_, fun _ e => ?_, fun _ _ t u ht hu => outT s o ht hu (r1.append r2)⟩))
    · subst e
      cases r1
      exact o _ _ _ (.refl s) (.tup g2 r2)
    · subst e
      cases r2
      rw [List.append_nil] at o
      exact o _ _ _ (.refl s) (.tup g1 r1)
  · split at h <;> cases h
    rename_i hl
    replace o := outC rfl o
    obtain ⟨p, xs, rfl, h1, r1⟩ := rx.lst_ s
    obtain ⟨q, ys, rfl, h2, r2⟩ := ry.lst_ s
    exact .inr (.inr (.inr ⟨p, q, xs, ys, rfl, rfl, h1, h2, by rw [r1.length, r2.length]; exact line_of hl, fun t ht => o _ _ (newL ht (r1.append r2))⟩))
theorem o2_sub : Op2 K w subD (rI0 fun i j => .int (i - j)) := by
  intro G H x y a b z Q s rx ry h o
  cases a <;> cases b <;> simp only [subD] at h <;> try cases h
  replace o := outN rfl o
  exact ⟨_, _, rx.int_, ry.int_, outI s o⟩
theorem o2_mul : Op2 K w mulD (rMul K) := by
  intro G H x y a b z Q s rx ry h o
  cases a <;> cases b <;> simp only [mulD] at h <;> try cases h
  · split at h <;> cases h
    rename_i hb
    replace o := outN rfl o
    refine .inl ⟨_, _, rx.int_, ry.int_, ?_, outI s o⟩
    simp only [small, Bool.or_eq_true, decide_eq_true_eq] at hb
    exact hb
  · split at h <;> cases h
    rename_i k hb
    obtain ⟨k1, k2, k3⟩ := hb
    replace o := outN rfl o
    obtain ⟨p, xs, rfl, h1, r1, g1⟩ := rx.tup_ s
    have ey := ry.int_
    by_cases hs : xs = [] ∨ k = 1
    · refine .inr (.inl ⟨p, k, xs, rfl, ey, h1.sqt, hs, k1, k2, ?_⟩)
      refine o _ _ _ (.refl s) ?_
      rcases hs with e | e
      · subst e
        cases r1
        have e2 : repL [] k = [] := by unfold repL; simp
        rw [e2]
        exact .tup g1 .nil
      · subst e
        have e2 : ∀ l : List D, repL l 1 = l := fun l => by unfold repL; simp
        rw [e2]
        exact .tup g1 r1
    · have hn : xs ≠ [] := fun e => hs (.inl e)
      have hk : k ≠ 1 := fun e => hs (.inr e)
      exact .inr (.inr (.inl ⟨p, k, xs, rfl, ey, h1.sqt, hn, by omega, k2, by rw [r1.length]; exact k3, fun t u ht hu => outT s o ht hu (r1.rep _)⟩))
  · split at h <;> cases h
    rename_i k hb
    obtain ⟨k1, k2, k3⟩ := hb
    replace o := outC rfl o
    obtain ⟨p, xs, rfl, h1, r1⟩ := rx.lst_ s
    exact .inr (.inr (.inr ⟨p, k, xs, rfl, ry.int_, h1, k1, k2, by rw [r1.length]; exact line_of k3, fun t ht => o _ _ (newL ht (r1.rep _))⟩))
theorem o2_div : Op2 K w divD (rI CDiv fun i j => .int (i / j)) := by
  intro G H x y a b z Q s rx ry h o
  cases a <;> cases b <;> simp only [divD] at h <;> try cases h
  split at h <;> cases h
  rename_i hb
  replace o := outN rfl o
  exact ⟨_, _, rx.int_, ry.int_, hb, outI s o⟩
theorem o2_mod : Op2 K w modD (rI (fun _ j => 0 < j) fun i j => .int (i % j)) := by
  intro G H x y a b z Q s rx ry h o
  cases a <;> cases b <;> simp only [modD] at h <;> try cases h
  split at h <;> cases h
  rename_i hb
  replace o := outN rfl o
  exact ⟨_, _, rx.int_, ry.int_, hb, outI s o⟩
theorem o2_pow : Op2 K w powD (rI CPow fun i j => .int (i ^ j.toNat)) := by
  intro G H x y a b z Q s rx ry h o
  cases a <;> cases b <;> simp only [powD] at h <;> try cases h
  split at h <;> cases h
  rename_i hb
  replace o := outN rfl o
  exact ⟨_, _, rx.int_, ry.int_, hb, outI s o⟩

/-! ### comparisons -/
theorem o2_eq : Op2B K w eqR (rEqD K) := by
  intro G H x y a b z Q s rx ry h o
  unfold eqR at h
  split at h <;> cases h
  rename_i hb
  simp only [Bool.and_eq_true] at hb
  refine ⟨toP a, toP b, rx.dp s hb.1, ry.dp s hb.2, shaped_of hb.1, shaped_of hb.2, ?_⟩
  rw [eqv_eqD _ _ _ _ hb.1 hb.2]
  exact o
theorem o2_ne : Op2B K w (fun a b => (eqR a b).neg) (rNeD K) := by
  intro G H x y a b z Q s rx ry h o
  replace h : (eqR a b).neg = .ok z := h
  unfold eqR at h
  split at h <;> simp only [R.neg] at h <;> cases h
  rename_i hb
  simp only [Bool.and_eq_true] at hb
  refine ⟨toP a, toP b, rx.dp s hb.1, ry.dp s hb.2, shaped_of hb.1, shaped_of hb.2, ?_⟩
  rw [eqv_eqD _ _ _ _ hb.1 hb.2]
  exact o
theorem o2_lt : Op2B K w ltD (rI0 fun i j => .bl (decide (i < j))) := by
  intro G H x y a b z Q s rx ry h o
  cases a <;> cases b <;> simp only [ltD] at h <;> try cases h
  exact ⟨_, _, rx.int_, ry.int_, o⟩
theorem o2_le : Op2B K w leD (rI0 fun i j => .bl (decide (i ≤ j))) := by
  intro G H x y a b z Q s rx ry h o
  cases a <;> cases b <;> simp only [leD] at h <;> try cases h
  exact ⟨_, _, rx.int_, ry.int_, o⟩
theorem o2_gt : Op2B K w (fun a b => ltD b a) (rI0 fun i j => .bl (decide (j < i))) := by
  intro G H x y a b z Q s rx ry h o
  cases a <;> cases b <;> simp only [ltD] at h <;> try cases h
  exact ⟨_, _, rx.int_, ry.int_, o⟩
theorem o2_ge : Op2B K w (fun a b => leD b a) (rI0 fun i j => .bl (decide (j ≤ i))) := by
  intro G H x y a b z Q s rx ry h o
  cases a <;> cases b <;> simp only [leD] at h <;> try cases h
  exact ⟨_, _, rx.int_, ry.int_, o⟩
def rMem (K : Fg) (neg : Bool) : R2 := fun x y H Q => ∃ d ds, Dp K H x d ∧ (Dp K H y (.list ds) ∨ Dp K H y (.tuple ds)) ∧ SeqAt.shaped d = true ∧ PyData.canLayAll0 ds = true ∧ PyData.depthAll ds ≤ 64 ∧ Q (.bl (bne neg (ds.any fun z => PyData.eqv z d))) H
end
section
variable {X : Cx}
def rDIn (neg : Bool) : R2 := fun x y H Q => ∃ a o, y = .ref a ∧ DGet H a x o ∧ Q (.bl (bne neg o.isSome)) H
def rMemD (K : Fg) (neg : Bool) : R2 := fun x y H Q => rMem K neg x y H Q ∨ rDIn neg x y H Q
theorem or_din (hu : X.A.units + 65 < cLine) : OpR X (compareOp .In) (rDIn false) := by
  intro pins s σ H x y v u Q I rx ry h
  obtain ⟨a, o, rfl, g, q⟩ := h
  obtain rfl : u = Value.ref a := ry
  exact d_in (by omega) I g rx fun s' I' => ⟨.bl _, H, I', rfl, by simpa using q⟩
theorem or_dnin (hu : X.A.units + 65 < cLine) : OpR X (compareOp .NotIn) (rDIn true) := by
  intro pins s σ H x y v u Q I rx ry h
  obtain ⟨a, o, rfl, g, q⟩ := h
  obtain rfl : u = Value.ref a := ry
  exact d_notIn (by omega) I g rx fun s' I' => ⟨.bl _, H, I', rfl, by simpa using q⟩
theorem or_mem0 (hu : X.A.units + 65 < cLine) : OpR X (compareOp .In) (rMem X.K false) := by
  intro pins s σ H x y v u Q I rx ry h
  obtain ⟨d, ds, hd, he, sd, l1, l2, q⟩ := h
  obtain ⟨as, r1⟩ := Dp.reads I d x v hd rx
  have room : X.A.units + 1 + min (PyData.depthAll ds) d.depth < cLine := by
    have := Nat.min_le_left (PyData.depthAll ds) d.depth
    omega
  rcases he with he | he
  · obtain ⟨bs, r2⟩ := Dp.reads I _ y u he ry
    exact SeqAt.in_list_reads r2 r1 l1 (SeqAt.canLay_of_shaped sd) room ⟨.bl _, H, I, rfl, by simpa using q⟩
  · obtain ⟨bs, r2⟩ := Dp.reads I _ y u he ry
    exact SeqAt.in_tuple_reads r2 r1 l1 (SeqAt.canLay_of_shaped sd) room ⟨.bl _, H, I, rfl, by simpa using q⟩
theorem or_nmem0 (hu : X.A.units + 65 < cLine) : OpR X (compareOp .NotIn) (rMem X.K true) := by
  intro pins s σ H x y v u Q I rx ry h
  obtain ⟨d, ds, hd, he, sd, l1, l2, q⟩ := h
  obtain ⟨as, r1⟩ := Dp.reads I d x v hd rx
  have room : X.A.units + 1 + min (PyData.depthAll ds) d.depth < cLine := by
    have := Nat.min_le_left (PyData.depthAll ds) d.depth
    omega
  rcases he with he | he
  · obtain ⟨bs, r2⟩ := Dp.reads I _ y u he ry
    exact SeqAt.notIn_list_reads r2 r1 l1 (SeqAt.canLay_of_shaped sd) room ⟨.bl _, H, I, rfl, by simpa using q⟩
  · obtain ⟨bs, r2⟩ := Dp.reads I _ y u he ry
    exact SeqAt.notIn_tuple_reads r2 r1 l1 (SeqAt.canLay_of_shaped sd) room ⟨.bl _, H, I, rfl, by simpa using q⟩
theorem or_mem (hu : X.A.units + 65 < cLine) : OpR X (compareOp .In) (rMemD X.K false) := (or_mem0 hu).or (or_din hu)
theorem or_nmem (hu : X.A.units + 65 < cLine) : OpR X (compareOp .NotIn) (rMemD X.K true) := (or_nmem0 hu).or (or_dnin hu)
end
section
variable {K : Fg} {w : World}
theorem mem_eqv {x : D} {xs : List D} {n m : Nat} (hx : shal n x = true) (hs : ∀ d ∈ xs, shal m d = true) : ((toPs xs).any fun z => PyData.eqv z (toP x)) = memD x xs := by
  unfold memD
  induction xs with
  | nil => rfl
  | cons y ys ih =>
    simp only [toPs, List.any_cons]
    rw [eqv_eqD m n y x (hs y List.mem_cons_self) hx, ih fun d hd => hs d (List.mem_cons_of_mem _ hd)]
theorem o2_memN (neg : Bool) (f : D → D → R Bool) (hf : ∀ a b z, f a b = .ok z → ∃ z', inD a b = .ok z' ∧ z = bne neg z') : Op2B K w f (rMemD K neg) := by
  intro G H x y a b z Q s rx ry h o
  obtain ⟨z', h2, rfl⟩ := hf a b z h
  clear h hf
  by_cases hdic : ∃ ks ds, b = .dic ks ds
  · obtain ⟨ks, ds, rfl⟩ := hdic
    cases a <;> simp only [inD] at h2 <;> try cases h2
    obtain ⟨p, ns, xs, rfl, e, l, h1, r1⟩ := ry.dic_ s
    refine .inr ⟨p, _, rfl, by rw [rx.int_]; exact DGet.k (k := Sum.inl _) h1, ?_⟩
    rw [dkv_has l, ← e]
    exact o
  left
  replace h2 : (match b with
    | .tup xs => if (shal DEEP a && xs.all (shal DEEP)) = true then R.ok (memD a xs) else .bad
    | .lst xs => if (shal DEEP a && xs.all (shal DEEP)) = true then R.ok (memD a xs) else .bad
    | _ => .bad) = .ok z' := by
    cases b <;> first
      | exact h2
      | (cases a <;> exact h2)
      | (exact absurd ⟨_, _, rfl⟩ hdic)
  cases b <;> simp only at h2 <;> try cases h2
  all_goals
    split at h2 <;> cases h2
    rename_i hb
    simp only [Bool.and_eq_true, List.all_eq_true] at hb
    have ly := shal_lays DEEP _ hb.2
    have he := mem_eqv hb.1 hb.2
    have dpx := rx.dp s hb.1
  · obtain ⟨p, xs, rfl, h1, r1, g1⟩ := ry.tup_ s
    exact ⟨_, _, dpx, .inr (.tup h1.sqt (r1.dp s hb.2)), shaped_of hb.1, ly.1, by have := ly.2; unfold DEEP at this; omega, by rw [he]; exact o⟩
  · obtain ⟨p, xs, rfl, h1, r1⟩ := ry.lst_ s
    exact ⟨_, _, dpx, .inl (.lst (.of h1) (r1.dp s hb.2)), shaped_of hb.1, ly.1, by have := ly.2; unfold DEEP at this; omega, by rw [he]; exact o⟩
theorem o2_mem : Op2B K w inD (rMemD K false) := o2_memN false _ fun a b z h => ⟨z, h, by simp⟩
theorem o2_nmem : Op2B K w (fun a b => (inD a b).neg) (rMemD K true) := o2_memN true _ fun a b z h => by
  cases e : inD a b with
  | ok z' => rw [e] at h; cases h; exact ⟨z', rfl, by simp⟩
  | exc c d => rw [e] at h; cases h
  | bad => rw [e] at h; cases h
theorem RepB.isn {G H : Hp} {v : V} {d : D} (r : RepB K w G H v d) : decide (v = V.non) = isNon d := by
  rcases r with r | ⟨p, rfl, _, c⟩
  · cases r <;> rfl
  · cases d <;> first | rfl | exact c.elim
def rIs : R2 := fun x y H Q => (y = .non ∧ Q (.bl (decide (x = .non))) H) ∨ rIsB x y H Q
def rNis : R2 := fun x y H Q => (y = .non ∧ Q (.bl (!decide (x = .non))) H) ∨ rNotB x y H Q
theorem o2_is : Op2B K w isD rIs := by
  intro G H x y a b z Q s rx ry h o
  cases b with
  | non =>
    simp only [isD] at h
    cases h
    exact .inl ⟨ry.non_, by rw [rx.isn]; exact o⟩
  | bl b =>
    cases a <;> simp only [isD] at h <;> try cases h
    exact .inr ⟨_, _, rx.bl_, ry.bl_, by rw [← Bool.beq_eq_decide_eq]; exact o⟩
  | _ => cases a <;> simp only [isD] at h <;> cases h
theorem o2_nis : Op2B K w (fun a b => (isD a b).neg) rNis := by
  intro G H x y a b z Q s rx ry h o
  cases b with
  | non =>
    simp only [isD, R.neg] at h
    cases h
    exact .inl ⟨ry.non_, by rw [rx.isn]; exact o⟩
  | bl b =>
    cases a <;> simp only [isD, R.neg] at h <;> try cases h
    exact .inr ⟨_, _, rx.bl_, ry.bl_, by rw [← Bool.beq_eq_decide_eq]; exact o⟩
  | _ => cases a <;> simp only [isD, R.neg] at h <;> cases h
end
section
variable {X : Cx}
theorem or_is : OpR X (compareOp .Is) rIs := op_isN.or op_isBl
theorem or_nis : OpR X (compareOp .IsNot) rNis := op_notN.or op_notBl
end

/-! ### subscripts -/
section
variable {K : Fg} {w : World}
theorem ixn_eq : ∀ (n : Nat) (i : Int), ixn n i = ixN n i := fun _ _ => rfl
theorem atD_at {xs : List D} {i : Int} {z : D} (h : atD xs i = .ok z) : atI xs i = some z := by
  unfold atD at h
  unfold atI
  rw [← ixn_eq]
  cases e : ixn xs.length i with
  | none => rw [e] at h; cases h
  | some j =>
    simp only [e] at h
    simp only [Option.bind_some]
    cases q : xs[j]? with
    | none => rw [q] at h; cases h
    | some y => rw [q] at h; cases h; rfl
theorem Reps.at {G : Hp} {vs : List V} {ds : List D} {i : Int} {z : D} (r : Reps K w G vs ds) (h : atI ds i = some z) : ∃ v, atI vs i = some v ∧ Rep K w G v z := by
  unfold atI at h ⊢
  rw [r.length]
  cases e : ixN ds.length i with
  | none => rw [e] at h; cases h
  | some j =>
    rw [e] at h
    exact r.get h
def rIxDk : R2 := fun x y H Q => ∃ a v, x = .ref a ∧ DGet H a y (some v) ∧ Q v H
def rSubs0 (K : Fg) : R2 := fun x y H Q => rIxL K x y H Q ∨ rIxT K x y H Q
def rSubs (K : Fg) : R2 := fun x y H Q => rSubs0 K x y H Q ∨ rIxDk x y H Q
/-- an item is kept already -/
theorem o2_subs {G H : Hp} {x y : V} {a b z : D} {Q : VK} (s : Sub G H) (rx : RepB K w G H x a) (ry : RepB K w G H y b) (h : subsD a b = .ok z) (o : Out K w G H z Q) : rSubs K x y H Q := by
  cases a <;> cases b <;> simp only [subsD] at h <;> try cases h
  · obtain ⟨p, xs, rfl, h1, r1, g1⟩ := rx.tup_ s
    obtain ⟨v, hv, rv⟩ := r1.at (atD_at h)
    exact .inl (.inr ⟨p, xs, _, v, rfl, ry.int_, h1.sqt, hv, o _ _ _ (.refl s) rv⟩)
  · obtain ⟨p, xs, rfl, h1, r1⟩ := rx.lst_ s
    obtain ⟨v, hv, rv⟩ := r1.at (atD_at h)
    exact .inl (.inl ⟨p, xs, _, v, rfl, ry.int_, .of h1, hv, o _ _ _ (.refl s) rv⟩)
  · obtain ⟨p, ns, xs, rfl, e, l, h1, r1⟩ := rx.dic_ s
    subst e
    split at h
    · rename_i v hv
      cases h
      obtain ⟨v, hv, rv⟩ := dkv_look l r1 hv
      exact .inr ⟨p, v, rfl, by rw [ry.int_, ← hv]; exact DGet.k (k := Sum.inl _) h1, o _ _ _ (.refl s) rv⟩
    · cases h
end
section
variable {X : Cx}
theorem ix_dk (hu : X.A.units + 65 < cLine) : IxR X rIxDk := by
  intro value slice pins s σ H x y v u Q I rx ry h hs
  obtain ⟨a, z, rfl, g, q⟩ := h
  obtain rfl : v = Value.ref a := rx
  exact tail_any (dict_typeIs I g) PySem.F.slot_dict_getitem.lookup (d_getItem (by omega) I g ry fun w' s' I' rw' => ⟨z, H, I', rw', q⟩) hs
theorem ix_subs (hu : X.A.units + 65 < cLine) : IxR X (rSubs X.K) := (ix_list.or ix_tup).or (ix_dk hu)
end
end Py
end
section
set_option linter.all false
set_option maxRecDepth 100000
set_option maxHeartbeats 1000000
/-! PySnd6: that a written expression is the evaluator's one. -/
namespace Py
open PySem PySem.Spec PyProof.Rows L2
variable [tb : Tb]

/-- what is known of a program's top -/
structure Cg where
  fns : List (Str × Nat × Bool × Bool)
  cs : List (Str × D)
  exs : List Str
  free : List Str
  /-- the defs that tell what comes of a call: number, name -/
  refs : List (Nat × Str) := []
  /-- whether lambdas may stand here -/
  lam : Bool := false
def Cg.nt (g : Cg) : Cg := { g with lam := false }

/-- an expression, a list of them, the rest of an and | or -/
inductive Tg where
  | ex (x : Expr)
  | ls (xs : List Expr)
  | bo (op : BoolOp) (xs : List Expr)

def plain : Expr → Bool
  | .Starred .. => false
  | .Set .. => false
  | .Slice .. => false
  | _ => true
def nameOk (x : Str) : Bool := !(x == ("__debug__" : Str)) && !(x == ("__classdict__" : Str)) && !(x == ("__name__" : Str))
def visB (sc : Scope) (x : Str) : Bool := match sc.names.lookup x with
  | some .local => true
  | some .cell => true
  | some .free => true
  | _ => false
def locB (sc : Scope) (x : Str) : Bool := match sc.names.lookup x with
  | some .local => true
  | some .cell => true
  | _ => false
def gloB (sc : Scope) (x : Str) : Bool := match sc.names.lookup x with
  | some .globalImplicit => true
  | _ => false
def varB (N : List Str) (sc : Scope) (i : Nat) : Expr → Bool
  | .Name x _ => decide (N[i]? = some x) && visB sc x && nameOk x
  | _ => false
def bltB (g : Cg) (sc : Scope) (n : Str) : Expr → Bool
  | .Name x _ => decide (x = n) && gloB sc x && decide (n ∈ g.free) && nameOk n
  | _ => false
def bltN : BF → Str
  | .len => "len"
  | .tuple => "tuple"
  | .list => "list"
  | .set => "set"
  | .sorted => "sorted"
  | .sum => "sum"
  | .sum2 => "sum"
  | .all => "all"
  | .any => "any"
  | .max => "max"
  | .min => "min"
  | .max2 => "max"
  | .min2 => "min"
  | .abs => "abs"
  | .int => "int"
  | .str => "str"
  | .dict => "dict"
  | .ltup => "tuple"
  | .lrng => "list"
  | .bool => "bool"
  | .set0 => "set"
  | .repr => "repr"
def tyN : Ty → Str
  | .int => "int"
  | .bool => "bool"
  | .tuple => "tuple"
  | .list => "list"
  | .str => "str"
  | .dict => "dict"
def boB : BO → Operator → Bool
  | .add, .Add => true
  | .sub, .Sub => true
  | .mul, .Mult => true
  | .div, .FloorDiv => true
  | .mod, .Mod => true
  | .pow, .Pow => true
  | _, _ => false
def coB : CO → CmpOp → Bool
  | .eq, .Eq => true
  | .ne, .NotEq => true
  | .lt, .Lt => true
  | .le, .LtE => true
  | .gt, .Gt => true
  | .ge, .GtE => true
  | .mem, .In => true
  | .nmem, .NotIn => true
  | .is, .Is => true
  | .nis, .IsNot => true
  | _, _ => false
def isOrd : CO → Bool
  | .lt | .le | .gt | .ge => true
  | _ => false
/-- not a borrowed name -/
def nb : E → Bool
  | .bor _ => false
  | _ => true
/-- what can be walked alone -/
def wk : E → Bool
  | .rng _ => true
  | .enu _ => true
  | .zip _ => true
  | _ => false
def nnil : E → Bool
  | .nil => false
  | _ => true
def ne (e : E) : Bool := nb e && !wk e
/-- a list whose items are kept: no borrowed name in it -/
def nbs : E → Bool
  | .nil => true
  | .cons a b => nb a && nbs b
  | _ => false
def fresh : E → Bool
  | .lst _ => true
  | .lc .. => true
  | .bin .. => true
  | .sli .. => true
  | .rev .. => true
  | .dct _ => true
  | .dup .. => true
  | .mrg .. => true
  | .blt .dict _ => true
  | .call _ _ fr _ => fr
  | .blt .list _ => true
  | .blt .sorted _ => true
  | .blt .lrng _ => true
  | .blt .sum2 _ => true
  | _ => false

def chkT (N : List Str) (sc : Scope) : T → Tg → Bool
  | .v i, t => (match t with
    | .ex (.Name x _) => decide (N[i]? = some x) && locB sc x && nameOk x
    | _ => false)
  | .tu a, t => (match t with
    | .ex (.Tuple es _ _) => chkT N sc a (.ls es)
    | _ => false)
  | .nil, t => (match t with
    | .ls [] => true
    | _ => false)
  | .cons a b, t => (match t with
    | .ls (x :: xs) => plain x && chkT N sc a (.ex x) && chkT N sc b (.ls xs)
    | _ => false)
def noCall : Expr → Bool
  | .Call .. => false
  | _ => true
def isTup : Expr → Bool
  | .Tuple .. => true
  | _ => false
/-- the names that a target stores -/
def tgV : T → List Nat
  | .v i => [i]
  | .tu a => tgV a
  | .nil => []
  | .cons a b => tgV a ++ tgV b

/-! ### views -/
def vBin : Tg → Option (Expr × Operator × Expr)
  | .ex (.BinOp l op r _) => some (l, op, r)
  | _ => none
def vNeg : Tg → Option Expr
  | .ex (.UnaryOp .USub x _) => some x
  | _ => none
def vNot : Tg → Option Expr
  | .ex (.UnaryOp .Not x _) => some x
  | _ => none
def vCmp : Tg → Option (Expr × CmpOp × Expr)
  | .ex (.Compare l [op] [r] _) => some (l, op, r)
  | _ => none
def vChn : Tg → Option (Expr × CmpOp × CmpOp × Expr × Expr)
  | .ex (.Compare l [op, op'] [r, r'] _) => some (l, op, op', r, r')
  | _ => none
def vBoX (op : BoolOp) : List Expr → Option (Expr × Tg)
  | [x, y] => some (x, .ex y)
  | x :: y :: z :: r => some (x, .bo op (y :: z :: r))
  | _ => none
def vAnd : Tg → Option (Expr × Tg)
  | .ex (.BoolOp .And xs _) => vBoX .And xs
  | .bo .And xs => vBoX .And xs
  | _ => none
def vOr : Tg → Option (Expr × Tg)
  | .ex (.BoolOp .Or xs _) => vBoX .Or xs
  | .bo .Or xs => vBoX .Or xs
  | _ => none
def neT (b : E) : Tg → Bool
  | .ex _ => ne b
  | _ => true
def vIf : Tg → Option (Expr × Expr × Expr)
  | .ex (.IfExp x y z _) => some (x, y, z)
  | _ => none
def vTup : Tg → Option (List Expr)
  | .ex (.Tuple xs _ _) => some xs
  | _ => none
def vDct : Tg → Bool
  | .ex (.Dict [] [] _) => true
  | _ => false
def vDup : Tg → Option (Expr × Expr × Expr)
  | .ex (.Dict [none, some k] [d, v] _) => some (d, k, v)
  | _ => none
def vMrg : Tg → Option (Expr × Expr)
  | .ex (.Dict [none, none] [d, e] _) => some (d, e)
  | _ => none
def vLst : Tg → Option (List Expr)
  | .ex (.List xs _) => some xs
  | _ => none
def vSub : Tg → Option (Expr × Expr)
  | .ex (.Subscript x y _) => some (x, y)
  | _ => none
def vSli : Tg → Option (Expr × Option Expr × Option Expr)
  | .ex (.Subscript x (.Slice l h none _) _) => some (x, l, h)
  | _ => none
def vCall : Tg → Option (Str × Expr × List Expr)
  | .ex (.Call (.Name x _) (y :: ys) [] _) => some (x, y, ys)
  | _ => none
def vC1 : Tg → Option (Expr × Expr)
  | .ex (.Call b [x] [] _) => some (b, x)
  | _ => none
def vC2 : Tg → Option (Expr × Expr × Expr)
  | .ex (.Call b [x, y] [] _) => some (b, x, y)
  | _ => none
def vRg : Tg → Option (Expr × Expr × List Expr)
  | .ex (.Call b [.Call r ys [] _] [] _) => some (b, r, ys)
  | _ => none
def vCE : Tg → Option (Expr × List Expr)
  | .ex (.Call r ys [] _) => some (r, ys)
  | _ => none
def vMet : Tg → Option (Expr × Str × Bool × List Expr)
  | .ex (.Call (.Attribute o nm apos) xs [] pos) => some (o, nm, apos.endLine == pos.line, xs)
  | _ => none
def vLc : Tg → Option (Expr × Expr × Expr × List Expr × Scope)
  | .ex (.ListComp x [⟨tg, i, ifs, 0⟩] sc' _) => some (x, tg, i, ifs, sc')
  | _ => none
def vRev : Tg → Option Expr
  | .ex (.Subscript x (.Slice none none (some (.UnaryOp .USub (.Constant (.int 1) _ _) _)) _) _) => some x
  | _ => none
def vTri : Tg → Option (Str × Arguments × Expr × Scope)
  | .ex (.Call (.Name x _) [.Lambda ps e sc _] [] _) => some (x, ps, e, sc)
  | _ => none
def noArgs : Arguments → Bool
  | ⟨[], [], none, [], [], none, []⟩ => true
  | _ => false
def vEx : Tg → Option Expr
  | .ex x => some x
  | _ => none
def vLs : Tg → Option (List Expr)
  | .ls xs => some xs
  | _ => none
def vCons : Tg → Option (Expr × List Expr)
  | .ls (x :: xs) => some (x, xs)
  | _ => none
def isNilT : Tg → Bool
  | .ls [] => true
  | _ => false
def cstB (g : Cg) (sc : Scope) (d : D) : Expr → Bool
  | .Constant (.int i) _ _ => (match d with
    | .int j => decide (i = j)
    | _ => false)
  | .Constant (.bool i) _ _ => (match d with
    | .bl j => i == j
    | _ => false)
  | .Constant .none _ _ => (match d with
    | .non => true
    | _ => false)
  | .Constant (.str x) _ _ => (match d with
    | .str s => decide (x = sS s) && decide (s.length ≤ SZ)
    | _ => false)
  | .Name x _ => gloB sc x && nameOk x && (match d, g.cs.lookup x with
    | .int i, some (.int j) => decide (i = j)
    | .str i, some (.str j) => decide (i = j) && decide (i.length ≤ SZ)
    | _, _ => false)
  | _ => false
def isNil : E → Bool
  | .nil => true
  | _ => false
def allPlain : List Expr → Bool
  | [] => true
  | x :: xs => plain x && allPlain xs
def isB1 : BF → Bool
  | .len | .tuple | .list | .set | .sorted | .sum | .all | .any | .abs | .int | .dict | .max | .min => true
  | _ => false
def isB2 : BF → Bool
  | .max2 | .min2 => true
  | _ => false
def isBR : BF → Bool
  | .ltup | .lrng => true
  | _ => false
def sumShape : E → Expr → Bool
  | .cons _ (.cons (.lst .nil) .nil), .List [] _ => true
  | _, _ => false
def rgLen (xs : List Expr) : Bool := xs.length == 1 || xs.length == 2
def fnB (g : Cg) (f : Nat) (io fr : Bool) (x : Str) : Bool := match g.fns[f]? with
  | some q => decide (q.1 = x) && (q.2.2.1 == io) && (q.2.2.2 == fr)
  | none => false
/-- the arguments of a call: the first one may be lent -/
def argsB : Bool → E → Bool
  | true, .cons (.bor _) as => nbs as
  | true, _ => false
  | false, as => nbs as
def pairsOf (N : List Str) (vs : List Nat) : List (Str × Nat) := vs.filterMap fun v => (N[v]?).map fun n => (n, v)
def ezB : E → Bool
  | .enu _ | .zip _ => true
  | _ => false

def chk : Cg → Nat → List Str → E → Scope → Tg → Bool
  | g, k, N, .nil, _, t => isNilT t
  | g, k, N, .cons a b, sc, t => (match vCons t with
    | some q => plain q.1 && !wk a && chk g k N a sc (.ex q.1) && chk g k N b sc (.ls q.2)
    | none => false)
  | g, k, N, .loc i, sc, t => (match vEx t with
    | some x => varB N sc i x
    | none => false)
  | g, k, N, .bor i, sc, t => (match vEx t with
    | some x => varB N sc i x
    | none => false)
  | g, k, N, .cst d, sc, t => (match vEx t with
    | some x => cstB g sc d x
    | none => false)
  | g, k, N, .bin o a b, sc, t => (match vBin t with
    | some q => boB o q.2.1 && !wk a && !wk b && chk g k N a sc (.ex q.1) && chk g k N b sc (.ex q.2.2)
    | none => false)
  | g, k, N, .neg a, sc, t => (match vNeg t with
    | some x => ne a && chk g k N a sc (.ex x)
    | none => false)
  | g, k, N, .not a, sc, t => (match vNot t with
    | some x => ne a && chk g k N a sc (.ex x)
    | none => false)
  | g, k, N, .cmp o a b, sc, t => (match vCmp t with
    | some q => coB o q.2.1 && plain q.2.2 && !wk a && !wk b && chk g k N a sc (.ex q.1) && chk g k N b sc (.ex q.2.2)
    | none => false)
  | g, k, N, .chn o o' a b c, sc, t => (match vChn t with
    | some q => coB o q.2.1 && coB o' q.2.2.1 && isOrd o && isOrd o' && ne a && ne b && ne c && chk g k N a sc (.ex q.1) && chk g k N b sc (.ex q.2.2.2.1) && chk g k N c sc (.ex q.2.2.2.2)
    | none => false)
  | g, k, N, .and a b, sc, t => (match vAnd t with
    | some q => ne a && neT b q.2 && chk g k N a sc (.ex q.1) && chk g k N b sc q.2
    | none => false)
  | g, k, N, .or a b, sc, t => (match vOr t with
    | some q => ne a && neT b q.2 && chk g k N a sc (.ex q.1) && chk g k N b sc q.2
    | none => false)
  | g, k, N, .ife c a b, sc, t => (match vIf t with
    | some q => ne c && ne a && ne b && chk g k N c sc (.ex q.1) && chk g k N a sc (.ex q.2.1) && chk g k N b sc (.ex q.2.2)
    | none => false)
  | g, k, N, .tup es, sc, t => (match vTup t with
    | some xs => nbs es && chk g k N es sc (.ls xs)
    | none => false)
  | g, k, N, .lst es, sc, t => (match vLst t with
    | some xs => nbs es && chk g k N es sc (.ls xs)
    | none => false)
  | g, k, N, .dct es, sc, t => vDct t && isNil es
  | g, k, N, .dup d a b, sc, t => (match vDup t with
    | some q => ne d && ne a && ne b && chk g k N d sc (.ex q.1) && chk g k N a sc (.ex q.2.1) && chk g k N b sc (.ex q.2.2)
    | none => false)
  | g, k, N, .mrg d a, sc, t => (match vMrg t with
    | some q => ne d && ne a && chk g k N d sc (.ex q.1) && chk g k N a sc (.ex q.2)
    | none => false)
  | g, k, N, .sub a i, sc, t => (match vSub t with
    | some q => plain q.2 && !wk a && ne i && chk g k N a sc (.ex q.1) && chk g k N i sc (.ex q.2)
    | none => false)
  | g, k, N, .sli a lo hi, sc, t => (match vSli t with
    | some q => !wk a && (match q.2.1 with
      | none => isNil lo
      | some l => ne lo && nnil lo && chk g k N lo sc (.ex l)) && (match q.2.2 with
      | none => isNil hi
      | some h => ne hi && nnil hi && chk g k N hi sc (.ex h)) && chk g k N a sc (.ex q.1)
    | none => false)
  | g, k, N, .rev a, sc, t => (match vRev t with
    | some x => !wk a && chk g k N a sc (.ex x)
    | none => false)
  | g, k, N, .call f io fr args, sc, t => (match vCall t with
    | some q => decide (f < k) && gloB sc q.1 && nameOk q.1 && fnB g f io fr q.1 && argsB io args && g.refs.all (fun p => decide (p.1 ≠ f)) && chk g k N args sc (.ls (q.2.1 :: q.2.2))
    | none => false)
  | g, k, N, .blt f args, sc, t =>
    if isB1 f = true then (match vC1 t with
      | some q => bltB g sc (bltN f) q.1 && chk g k N args sc (.ls [q.2])
      | none => false)
    else if isB2 f = true then (match vC2 t with
      | some q => bltB g sc (bltN f) q.1 && nbs args && chk g k N args sc (.ls [q.2.1, q.2.2])
      | none => false)
    else if isBR f = true then (match vRg t with
      | some q => bltB g sc (bltN f) q.1 && bltB g sc "range" q.2.1 && rgLen q.2.2 && nbs args && chk g k N args sc (.ls q.2.2)
      | none => false)
    else (match vC2 t with
      | some q => decide (f = .sum2) && bltB g sc "sum" q.1 && sumShape args q.2.2 && chk g k N args sc (.ls [q.2.1, q.2.2])
      | none => false)
  | g, k, N, .met m a args, sc, t => (match vMet t with
    | some q => (decide (m = .index) || (decide (m = .indexT) && nb a)) && decide (q.2.1 = "index") && noCall q.1 && q.2.2.1 && !wk a && (q.2.2.2.length == 1) && chk g k N a sc (.ex q.1) && chk g k N args sc (.ls q.2.2.2)
    | none => false)
  | g, k, N, .pop i args, sc, t => (match vMet t with
    | some q => decide (q.2.1 = "pop") && varB N sc i q.1 && q.2.2.1 && decide (q.2.2.2.length ≤ 1) && nbs args && chk g k N args sc (.ls q.2.2.2)
    | none => false)
  | g, k, N, .isi a t', sc, t => (match vC2 t with
    | some q => bltB g sc "isinstance" q.1 && bltB g sc (tyN t') q.2.2 && plain q.2.1 && !wk a && chk g k N a sc (.ex q.2.1)
    | none => false)
  | g, k, N, .rng args, sc, t => (match vCE t with
    | some q => bltB g sc "range" q.1 && rgLen q.2 && nbs args && chk g k N args sc (.ls q.2)
    | none => false)
  | g, k, N, .enu a, sc, t => (match vC1 t with
    | some q => bltB g sc "enumerate" q.1 && plain q.2 && ne a && chk g k N a sc (.ex q.2)
    | none => false)
  | g, k, N, .zip args, sc, t => (match vC2 t with
    | some q => bltB g sc "zip" q.1 && nbs args && chk g k N args sc (.ls [q.2.1, q.2.2])
    | none => false)
  | g, k, N, .lc vs t' it cnd elt, sc, t => (match vLc t with
    | some q => blkC N sc q.2.2.2.2 (pairsOf N vs) && decide ((pairsOf N vs).map (·.2) = vs) && (tgV t').all (fun v => vs.contains v) &&
      nb it && plain q.2.2.1 && (!ezB it || isTup q.2.1) && chk g k N it sc (.ex q.2.2.1) && chkT N q.2.2.2.2 t' (.ex q.2.1) && ne elt && chk g k N elt q.2.2.2.2 (.ex q.1) &&
      (match q.2.2.2.1 with
      | [] => isNil cnd
      | c :: cs => cs.isEmpty && ne cnd && nnil cnd && chk g k N cnd q.2.2.2.2 (.ex c))
    | none => false)
  | g, k, N, .lc2 .., _, _ => false
  | g, k, N, .tri f e, sc, t => (match vTri t with
    | some q => g.lam && g.refs.contains (f, q.1) && decide (f < k) && decide (2 ≤ k) && gloB sc q.1 && nameOk q.1 && noArgs q.2.1 && LamX.lamSB sc q.2.2.2 && ne e && chk g.nt (k - 2) N e q.2.2.2 (.ex q.2.2.1)
    | none => false)
end Py
end
section
set_option linter.all false
set_option maxRecDepth 100000
set_option maxHeartbeats 1000000
/-! PySnd7: expressions, node by node. -/
namespace Py
open PySem PySem.Spec PyProof.Rows L2
variable [tb : Tb]

section
variable {K : Fg} {w : World} {G G' H H' : Hp} {σ : Sg} {env env' : Env} {WO : WN}
/-- an operand that is read late -/
def lateT (K : Fg) (w : World) (WO : WN) (ft : Ft) : E → TE
  | .bor i => L2.tVar i
  | a => tE K w WO (ev ft a)
theorem lateT_nb {ft : Ft} {a : E} (h : nb a = true) : lateT K w WO ft a = tE K w WO (ev ft a) := by
  cases a <;> first | rfl | cases h
theorem late_nb {a : E} {d : D} (h : nb a = true) : late a d env = .ok d := by
  cases a <;> first | rfl | cases h
theorem binD_noexc : ∀ (o : BO) (x y : D) (c : Nat) (d : D), binD o x y ≠ .exc c d := by
  intro o x y c d h
  cases o <;> cases x <;> cases y <;> first
    | (cases h; done)
    | (revert h; simp only [binD, addD, subD, mulD, divD, modD, powD]; split <;> exact fun q => by cases q)
theorem cmpD_noexc : ∀ (o : CO) (x y : D) (c : Nat) (d : D), cmpD o x y ≠ .exc c d := by
  have e1 : ∀ (x y : D) (c : Nat) (d : D), eqR x y ≠ .exc c d := fun x y c d => by unfold eqR; split <;> exact fun q => by cases q
  have e2 : ∀ (x y : D) (c : Nat) (d : D), ltD x y ≠ .exc c d := fun x y c d => by cases x <;> cases y <;> exact fun q => by cases q
  have e3 : ∀ (x y : D) (c : Nat) (d : D), leD x y ≠ .exc c d := fun x y c d => by cases x <;> cases y <;> exact fun q => by cases q
  have e4 : ∀ (x y : D) (c : Nat) (d : D), inD x y ≠ .exc c d := fun x y c d => by
    cases x <;> cases y <;> first
      | exact fun q => by cases q
      | (unfold inD; simp only; split <;> exact fun q => by cases q)
  have e5 : ∀ (x y : D) (c : Nat) (d : D), isD x y ≠ .exc c d := fun x y c d => by cases x <;> cases y <;> exact fun q => by cases q
  have ng : ∀ (r : R Bool) (c : Nat) (d : D), r ≠ .exc c d → r.neg ≠ .exc c d := fun r c d h => by
    cases r with
    | exc c' d' => exact fun q => h (by cases q; rfl)
    | _ => exact fun q => by cases q
  intro o x y c d
  cases o
  · exact e1 x y c d
  · exact ng _ c d (e1 x y c d)
  · exact e2 x y c d
  · exact e3 x y c d
  · exact e2 y x c d
  · exact e3 y x c d
  · exact e4 x y c d
  · exact ng _ c d (e4 x y c d)
  · exact e5 x y c d
  · exact ng _ c d (e5 x y c d)
theorem rd_noexc {i : Nat} {c : Nat} {d : D} : rd env i ≠ .exc c d := by
  unfold rd; split <;> simp
theorem two {ft : Ft} {a b : E} {r : R2} {Q : VK} {β : Type} {P : β → Prop} {F : D → D → Env → R β} (ok : EOk K w G H σ env)
    (k : K1 WO H σ env ((ev ft a env).bind fun x => (ev ft b x.2).bind fun y => (late a x.1 y.2).bind fun x' => F x' y.1 y.2) P)
    (fin : ∀ G1 H1 env1 x y da db, Go G H σ env G1 H1 σ env1 → EOk K w G1 H1 σ env1 → RepB K w G1 H1 x da → RepB K w G1 H1 y db → K1 WO H1 σ env1 (F da db env1) P → r x y H1 Q) :
    tOp r (lateT K w WO ft a) (tB K w WO (ev ft b)) σ H Q := by
  by_cases hb : nb a = true
  · rw [lateT_nb hb]
    refine ⟨G, env, ok, k.bind.mono fun x _ h v G1 H1 go1 ok1 r1 => ⟨G1, x.2, ok1, (h.bind.go go1).mono fun y _ h2 v2 G2 H2 go2 ok2 r2 => ?_⟩⟩
    rw [late_nb hb] at h2
    exact fin G2 H2 y.2 v v2 x.1 y.1 (go1.trans go2) ok2 (.inl (r1.sub go2.gs)) r2 (K1.go (G := G) (G' := G2) h2 (go1.trans go2))
  · cases a with
    | bor i =>
      have k1 := k.bind
      obtain ⟨d, e1, k2⟩ := (K1.bind (f := fun d => R.ok (d, env)) (r := rd env i) k1).ok fun _ _ => rd_noexc
      obtain ⟨v, hv, rv⟩ := ok.rd e1
      refine ⟨v, hv, G, env, ok, (show K1 WO H σ env ((ev ft b env).bind _) P from k2).bind.mono fun y _ h2 v2 G2 H2 go2 ok2 r2 => ?_⟩
      obtain ⟨da, e3, k3⟩ := (K1.bind (r := rd y.2 i) h2).ok fun _ _ => rd_noexc
      obtain ⟨v', hv', rv'⟩ := ok2.rd e3
      rw [hv] at hv'
      cases hv'
      exact fin G2 H2 y.2 v v2 da y.1 go2 ok2 rv' r2 (K1.go (G := G) (G' := G2) k3 go2)
    | _ => exact (hb rfl).elim
end

section
variable {X : Cx} {WO : WN} {ft : Ft}
/-- what is shown of an expression -/
structure Sx (X : Cx) (WO : WN) (ft : Ft) (c : E) (x : Expr) : Prop where
  e : ne c = true → PE X x (tE X.K X.w WO (ev ft c))
  b : wk c = false → PE X x (tB X.K X.w WO (ev ft c))
  o : fresh c = true → PE X x (tO X.K X.w WO (ev ft c))
  t : ne c = true → PT X x (tT X.K X.w WO (ev ft c))
  v : ∀ i, c = .bor i → PE X x (L2.tVar i)
theorem Sx.late {c : E} {x : Expr} (s : Sx X WO ft c x) (hw : wk c = false) : PE X x (lateT X.K X.w WO ft c) := by
  by_cases h : nb c = true
  · rw [lateT_nb h]
    exact s.e (by unfold ne; rw [h, hw]; rfl)
  · cases c with
    | bor i => exact s.v i rfl
    | _ => exact (h rfl).elim
/-- a value's truth, where it is told as a whole -/
theorem ptE {x : Expr} {rf : Env → R (D × Env)} (h : PE X x (tE X.K X.w WO rf)) (he : ∀ whole, isTrue x X.env whole = (do let v ← whole; standAt x.pos; holding [v] (truthy v))) : PT X x (tT X.K X.w WO rf) :=
  ptW (pt_val h he) fun σ H Q ⟨G, env, ok, k⟩ => ⟨G, env, ok, k.bind.mono fun y _ h2 v G' H' a b r => by
    obtain ⟨d, e⟩ := y
    cases d with
    | bl c =>
      cases r
      exact ⟨c, rfl, h2 G' H' a b⟩
    | _ => exact h2.elim⟩
/-- an expression that isn't borrowed and isn't new by itself -/
theorem Sx.mk1 {c : E} {x : Expr} (h : PE X x (tE X.K X.w WO (ev ft c))) (hf : fresh c = false) (hn : nb c = true) (he : ∀ whole, isTrue x X.env whole = (do let v ← whole; standAt x.pos; holding [v] (truthy v))) : Sx X WO ft c x where
  e := fun _ => h
  b := fun _ => peB h
  o := fun z => by rw [hf] at z; cases z
  t := fun _ => ptE h he
  v := fun i z => by rw [z] at hn; cases hn

theorem n_loc {i : Nat} {x : Str} {pos : Pos} (hN : X.N[i]? = some x) (hv : Vis X.env.scope x) (hd : (x == ("__debug__" : Str)) = false) (hc : (x == ("__classdict__" : Str)) = false) : Sx X WO ft (.loc i) (.Name x pos) := by
  refine .mk1 (peW (pe_var hN hv hd hc) fun σ H Q ⟨G, env, ok, k⟩ => ?_) rfl rfl fun _ => rfl
  unfold ev at k
  split at k
  · rename_i d q
    obtain ⟨v, e1, r⟩ := ok.slot _ _ q
    exact ⟨v, e1, k v G H .refl ok r⟩
  · rename_i d q
    obtain ⟨G', v, e1, e2, e3, e4⟩ := ok.freeze q
    exact ⟨v, e1, k v G' H e3 e2 e4⟩
  · exact k.elim
theorem n_bor {i : Nat} {x : Str} {pos : Pos} (hN : X.N[i]? = some x) (hv : Vis X.env.scope x) (hd : (x == ("__debug__" : Str)) = false) (hc : (x == ("__classdict__" : Str)) = false) : Sx X WO ft (.bor i) (.Name x pos) where
  e := fun z => by cases z
  b := fun _ => peW (pe_var hN hv hd hc) fun σ H Q ⟨G, env, ok, k⟩ => by
    obtain ⟨d, e1, k2⟩ := (K1.bind (f := fun d => R.ok (d, env)) (r := rd env i) k).ok fun _ _ => rd_noexc
    obtain ⟨v, hv, rv⟩ := ok.rd e1
    exact ⟨v, hv, k2 v G H .refl ok rv⟩
  o := fun z => by cases z
  t := fun z => by cases z
  v := fun j z => by cases z; exact pe_var hN hv hd hc
theorem n_const {d : D} {v : V} {x : Expr} (h : PE X x (tC v)) (r : ∀ G, Rep X.K X.w G v d) (he : ∀ whole, isTrue x X.env whole = (do let v ← whole; standAt x.pos; holding [v] (truthy v))) : Sx X WO ft (.cst d) x :=
  .mk1 (peW h fun σ H Q ⟨G, env, ok, k⟩ => k v G H .refl ok (r G)) rfl rfl he

/-! ### operators -/
theorem n_bin {o : BO} {a b : E} {xa xb : Expr} {op : Operator} {pos : Pos} {r : R2} (hr : OpR X (binaryOp op) r) (o2 : Op2 X.K X.w (binD o) r) (ha : PE X xa (lateT X.K X.w WO ft a)) (hb : PE X xb (tB X.K X.w WO (ev ft b))) :
    Sx X WO ft (.bin o a b) (.BinOp xa op xb pos) := by
  have base : PE X (.BinOp xa op xb pos) (fun σ H Q => ∃ G env, EOk X.K X.w G H σ env ∧ K1 WO H σ env (ev ft (.bin o a b) env) fun x =>
      ∀ G' H', Go G H σ env G' H' σ x.2 → EOk X.K X.w G' H' σ x.2 → if isCont x.1 = true then OutO X.K X.w G' H' x.1 Q else Out X.K X.w G' H' x.1 Q) :=
    peW (pe_op hr ha hb) fun σ H Q ⟨G, env, ok, k⟩ => two (F := fun x' y e => (binD o x' y).bind fun z => .ok (z, e)) ok k fun G1 H1 env1 x y da db go1 ok1 rx ry k1 => by
      obtain ⟨z, e, k2⟩ := k1.bind.ok (binD_noexc o da db)
      exact o2 G1 H1 x y da db z Q ok1.sub rx ry e (k2 G1 H1 go1 ok1)
  have he : PE X (.BinOp xa op xb pos) (tE X.K X.w WO (ev ft (.bin o a b))) := peW base fun σ H Q ⟨G, env, ok, k⟩ => ⟨G, env, ok, k.mono fun x _ f G' H' go ok' => by
    split
    · exact fun v H2 n => by
        obtain ⟨G2, g, r⟩ := n.grow ok'.sub
        exact f v G2 H2 (go.trans (.grow g)) (ok'.grow g) r
    · exact fun v G2 H2 g r => f v G2 H2 (go.trans (.grow g)) (ok'.grow g) r⟩
  exact ⟨fun _ => he, fun _ => peB he, fun _ => peW base fun σ H Q ⟨G, env, ok, k⟩ => ⟨G, env, ok, k.mono fun x _ ⟨c, f⟩ G' H' go ok' => by
    rw [if_pos c]
    exact fun v H2 n => f v G' H' H2 go ok' n⟩, fun _ => ptE he fun _ => rfl, fun i z => by cases z⟩
theorem n_neg {a : E} {xa : Expr} {pos : Pos} (ha : PE X xa (tE X.K X.w WO (ev ft a))) : Sx X WO ft (.neg a) (.UnaryOp .USub xa pos) :=
  .mk1 (peW (pe_un un_neg ha) fun σ H Q ⟨G, env, ok, k⟩ => ⟨G, env, ok, (K1.bind (r := ev ft a env) k).mono fun x _ h v G' H' go ok' r => by
    obtain ⟨d, e⟩ := x
    cases d with
    | int i =>
      cases r
      exact ⟨i, rfl, h _ G' H' go ok' (.int _)⟩
    | _ => exact h.elim⟩) rfl rfl fun _ => rfl
theorem n_not {a : E} {xa : Expr} {pos : Pos} (ha : PE X xa (tE X.K X.w WO (ev ft a))) (ht : PT X xa (tT X.K X.w WO (ev ft a))) : Sx X WO ft (.not a) (.UnaryOp .Not xa pos) := by
  have he : PE X (.UnaryOp .Not xa pos) (tE X.K X.w WO (ev ft (.not a))) := peW (pe_not ha) fun σ H Q ⟨G, env, ok, k⟩ => ⟨G, env, ok, (K1.bind (r := ev ft a env) k).mono fun x _ h v G' H' go ok' r => by
    obtain ⟨d, e⟩ := x
    cases d with
    | bl i =>
      cases r
      exact ⟨i, rfl, h _ G' H' go ok' (.bl _)⟩
    | _ => exact h.elim⟩
  refine ⟨fun _ => he, fun _ => peB he, fun z => (by cases z), fun _ => ptW (pt_not ht) fun σ H Q ⟨G, env, ok, k⟩ => ⟨G, env, ok, ?_⟩, fun i z => by cases z⟩
  have k2 : K1 WO H σ env ((ev ft a env).bind fun x => (bool x).bind fun b => R.ok (!b.1, b.2)) fun x => ∀ G' H', Go G H σ env G' H' σ x.2 → EOk X.K X.w G' H' σ x.2 → Q x.1 H' := by
    unfold ev at k
    cases q : ev ft a env with
    | ok x =>
      rw [q] at k
      obtain ⟨d, e⟩ := x
      cases d <;> exact k
    | exc c d => rw [q] at k; exact k
    | bad => rw [q] at k; exact k
  have e2 : ((ev ft a env).bind bool).bind (fun b => R.ok (!b.1, b.2)) = ((ev ft a env).bind fun x => (bool x).bind fun b => R.ok (!b.1, b.2)) := by
    cases ev ft a env <;> rfl
  rw [← e2] at k2
  exact k2.bind.mono fun x _ h G' H' go ok' => h G' H' go ok'
theorem n_cmp {o : CO} {a b : E} {xa xb : Expr} {op : CmpOp} {pos : Pos} {r : R2} (hr : OpR X (compareOp op) r) (o2 : Op2B X.K X.w (cmpD o) r) (ha : PE X xa (lateT X.K X.w WO ft a)) (hb : PE X xb (tB X.K X.w WO (ev ft b))) (hm : behindInMarks op xb = false) :
    Sx X WO ft (.cmp o a b) (.Compare xa [op] [xb] pos) := by
  have noexc := cmpD_noexc o
  have base : PE X (.Compare xa [op] [xb] pos) (fun σ H Q => ∃ G env, EOk X.K X.w G H σ env ∧ K1 WO H σ env (ev ft (.cmp o a b) env) fun x =>
      ∀ G' H', Go G H σ env G' H' σ x.2 → EOk X.K X.w G' H' σ x.2 → ∀ c, x.1 = .bl c → Q (.bl c) H') :=
    peW (pe_cmpR hr ha hb hm) fun σ H Q ⟨G, env, ok, k⟩ => two (F := fun x' y e => (cmpD o x' y).bind fun z => .ok (D.bl z, e)) ok k fun G1 H1 env1 x y da db go1 ok1 rx ry k1 => by
      obtain ⟨z, e, k2⟩ := k1.bind.ok (noexc da db)
      exact o2 G1 H1 x y da db z Q ok1.sub rx ry e (k2 G1 H1 go1 ok1 z rfl)
  have shape : ∀ (env : Env) (x : D × Env), ev ft (.cmp o a b) env = .ok x → ∃ c, x.1 = .bl c := fun env x h => by
    unfold ev at h
    cases q : ev ft a env with
    | ok x1 =>
      rw [q] at h
      simp only [R.bind] at h
      cases q2 : ev ft b x1.2 with
      | ok x2 =>
        rw [q2] at h
        simp only [R.bind] at h
        cases q3 : late a x1.1 x2.2 with
        | ok x3 =>
          rw [q3] at h
          simp only [R.bind] at h
          cases q4 : cmpD o x3 x2.1 with
          | ok z => rw [q4] at h; cases h; exact ⟨z, rfl⟩
          | exc c d => rw [q4] at h; cases h
          | bad => rw [q4] at h; cases h
        | exc c d => rw [q3] at h; cases h
        | bad => rw [q3] at h; cases h
      | exc c d => rw [q2] at h; cases h
      | bad => rw [q2] at h; cases h
    | exc c d => rw [q] at h; cases h
    | bad => rw [q] at h; cases h
  have he : PE X (.Compare xa [op] [xb] pos) (tE X.K X.w WO (ev ft (.cmp o a b))) := peW base fun σ H Q ⟨G, env, ok, k⟩ => ⟨G, env, ok, k.mono fun x _ f G' H' go ok' c hc => f _ G' H' go ok' (by rw [hc]; exact .bl c)⟩
  refine ⟨fun _ => he, fun _ => peB he, fun z => (by cases z), fun _ => ptW (pt_cmpR hr ha hb hm) fun σ H Q ⟨G, env, ok, k⟩ => two (F := fun x' y e => (cmpD o x' y).bind fun z => .ok (D.bl z, e)) (P := fun x : D × Env => ∀ G' H', Go G H σ env G' H' σ x.2 → EOk X.K X.w G' H' σ x.2 → ∀ c, x.1 = .bl c → Q c H') ok (K1.mono k.bind fun x e h G' H' go ok' c hc => ?_) fun G1 H1 env1 x y da db go1 ok1 rx ry k1 => ?_, fun i z => by cases z⟩
  · obtain ⟨d, e'⟩ := x
    cases hc
    exact h G' H' go ok'
  · obtain ⟨z, e, k2⟩ := k1.bind.ok (noexc da db)
    exact o2 G1 H1 x y da db z (fun x H' => ∃ k, x = .bl k ∧ Q k H') ok1.sub rx ry e ⟨z, rfl, k2 G1 H1 go1 ok1 z rfl⟩
end
end Py
end
section
set_option linter.all false
set_option maxRecDepth 100000
set_option maxHeartbeats 1000000
/-! PySnd8: expressions, further nodes. -/
namespace Py
open PySem PySem.Spec PyProof.Rows L2
variable [tb : Tb]
section
variable {X : Cx} {WO : WN} {ft : Ft}

/-! ### tests that are joined -/
theorem bool_noexc {x : D × Env} {c : Nat} {d : D} : bool x ≠ .exc c d := by
  obtain ⟨z, e⟩ := x
  cases z <;> exact fun q => by cases q
theorem bool_ok {x : D × Env} {k : Bool × Env} (h : bool x = .ok k) : x = (.bl k.1, k.2) := by
  obtain ⟨z, e⟩ := x
  cases z <;> first
    | (cases h; rfl)
    | cases h
/-- behind a test: what is asked -/
theorem K1.test {H : Hp} {σ : Sg} {env : Env} {r : R (D × Env)} {β : Type} {f : Bool × Env → R β} {P : β → Prop} (h : K1 WO H σ env (r.bind fun x => (bool x).bind f) P) :
    K1 WO H σ env r (fun x => ∃ c e, x = (.bl c, e) ∧ K1 WO H σ env (f (c, e)) P) ∧ K1 WO H σ env (r.bind bool) (fun k => K1 WO H σ env (f k) P) := by
  have h1 := h.bind
  refine ⟨h1.mono fun x _ q => ?_, ?_⟩
  · obtain ⟨k, e, q2⟩ := (K1.bind (r := bool x) q).ok fun _ _ => bool_noexc
    exact ⟨k.1, k.2, bool_ok e, q2⟩
  · cases r with
    | ok x => exact (K1.bind (r := bool x) h1)
    | exc c d => exact h1
    | bad => exact h1
theorem eB {x : Expr} {rf : Env → R (D × Env)} (h : PE X x (tE X.K X.w WO rf)) {σ : Sg} {H : Hp} {G : Hp} {env : Env} {P : Bool → Hp → Prop} (ok : EOk X.K X.w G H σ env)
    (k : K1 WO H σ env (rf env) fun x => ∃ c e, x = (.bl c, e) ∧ ∀ G' H', Go G H σ env G' H' σ e → EOk X.K X.w G' H' σ e → P c H') : tE X.K X.w WO rf σ H fun x H1 => ∃ c, x = .bl c ∧ P c H1 :=
  ⟨G, env, ok, k.mono fun x _ ⟨c, e, hx, f⟩ v G' H' a b r => by
    subst hx
    cases r
    exact ⟨c, rfl, f G' H' a b⟩⟩

/-- the rest of an and, of an or -/
structure Bx (X : Cx) (WO : WN) (ft : Ft) (c : E) (op : BoolOp) (xs : List Expr) : Prop where
  e : ∀ pos, PE X (.BoolOp op xs pos) (tE X.K X.w WO (ev ft c))
  w : ∀ pos, PW X (.BoolOp op xs pos) (tT X.K X.w WO (ev ft c))
theorem Bx.one {c : E} {op : BoolOp} {x : Expr} (h : PE X x (tE X.K X.w WO (ev ft c))) (t : PT X x (tT X.K X.w WO (ev ft c))) : Bx X WO ft c op [x] where
  e := fun pos => pe_one h
  w := fun pos => by
    cases op with
    | And => exact pw_and1 t
    | Or => exact pw_or1 t
theorem Bx.sx {c : E} {op : BoolOp} {xs : List Expr} {pos : Pos} (h : Bx X WO ft c op xs) (hf : fresh c = false) (hn : nb c = true) : Sx X WO ft c (.BoolOp op xs pos) :=
  ⟨fun _ => h.e pos, fun _ => peB (h.e pos), fun z => (by rw [hf] at z; cases z), fun _ => (h.w pos).pt, fun i z => by rw [z] at hn; cases hn⟩
theorem pwW {x : Expr} {t t' : TT} (h : PW X x t) (f : ∀ σ H Q, t' σ H Q → t σ H Q) : PW X x t' := ⟨fun wh pins s σ H Q I q => h.run wh pins s σ H Q I (f σ H Q q)⟩
theorem n_and {a b : E} {xa y : Expr} {r : List Expr} (ha : PE X xa (tE X.K X.w WO (ev ft a))) (ta : PT X xa (tT X.K X.w WO (ev ft a))) (hb : Bx X WO ft b .And (y :: r)) : Bx X WO ft (.and a b) .And (xa :: y :: r) where
  e := fun pos => peW (pe_and ha (hb.e pos)) fun σ H Q ⟨G, env, ok, k⟩ => by
    refine eB (P := fun c H1 => if c = true then tE X.K X.w WO (ev ft b) σ H1 Q else Q (.bl false) H1) ha ok ((K1.test (r := ev ft a env) k).1.mono fun x _ ⟨c, e, hx, q⟩ => ⟨c, e, hx, fun G' H' go ok' => ?_⟩)
    cases c with
    | true => exact ⟨G', e, ok', (K1.go (G := G) (G' := G') (show K1 WO H σ env (ev ft b e) _ from q) go).mono fun y _ h v G2 H2 go2 ok2 r2 => h v G2 H2 (go.trans go2) ok2 r2⟩
    | false =>
      show Q (.bl false) H'
      exact q _ G' H' go ok' (.bl _)
  w := fun pos => pwW (pw_and ta (hb.w pos)) fun σ H Q ⟨G, env, ok, k⟩ => by
    have e2 : (ev ft (.and a b) env).bind bool = (ev ft a env).bind fun x => (bool x).bind fun k => if k.1 = true then (ev ft b k.2).bind bool else .ok (false, k.2) := by
      show ((ev ft a env).bind _).bind bool = _
      cases ev ft a env with
      | ok x =>
        simp only [R.bind]
        cases q : bool x with
        | ok k =>
          obtain ⟨kb, ke⟩ := k
          cases kb <;> rfl
        | _ => rfl
      | _ => rfl
    rw [e2] at k
    refine ⟨G, env, ok, (K1.test (r := ev ft a env) k).2.mono fun x _ q G' H' go ok' => ?_⟩
    obtain ⟨c, e⟩ := x
    cases c with
    | true => exact ⟨G', e, ok', (K1.go (G := G) (G' := G') (show K1 WO H σ env ((ev ft b e).bind bool) _ from q) go).mono fun y _ h G2 H2 go2 ok2 => h G2 H2 (go.trans go2) ok2⟩
    | false => exact q G' H' go ok'
theorem n_or {a b : E} {xa y : Expr} {r : List Expr} (ha : PE X xa (tE X.K X.w WO (ev ft a))) (ta : PT X xa (tT X.K X.w WO (ev ft a))) (hb : Bx X WO ft b .Or (y :: r)) : Bx X WO ft (.or a b) .Or (xa :: y :: r) where
  e := fun pos => peW (pe_or ha (hb.e pos)) fun σ H Q ⟨G, env, ok, k⟩ => by
    refine eB (P := fun c H1 => if c = true then Q (.bl true) H1 else tE X.K X.w WO (ev ft b) σ H1 Q) ha ok ((K1.test (r := ev ft a env) k).1.mono fun x _ ⟨c, e, hx, q⟩ => ⟨c, e, hx, fun G' H' go ok' => ?_⟩)
    cases c with
    | false => exact ⟨G', e, ok', (K1.go (G := G) (G' := G') (show K1 WO H σ env (ev ft b e) _ from q) go).mono fun y _ h v G2 H2 go2 ok2 r2 => h v G2 H2 (go.trans go2) ok2 r2⟩
    | true =>
      show Q (.bl true) H'
      exact q _ G' H' go ok' (.bl _)
  w := fun pos => pwW (pw_or ta (hb.w pos)) fun σ H Q ⟨G, env, ok, k⟩ => by
    have e2 : (ev ft (.or a b) env).bind bool = (ev ft a env).bind fun x => (bool x).bind fun k => if k.1 = true then .ok (true, k.2) else (ev ft b k.2).bind bool := by
      show ((ev ft a env).bind _).bind bool = _
      cases ev ft a env with
      | ok x =>
        simp only [R.bind]
        cases q : bool x with
        | ok k =>
          obtain ⟨kb, ke⟩ := k
          cases kb <;> rfl
        | _ => rfl
      | _ => rfl
    rw [e2] at k
    refine ⟨G, env, ok, (K1.test (r := ev ft a env) k).2.mono fun x _ q G' H' go ok' => ?_⟩
    obtain ⟨c, e⟩ := x
    cases c with
    | false => exact ⟨G', e, ok', (K1.go (G := G) (G' := G') (show K1 WO H σ env ((ev ft b e).bind bool) _ from q) go).mono fun y _ h G2 H2 go2 ok2 => h G2 H2 (go.trans go2) ok2⟩
    | true => exact q G' H' go ok'
theorem n_ife {c a b : E} {xc xa xb : Expr} {pos : Pos} (tc : PT X xc (tT X.K X.w WO (ev ft c))) (ha : PE X xa (tE X.K X.w WO (ev ft a))) (hb : PE X xb (tE X.K X.w WO (ev ft b)))
    (ta : PT X xa (tT X.K X.w WO (ev ft a))) (tb : PT X xb (tT X.K X.w WO (ev ft b))) : Sx X WO ft (.ife c a b) (.IfExp xc xa xb pos) := by
  have he : PE X (.IfExp xc xa xb pos) (tE X.K X.w WO (ev ft (.ife c a b))) := peW (pe_ifExp tc ha hb) fun σ H Q ⟨G, env, ok, k⟩ =>
    ⟨G, env, ok, (K1.test (r := ev ft c env) k).2.mono fun x _ q G' H' go ok' => by
      obtain ⟨c, e⟩ := x
      cases c with
      | true => exact ⟨G', e, ok', (K1.go (G := G) (G' := G') (show K1 WO H σ env (ev ft a e) _ from q) go).mono fun y _ h v G2 H2 go2 ok2 r2 => h v G2 H2 (go.trans go2) ok2 r2⟩
      | false => exact ⟨G', e, ok', (K1.go (G := G) (G' := G') (show K1 WO H σ env (ev ft b e) _ from q) go).mono fun y _ h v G2 H2 go2 ok2 r2 => h v G2 H2 (go.trans go2) ok2 r2⟩⟩
  refine ⟨fun _ => he, fun _ => peB he, fun z => (by cases z), fun _ => ?_, fun i z => by cases z⟩
  refine ⟨fun pins s σ H Q I ⟨G, env, ok, k⟩ => ?_⟩
  have e2 : (ev ft (.ife c a b) env).bind bool = (ev ft c env).bind fun x => (bool x).bind fun k => if k.1 = true then (ev ft a k.2).bind bool else (ev ft b k.2).bind bool := by
    show ((ev ft c env).bind _).bind bool = _
    cases ev ft c env with
    | ok x =>
      simp only [R.bind]
      cases q : bool x with
      | ok k =>
        obtain ⟨kb, ke⟩ := k
        cases kb <;> rfl
      | _ => rfl
    | _ => rfl
  rw [e2] at k
  have k2 := (K1.test (r := ev ft c env) k).2
  show wpAny _ _ (isTrue xc X.env (eval xc X.env) >>= fun z => if z = true then isTrue xa X.env (eval xa X.env) else isTrue xb X.env (eval xb X.env)) _ _ _
  refine wpAny_bind (thn (tc.run pins s σ H (fun z H1 => if z = true then tT X.K X.w WO (ev ft a) σ H1 Q else tT X.K X.w WO (ev ft b) σ H1 Q) I ⟨G, env, ok, k2.mono fun x _ q G' H' go ok' => ?_⟩) fun z s1 ⟨H1, I1, q1⟩ => ?_)
  · obtain ⟨c, e⟩ := x
    cases c with
    | true => exact ⟨G', e, ok', (K1.go (G := G) (G' := G') (show K1 WO H σ env ((ev ft a e).bind bool) _ from q) go).mono fun y _ h G2 H2 go2 ok2 => h G2 H2 (go.trans go2) ok2⟩
    | false => exact ⟨G', e, ok', (K1.go (G := G) (G' := G') (show K1 WO H σ env ((ev ft b e).bind bool) _ from q) go).mono fun y _ h G2 H2 go2 ok2 => h G2 H2 (go.trans go2) ok2⟩
  · cases z with
    | true => exact ta.run pins s1 σ H1 Q I1 q1
    | false => exact tb.run pins s1 σ H1 Q I1 q1

/-! ### a < b < c -/
theorem K1.chain {o o' : CO} {a b c : E} {G H : Hp} {σ : Sg} {env : Env} {r r' : R2} {P : Bool × Env → Prop} {Q : VK} (o2 : Op2B X.K X.w (cmpD o) r) (o2' : Op2B X.K X.w (cmpD o') r') (ok : EOk X.K X.w G H σ env)
    (k : K1 WO H σ env ((ev ft (.chn o o' a b c) env).bind bool) P) (fin : ∀ k e G' H', P (k, e) → Go G H σ env G' H' σ e → EOk X.K X.w G' H' σ e → Q (.bl k) H') :
    tChain r r' (tE X.K X.w WO (ev ft a)) (tE X.K X.w WO (ev ft b)) (tE X.K X.w WO (ev ft c)) σ H Q := by
  have e2 : (ev ft (.chn o o' a b c) env).bind bool = (ev ft a env).bind fun x => (ev ft b x.2).bind fun y => (cmpD o x.1 y.1).bind fun k =>
      if k = true then (ev ft c y.2).bind fun z => (cmpD o' y.1 z.1).bind fun k' => .ok (k', z.2) else .ok (false, y.2) := by
    show ((ev ft a env).bind _).bind bool = _
    cases ev ft a env with
    | ok x =>
      simp only [R.bind]
      cases ev ft b x.2 with
      | ok y =>
        simp only [R.bind]
        cases cmpD o x.1 y.1 with
        | ok kb =>
          cases kb with
          | false => rfl
          | true =>
            simp only [R.bind, if_true]
            cases ev ft c y.2 with
            | ok z =>
              simp only [R.bind]
              cases cmpD o' y.1 z.1 <;> rfl
            | _ => rfl
        | _ => rfl
      | _ => rfl
    | _ => rfl
  rw [e2] at k
  refine ⟨G, env, ok, k.bind.mono fun x _ h1 v G1 H1 go1 ok1 rx => ⟨G1, x.2, ok1, (h1.bind.go go1).mono fun y _ h2 u G2 H2 go2 ok2 ry => ?_⟩⟩
  obtain ⟨kb, e, h3⟩ := h2.bind.ok (cmpD_noexc o x.1 y.1)
  refine o2 G2 H2 v u x.1 y.1 kb _ ok2.sub (.inl (rx.sub go2.gs)) (.inl ry) e ⟨kb, rfl, ?_⟩
  cases kb with
  | false => exact fin false y.2 G2 H2 h3 (go1.trans go2) ok2
  | true =>
    refine ⟨G2, y.2, ok2, ((K1.go (G := G) (G' := G2) (show K1 WO H σ env ((ev ft c y.2).bind fun z => (cmpD o' y.1 z.1).bind fun k' => R.ok (k', z.2)) P from h3) (go1.trans go2)).bind).mono fun z _ h4 t G3 H3 go3 ok3 rz => ?_⟩
    obtain ⟨k', e', h5⟩ := h4.bind.ok (cmpD_noexc o' y.1 z.1)
    exact o2' G3 H3 u t y.1 z.1 k' Q ok3.sub (.inl (ry.sub go3.gs)) (.inl rz) e' (fin k' z.2 G3 H3 h5 ((go1.trans go2).trans go3) ok3)
theorem n_chn {o o' : CO} {a b c : E} {xa xb xc : Expr} {op op' : CmpOp} {pos : Pos} {r r' : R2} (hr : OpR X (compareOp op) r) (hr' : OpR X (compareOp op') r') (o2 : Op2B X.K X.w (cmpD o) r) (o2' : Op2B X.K X.w (cmpD o') r')
    (ha : PE X xa (tE X.K X.w WO (ev ft a))) (hb : PE X xb (tE X.K X.w WO (ev ft b))) (hc : PE X xc (tE X.K X.w WO (ev ft c))) (hm : lastMarks [op, op'] [xb, xc] = false) :
    Sx X WO ft (.chn o o' a b c) (.Compare xa [op, op'] [xb, xc] pos) := by
  have shape : ∀ (env : Env) (H : Hp) (σ : Sg) (P : D × Env → Prop), K1 WO H σ env (ev ft (.chn o o' a b c) env) P → K1 WO H σ env ((ev ft (.chn o o' a b c) env).bind bool) fun k => P (.bl k.1, k.2) := fun env H σ P h => by
    have e1 : ∃ f : R (Bool × Env), ev ft (.chn o o' a b c) env = f.bind fun k => .ok (.bl k.1, k.2) := by
      refine ⟨(ev ft a env).bind fun x => (ev ft b x.2).bind fun y => (cmpD o x.1 y.1).bind fun k =>
        if k = true then (ev ft c y.2).bind fun z => (cmpD o' y.1 z.1).bind fun k' => .ok (k', z.2) else .ok (false, y.2), ?_⟩
      show (ev ft a env).bind _ = _
      cases ev ft a env with
      | ok x =>
        simp only [R.bind]
        cases ev ft b x.2 with
        | ok y =>
          simp only [R.bind]
          cases cmpD o x.1 y.1 with
          | ok kb =>
            cases kb with
            | false => rfl
            | true =>
              simp only [R.bind, if_true]
              cases ev ft c y.2 with
              | ok z =>
                simp only [R.bind]
                cases cmpD o' y.1 z.1 <;> rfl
              | _ => rfl
          | _ => rfl
        | _ => rfl
      | _ => rfl
    obtain ⟨f, e1⟩ := e1
    rw [e1] at h ⊢
    cases f <;> exact h
  have he : PE X (.Compare xa [op, op'] [xb, xc] pos) (tE X.K X.w WO (ev ft (.chn o o' a b c))) := peW (pe_chain hr hr' ha hb hc hm) fun σ H Q ⟨G, env, ok, k⟩ =>
    K1.chain o2 o2' ok (shape _ _ _ _ k) fun k e G' H' h go ok' => h _ G' H' go ok' (.bl _)
  exact ⟨fun _ => he, fun _ => peB he, fun z => (by cases z), fun _ => ptW (pt_chain hr hr' ha hb hc hm) fun σ H Q ⟨G, env, ok, k⟩ =>
    K1.chain o2 o2' ok k fun k e G' H' h go ok' => ⟨k, rfl, h G' H' go ok'⟩, fun i z => by cases z⟩
end
end Py
end
section
set_option linter.all false
set_option maxRecDepth 100000
set_option maxHeartbeats 1000000
/-! PySnd9: lists of expressions, displays, subscripts, targets, what is walked. -/
namespace Py
open PySem PySem.Spec PyProof.Rows L2
variable [tb : Tb]
theorem star_plain {x : Expr} {es : List Expr} {env : PySem.Env} (h : plain x = true) : starEach (x :: es) env = (false, eval x env) :: starEach es env := by
  cases x <;> first
    | rfl
    | cases h
theorem fold_plain {x : Expr} {env : PySem.Env} (h : plain x = true) : ∀ v, foldedSetIterable x env v = pure v := by
  intro v
  cases x <;> first
    | rfl
    | cases h
theorem beh_plain {x : Expr} {op : CmpOp} (h : plain x = true) : behindInMarks op x = false := by
  cases x <;> first
    | rfl
    | cases h
theorem ix_plain {x : Expr} (h : plain x = true) : PlainIx x := by
  intro o i
  cases x <;> first
    | rfl
    | cases h
section
variable {X : Cx} {WO : WN} {ft : Ft}
/-- lists whose items are kept -/
theorem a_nil : PA X [] (tA X.K X.w WO (ev ft .nil)) := paW pa_nil fun σ H Q ⟨G, env, ok, ds, e, f⟩ => by
  cases e
  exact f [] G H .refl ok .nil
theorem a_cons {a b : E} {x : Expr} {xs : List Expr} (ha : PE X x (tE X.K X.w WO (ev ft a))) (hb : PA X xs (tA X.K X.w WO (ev ft b))) (hp : plain x = true) : PA X (x :: xs) (tA X.K X.w WO (ev ft (.cons a b))) :=
  paW (pa_cons ha hb (star_plain hp)) fun σ H Q ⟨G, env, ok, k⟩ =>
    ⟨G, env, ok, (K1.bind (r := ev ft a env) k).mono fun x1 _ h1 v G1 H1 go1 ok1 r1 => ⟨G1, x1.2, ok1, (K1.go (G := G) (G' := G1) h1.bind go1).mono fun y _ h2 => by
      obtain ⟨d, e⟩ := y
      cases d with
      | lst ys =>
        obtain ⟨ds, e1, f⟩ := h2
        cases e1
        exact ⟨ys, rfl, fun vs G2 H2 go2 ok2 r2 => f (v :: vs) G2 H2 (go1.trans go2) ok2 (.cons (r1.sub go2.gs) r2)⟩
      | _ => exact h2.elim⟩⟩
/-- one item, it may be borrowed -/
def tA1 (K : Fg) (w : World) (WO : WN) (rf : Env → R (D × Env)) : TA := fun σ H Q => ∃ G env, EOk K w G H σ env ∧ K1 WO H σ env (rf env) fun x =>
  ∃ d, x.1 = .lst [d] ∧ ∀ v G' H', Go G H σ env G' H' σ x.2 → EOk K w G' H' σ x.2 → RepB K w G' H' v d → Q [v] H'
theorem a_one {a : E} {x : Expr} (ha : PE X x (tB X.K X.w WO (ev ft a))) (hp : plain x = true) : PA X [x] (tA1 X.K X.w WO (ev ft (.cons a .nil))) :=
  paW (pa_cons ha pa_nil (star_plain hp)) fun σ H Q ⟨G, env, ok, k⟩ =>
    ⟨G, env, ok, (K1.bind (r := ev ft a env) k).mono fun x1 _ h1 v G1 H1 go1 ok1 r1 => by
      obtain ⟨d, e1, f⟩ := h1
      cases e1
      exact f v G1 H1 go1 ok1 r1⟩

theorem n_tup {es : E} {xs : List Expr} {q : Nat} {pos : Pos} (h : PA X xs (tA X.K X.w WO (ev ft es))) : Sx X WO ft (.tup es) (.Tuple xs q pos) :=
  .mk1 (peW (pe_tupF h) fun σ H Q ⟨G, env, ok, k⟩ => ⟨G, env, ok, (K1.bind (r := ev ft es env) k).mono fun x _ h1 => by
    obtain ⟨d, e⟩ := x
    cases d with
    | lst ds =>
      simp only [unL, R.bind] at h1
      split at h1
      · rename_i hl
        exact ⟨ds, rfl, fun vs G' H' go ok' r => ⟨by rw [r.length]; exact line_of hl, fun p u hp hu => by
          have gr : Grow G' H' (upd G' p u) (upd H' p u) := .upd ok'.sub hp hu.nt
          exact h1 _ _ _ (go.trans (.grow gr)) (ok'.grow gr) (.tup (.new hu) (r.sub gr.gs))⟩⟩
      · exact h1.elim
    | _ => exact h1.elim⟩) rfl rfl fun _ => rfl
theorem n_lst {es : E} {xs : List Expr} {pos : Pos} (h : PA X xs (tA X.K X.w WO (ev ft es))) : Sx X WO ft (.lst es) (.List xs pos) := by
  have base : PE X (.List xs pos) (tO X.K X.w WO (ev ft (.lst es))) := peW (pe_lst h) fun σ H Q ⟨G, env, ok, k⟩ => ⟨G, env, ok, (K1.bind (r := ev ft es env) k).mono fun x _ h1 => by
    obtain ⟨d, e⟩ := x
    cases d with
    | lst ds =>
      simp only [unL, R.bind] at h1
      split at h1
      · rename_i hl
        exact ⟨ds, rfl, fun vs G' H' go ok' r => ⟨by rw [r.length]; exact line_of hl, fun p hp => h1.2 _ _ _ _ go ok' (newL hp r)⟩⟩
      · exact h1.elim
    | _ => exact h1.elim⟩
  have he : PE X (.List xs pos) (tE X.K X.w WO (ev ft (.lst es))) := peW base fun σ H Q ⟨G, env, ok, k⟩ => toO ok (k.mono fun x e f => ⟨(by
    have e : (ev ft es env).bind (fun x => (unL x.1).bind fun ds => if ds.length ≤ SZ then R.ok (D.lst ds, x.2) else .bad) = .ok x := e
    cases q : ev ft es env with
    | ok y =>
      rw [q] at e
      obtain ⟨d, e'⟩ := y
      cases d <;> simp only [unL, R.bind] at e <;> try cases e
      split at e <;> cases e
      rfl
    | exc c d => rw [q] at e; cases e
    | bad => rw [q] at e; cases e), f⟩)
  exact ⟨fun _ => he, fun _ => peB he, fun _ => base, fun _ => ptE he fun _ => rfl, fun i z => by cases z⟩

/-! ### subscripts -/
theorem subsD_noexc (x y : D) (c : Nat) (d : D) : subsD x y ≠ .exc c d := by
  cases x <;> cases y <;> first
    | (exact fun q => by cases q)
    | (simp only [subsD, atD]
       split
       · rename_i xs i o j q
         cases xs[j]? <;> exact fun q => by cases q
       · exact fun q => by cases q)
    | (simp only [subsD]
       split <;> exact fun q => by cases q)
theorem n_sub {a i : E} {xa xi : Expr} {pos : Pos} (hu : X.A.units + 65 < cLine) (ha : PE X xa (lateT X.K X.w WO ft a)) (hi : PE X xi (tB X.K X.w WO (ev ft i))) (hp : plain xi = true) : Sx X WO ft (.sub a i) (.Subscript xa xi pos) :=
  .mk1 (peW (pe_ix (ix_subs hu) ha hi (ix_plain hp)) fun σ H Q ⟨G, env, ok, k⟩ => two (F := fun x' y e => (subsD x' y).bind fun z => .ok (z, e)) ok k fun G1 H1 env1 x y da db go1 ok1 rx ry k1 => by
    obtain ⟨z, e, k2⟩ := k1.bind.ok (subsD_noexc da db)
    exact o2_subs ok1.sub rx ry e fun v G2 H2 g r => k2 v G2 H2 (go1.trans (.grow g)) (ok1.grow g) r) rfl rfl fun _ => rfl
end
section
variable {K : Fg} {w : World}
theorem cut_eq {α : Type} (xs : List α) (lo hi : Option Int) : cutL xs lo hi = (xs.drop (HT.sIx xs.length 0 lo)).take (HT.sIx xs.length xs.length hi - HT.sIx xs.length 0 lo) := by
  unfold cutL
  cases lo <;> cases hi <;> simp only [six, HT.sIx]
theorem Reps.cut {G : Hp} {vs : List V} {ds : List D} (r : Reps K w G vs ds) (lo hi : Option Int) : Reps K w G (cutV vs lo hi) (cutL ds lo hi) := by
  rw [cut_eq]
  unfold cutV
  rw [r.length]
  exact (r.drop _).take _
def rSl (K : Fg) : V → Option Int → Option Int → Hp → VK → Prop := fun x lo hi H Q => rSlF K x lo hi H Q ∨ rSlL K x lo hi H Q
theorem take_all {α : Type} (xs : List α) : xs.take xs.length = xs := List.take_length
theorem o2_sl {G H : Hp} {x : V} {a z : D} {lo hi : Option Int} {Q : VK} (s : Sub G H) (rx : RepB K w G H x a) (h : slD a lo hi = .ok z) (o : if isCont z = true then OutO K w G H z Q else Out K w G H z Q) : rSl K x lo hi H Q := by
  cases a <;> simp only [slD] at h <;> try cases h
  · obtain ⟨p, xs, rfl, h1, r1, g1⟩ := rx.tup_ s
    replace o := outN rfl o
    refine .inl ⟨p, xs, rfl, h1.sqt, fun e => ?_, fun _ q u hq hu => outT s o hq hu (r1.cut lo hi)⟩
    refine o _ _ _ (.refl s) ?_
    have e2 := cut_eq (α := D) (xs := by assumption) lo hi
    rw [r1.length] at e
    rw [e2, e.1, e.2, List.drop_zero, Nat.sub_zero, List.take_length]
    exact .tup g1 r1
  · obtain ⟨p, xs, rfl, h1, r1⟩ := rx.lst_ s
    replace o := outC rfl o
    exact .inr ⟨p, xs, rfl, .of h1, fun q hq => o _ _ (newL hq (r1.cut lo hi))⟩
end
section
variable {X : Cx} {WO : WN} {ft : Ft}
theorem sl_any : SlR X (rSl X.K) := sl_tupF.or sl_list
/-- a slice's part -/
def tPo (K : Fg) (w : World) (WO : WN) (ft : Ft) (e : E) (o : Option Expr) : TO := match o with
  | none => tNoPart
  | some _ => tPart (tE K w WO (ev ft e))
def PoOk (X : Cx) (WO : WN) (ft : Ft) (e : E) (o : Option Expr) : Prop := match o with
  | none => e = .nil
  | some x => PE X x (tE X.K X.w WO (ev ft e)) ∧ nnil e = true
theorem PoOk.po {e : E} {o : Option Expr} (h : PoOk X WO ft e o) : PO X o (tPo X.K X.w WO ft e o) := by
  cases o with
  | none => exact po_none
  | some x => exact po_some h.1
theorem partR_noexc (e : E) (x : D) (c : Nat) (d : D) : partR e x ≠ .exc c d := by
  cases e <;> cases x <;> exact fun q => by cases q
theorem PoOk.run {e : E} {o : Option Expr} {G H : Hp} {σ : Sg} {env : Env} {β : Type} {f : Option Int → Env → R β} {P : β → Prop} {Rq : Option Int → Hp → Prop} (h : PoOk X WO ft e o) (ok : EOk X.K X.w G H σ env)
    (k : K1 WO H σ env ((ev ft e env).bind fun l => (partR e l.1).bind fun l' => f l' l.2) P)
    (fin : ∀ l G' H' env', Go G H σ env G' H' σ env' → EOk X.K X.w G' H' σ env' → K1 WO H' σ env' (f l env') P → Rq l H') : tPo X.K X.w WO ft e o σ H Rq := by
  cases o with
  | none =>
    have e1 : e = .nil := h
    subst e1
    exact fin none G H env .refl ok k
  | some x =>
    refine ⟨G, env, ok, k.bind.mono fun y e1 h1 v G' H' go ok' r => ?_⟩
    obtain ⟨l, e2, h2⟩ := h1.bind.ok (partR_noexc e y.1)
    have hr := fin l G' H' y.2 go ok' (K1.go (G := G) (G' := G') h2 go)
    obtain ⟨d, e'⟩ := y
    have hn := h.2
    cases d with
    | int i =>
      cases r
      have e3 : l = some i := by
        cases e <;> first
          | (cases e2; rfl)
          | cases hn
      subst e3
      exact ⟨i, rfl, hr⟩
    | _ => cases e <;> first
        | (cases hn; done)
        | (cases e2; done)
theorem slD_noexc (x : D) (lo hi : Option Int) (c : Nat) (d : D) : slD x lo hi ≠ .exc c d := by
  cases x <;> exact fun q => by cases q
theorem n_sli {a lo hi : E} {xa : Expr} {xl xh : Option Expr} {p2 pos : Pos} (ha : PE X xa (lateT X.K X.w WO ft a)) (hl : PoOk X WO ft lo xl) (hh : PoOk X WO ft hi xh) : Sx X WO ft (.sli a lo hi) (.Subscript xa (.Slice xl xh none p2) pos) := by
  have base : PE X (.Subscript xa (.Slice xl xh none p2) pos) (fun σ H Q => ∃ G env, EOk X.K X.w G H σ env ∧ K1 WO H σ env (ev ft (.sli a lo hi) env) fun x =>
      ∀ G' H', Go G H σ env G' H' σ x.2 → EOk X.K X.w G' H' σ x.2 → if isCont x.1 = true then OutO X.K X.w G' H' x.1 Q else Out X.K X.w G' H' x.1 Q) :=
    peW (pe_slice sl_any ha hl.po hh.po) fun σ H Q ⟨G, env, ok, k⟩ => by
      by_cases hb : nb a = true
      · rw [lateT_nb hb]
        refine ⟨G, env, ok, (K1.bind (r := ev ft a env) k).mono fun x _ h1 v G1 H1 go1 ok1 r1 => ?_⟩
        refine hl.run (f := fun lo' e => (ev ft hi e).bind fun h => (partR hi h.1).bind fun hi' => (late a x.1 h.2).bind fun x' => (slD x' lo' hi').bind fun z => .ok (z, h.2)) ok1 (K1.go (G := G) (G' := G1) h1 go1) fun l G2 H2 env2 go2 ok2 h2 => ?_
        refine hh.run (f := fun hi' e => (late a x.1 e).bind fun x' => (slD x' l hi').bind fun z => .ok (z, e)) ok2 h2 fun u G3 H3 env3 go3 ok3 h3 => ?_
        rw [late_nb hb] at h3
        obtain ⟨z, e, h4⟩ := (K1.bind (r := slD x.1 l u) h3).ok (slD_noexc x.1 l u)
        exact o2_sl ok3.sub (.inl (r1.sub (go2.gs.trans go3.gs))) e (h4 G3 H3 ((go1.trans go2).trans go3) ok3)
      · cases a with
        | bor i =>
          obtain ⟨d, e1, k2⟩ := (K1.bind (r := rd env i) (K1.bind (r := (rd env i).bind fun d => R.ok (d, env)) k)).ok fun _ _ => rd_noexc
          obtain ⟨v, hv, rv⟩ := ok.rd e1
          refine ⟨v, hv, ?_⟩
          refine hl.run (f := fun lo' e => (ev ft hi e).bind fun h => (partR hi h.1).bind fun hi' => (rd h.2 i).bind fun x' => (slD x' lo' hi').bind fun z => .ok (z, h.2)) ok k2 fun l G2 H2 env2 go2 ok2 h2 => ?_
          refine hh.run (f := fun hi' e => (rd e i).bind fun x' => (slD x' l hi').bind fun z => .ok (z, e)) ok2 h2 fun u G3 H3 env3 go3 ok3 h3 => ?_
          obtain ⟨da, e3, h4⟩ := (K1.bind (r := rd env3 i) h3).ok fun _ _ => rd_noexc
          obtain ⟨v', hv', rv'⟩ := ok3.rd e3
          rw [hv] at hv'
          cases hv'
          obtain ⟨z, e, h5⟩ := (K1.bind (r := slD da l u) h4).ok (slD_noexc da l u)
          exact o2_sl ok3.sub rv' e (h5 G3 H3 (go2.trans go3) ok3)
        | _ => exact (hb rfl).elim
  have he : PE X (.Subscript xa (.Slice xl xh none p2) pos) (tE X.K X.w WO (ev ft (.sli a lo hi))) := peW base fun σ H Q ⟨G, env, ok, k⟩ => ⟨G, env, ok, k.mono fun x _ f G' H' go ok' => by
    split
    · exact fun v H2 n => by
        obtain ⟨G2, g, r⟩ := n.grow ok'.sub
        exact f v G2 H2 (go.trans (.grow g)) (ok'.grow g) r
    · exact fun v G2 H2 g r => f v G2 H2 (go.trans (.grow g)) (ok'.grow g) r⟩
  exact ⟨fun _ => he, fun _ => peB he, fun _ => peW base fun σ H Q ⟨G, env, ok, k⟩ => ⟨G, env, ok, k.mono fun x _ ⟨c, f⟩ G' H' go ok' => by
    rw [if_pos c]
    exact fun v H2 n => f v G' H' H2 go ok' n⟩, fun _ => ptE he fun _ => rfl, fun i z => by cases z⟩
end
end Py
end
section
set_option linter.all false
set_option maxRecDepth 100000
set_option maxHeartbeats 1000000
/-! PySnd10: what is walked: lists, tuples, ranges, enumerate, zip. -/
namespace Py
open PySem PySem.Spec PyProof.Rows L2
variable [tb : Tb]
/-- J walks the items ds -/
structure Walk (K : Fg) (w : World) (G : Hp) (J : It) (ds : List D) : Prop where
  go : ∀ (i : Nat) (G1 H : Hp), i < ds.length → Sub G G1 → Sub G1 H → J.go i H
  yld : ∀ (i : Nat) (G1 H : Hp) (x : V) (H' : Hp) (d : D), ds[i]? = some d → Sub G G1 → Sub G1 H → J.yld i H x H' → ∃ G2, Grow G1 H G2 H' ∧ Rep K w G2 x d
  stop : ∀ (i : Nat) (G1 H : Hp), ds.length ≤ i → Sub G G1 → Sub G1 H → J.stop i H
def tI (K : Fg) (w : World) (WO : WN) (rf : Env → R (D × Env)) : TI := fun σ H R => ∃ G env, EOk K w G H σ env ∧ K1 WO H σ env (rf env) fun x =>
  ∃ ds, items x.1 = .ok ds ∧ ∀ J G' H', Go G H σ env G' H' σ x.2 → EOk K w G' H' σ x.2 → Walk K w G' J ds → R J H'
section
variable {K : Fg} {w : World} {G H : Hp}
theorem Walk.list {a : Addr} {xs : List V} {ds : List D} (h : G a = some (.lst xs)) (r : Reps K w G xs ds) : Walk K w G (Itl K a) ds where
  go := fun i G1 H hi s1 s2 => by
    have hx : i < xs.length := by rw [r.length]; exact hi
    exact ⟨xs, xs[i], .of (s2 _ _ (s1 _ _ h)), by rw [List.getElem?_eq_getElem hx]⟩
  yld := fun i G1 H x H' d hd s1 s2 ⟨e, f⟩ => by
    subst e
    have hx := f xs (.of (s2 _ _ (s1 _ _ h)))
    obtain ⟨d', h1, h2⟩ := r.getV hx
    rw [hd] at h1; cases h1
    exact ⟨G1, .refl s2, h2.sub s1⟩
  stop := fun i G1 H hi s1 s2 => ⟨xs, .of (s2 _ _ (s1 _ _ h)), by rw [r.length]; exact hi⟩
theorem Walk.tup {a : Addr} {xs : List V} {ds : List D} (h : TupO G a xs) (r : Reps K w G xs ds) : Walk K w G (Itt K a) ds where
  go := fun i G1 H hi s1 s2 => by
    have hx : i < xs.length := by rw [r.length]; exact hi
    exact ⟨xs, xs[i], (TupO.sub s2 (TupO.sub s1 h)).sqt, by rw [List.getElem?_eq_getElem hx]⟩
  yld := fun i G1 H x H' d hd s1 s2 ⟨e, f⟩ => by
    subst e
    have hx := f xs ((TupO.sub s2 (TupO.sub s1 h)).sqt)
    obtain ⟨d', h1, h2⟩ := r.getV hx
    rw [hd] at h1; cases h1
    exact ⟨G1, .refl s2, h2.sub s1⟩
  stop := fun i G1 H hi s1 s2 => ⟨xs, (TupO.sub s2 (TupO.sub s1 h)).sqt, by rw [r.length]; exact hi⟩
theorem Walk.rng {lo : Int} {n : Nat} : Walk K w G (Itr lo n) (rangeL lo n) where
  go := fun i G1 H hi s1 s2 => by
    have : i < n := by simpa [rangeL] using hi
    exact this
  yld := fun i G1 H x H' d hd s1 s2 ⟨e, f⟩ => by
    subst e f
    have hd2 : ((List.range n).map fun (i : Nat) => D.int (lo + (i : Int)))[i]? = some d := hd
    rw [List.getElem?_map] at hd2
    have hi : i < n := by
      have := (List.getElem?_eq_some_iff.mp hd).1
      simpa [rangeL] using this
    rw [List.getElem?_range hi] at hd2
    cases hd2
    exact ⟨G1, .refl s2, .int _⟩
  stop := fun i G1 H hi s1 s2 => by
    have : n ≤ i := by simpa [rangeL] using hi
    exact this
theorem enumL_get : ∀ (ds : List D) (k i : Nat) (d : D), (enumL k ds)[i]? = some d → ∃ d', ds[i]? = some d' ∧ d = .tup [.int ((k + i : Nat) : Int), d']
  | [], k, i, d, h => by simp [enumL] at h
  | x :: xs, k, 0, d, h => by
    simp [enumL] at h
    exact ⟨x, rfl, h.symm⟩
  | x :: xs, k, i + 1, d, h => by
    have h' : (enumL (k + 1) xs)[i]? = some d := by simpa [enumL] using h
    obtain ⟨d', h1, h2⟩ := enumL_get xs (k + 1) i d h'
    refine ⟨d', by simpa using h1, ?_⟩
    rw [h2]
    have : k + 1 + i = k + (i + 1) := by omega
    rw [this]
theorem enumL_len : ∀ (ds : List D) (k : Nat), (enumL k ds).length = ds.length
  | [], _ => rfl
  | _ :: xs, k => congrArg Nat.succ (enumL_len xs (k + 1))
theorem pairRep {G1 H : Hp} {T : Addr} {u : HO} {x : V} {d : D} {y : V} {c : D} (s2 : Sub G1 H) (hT : H T = none) (hu : IsTO u [x, y]) (r : Rep K w G1 x d) (q : Rep K w G1 y c) :
    ∃ G2, Grow G1 H G2 (upd H T u) ∧ Rep K w G2 (.ref T) (.tup [d, c]) :=
  ⟨upd G1 T u, .upd s2 hT hu.nt, .tup (.new hu) (.cons (r.sub (Sub.upd (s2.none hT))) (.cons (q.sub (Sub.upd (s2.none hT))) .nil))⟩
theorem Walk.enumL {a : Addr} {xs : List V} {ds : List D} (h : G a = some (.lst xs)) (r : Reps K w G xs ds) : Walk K w G (IteF K a) (enumL 0 ds) where
  go := fun i G1 H hi s1 s2 => by
    rw [enumL_len] at hi
    have hx : i < xs.length := by rw [r.length]; exact hi
    exact ⟨xs, xs[i], .of (s2 _ _ (s1 _ _ h)), by rw [List.getElem?_eq_getElem hx]⟩
  yld := fun i G1 H x H' d hd s1 s2 ⟨T, u, y, e1, hT, hu, e2, f⟩ => by
    subst e1 e2
    obtain ⟨d', h1, h2⟩ := enumL_get ds 0 i d hd
    rw [Nat.zero_add] at h2
    subst h2
    have hx := f xs (.of (s2 _ _ (s1 _ _ h)))
    obtain ⟨d2, h3, h4⟩ := r.getV hx
    rw [h1] at h3; cases h3
    exact pairRep s2 hT hu (.int _) (h4.sub s1)
  stop := fun i G1 H hi s1 s2 => ⟨xs, .of (s2 _ _ (s1 _ _ h)), by rw [r.length]; rw [enumL_len] at hi; exact hi⟩
theorem Walk.enumT {a : Addr} {xs : List V} {ds : List D} (h : TupO G a xs) (r : Reps K w G xs ds) : Walk K w G (IteTF K a) (Py.enumL 0 ds) where
  go := fun i G1 H hi s1 s2 => by
    rw [enumL_len] at hi
    have hx : i < xs.length := by rw [r.length]; exact hi
    exact ⟨xs, xs[i], (TupO.sub s2 (TupO.sub s1 h)).sqt, by rw [List.getElem?_eq_getElem hx]⟩
  yld := fun i G1 H x H' d hd s1 s2 ⟨T, u, y, e1, hT, hu, e2, f⟩ => by
    subst e1 e2
    obtain ⟨d', h1, h2⟩ := enumL_get ds 0 i d hd
    rw [Nat.zero_add] at h2
    subst h2
    have hx := f xs ((TupO.sub s2 (TupO.sub s1 h)).sqt)
    obtain ⟨d2, h3, h4⟩ := r.getV hx
    rw [h1] at h3; cases h3
    exact pairRep s2 hT hu (.int _) (h4.sub s1)
  stop := fun i G1 H hi s1 s2 => ⟨xs, (TupO.sub s2 (TupO.sub s1 h)).sqt, by rw [r.length]; rw [enumL_len] at hi; exact hi⟩
theorem zip2_get : ∀ (as bs : List D) (i : Nat) (d : D), (zip2 as bs)[i]? = some d → ∃ a b, as[i]? = some a ∧ bs[i]? = some b ∧ d = .tup [a, b]
  | [], _, i, d, h => by simp [zip2] at h
  | _ :: _, [], i, d, h => by simp [zip2] at h
  | a :: as, b :: bs, 0, d, h => by
    simp [zip2] at h
    exact ⟨a, b, rfl, rfl, h.symm⟩
  | a :: as, b :: bs, i + 1, d, h => by
    obtain ⟨x, y, h1, h2, h3⟩ := zip2_get as bs i d (by simpa [zip2] using h)
    exact ⟨x, y, by simpa using h1, by simpa using h2, h3⟩
theorem zip2_len : ∀ (as bs : List D), (zip2 as bs).length = min as.length bs.length
  | [], _ => by simp [zip2]
  | _ :: _, [] => by simp [zip2]
  | _ :: as, _ :: bs => by
    simp only [zip2, List.length_cons, zip2_len as bs]
    omega
theorem Walk.zipL {a b : Addr} {xs ys : List V} {ds es : List D} (h : G a = some (.lst xs)) (r : Reps K w G xs ds) (h' : G b = some (.lst ys)) (r' : Reps K w G ys es) : Walk K w G (ItzF K a b) (zip2 ds es) where
  go := fun i G1 H hi s1 s2 => by
    rw [zip2_len] at hi
    have hx : i < xs.length := by rw [r.length]; omega
    have hy : i < ys.length := by rw [r'.length]; omega
    exact ⟨xs, ys, xs[i], ys[i], .of (s2 _ _ (s1 _ _ h)), .of (s2 _ _ (s1 _ _ h')), by rw [List.getElem?_eq_getElem hx], by rw [List.getElem?_eq_getElem hy]⟩
  yld := fun i G1 H x H' d hd s1 s2 ⟨T, u, y, z, e1, hT, hu, e2, f, g⟩ => by
    subst e1 e2
    obtain ⟨p, q, h1, h2, h3⟩ := zip2_get ds es i d hd
    subst h3
    obtain ⟨d2, h4, h5⟩ := r.getV (f xs (.of (s2 _ _ (s1 _ _ h))))
    obtain ⟨d3, h6, h7⟩ := r'.getV (g ys (.of (s2 _ _ (s1 _ _ h'))))
    rw [h1] at h4; cases h4
    rw [h2] at h6; cases h6
    exact pairRep s2 hT hu (h5.sub s1) (h7.sub s1)
  stop := fun i G1 H hi s1 s2 => ⟨xs, ys, .of (s2 _ _ (s1 _ _ h)), .of (s2 _ _ (s1 _ _ h')), by rw [r.length, r'.length]; rw [zip2_len] at hi; omega⟩
theorem Walk.zipT {a b : Addr} {xs ys : List V} {ds es : List D} (h : TupO G a xs) (r : Reps K w G xs ds) (h' : TupO G b ys) (r' : Reps K w G ys es) : Walk K w G (ItzTF K a b) (zip2 ds es) where
  go := fun i G1 H hi s1 s2 => by
    rw [zip2_len] at hi
    have hx : i < xs.length := by rw [r.length]; omega
    have hy : i < ys.length := by rw [r'.length]; omega
    exact ⟨xs, ys, xs[i], ys[i], (TupO.sub s2 (TupO.sub s1 h)).sqt, (TupO.sub s2 (TupO.sub s1 h')).sqt, by rw [List.getElem?_eq_getElem hx], by rw [List.getElem?_eq_getElem hy]⟩
  yld := fun i G1 H x H' d hd s1 s2 ⟨T, u, y, z, e1, hT, hu, e2, f, g⟩ => by
    subst e1 e2
    obtain ⟨p, q, h1, h2, h3⟩ := zip2_get ds es i d hd
    subst h3
    obtain ⟨d2, h4, h5⟩ := r.getV (f xs ((TupO.sub s2 (TupO.sub s1 h)).sqt))
    obtain ⟨d3, h6, h7⟩ := r'.getV (g ys ((TupO.sub s2 (TupO.sub s1 h')).sqt))
    rw [h1] at h4; cases h4
    rw [h2] at h6; cases h6
    exact pairRep s2 hT hu (h5.sub s1) (h7.sub s1)
  stop := fun i G1 H hi s1 s2 => ⟨xs, ys, (TupO.sub s2 (TupO.sub s1 h)).sqt, (TupO.sub s2 (TupO.sub s1 h')).sqt, by rw [r.length, r'.length]; rw [zip2_len] at hi; omega⟩
end
section
variable {X : Cx} {WO : WN} {ft : Ft} {tg : Expr}
theorem PI.or {e : Expr} {t t' : TI} (h : PI X tg e t) (h' : PI X tg e t') : PI X tg e (fun σ H R => t σ H R ∨ t' σ H R) :=
  ⟨fun pins s σ H R I q => q.elim (h.run pins s σ H R I) (h'.run pins s σ H R I)⟩
theorem piW {e : Expr} {t t' : TI} (h : PI X tg e t) (f : ∀ σ H R, t' σ H R → t σ H R) : PI X tg e t' := ⟨fun pins s σ H R I q => h.run pins s σ H R I (f σ H R q)⟩
/-- a list or a tuple, as it comes -/
def iSeq (K : Fg) (te : TE) : TI := fun σ H R => te σ H fun x H1 => ∃ a, x = .ref a ∧ (((∃ xs, SqL K H1 a xs) ∧ R (Itl K a) H1) ∨ ((∃ xs, SqT K H1 a xs) ∧ R (Itt K a) H1))
theorem pi_seq {l : Expr} {tl : TE} (hl : PE X l tl) : PI X tg l (iSeq X.K tl) := by
  refine ⟨fun pins s σ H R I h => ?_⟩
  refine thn (hl.run pins s σ H _ I h) fun v s1 ⟨x, H1, I1, r1, q1⟩ => ?_
  obtain ⟨a, e, q1⟩ := q1
  subst e
  cases r1
  have fin : ∀ b, b ∈ [s1.heap.objs.size] → FpOk X pins H1 b := fun b hb => by
    have e : b = s1.heap.objs.size := by simpa using hb
    subst e
    exact I1.fpOk (Nat.le_refl _) (I1.hok.fresh (Nat.le_refl _))
  rcases q1 with ⟨⟨xs, hq⟩, q⟩ | ⟨⟨xs, hq⟩, q⟩
  · obtain ⟨its, rv, p, hz⟩ := I1.list hq
    refine wpAny_pyIter_list p.isList ?_
    exact ⟨s1.heap.objs.size, [s1.heap.objs.size], _, _, H1, rfl, I1.kept (t' := s1.toks) fun b o e => Heap.get?_push_of_some _ e, turn_list a _, ⟨_, Heap.get?_push_size _ rfl, rfl, rfl⟩, fin, q⟩
  · obtain ⟨its, rv, p, hz⟩ := I1.tuple hq
    refine wpAny_pyIter_tuple (show s1.heap.IsTuple a its.toArray from p) ?_
    exact ⟨s1.heap.objs.size, [s1.heap.objs.size], _, _, H1, rfl, I1.kept (t' := s1.toks) fun b o e => Heap.get?_push_of_some _ e, turn_tuple a _, ⟨_, Heap.get?_push_size _ rfl, rfl, rfl⟩, fin, q⟩
theorem items_seq {d : D} {ds : List D} (h : items d = .ok ds) : d = .lst ds ∨ d = .tup ds := by
  cases d <;> simp only [items] at h <;> first
    | (cases h; first | exact .inl rfl | exact .inr rfl)
    | cases h
theorem i_seq {e : E} {x : Expr} (h : PE X x (tE X.K X.w WO (ev ft e))) : PI X tg x (tI X.K X.w WO (ev ft e)) := piW (pi_seq h) fun σ H R ⟨G, env, ok, k⟩ => ⟨G, env, ok, k.mono fun y _ ⟨ds, hi, f⟩ v G' H' go ok' r => by
  rcases items_seq hi with e | e
  · rw [e] at r
    cases r
    rename_i a xs h2 r
    exact ⟨a, rfl, .inl ⟨⟨xs, .of (ok'.sub _ _ h2)⟩, f _ _ _ go ok' (.list h2 r)⟩⟩
  · rw [e] at r
    cases r
    rename_i a xs h2 r
    exact ⟨a, rfl, .inr ⟨⟨xs, (TupO.sub ok'.sub h2).sqt⟩, f _ _ _ go ok' (.tup h2 r)⟩⟩⟩
theorem i_enu {e : E} {x : Expr} {elts : List Expr} {kk : Nat} {p pos tpos : Pos} (hg : Gl X "enumerate") (hm : X.mg "enumerate" = none) (ha : PA X [x] (tA X.K X.w WO (ev ft (.cons e .nil)))) (hp : plain x = true) :
    PI X (.Tuple elts kk tpos) (.Call (.Name "enumerate" p) [x] [] pos) (tI X.K X.w WO (ev ft (.enu e))) :=
  piW (pi_enumF hg hm ha (by rw [star_plain hp]; rfl)) fun σ H J0 ⟨G, env, ok, k⟩ => ⟨G, env, ok, by
    refine K1.mono (P := fun y => ∃ d, y.1 = .lst [d] ∧ ∃ ds, items d = .ok ds ∧ ∀ J G' H', Go G H σ env G' H' σ y.2 → EOk X.K X.w G' H' σ y.2 → Walk X.K X.w G' J (Py.enumL 0 ds) → J0 J H') ?_ fun y _ ⟨d, h1, ds, hi, f⟩ => ?_
    · have e1 : ev ft (.cons e .nil) env = (ev ft e env).bind fun x => .ok (.lst [x.1], x.2) := rfl
      rw [e1]
      have k2 := K1.bind (r := ev ft e env) k
      cases q : ev ft e env with
      | ok y =>
        rw [q] at k2
        have k3 : K1 WO H σ env ((items y.1).bind fun ds => R.ok (D.lst (enumL 0 ds), y.2)) _ := k2
        have ni : ∀ (d : D) c dd, items d ≠ .exc c dd := fun d c dd => by cases d <;> exact fun q => by cases q
        obtain ⟨ds, hi, k4⟩ := k3.bind.ok (ni y.1)
        obtain ⟨ds', h5, f⟩ := k4
        cases h5
        exact ⟨y.1, rfl, ds, hi, f⟩
      | exc c d => rw [q] at k2; exact k2
      | bad => rw [q] at k2; exact k2
    · refine ⟨[d], h1, fun vs G' H' go ok' r => ?_⟩
      cases r with
      | cons r0 rn =>
        cases rn
        rcases items_seq hi with e | e
        · rw [e] at r0
          cases r0
          rename_i a xs h2 r
          exact ⟨a, rfl, .inl ⟨xs, .of (ok'.sub _ _ h2), f _ _ _ go ok' (.enumL h2 r)⟩⟩
        · rw [e] at r0
          cases r0
          rename_i a xs h2 r
          exact ⟨a, rfl, .inr ⟨xs, (TupO.sub ok'.sub h2).sqt, f _ _ _ go ok' (.enumT h2 r)⟩⟩⟩
theorem items_noexc (d : D) (c : Nat) (dd : D) : items d ≠ .exc c dd := by cases d <;> exact fun q => by cases q
theorem zipD_noexc (d : D) (c : Nat) (dd : D) : zipD d ≠ .exc c dd := by
  unfold zipD
  split <;> exact fun q => by cases q
theorem zipD_ok {d : D} {zs : List D} (h : zipD d = .ok zs) : (∃ as bs, d = .lst [.lst as, .lst bs] ∧ zs = zip2 as bs) ∨ ∃ as bs, d = .lst [.tup as, .tup bs] ∧ zs = zip2 as bs := by
  unfold zipD at h
  split at h
  · cases h; exact .inl ⟨_, _, rfl, rfl⟩
  · cases h; exact .inr ⟨_, _, rfl, rfl⟩
  · cases h
theorem i_zip {es : E} {x y : Expr} {elts : List Expr} {kk : Nat} {p pos tpos : Pos} (hg : Gl X "zip") (hm : X.mg "zip" = none) (ha : PA X [x, y] (tA X.K X.w WO (ev ft es))) (hp : plain x = true) (hp2 : plain y = true) :
    PI X (.Tuple elts kk tpos) (.Call (.Name "zip" p) [x, y] [] pos) (tI X.K X.w WO (ev ft (.zip es))) :=
  piW (pi_zipF hg hm ha (star_plain hp) (by rw [star_plain hp2]; rfl)) fun σ H J0 ⟨G, env, ok, k⟩ => ⟨G, env, ok, (K1.bind (r := ev ft es env) k).mono fun z _ h => by
    obtain ⟨zs, h1, k2⟩ := (K1.bind (r := zipD z.1) h).ok (zipD_noexc z.1)
    obtain ⟨ds, h3, f⟩ := k2
    cases h3
    rcases zipD_ok h1 with ⟨as, bs, e1, e2⟩ | ⟨as, bs, e1, e2⟩
    · refine ⟨_, e1, fun vs G' H' go ok' r => ?_⟩
      rw [e2] at f
      cases r with
      | cons ra rn =>
        cases rn with
        | cons rb rn =>
          cases rn
          cases ra
          cases rb
          rename_i p1 xs q1 r1 p2 ys q2 r2
          exact ⟨_, _, xs, ys, rfl, .inl ⟨.of (ok'.sub _ _ q1), .of (ok'.sub _ _ q2), f _ _ _ go ok' (.zipL q1 r1 q2 r2)⟩⟩
    · refine ⟨_, e1, fun vs G' H' go ok' r => ?_⟩
      rw [e2] at f
      cases r with
      | cons ra rn =>
        cases rn with
        | cons rb rn =>
          cases rn
          cases ra
          cases rb
          rename_i p1 xs q1 r1 p2 ys q2 r2
          exact ⟨_, _, xs, ys, rfl, .inr ⟨(TupO.sub ok'.sub q1).sqt, (TupO.sub ok'.sub q2).sqt, f _ _ _ go ok' (.zipT q1 r1 q2 r2)⟩⟩⟩
end
end Py
end
section
set_option linter.all false
set_option maxRecDepth 100000
set_option maxHeartbeats 1000000
/-! PySnd11: targets, comprehensions. -/
namespace Py
open PySem PySem.Spec PyProof.Rows L2
variable [tb : Tb]

/-! ### scopes -/
/-- what the written scope says holds of the scope that runs -/
def ScOk (X : Cx) (sc : Scope) : Prop := ∀ (x : Str) (k : NameKind), sc.names.lookup x = some k → ∃ k', X.env.scope.names.lookup x = some k' ∧ (k' = k ∨ (k = .free ∧ k' = .cell))
section
variable {X : Cx} {sc : Scope} {N : List Str}
theorem ScOk.vis (h : ScOk X sc) {x : Str} (v : visB sc x = true) : Vis X.env.scope x := by
  unfold visB at v
  split at v <;> first
    | (cases v; done)
    | (rename_i e
       obtain ⟨k', e2, q⟩ := h x _ e
       rcases q with rfl | ⟨q, rfl⟩ <;> first
         | exact .inl e2
         | exact .inr (.inl e2)
         | exact .inr (.inr e2))
theorem ScOk.loc (h : ScOk X sc) {x : Str} (v : locB sc x = true) : Loc X.env.scope x := by
  unfold locB at v
  split at v <;> first
    | (cases v; done)
    | (rename_i e
       obtain ⟨k', e2, q⟩ := h x _ e
       rcases q with rfl | ⟨q, rfl⟩ <;> first
         | exact .inl e2
         | exact .inr e2
         | cases q)
theorem ScOk.gl (h : ScOk X sc) {x : Str} (v : gloB sc x = true) : Gl X x := by
  unfold gloB at v
  split at v <;> first
    | (cases v; done)
    | (rename_i e
       obtain ⟨k', e2, q⟩ := h x _ e
       rcases q with rfl | ⟨q, rfl⟩ <;> first
         | exact e2
         | cases q)
theorem ScOk.fnl (h : ScOk X sc) (hf : ∀ x, sc.names.lookup x = some .cell → X.fn x = true) {x : Str} (v : locB sc x = true) : X.fn x = true ∨ X.env.scope.names.lookup x = some .local := by
  unfold locB at v
  split at v <;> first
    | (cases v; done)
    | (rename_i e
       obtain ⟨k', e2, q⟩ := h x _ e
       rcases q with rfl | ⟨q, rfl⟩ <;> first
         | exact .inr e2
         | exact .inl (hf x e)
         | cases q)
theorem relS_free {s : Scope} : ∀ {names : List (Str × NameKind)} {x : Str} {k : NameKind}, names.lookup x = some k →
    ∃ k', (names.map fun (n, k) => if (k == NameKind.free && s.kind == .function && s.names.lookup n == some .cell) then (n, NameKind.cell) else (n, k)).lookup x = some k' ∧ (k' = k ∨ (k = .free ∧ k' = .cell))
  | [], x, k, h => by cases h
  | (n, k₀) :: r, x, k, h => by
    have ih := @relS_free s r x k
    show ∃ k', List.lookup x ((if (k₀ == NameKind.free && s.kind == .function && s.names.lookup n == some .cell) = true then (n, NameKind.cell) else (n, k₀)) :: (r.map _)) = some k' ∧ _
    cases hx : x == n with
    | true =>
      simp only [List.lookup_cons, hx] at h
      cases h
      by_cases hc : (k₀ == NameKind.free && s.kind == .function && s.names.lookup n == some .cell) = true
      · rw [if_pos hc]
        simp only [List.lookup_cons, hx]
        simp only [Bool.and_eq_true, beq_iff_eq] at hc
        exact ⟨_, rfl, .inr ⟨hc.1.1, rfl⟩⟩
      · rw [if_neg hc]
        simp only [List.lookup_cons, hx]
        exact ⟨_, rfl, .inl rfl⟩
    | false =>
      simp only [List.lookup_cons, hx] at h
      by_cases hc : (k₀ == NameKind.free && s.kind == .function && s.names.lookup n == some .cell) = true
      · rw [if_pos hc]; simp only [List.lookup_cons, hx]; exact ih h
      · rw [if_neg hc]; simp only [List.lookup_cons, hx]; exact ih h
theorem ScOk.blk {scope : Scope} {s : Shared} {H : Hp} {C : Addr} {cl : List (Str × Addr)} {fp : List Addr} : ScOk (X.blk s H scope (compEnvC scope cl C X.env) fp) scope := fun x k h => relS_free h
theorem ScOk.blkOk (h : ScOk X sc) {scope : Scope} {own : List (Str × Nat)} (b : BlkOk N sc scope own) : BlkOk N X.env.scope scope own :=
  ⟨b.kind, b.uniq, b.ix, fun y hy e => by
    rcases b.free y hy e with z | z
    · obtain ⟨k', e2, q⟩ := h _ _ z
      rcases q with rfl | ⟨q, _⟩
      · exact .inl e2
      · cases q
    · obtain ⟨k', e2, q⟩ := h _ _ z
      rcases q with rfl | ⟨_, rfl⟩
      · exact .inr e2
      · exact .inl e2, b.own⟩
end

/-! ### targets -/
def gT (K : Fg) (w : World) (t : T) : TG := fun v σ H Q => ∃ G env d e', EOk K w G H σ env ∧ Rep K w G v d ∧ asgT t d env = .ok e' ∧
  ∀ σ', EOk K w G H σ' e' → Go G H σ env G H σ' e' → (∀ vs : List Nat, (∀ i ∈ tgV t, i ∈ vs) → wipe σ' vs = wipe σ vs) → Q σ' H
def gTs (K : Fg) (w : World) (t : T) : TGs := fun us σ H Q => ∃ G env ds e', EOk K w G H σ env ∧ Reps K w G us ds ∧ asgTs t ds env = .ok e' ∧
  ∀ σ', EOk K w G H σ' e' → Go G H σ env G H σ' e' → (∀ vs : List Nat, (∀ i ∈ tgV t, i ∈ vs) → wipe σ' vs = wipe σ vs) → Q σ' H
theorem wipe_set {i : Nat} {v : Option V} : ∀ {vs : List Nat} {σ : Sg}, i ∈ vs → wipe (σ.set i v) vs = wipe σ vs := by
  intro vs σ h
  apply List.ext_getElem?
  intro j
  rw [wipe_at, wipe_at]
  split
  · rw [List.length_set]
  · rename_i q
    rw [List.getElem?_set_ne]
    exact fun z => q (z ▸ h)
theorem assignEach_plain {x : Expr} {es : List Expr} {env : PySem.Env} (h : plain x = true) : assignEach (x :: es) env = (false, assign x env) :: assignEach es env := by
  cases x <;> first
    | rfl
    | cases h
section
variable {X : Cx} {sc : Scope}
theorem g_name {i : Nat} {x : Str} {pos : Pos} (hN : X.N.Nodup) (hi : X.N[i]? = some x) (hx : Loc X.env.scope x) (hf : X.fn x = true ∨ X.env.scope.names.lookup x = some .local) : PG X (.Name x pos) (gT X.K X.w (.v i)) :=
  ⟨fun pins s σ H v u Q I r ⟨G, env, d, e', ok, rv, ha, f⟩ => (pg_name hN hi hx hf).run pins s σ H v u Q I r (by
    obtain ⟨ok', go⟩ := ok.sto ha rv
    exact f _ ok' go fun vs hv => wipe_set (hv i (List.mem_singleton.mpr rfl)))⟩
theorem asgTs_len : ∀ {t : T} {ds : List D} {env e' : Env}, asgTs t ds env = .ok e' → ∀ {N : List Str} {xs : List Expr}, chkT N sc t (.ls xs) = true → ds.length = xs.length
  | .nil, [], env, e', h, N, xs, c => by
    cases xs with
    | nil => rfl
    | cons x xs => cases c
  | .nil, _ :: _, env, e', h, N, xs, c => by cases h
  | .cons a b, [], env, e', h, N, xs, c => by cases h
  | .cons a b, d :: ds, env, e', h, N, xs, c => by
    cases xs with
    | nil => cases c
    | cons x xs =>
      simp only [asgTs] at h
      simp only [chkT, Bool.and_eq_true] at c
      cases q : asgT a d env with
      | ok e1 =>
        rw [q] at h
        have := asgTs_len (t := b) (ds := ds) (env := e1) (e' := e') h c.2
        simp [this]
      | exc _ _ => rw [q] at h; cases h
      | bad => rw [q] at h; cases h
  | .v i, ds, env, e', h, N, xs, c => by cases ds <;> cases h
  | .tu a, ds, env, e', h, N, xs, c => by cases ds <;> cases h
theorem assignEach_len {env : PySem.Env} : ∀ xs : List Expr, (assignEach xs env).length = xs.length
  | [] => rfl
  | x :: xs => by cases x <;> simp [assignEach, assignEach_len xs]
theorem chkT_plain {N : List Str} {env : PySem.Env} : ∀ {t : T} {xs : List Expr}, chkT N sc t (.ls xs) = true → (assignEach xs env).findIdx? (·.1) = none
  | .nil, [], _ => rfl
  | .nil, _ :: _, c => by cases c
  | .cons a b, [], c => by cases c
  | .cons a b, x :: xs, c => by
    simp only [chkT, Bool.and_eq_true] at c
    rw [assignEach_plain c.1.1, List.findIdx?_cons]
    rw [chkT_plain c.2]
    rfl
  | .v i, xs, c => by cases xs <;> cases c
  | .tu a, xs, c => by cases xs <;> cases c
def PGx (X : Cx) (t : T) : Tg → Prop
  | .ex x => PG X x (gT X.K X.w t)
  | .ls xs => PGs X xs (gTs X.K X.w t)
  | .bo _ _ => False
theorem snd_T (hc : X.calm = true) (hN : X.N.Nodup) (hs : ScOk X sc) (hf : ∀ x, sc.names.lookup x = some .cell → X.fn x = true) : ∀ (t : T) (tg : Tg), chkT X.N sc t tg = true → PGx X t tg
  | .v i, tg, c => by
    cases tg with
    | ex x =>
      cases x <;> try cases c
      rename_i n pos
      simp only [chkT, Bool.and_eq_true, decide_eq_true_eq] at c
      exact g_name hN c.1.1 (hs.loc c.1.2) (hs.fnl hf c.1.2)
    | ls xs => cases c
    | bo o xs => cases c
  | .tu a, tg, c => by
    cases tg with
    | ex x =>
      cases x <;> try cases c
      rename_i es q pos
      have c' : chkT X.N sc a (.ls es) = true := c
      have h : PGs X es (gTs X.K X.w a) := snd_T hc hN hs hf a (.ls es) c'
      refine ⟨fun pins s σ H v u Q I r ⟨G, env, d, e', ok, rv, ha, f⟩ => (pg_tup (n := es.length) hc h (assignEach_len es) (chkT_plain c')).run pins s σ H v u Q I r ?_⟩
      cases d <;> try cases ha
      rename_i ds
      have ha' : asgTs a ds env = .ok e' := ha
      cases rv with
      | @tup p us _ hp ru => exact ⟨p, us, rfl, (TupO.sub ok.sub hp).sqt, by rw [ru.length]; exact asgTs_len ha' c', G, env, ds, e', ok, ru, ha', f⟩
    | ls xs => cases c
    | bo o xs => cases c
  | .nil, tg, c => by
    cases tg with
    | ls xs =>
      cases xs with
      | nil =>
        exact ⟨fun pins s σ H vs us Q I r ⟨G, env, ds, e', ok, rv, ha, f⟩ => pgs_nil.run pins s σ H vs us Q I r (by
          cases ds with
          | nil =>
            cases rv
            cases ha
            exact ⟨rfl, f σ ok .refl fun _ _ => rfl⟩
          | cons d ds => cases ha)⟩
      | cons x xs => cases c
    | ex x => cases c
    | bo o xs => cases c
  | .cons a b, tg, c => by
    cases tg with
    | ls xs =>
      cases xs with
      | nil => cases c
      | cons x xs =>
        simp only [chkT, Bool.and_eq_true] at c
        have h1 : PG X x (gT X.K X.w a) := snd_T hc hN hs hf a (.ex x) c.1.2
        have h2 : PGs X xs (gTs X.K X.w b) := snd_T hc hN hs hf b (.ls xs) c.2
        refine ⟨fun pins s σ H vs us Q I r ⟨G, env, ds, e', ok, rv, ha, f⟩ => (pgs_cons h1 h2 (by rw [assignEach_plain c.1.1]; rfl)).run pins s σ H vs us Q I r ?_⟩
        cases ds with
        | nil => cases ha
        | cons d ds =>
          simp only [asgTs] at ha
          cases q : asgT a d env with
          | exc _ _ => rw [q] at ha; cases ha
          | bad => rw [q] at ha; cases ha
          | ok e1 =>
            rw [q] at ha
            cases rv with
            | cons rv rvs =>
              refine ⟨_, _, rfl, G, env, d, e1, ok, rv, q, fun σ1 ok1 go1 w1 => ⟨G, e1, ds, e', ok1, rvs, ha, fun σ2 ok2 go2 w2 => f σ2 ok2 (go1.trans go2) fun vs hv => ?_⟩⟩
              rw [w2 vs fun i hi => hv i (List.mem_append_right _ hi), w1 vs fun i hi => hv i (List.mem_append_left _ hi)]
    | ex x => cases c
    | bo o xs => cases c
end

/-! ### comprehensions -/
theorem wipe_wipe {vs : List Nat} {σ : Sg} : wipe (wipe σ vs) vs = wipe σ vs := by
  apply List.ext_getElem?
  intro j
  rw [wipe_at, wipe_at, wipe_length]
  split <;> rfl
abbrev WF : WN := fun _ _ _ _ => False
/-- a block's turn -/
def turnF (ft : Ft) (t : T) (vs : List Nat) (cnd elt : E) (d : D) (e : Env) : R (Option D × Env) := ((asgT t d (wipeE e vs)).bind fun e1 => match cnd with
        | .nil => (ev ft elt e1).bind fun y => .ok (some y.1, back e y.2 vs)
        | _ => (ev ft cnd e1).bind fun c => (bool c).bind fun k => if k.1 = true then (ev ft elt k.2).bind fun y => .ok (some y.1, back e y.2 vs) else .ok (none, back e k.2 vs)).calm
theorem wipe_back {e0 e1 : Env} {vs : List Nat} : wipeE (back e0 e1 vs) vs = wipeE e1 vs := by
  apply List.ext_getElem?
  intro j
  rw [wipeE_at, wipeE_at, back_length, back_at]
  split <;> rfl
theorem back_self {e : Env} {vs : List Nat} : e = back e (wipeE e vs) vs := by
  apply List.ext_getElem?
  intro j
  rw [back_at, wipeE_length, wipeE_at]
  split
  · split
    · rename_i hl
      rw [List.getD_eq_getElem?_getD, List.getElem?_eq_getElem hl]
      rfl
    · rename_i hl
      exact List.getElem?_eq_none (by omega)
  · rfl
theorem back_on {e0 e2 q : Env} {vs : List Nat} (h : e2 = back e0 (wipeE e2 vs) vs) (hl : e2.length = q.length) : back e2 q vs = back e0 (wipeE (back e2 q vs) vs) vs := by
  apply List.ext_getElem?
  intro j
  rw [wipe_back, back_at, back_at, wipeE_length, wipeE_at]
  split
  · rename_i hj
    split
    · rename_i hq
      have h1 : e2[j]? = (back e0 (wipeE e2 vs) vs)[j]? := congrArg (fun z : Env => z[j]?) h
      rw [back_at, if_pos hj, wipeE_length, if_pos (by omega)] at h1
      rw [List.getD_eq_getElem?_getD, h1]
      rfl
    · rfl
  · rfl
section
variable {X : Cx} {WO : WN} {ft : Ft}
/-- a block's tests, if there are any -/
def ctT (K : Fg) (w : World) (ft : Ft) (cnd : E) : TT := match cnd with
  | .nil => tYes
  | c => tT K w WF (ev ft c)
theorem K1.calm {H : Hp} {σ : Sg} {env : Env} {α : Type} {r : R α} {P : α → Prop} (h : K1 WO H σ env r.calm P) {H' : Hp} {σ' : Sg} {env' : Env} : K1 WF H' σ' env' r P := by
  cases r with
  | ok x => exact h
  | exc c d => exact h.elim
  | bad => exact h.elim
theorem WF.any {H H' : Hp} {σ σ' : Sg} {env env' : Env} {α : Type} {r : R α} {P : α → Prop} (h : K1 WF H σ env r P) : K1 WF H' σ' env' r P := by
  cases r with
  | ok x => exact h
  | exc c d => exact (h H ⟨fun _ _ h _ _ => h, .refl _⟩).elim
  | bad => exact h
theorem mapL_noexc {f : D → Env → R (Option D × Env)} (hf : ∀ d e c dd, f d e ≠ .exc c dd) : ∀ (ds : List D) (e : Env) (c : Nat) (dd : D), mapL f ds e ≠ .exc c dd
  | [], e, c, dd => fun q => by cases q
  | d :: ds, e, c, dd => fun q => by
    simp only [mapL] at q
    cases h : f d e with
    | exc c d => exact hf _ _ _ _ h
    | bad => rw [h] at q; cases q
    | ok r =>
      rw [h] at q
      simp only [R.bind] at q
      have := mapL_noexc hf ds r.2
      cases h2 : mapL f ds r.2 with
      | exc c d => exact this _ _ h2
      | bad => rw [h2] at q; cases q
      | ok z => rw [h2] at q; cases q
theorem turnF_noexc (t : T) (vs : List Nat) (cnd elt : E) (d : D) (e : Env) (c : Nat) (dd : D) : turnF ft t vs cnd elt d e ≠ .exc c dd := by
  unfold turnF
  generalize R.bind _ _ = r
  cases r <;> exact fun q => by cases q
def Plain (H : Hp) (p : Addr) : Prop := ∀ o, H p = some o → NT o ∧ ∀ φ, o ≠ .ext φ
theorem Plain.none {H : Hp} {p : Addr} (h : H p = none) : Plain H p := fun o e => by rw [h] at e; cases e
theorem Plain.lst {H : Hp} {p : Addr} {xs : List V} (h : H p = some (.lst xs)) : Plain H p := fun o e => by
  rw [h] at e; cases e
  exact ⟨(fun _ z => nomatch z), (fun _ z => nomatch z)⟩
theorem Plain.dK {H : Hp} {p : Addr} {xs : List (Key × V)} (h : H p = some (.dK xs)) : Plain H p := fun o e => by
  rw [h] at e; cases e
  exact ⟨(fun _ z => nomatch z), (fun _ z => nomatch z)⟩
theorem nt_dK {xs : List (Key × V)} : NT (.dK xs) := fun _ z => nomatch z
theorem nt_lst {xs : List V} : NT (.lst xs) := fun _ z => nomatch z
theorem Tk.away {H H' : Hp} {p : Addr} (hn : Plain H p) (h : ∀ a, a ≠ p → H' a = H a) : Tk H H' := by
  intro t q hq
  obtain ⟨ps, h1, h2, h3⟩ := t q hq
  have ne : q.1 ≠ p := fun z => (hn _ (by rw [← z]; exact h1)).1 ps rfl
  refine ⟨ps, by rw [h _ ne]; exact h1, h2, fun pos cv e => ?_⟩
  obtain ⟨c, e1, e2⟩ := h3 pos cv e
  have ne2 : c ≠ p := fun z => (hn _ (by rw [← z]; exact e2)).2 _ rfl
  exact ⟨c, e1, by rw [h _ ne2]; exact e2⟩
theorem EOk.away {K : Fg} {w : World} {G H H' : Hp} {σ : Sg} {env : Env} {p : Addr} (ok : EOk K w G H σ env) (hg : G p = none) (ho : ¬ Ow σ env p) (hn : Plain H p) (h : ∀ a, a ≠ p → H' a = H a) : EOk K w G H' σ env := by
  refine ⟨fun a o e => ?_, ok.len, fun i s hi => (ok.slot i s hi).sub (.refl _) fun q hq hc => ⟨(ok.ow ⟨i, s, hi, hc, hq⟩).1, fun o hu _ => ?_⟩, ok.apart, (Tk.away hn h) ok.tabs, ok.ntb⟩
  · have ne : a ≠ p := fun z => by rw [z, hg] at e; cases e
    rw [h a ne]; exact ok.sub _ _ e
  · have ne : q ≠ p := fun z => ho ⟨i, s, hi, hc, by rw [← z]; exact hq⟩
    rw [h q ne]; exact hu
theorem Go.away {G H G' H' H2 : Hp} {σ σ' : Sg} {env env' : Env} {p : Addr} (g : Go G H σ env G' H' σ' env') (hp : H p = none) (hn : Plain H' p) (h : ∀ a, a ≠ p → H2 a = H' a) : Go G H σ env G' H2 σ' env' :=
  ⟨g.gs, fun a o e n nt => by
    have ne : a ≠ p := fun z => by rw [z, hp] at e; cases e
    rw [h a ne]; exact g.hs a o e n nt, g.fr, g.ow, g.io, g.tk.trans (Tk.away hn h)⟩
/-- a thing that nobody knows stays so -/
theorem Go.still {G H G' H' : Hp} {σ σ' : Sg} {env env' : Env} {p : Addr} {o : HO} (g : Go G H σ env G' H' σ' env') (hp : H p = some o) (nt : NT o) (hg : G p = none) (ho : ¬ Ow σ env p) : H' p = some o ∧ G' p = none ∧ ¬ Ow σ' env' p := by
  refine ⟨g.hs p o hp ho nt, ?_, fun q => ?_⟩
  · cases e : G' p with
    | none => rfl
    | some u =>
      rcases g.fr p u e hg with z | z
      · exact (z.no hp nt).elim
      · exact (ho z).elim
  · rcases g.ow p q with z | z
    · exact ho z
    · exact z.no hp nt
theorem wipeE_wipeE {vs : List Nat} {e : Env} : wipeE (wipeE e vs) vs = wipeE e vs := by
  apply List.ext_getElem?
  intro j
  rw [wipeE_at, wipeE_at, wipeE_length]
  split <;> rfl
theorem lc_conv {vs : List Nat} {t : T} {it cnd elt : E} {own : List (Str × Nat)} (hv : own.map (·.2) = vs) (ht : ∀ j ∈ tgV t, j ∈ vs) {X : Cx} : ∀ σ H Q, tO X.K X.w WO (ev ft (.lc vs t it cnd elt)) σ H Q →
    tLc (tI X.K X.w WO (ev ft it)) (gT X.K X.w t) (ctT X.K X.w ft cnd) (tE X.K X.w WF (ev ft elt)) (own.map (·.2)) σ H Q := by
  subst hv
  intro σ H Q ⟨G, env, ek, k⟩
  refine ⟨G, env, ek, (K1.bind (r := ev ft it env) k).mono fun x0 _ h1 => ?_⟩
  obtain ⟨ds, hds, h2⟩ := (K1.bind (r := items x0.1) h1).ok (items_noexc x0.1)
  refine ⟨ds, hds, fun J G1 H1 go1 ok1 wk D0 hD => ?_⟩
  generalize hvs : own.map (·.2) = vs at ht k h1 h2 ⊢
  have h3 := (K1.bind (r := mapL (turnF ft t vs cnd elt) ds x0.2) h2).ok (mapL_noexc (turnF_noexc t vs cnd elt) ds _)
  obtain ⟨r, hr, h4⟩ := h3
  by_cases hz : r.1.length ≤ SZ
  case neg => 
    have h4 : K1 WO H σ env (if r.1.length ≤ SZ then R.ok (D.lst r.1, r.2) else R.bad) _ := h4
    rw [if_neg hz] at h4
    exact h4.elim
  have h4 : K1 WO H σ env (if r.1.length ≤ SZ then R.ok (D.lst r.1, r.2) else R.bad) _ := h4
  rw [if_pos hz] at h4
  have hq : isCont (.lst r.1) = true ∧ ∀ v G' H' H2, Go G H σ env G' H' σ r.2 → EOk X.K X.w G' H' σ r.2 → New X.K X.w G' H' (.lst r.1) v H2 → Q v H2 := h4
  refine ⟨fun i m H2 => m + i = ds.length ∧ ∃ G2 e2 accD accV rest, EOk X.K X.w G2 H2 (wipe σ vs) (wipeE e2 vs) ∧ Go G1 H1 (wipe σ vs) (wipeE x0.2 vs) G2 H2 (wipe σ vs) (wipeE e2 vs) ∧
    H2 D0 = some (.lst accV) ∧ G2 D0 = none ∧ ¬ Ow (wipe σ vs) (wipeE e2 vs) D0 ∧ Reps X.K X.w G2 accV accD ∧ mapL (turnF ft t vs cnd elt) (ds.drop i) e2 = .ok rest ∧ accD ++ rest.1 = r.1 ∧ rest.2 = r.2 ∧ e2 = back x0.2 (wipeE e2 vs) vs, ⟨ds.length, rfl, G1, x0.2, [], [], r, ?_⟩, ?_⟩
  · have now : ¬ Ow (wipe σ vs) (wipeE x0.2 vs) D0 := fun q => by
      obtain ⟨u, hu, _⟩ := ((ok1.wipe vs).ow q).2
      rw [hD] at hu; cases hu
    have gD : G1 D0 = none := ok1.sub.none hD
    refine ⟨(ok1.wipe vs).away gD now (.none hD) fun a ha => upd_ne ha, Go.away .refl hD (.none hD) fun a ha => upd_ne ha, upd_same, gD, now, .nil, ?_, rfl, rfl, back_self⟩
    rw [List.drop_zero]
    exact hr
  · intro i m H2 ⟨hm, G2, e2, accD, accV, rest, ok2, go2, hD2, gD2, nD2, ra, hrest, e1, e3, hbk⟩
    by_cases hl : ds.length ≤ i
    · left
      refine ⟨wk.stop i G2 H2 hl go2.gs ok2.sub, ?_⟩
      rw [List.drop_eq_nil_of_le hl] at hrest
      cases hrest
      have hb : r.2 = back x0.2 (wipeE e2 vs) vs := by rw [← e3]; exact hbk
      let H3 : Hp := fun a => if a = D0 then none else H2 a
      have h3 : ∀ a, a ≠ D0 → H3 a = H2 a := fun a ha => if_neg ha
      have ok3 := ok2.away gD2 nD2 (.lst hD2) h3
      have go3 := go2.away hD (.lst hD2) h3
      obtain ⟨ok4, go4⟩ := ok1.back ok3 go3
      rw [← hb] at ok4 go4
      refine hq.2 _ G2 H3 H2 (go1.trans go4) ok4 ⟨D0, .lst accV, rfl, if_pos rfl, ?_, accV, upd_same, ?_⟩
      · funext a
        by_cases q : a = D0
        · rw [q, upd_same, hD2]
        · rw [upd_ne q, h3 a q]
      · rw [← e1, List.append_nil]
        exact ra
    · right
      have hl : i < ds.length := Nat.lt_of_not_le hl
      refine ⟨wk.go i G2 H2 hl go2.gs ok2.sub, ?_⟩
      rw [List.drop_eq_getElem_cons hl] at hrest
      simp only [mapL] at hrest
      cases hf : turnF ft t vs cnd elt ds[i] e2 with
      | exc c d => rw [hf] at hrest; cases hrest
      | bad => rw [hf] at hrest; cases hrest
      | ok r1 =>
        rw [hf] at hrest
        simp only [R.bind] at hrest
        cases hf2 : mapL (turnF ft t vs cnd elt) (ds.drop (i + 1)) r1.2 with
        | exc c d => rw [hf2] at hrest; cases hrest
        | bad => rw [hf2] at hrest; cases hrest
        | ok rest2 =>
          rw [hf2] at hrest
          simp only [R.bind] at hrest
          cases hrest
          -- what a turn is to reach
          let accD' : List D := match r1.1 with | some z => accD ++ [z] | none => accD
          let Nx : Hp → Prop := fun H5 => r1.2 = back x0.2 (wipeE r1.2 vs) vs ∧ ∃ G5 accV', EOk X.K X.w G5 H5 (wipe σ vs) (wipeE r1.2 vs) ∧ Go G1 H1 (wipe σ vs) (wipeE x0.2 vs) G5 H5 (wipe σ vs) (wipeE r1.2 vs) ∧
            H5 D0 = some (.lst accV') ∧ G5 D0 = none ∧ ¬ Ow (wipe σ vs) (wipeE r1.2 vs) D0 ∧ Reps X.K X.w G5 accV' accD'
          refine ⟨Nx, fun H5 ⟨hb5, G5, accV', o5, g5, d5, gd5, n5, r5⟩ => ⟨m - 1, by omega, by omega, G5, r1.2, accD', accV', rest2, o5, g5, d5, gd5, n5, r5, hf2, ?_, e3, hb5⟩, ?_⟩
          · show accD' ++ rest2.1 = r.1
            rw [← e1]
            show (match r1.1 with | some z => accD ++ [z] | none => accD) ++ rest2.1 = accD ++ (match r1.1 with | some x => x :: rest2.1 | none => rest2.1)
            cases r1.1 <;> simp
          · intro xv H3 hy
            obtain ⟨G3, gr3, rx⟩ := wk.yld i G2 H2 xv H3 ds[i] (List.getElem?_eq_getElem hl) go2.gs ok2.sub hy
            have ok3 := ok2.grow gr3
            have g3 : Go G2 H2 (wipe σ vs) (wipeE e2 vs) G3 H3 (wipe σ vs) (wipeE e2 vs) := .grow gr3
            obtain ⟨hD3, gD3, nD3⟩ := g3.still hD2 nt_lst gD2 nD2
            unfold turnF at hf
            cases ha : asgT t ds[i] (wipeE e2 vs) with
            | exc c d => rw [ha] at hf; cases hf
            | bad => rw [ha] at hf; cases hf
            | ok e4 =>
              rw [ha] at hf
              simp only [R.bind] at hf
              refine ⟨G3, wipeE e2 vs, ds[i], e4, ok3, rx, ha, fun σ4 ok4 go4 w4 => ?_⟩
              have ws : wipe σ4 vs = wipe σ vs := (w4 vs ht).trans wipe_wipe
              refine ⟨ws, ?_⟩
              obtain ⟨hD4, gD4, nD4⟩ := go4.still hD3 nt_lst gD3 nD3
              have l4 : σ4.length = σ.length := by
                have := congrArg List.length ws
                rw [wipe_length, wipe_length] at this
                exact this
              -- the end of a turn, its state at H6
              have fin : ∀ (q : Env), r1.2 = back e2 q vs → ∀ (G6 H6 : Hp), Go G3 H3 σ4 e4 G6 H6 σ4 q → EOk X.K X.w G6 H6 σ4 q → r1.2 = back x0.2 (wipeE r1.2 vs) vs ∧ EOk X.K X.w G6 H6 (wipe σ vs) (wipeE r1.2 vs) ∧ Go G1 H1 (wipe σ vs) (wipeE x0.2 vs) G6 H6 (wipe σ vs) (wipeE r1.2 vs) ∧
                  H6 D0 = some (.lst accV) ∧ G6 D0 = none ∧ ¬ Ow (wipe σ vs) (wipeE r1.2 vs) D0 ∧ Reps X.K X.w G6 accV accD := fun q hq G6 H6 go6 ok6 => by
                have hw : wipeE r1.2 vs = wipeE q vs := by rw [hq, wipe_back]
                have hlen : e2.length = q.length := by
                  have h1 := ok2.len
                  rw [wipeE_length, wipe_length] at h1
                  rw [h1, ok6.len, l4]
                have hb6 : r1.2 = back x0.2 (wipeE r1.2 vs) vs := by rw [hq]; exact back_on hbk hlen
                have ok7 := ok6.wipe vs
                have go7 := go6.trans (Go.wipe vs ok6)
                rw [ws] at ok7 go7
                obtain ⟨hD7, gD7, nD7⟩ := go7.still hD4 nt_lst gD4 nD4
                have go8 := ((go2.trans g3).trans go4).trans go7
                rw [hw]
                rw [hw] at hb6
                exact ⟨hb6, ok7, go8, hD7, gD7, nD7, ra.sub (gr3.gs.trans go7.gs)⟩
              have lenA : accV.length + rest2.1.length ≤ SZ ∧ (∀ z, r1.1 = some z → accV.length < SZ) := by
                have hl2 : (accD ++ (match r1.1 with | some x => x :: rest2.1 | none => rest2.1)).length ≤ SZ := by
                  have e1' : accD ++ (match r1.1 with | some x => x :: rest2.1 | none => rest2.1) = r.1 := e1
                  rw [e1']; exact hz
                rw [ra.length]
                rw [List.length_append] at hl2
                refine ⟨?_, fun z hz1 => ?_⟩
                · cases hr1 : r1.1 with
                  | none => rw [hr1] at hl2; exact hl2
                  | some z => rw [hr1] at hl2; simp at hl2; omega
                · rw [hz1] at hl2; simp at hl2; omega
              have eltT : ∀ (G5 H5 : Hp) (e5 : Env) (y : D × Env), Go G3 H3 σ4 e4 G5 H5 σ4 e5 → EOk X.K X.w G5 H5 σ4 e5 → ev ft elt e5 = .ok y → r1 = (some y.1, back e2 y.2 vs) →
                  tE X.K X.w WF (ev ft elt) σ4 H5 fun yv H6 => ∃ acc, H6 D0 = some (.lst acc) ∧ acc.length < sizeLine ∧ Nx (upd H6 D0 (.lst (acc ++ [yv]))) := fun G5 H5 e5 y go5 ok5 hev hr1 => by
                refine ⟨G5, e5, ok5, ?_⟩
                rw [hev]
                intro yv G6 H6 go6 ok6 ry
                obtain ⟨f0, f1, f2, f3, f4, f5, f6⟩ := fin y.2 (by rw [hr1]) G6 H6 (go5.trans go6) ok6
                refine ⟨accV, f3, by rw [← SZ_line]; exact lenA.2 y.1 (by rw [hr1]), f0, G6, accV ++ [yv], f1.away f4 f5 (.lst f3) fun a ha => upd_ne ha, f2.away hD (.lst f3) fun a ha => upd_ne ha, upd_same, f4, f5, ?_⟩
                show Reps X.K X.w G6 (accV ++ [yv]) (match r1.1 with | some z => accD ++ [z] | none => accD)
                rw [hr1]
                exact f6.append (.cons ry .nil)
              have hcalm : ∀ {α : Type} {r0 : R α} {z : α}, r0.calm = .ok z → r0 = .ok z := fun {α r0 z} q => by
                cases r0 with
                | ok _ => exact q
                | exc _ _ => cases q
                | bad => cases q
              replace hf := hcalm hf
              have nocnd : cnd = .nil → ctT X.K X.w ft cnd σ4 H3 (fun b H3 => if b = true then tE X.K X.w WF (ev ft elt) σ4 H3 fun y H4 => ∃ acc, H4 D0 = some (.lst acc) ∧ acc.length < sizeLine ∧ Nx (upd H4 D0 (.lst (acc ++ [y]))) else Nx H3) := fun en => by
                subst en
                simp only at hf
                cases hev : ev ft elt e4 with
                | exc c d => rw [hev] at hf; cases hf
                | bad => rw [hev] at hf; cases hf
                | ok y =>
                  rw [hev] at hf
                  have hr1 : r1 = (some y.1, back e2 y.2 vs) := (R.ok.inj hf).symm
                  simp only [ctT, tYes, if_true]
                  exact eltT G3 H3 e4 y (Go.refl (G := G3) (H := H3) (σ := σ4) (env := e4)) ok4 hev hr1
              by_cases hn : cnd = .nil
              · exact nocnd hn
              · have hct : ctT X.K X.w ft cnd = tT X.K X.w WF (ev ft cnd) := by
                  cases cnd <;> first | rfl | exact (hn rfl).elim
                have hf' : ((ev ft cnd e4).bind fun c => (bool c).bind fun k => if k.1 = true then (ev ft elt k.2).bind fun y => R.ok (some y.1, back e2 y.2 vs) else R.ok (none, back e2 k.2 vs)) = R.ok r1 := by
                  cases cnd <;> first | exact hf | exact (hn rfl).elim
                rw [hct]
                refine ⟨G3, e4, ok4, ?_⟩
                cases hev : ev ft cnd e4 with
                | exc c d => rw [hev] at hf'; cases hf'
                | bad => rw [hev] at hf'; cases hf'
                | ok c =>
                  rw [hev] at hf'
                  simp only [R.bind] at hf' ⊢
                  cases hb : bool c with
                  | exc c d => rw [hb] at hf'; cases hf'
                  | bad => rw [hb] at hf'; cases hf'
                  | ok kk =>
                    rw [hb] at hf'
                    simp only [R.bind] at hf'
                    intro G5 H5 go5 ok5
                    cases hk : kk.1 with
                    | false =>
                      rw [hk] at hf'
                      simp only [Bool.false_eq_true, if_false] at hf' ⊢
                      have hr1 : r1 = (none, back e2 kk.2 vs) := (R.ok.inj hf').symm
                      obtain ⟨f0, f1, f2, f3, f4, f5, f6⟩ := fin kk.2 (by rw [hr1]) G5 H5 go5 ok5
                      refine ⟨f0, G5, accV, f1, f2, f3, f4, f5, ?_⟩
                      show Reps X.K X.w G5 accV (match r1.1 with | some z => accD ++ [z] | none => accD)
                      rw [hr1]
                      exact f6
                    | true =>
                      rw [hk] at hf'
                      simp only [if_true] at hf' ⊢
                      cases hev2 : ev ft elt kk.2 with
                      | exc c d => rw [hev2] at hf'; cases hf'
                      | bad => rw [hev2] at hf'; cases hf'
                      | ok y =>
                        rw [hev2] at hf'
                        exact eltT G5 H5 kk.2 y go5 ok5 hev2 (R.ok.inj hf').symm
theorem n_lc {vs : List Nat} {t : T} {it cnd elt : E} {x tg i : Expr} {ifs : List Expr} {scope : Scope} {own : List (Str × Nat)} {pos : Pos} (hc : X.calm = true) (hN : X.N.Nodup) (hi : PI X tg i (tI X.K X.w WO (ev ft it)))
    (ok : BlkOk X.N X.env.scope scope own) (hv : own.map (·.2) = vs) (ht : ∀ j ∈ tgV t, j ∈ vs) (hp : plain i = true)
    (hg : ∀ (s : Shared) (H : Hp) (C : Addr) (cl : List (Str × Addr)) (fp : List Addr), PG (X.blk s H scope (compEnvC scope cl C X.env) fp) tg (gT X.K X.w t))
    (hc2 : ∀ (s : Shared) (H : Hp) (C : Addr) (cl : List (Str × Addr)) (fp : List Addr), PTs (X.blk s H scope (compEnvC scope cl C X.env) fp) ifs (ctT X.K X.w ft cnd))
    (he : ∀ (s : Shared) (H : Hp) (C : Addr) (cl : List (Str × Addr)) (fp : List Addr), PE (X.blk s H scope (compEnvC scope cl C X.env) fp) x (tE X.K X.w WF (ev ft elt))) :
    PE X (.ListComp x [⟨tg, i, ifs, 0⟩] scope pos) (tO X.K X.w WO (ev ft (.lc vs t it cnd elt))) := by
  have hh := pe_lc (pos := pos) hc hN hi ok hg hc2 he (fold_plain hp)
  exact peW hh (lc_conv hv ht)
end
end Py
end
section
set_option linter.all false
set_option maxRecDepth 100000
set_option maxHeartbeats 1000000
/-! PySnd12: built-in functions. -/
namespace Py
open PySem PySem.Spec PyProof.Rows L2
variable [tb : Tb]

/-! ### mixed readings: what is new is handed on as new -/
def Mx (K : Fg) (w : World) (G H : Hp) (z : D) (Q : VK) : Prop := if isCont z = true then OutO K w G H z Q else Out K w G H z Q
def tM (K : Fg) (w : World) (WO : WN) (rf : Env → R (D × Env)) : TE := fun σ H Q => ∃ G env, EOk K w G H σ env ∧ K1 WO H σ env (rf env) fun x =>
  ∀ G' H', Go G H σ env G' H' σ x.2 → EOk K w G' H' σ x.2 → Mx K w G' H' x.1 Q
section
variable {X : Cx} {WO : WN} {ft : Ft} {c : E} {x : Expr}
theorem Sx.mkM (h : PE X x (tM X.K X.w WO (ev ft c))) (hn : nb c = true) (he : ∀ whole, isTrue x X.env whole = (do let v ← whole; standAt x.pos; holding [v] (truthy v))) : Sx X WO ft c x := by
  have h1 : PE X x (tE X.K X.w WO (ev ft c)) := peW h fun σ H Q ⟨G, env, ok, k⟩ => ⟨G, env, ok, k.mono fun y _ f G' H' go ok' => by
    unfold Mx
    split
    · exact fun v H2 n => by
        obtain ⟨G2, g, r⟩ := n.grow ok'.sub
        exact f v G2 H2 (go.trans (.grow g)) (ok'.grow g) r
    · exact fun v G2 H2 g r => f v G2 H2 (go.trans (.grow g)) (ok'.grow g) r⟩
  exact ⟨fun _ => h1, fun _ => peB h1, fun _ => peW h fun σ H Q ⟨G, env, ok, k⟩ => ⟨G, env, ok, k.mono fun y _ ⟨cc, f⟩ G' H' go ok' => by
    unfold Mx
    rw [if_pos cc]
    exact fun v H2 n => f v G' H' H2 go ok' n⟩, fun _ => ptE h1 he, fun i z => by rw [z] at hn; cases hn⟩
end
section
variable {K : Fg} {w : World} {G H : Hp} {Q : VK}
theorem Mx.val {z : D} {v : V} (h : isCont z = false) (o : Mx K w G H z Q) (s : Sub G H) (r : Rep K w G v z) : Q v H := by
  unfold Mx at o
  rw [if_neg (by rw [h]; exact Bool.false_ne_true)] at o
  exact o v G H (.refl s) r
theorem Mx.new {z : D} {v : V} {H' : Hp} (h : isCont z = true) (o : Mx K w G H z Q) (n : New K w G H z v H') : Q v H' := by
  unfold Mx at o
  rw [if_pos h] at o
  exact o v H' n
theorem Mx.tup {ds : List D} {xs : List V} {p : Addr} {u : HO} (o : Mx K w G H (.tup ds) Q) (s : Sub G H) (hp : H p = none) (hu : IsTO u xs) (r : Reps K w G xs ds) : Q (.ref p) (upd H p u) := by
  unfold Mx at o
  exact outT s o hp hu r
theorem Mx.out {z : D} {v : V} {G' H' : Hp} (h : isCont z = false) (o : Mx K w G H z Q) (g : Grow G H G' H') (r : Rep K w G' v z) : Q v H' := by
  unfold Mx at o
  rw [if_neg (by rw [h]; exact Bool.false_ne_true)] at o
  exact o v G' H' g r
end

/-! ### sorted lists of intsD -/
theorem sorted_eq : ∀ {l1 l2 : List Int}, l1.Perm l2 → l1.Pairwise (· ≤ ·) → l2.Pairwise (· ≤ ·) → l1 = l2
  | [], l2, p, _, _ => p.nil_eq
  | a :: l1, [], p, _, _ => by have := p.length_eq; simp at this
  | a :: l1, b :: l2, p, h1, h2 => by
    have ha : a ∈ b :: l2 := p.mem_iff.mp List.mem_cons_self
    have hb : b ∈ a :: l1 := p.mem_iff.mpr List.mem_cons_self
    have e : a = b := by
      rcases List.mem_cons.mp ha with e | m
      · exact e
      · rcases List.mem_cons.mp hb with e | m2
        · exact e.symm
        · have q1 := (List.pairwise_cons.mp h2).1 a m
          have q2 := (List.pairwise_cons.mp h1).1 b m2
          omega
    subst e
    rw [sorted_eq (List.Perm.cons_inv p) (List.pairwise_cons.mp h1).2 (List.pairwise_cons.mp h2).2]
theorem insI_perm (x : Int) : ∀ l : List Int, (insI x l).Perm (x :: l)
  | [] => .refl _
  | y :: ys => by
    unfold insI
    split
    · exact .refl _
    · exact ((insI_perm x ys).cons y).trans (.swap x y ys)
theorem sortI_perm : ∀ l : List Int, (sortI l).Perm l
  | [] => .refl _
  | x :: xs => (insI_perm x (sortI xs)).trans ((sortI_perm xs).cons x)
theorem insI_pw (x : Int) : ∀ l : List Int, l.Pairwise (· ≤ ·) → (insI x l).Pairwise (· ≤ ·)
  | [], _ => by simp [insI]
  | y :: ys, h => by
    unfold insI
    split
    · rename_i hx
      exact List.pairwise_cons.mpr ⟨fun z hz => by
        rcases List.mem_cons.mp hz with e | m
        · omega
        · have := (List.pairwise_cons.mp h).1 z m
          omega, h⟩
    · rename_i hx
      refine List.pairwise_cons.mpr ⟨fun z hz => ?_, insI_pw x ys (List.pairwise_cons.mp h).2⟩
      rcases List.mem_cons.mp ((insI_perm x ys).mem_iff.mp hz) with e | m
      · omega
      · exact (List.pairwise_cons.mp h).1 z m
theorem sortI_pw : ∀ l : List Int, (sortI l).Pairwise (· ≤ ·)
  | [] => .nil
  | x :: xs => insI_pw x _ (sortI_pw xs)
theorem once_mem : ∀ (l : List Int) (k : Int), k ∈ once l ↔ k ∈ l
  | [], k => by simp [once]
  | x :: xs, k => by
    unfold once
    have ih := once_mem xs k
    split
    · rename_i h
      rw [ih, List.mem_cons]
      exact ⟨.inr, fun q => q.elim (fun e => e ▸ h) id⟩
    · rw [List.mem_cons, List.mem_cons, ih]
theorem once_nodup : ∀ l : List Int, (once l).Nodup
  | [] => .nil
  | x :: xs => by
    unfold once
    split
    · exact once_nodup xs
    · rename_i h
      exact List.nodup_cons.mpr ⟨fun q => h ((once_mem xs x).mp q), once_nodup xs⟩

/-! ### sets -/
theorem setR_len {w : World} {h : Heap} {a : Addr} {S : Int → Bool} {n : Nat} (r : SetR w h a S n) {ns : List Int} (nd : ns.Nodup) (m : ∀ k, S k = true ↔ k ∈ ns) : n = ns.length := by
  obtain ⟨o, es, ep, t, ho, hx, hd, g, nd2, hm, hb, hf, hn, _⟩ := r
  have p : (es.toList.map keyOf).Perm ns := (List.perm_ext_iff_of_nodup nd2 nd).mpr fun k => (hm k).symm.trans (m k)
  have := p.length_eq
  simp at this
  omega
section
variable {X : Cx}
def rSetI (K : Fg) (w : World) : List V → Hp → VK → Prop := fun xs H Q => ∃ p ns, xs = [.ref p] ∧ (SqL K H p (ns.map V.int) ∨ SqT K H p (ns.map V.int)) ∧ ns.length ≤ 1000 ∧
  ∀ q, H q = none → Q (.ref q) (upd H q (SetO w q (fun k => decide (k ∈ once ns)) (once ns).length))
theorem scan_room {n : Nat} (h : n ≤ 1000) : n + 1 < scanBound := by
  have : 1001 < scanBound := by decide
  omega
theorem cr_setI (hc : X.calm = true) : CallR X (.type "set") (rSetI X.K X.w) := by
  intro pins s σ H xs us Q I r h
  obtain ⟨p, ns, rfl, hq, hz, q⟩ := h
  rw [Vals.ref1 r]
  have fin : ∀ (h' : Heap) (tk c : Nat), SetR X.w h' s.heap.objs.size (fun j => decide (j ∈ ns)) c → (∀ b o, s.heap.get? b = some o → h'.get? b = some o) → EP X pins σ Q (.ref s.heap.objs.size) { s with heap := h', toks := tk } := fun h' tk c R k => by
    have e1 : (fun j => decide (j ∈ ns)) = fun j => decide (j ∈ once ns) := by
      funext j
      rw [decide_eq_decide]
      exact (once_mem ns j).symm
    rw [e1] at R
    have e2 := setR_len R (once_nodup ns) fun k => by simp
    subst e2
    have hn := I.hok.fresh (Nat.le_refl s.heap.objs.size)
    exact ⟨.ref s.heap.objs.size, _, I.laid (t' := tk) k (Nat.le_refl _) (setO_new R), rfl, q _ hn⟩
  rcases hq with hq | hq
  · obtain ⟨its, rv, pl, _⟩ := I.list hq
    exact setLI ns (I.ok.hd hc) pl.isList (by simpa using rv.ints) (scan_room hz) fun h' tk c R _ k => fin h' tk c R k
  · obtain ⟨its, rv, pl, _⟩ := I.tuple hq
    exact call_set_tupI ns (I.ok.hd hc) (show s.heap.IsTuple p its.toArray from pl) (by simpa using rv.ints) (scan_room hz) fun h' tk c R _ k => fin h' tk c R k
def rLenS (w : World) : List V → Hp → VK → Prop := fun xs H Q => ∃ a S n, xs = [.ref a] ∧ H a = some (SetO w a S n) ∧ Q (.int n) H
theorem cr_lenS : CallR X (.builtin "len") (rLenS X.w) := by
  intro pins s σ H xs us Q I r h
  obtain ⟨a, S, n, rfl, ha, q⟩ := h
  rw [Vals.ref1 r]
  obtain ⟨o, es, ep, t, ho, hx, hd, g, nd2, hm, hb, hf, hn, _⟩ := setO_get I ha
  refine PySem.call_len_set ho hx hd hf ?_ ⟨.int n, H, I.tok _, ⟨s.toks + 1, ?_⟩, q⟩
  · have : scanBound < 2 ^ 63 := by decide
    omega
  · rw [hn]
/-! ### sum(lists, []) -/
def rSum2 : List V → Hp → VK → Prop := fun xs H Q => ∃ (a T : Addr) (bs : List Addr) (ys : Addr → List V), xs = [.ref a, .ref T] ∧ H a = some (.lst (bs.map V.ref)) ∧ H T = some (.lst []) ∧ (∀ b ∈ bs, H b = some (.lst (ys b))) ∧
  (bs.flatMap ys).length ≤ sizeLine ∧ (bs = [] → Q (.ref T) H) ∧ (bs ≠ [] → ∀ p, H p = none → Q (.ref p) (upd H p (.lst (bs.flatMap ys))))
theorem vals_ref_map : ∀ {bs : List Addr} {us : List Value}, Vals (bs.map V.ref) us → us = bs.map Value.ref
  | [], _, .nil => rfl
  | b :: bs, _, .cons r t => by
    rw [vals_ref_map t]
    have : _ = Value.ref b := r
    rw [this]
    rfl
theorem cr_sum2 (hc : X.calm = true) : CallR X (.builtin "sum") rSum2 := by
  intro pins s σ H xs us Q I r h
  obtain ⟨a, T, bs, ys, rfl, ha, hT, hb, hz, q0, q1⟩ := h
  obtain ⟨u1, u2, rfl, r1, r2⟩ := vals2 r
  cases (show u1 = Value.ref a from r1)
  cases (show u2 = Value.ref T from r2)
  obtain ⟨z, its, n, rv, hl, e⟩ := I.lstM ha
  have hits := vals_ref_map rv
  subst hits
  obtain ⟨z2, its2, n2, rv2, hl2, e2⟩ := I.lstM hT
  cases rv2
  have ex : ∀ b : Addr, ∃ (its : List Value) (m : Nat), b ∈ bs → Vals (ys b) its ∧ LO s.heap b its m := fun b => by
    by_cases hm : b ∈ bs
    · obtain ⟨z3, its3, n3, rv3, hl3, e3⟩ := I.lstM (hb b hm)
      exact ⟨its3, n3, fun _ => ⟨rv3, e3⟩⟩
    · exact ⟨[], 0, fun z => (hm z).elim⟩
  let f : Addr → List Value := fun b => Classical.choose (ex b)
  have hf : ∀ b, ∃ m, b ∈ bs → Vals (ys b) (f b) ∧ LO s.heap b (f b) m := fun b => Classical.choose_spec (ex b)
  let g : Addr → Nat := fun b => Classical.choose (hf b)
  have hg : ∀ b ∈ bs, Vals (ys b) (f b) ∧ LO s.heap b (f b) (g b) := fun b hb => Classical.choose_spec (hf b) hb
  have vf : ∀ cs : List Addr, (∀ b ∈ cs, b ∈ bs) → Vals (cs.flatMap ys) (cs.flatMap f) := by
    intro cs
    induction cs with
    | nil => exact fun _ => .nil
    | cons c cs ih =>
      intro hcs
      rw [List.flatMap_cons, List.flatMap_cons]
      exact Vals.append (hg c (hcs c List.mem_cons_self)).1 (ih fun b hb => hcs b (List.mem_cons_of_mem _ hb))
  have hv := vf bs fun _ h => h
  refine sumCat (I.ok.hd hc) (its := f) (mm := g) ⟨_, e, rfl, n, rfl⟩ e2 (fun b hb => (hg b hb).2) (by rw [← hv.length]; exact hz) fun h' tk T' n' hT' hcase k => ?_
  rcases hcase with ⟨rfl, hnil⟩ | ⟨hp, hne⟩
  · exact ⟨.ref T', H, I.kept (t' := tk) k, rfl, q0 hnil⟩
  · have hn := I.hok.fresh hp
    exact ⟨.ref T', _, I.laid (t' := tk) k hp (show ObjOk X.prog X.w _ h' T' (.lst (bs.flatMap ys)) from ⟨hz, bs.flatMap f, n', hv, hT'⟩), rfl, q1 hne _ hn⟩
end
/-! ### one argument -/
section
variable {X : Cx} {WO : WN} {ft : Ft}
def B1 (K : Fg) (w : World) (f : BF) (rr : List V → Hp → VK → Prop) : Prop := ∀ (G H : Hp) (v : V) (d z : D) (Q : VK), Sub G H → RepB K w G H v d → bltD f [d] = .ok z → Mx K w G H z Q → rr [v] H Q
theorem bltD_noexc (f : BF) (ds : List D) (c : Nat) (d : D) : bltD f ds ≠ .exc c d := by
  intro q
  unfold bltD at q
  have h1 : ∀ (ds : List D) c d, rngD ds ≠ .exc c d := fun ds c d q => by
    unfold rngD at q
    split at q <;> first | cases q | (split at q <;> cases q)
  have h2 : ∀ (d : D) c dd, lenD d ≠ .exc c dd := fun d c dd q => by
    unfold lenD at q
    split at q <;> cases q
  have hb : ∀ (r : R (List D)) (g : List D → D), (∀ c d, r ≠ .exc c d) → ∀ c d, (r.bind fun z => R.ok (g z)) ≠ .exc c d := fun r g h c d q => by
    cases r with
    | exc c' d' => exact h _ _ rfl
    | ok _ => cases q
    | bad => cases q
  split at q <;> first
    | exact h2 _ _ _ q
    | cases q
    | (split at q <;> first | cases q | (split at q <;> cases q))
    | exact hb _ _ (h1 _) _ _ q
theorem n_b1 {f : BF} {a : E} {x : Expr} {fe : Expr} {pos : Pos} {rr : List V → Hp → VK → Prop} (b : B1 X.K X.w f rr) (h : PA X [x] (tA1 X.K X.w WO (ev ft (.cons a .nil))) → PE X (.Call fe [x] [] pos) (tCB rr (tA1 X.K X.w WO (ev ft (.cons a .nil)))))
    (ha : PA X [x] (tA1 X.K X.w WO (ev ft (.cons a .nil)))) : Sx X WO ft (.blt f (.cons a .nil)) (.Call fe [x] [] pos) :=
  .mkM (peW (h ha) fun σ H Q ⟨G, env, ok, k⟩ => ⟨G, env, ok, by
    have e1 : ev ft (.cons a .nil) env = (ev ft a env).bind fun x => .ok (.lst [x.1], x.2) := rfl
    have k' : K1 WO H σ env ((ev ft (.cons a .nil) env).bind fun x => (unL x.1).bind fun ds => (bltD f ds).bind fun z => .ok (z, x.2)) _ := k
    rw [e1] at k' ⊢
    cases q : ev ft a env with
    | exc c d => rw [q] at k'; exact k'
    | bad => rw [q] at k'; exact k'
    | ok y =>
      rw [q] at k'
      have k2 : K1 WO H σ env ((bltD f [y.1]).bind fun z => R.ok (z, y.2)) _ := k'
      obtain ⟨z, ez, k3⟩ := k2.bind.ok (bltD_noexc f [y.1])
      exact ⟨y.1, rfl, fun v G' H' go ok' r => b G' H' v y.1 z Q ok'.sub r ez (k3 G' H' go ok')⟩⟩) rfl fun _ => rfl
end
section
variable {K : Fg} {w : World}
theorem RepB.set_ {G H : Hp} {v : V} {xs : List D} (s : Sub G H) (r : RepB K w G H v (.set xs)) : ∃ (a : Addr) (ns : List Int), v = .ref a ∧ xs = ns.map D.int ∧ H a = some (SetO w a (fun k => decide (k ∈ ns)) ns.length) ∧ ns.Nodup := by
  rcases r with r | ⟨p, _, _, c⟩
  · cases r
    rename_i a ns h n
    exact ⟨a, ns, rfl, rfl, s _ _ h, n⟩
  · exact c.elim
theorem RepB.fz_ {G H : Hp} {v : V} {ns : List Int} (s : Sub G H) (r : RepB K w G H v (.fz ns)) : ∃ a, v = .ref a ∧ SqL K H a (ns.map V.int) := by
  rcases r with r | ⟨p, _, _, c⟩
  · cases r
    rename_i a h
    exact ⟨a, rfl, sqL_sub s h⟩
  · exact c.elim
theorem ints_inj {ns ms : List Int} (h : Py.intsD (ns.map D.int) = some ms) : ms = ns := by
  have := ints_map h
  have inj : Function.Injective D.int := fun a b e => by cases e; rfl
  exact (List.map_inj_right (fun a b e => inj e)).mp this.symm
theorem b_len : B1 K w .len (fun xs H Q => (∃ p ys, xs = [.ref p] ∧ (SqL K H p ys ∨ SqT K H p ys) ∧ Q (.int ys.length) H) ∨ (∃ z, xs = [.str z] ∧ z.length ≤ sizeLine ∧ Q (.int z.length) H) ∨ rLenS w xs H Q) := by
  intro G H v d z Q s r e o
  have e : lenD d = .ok z := e
  cases d <;> simp only [lenD] at e <;> try cases e
  · obtain ⟨rfl, h⟩ := r.str_
    exact .inr (.inl ⟨_, rfl, by rw [sS_len]; exact line_of h, by rw [sS_len]; exact o.val rfl s (.int _)⟩)
  · obtain ⟨a, xs, rfl, h, r, _⟩ := r.tup_ s
    exact .inl ⟨a, xs, rfl, .inr (h.sqt), by rw [r.length]; exact o.val rfl s (.int _)⟩
  · obtain ⟨a, xs, rfl, h, r⟩ := r.lst_ s
    exact .inl ⟨a, xs, rfl, .inl (.of h), by rw [r.length]; exact o.val rfl s (.int _)⟩
  · obtain ⟨a, ns, rfl, rfl, h, _⟩ := r.set_ s
    refine .inr (.inr ⟨a, _, _, rfl, h, ?_⟩)
    have := o.val rfl s (.int _)
    rw [List.length_map] at this
    exact this
theorem b_tuple : B1 K w .tuple (fun xs H Q => ∃ p ys, xs = [.ref p] ∧ ((SqL K H p ys ∧ ∀ l o, H l = none → IsTO o ys → Q (.ref l) (upd H l o)) ∨ (SqT K H p ys ∧ Q (.ref p) H))) := by
  intro G H v d z Q s r e o
  cases d <;> simp only [bltD] at e <;> try cases e
  · obtain ⟨a, xs, rfl, h, r, g⟩ := r.tup_ s
    exact ⟨a, xs, rfl, .inr ⟨h.sqt, o.val rfl s (.tup g r)⟩⟩
  · obtain ⟨a, xs, rfl, h, r⟩ := r.lst_ s
    exact ⟨a, xs, rfl, .inl ⟨.of h, fun l u hl hu => o.tup s hl hu r⟩⟩
theorem b_list : B1 K w .list (fun xs H Q => ∃ p ys, xs = [.ref p] ∧ (SqL K H p ys ∨ SqT K H p ys) ∧ ∀ l, H l = none → Q (.ref l) (upd H l (.lst ys))) := by
  intro G H v d z Q s r e o
  cases d <;> simp only [bltD] at e <;> try cases e
  · obtain ⟨a, xs, rfl, h, r, g⟩ := r.tup_ s
    exact ⟨a, xs, rfl, .inr (h.sqt), fun l hl => o.new rfl (newL hl r)⟩
  · obtain ⟨a, xs, rfl, h, r⟩ := r.lst_ s
    exact ⟨a, xs, rfl, .inl (.of h), fun l hl => o.new rfl (newL hl r)⟩
  · rename_i ns
    obtain ⟨a, rfl, h⟩ := r.fz_ s
    exact ⟨a, _, rfl, .inl h, fun l hl => o.new rfl (newL hl (Reps.of_ints ns))⟩
theorem b_set : B1 K w .set (rSetI K w) := by
  intro G H v d z Q s r e o
  simp only [bltD] at e
  have key : ∀ ns : List Int, ns.length ≤ 1000 → z = .set ((once ns).map D.int) → ∀ q, H q = none → Q (.ref q) (upd H q (SetO w q (fun k => decide (k ∈ once ns)) (once ns).length)) := fun ns hz ez q hq => by
    subst ez
    exact o.out (G' := upd G q (SetO w q (fun k => decide (k ∈ once ns)) (once ns).length)) rfl (.upd s hq (setO_nt _ _ _ _)) (.set upd_same (once_nodup ns))
  cases d <;> simp only [seqOf, Option.bind] at e <;> try cases e
  · rename_i xs
    cases hi : Py.intsD xs with
    | none => rw [hi] at e; cases e
    | some ns =>
      rw [hi] at e
      simp only at e
      split at e <;> cases e
      rename_i hz
      obtain ⟨a, vs, rfl, h, r, g⟩ := r.tup_ s
      rw [ints_map hi] at r
      have := r.intsD
      subst this
      exact ⟨a, ns, rfl, .inr h.sqt, hz, key ns hz rfl⟩
  · rename_i xs
    cases hi : Py.intsD xs with
    | none => rw [hi] at e; cases e
    | some ns =>
      rw [hi] at e
      simp only at e
      split at e <;> cases e
      rename_i hz
      obtain ⟨a, vs, rfl, h, r⟩ := r.lst_ s
      rw [ints_map hi] at r
      have := r.intsD
      subst this
      exact ⟨a, ns, rfl, .inl (.of h), hz, key ns hz rfl⟩
theorem lexI_eq : ∀ as bs : List Int, HT.lexLt as bs = lexI as bs
  | [], [] => HT.lexLt_nil_nil
  | [], b :: bs => HT.lexLt_nil_cons b bs
  | a :: as, [] => HT.lexLt_cons_nil a as
  | a :: as, b :: bs => by rw [HT.lexLt_cons, lexI, lexI_eq as bs]
theorem lexI_anti : ∀ as bs : List Int, lexI as bs = false → lexI bs as = false → as = bs
  | [], [], _, _ => rfl
  | [], b :: bs, h, _ => by cases h
  | a :: as, [], _, h => by cases h
  | a :: as, b :: bs, h1, h2 => by
    unfold lexI at h1 h2
    by_cases e : a = b
    · subst e
      rw [if_pos rfl] at h1 h2
      rw [lexI_anti as bs h1 h2]
    · rw [if_neg e] at h1
      rw [if_neg (Ne.symm e)] at h2
      have a1 := of_decide_eq_false h1
      have a2 := of_decide_eq_false h2
      omega
theorem lexI_tr (x y z : List Int) (h1 : lexI y x = false) (h2 : lexI z y = false) : lexI z x = false := by
  rw [← lexI_eq] at *; exact NtL.lex_tr x y z h1 h2
theorem insT_perm (x : List Int) : ∀ ys, (insT x ys).Perm (x :: ys)
  | [] => .refl _
  | y :: ys => by
    unfold insT
    split
    · exact ((insT_perm x ys).cons y).trans (.swap x y ys)
    · exact .refl _
theorem sortT_perm : ∀ xs : List (List Int), (sortT xs).Perm xs
  | [] => .refl _
  | x :: xs => (insT_perm x _).trans ((sortT_perm xs).cons x)
theorem insT_pw (x : List Int) : ∀ ys : List (List Int), ys.Pairwise (fun p q => lexI q p = false) → (insT x ys).Pairwise (fun p q => lexI q p = false)
  | [], _ => List.pairwise_singleton _ _
  | y :: ys, h => by
    unfold insT
    obtain ⟨h1, h2⟩ := List.pairwise_cons.mp h
    split
    · rename_i c
      refine List.pairwise_cons.mpr ⟨fun z hz => ?_, insT_pw x ys h2⟩
      rcases List.mem_cons.mp ((insT_perm x ys).mem_iff.mp hz) with rfl | hz
      · cases e : lexI z y with
        | false => rfl
        | true =>
          rw [← lexI_eq] at c e
          rw [NtL.lex_asym _ _ c] at e
          cases e
      · exact h1 z hz
    · rename_i c
      have c' : lexI y x = false := by simpa using c
      refine List.pairwise_cons.mpr ⟨fun z hz => ?_, h⟩
      rcases List.mem_cons.mp hz with rfl | hz
      · exact c'
      · exact lexI_tr x y z c' (h1 z hz)
theorem sortT_pw : ∀ xs : List (List Int), (sortT xs).Pairwise (fun p q => lexI q p = false)
  | [] => List.Pairwise.nil
  | x :: xs => insT_pw x _ (sortT_pw xs)
theorem sortedT_eq : ∀ {l1 l2 : List (List Int)}, l1.Perm l2 → l1.Pairwise (fun p q => lexI q p = false) → l2.Pairwise (fun p q => lexI q p = false) → l1 = l2
  | [], l2, p, _, _ => (List.nil_perm.mp p).symm
  | x :: xs, [], p, _, _ => (by have := p.length_eq; simp at this)
  | x :: xs, y :: ys, p, h1, h2 => by
    obtain ⟨a1, a2⟩ := List.pairwise_cons.mp h1
    obtain ⟨b1, b2⟩ := List.pairwise_cons.mp h2
    have e : x = y := by
      rcases List.mem_cons.mp (p.mem_iff.mp List.mem_cons_self) with e | hx
      · exact e
      · rcases List.mem_cons.mp (p.mem_iff.mpr List.mem_cons_self) with e | hy
        · exact e.symm
        · exact lexI_anti x y (b1 x hx) (a1 y hy)
    subst e
    rw [sortedT_eq (List.Perm.cons_inv p) a2 b2]
/-- the whole numbers of a tuple that is kept -/
def kOf (G : Hp) (t : Addr) : List Int := match G t with
  | some (.frz _ (.tup vs)) => vs.filterMap fun v => match v with
    | .int i => some i
    | _ => none
  | _ => []
theorem kOf_ints {G : Hp} {t : Addr} {ns : List Int} (h : TupO G t (ns.map V.int)) : kOf G t = ns := by
  obtain ⟨_, h, ob, rfl, _⟩ := h
  unfold kOf
  rw [h]
  simp only
  rw [List.filterMap_map]
  exact List.filterMap_some
theorem tups_rep {G : Hp} : ∀ {xs : List D} {vs : List V} {ts : List (List Int)}, tupsI xs = some ts → Reps K w G vs xs → ∃ as : List Addr, vs = as.map V.ref ∧ as.map (kOf G) = ts ∧ ∀ a ∈ as, TupO G a ((kOf G a).map V.int)
  | [], _, ts, h, .nil => by cases h; exact ⟨[], rfl, rfl, fun a ha => by cases ha⟩
  | d :: xs, v :: vs, ts, h, .cons r rs => by
    cases d <;> try (cases h; done)
    rename_i ys
    unfold tupsI at h
    split at h
    · rename_i ns t e1 e2
      cases h
      obtain ⟨as, rfl, g2, g3⟩ := tups_rep e2 rs
      cases r
      rename_i a us ha ru
      rw [ints_map e1] at ru
      have := ru.intsD
      subst this
      have hk := kOf_ints ha
      refine ⟨a :: as, rfl, by rw [List.map_cons, g2, hk], fun b hb => ?_⟩
      rcases List.mem_cons.mp hb with rfl | hb
      · rw [hk]; exact ha
      · exact g3 b hb
    · cases h
theorem reps_tups {G : Hp} : ∀ as : List Addr, (∀ a ∈ as, TupO G a ((kOf G a).map V.int)) → Reps K w G (as.map V.ref) ((as.map (kOf G)).map tupI)
  | [], _ => .nil
  | a :: as, h => .cons (.tup (h a List.mem_cons_self) (Reps.of_ints _)) (reps_tups as fun b hb => h b (List.mem_cons_of_mem _ hb))
theorem b_sorted : B1 K w .sorted (fun xs H Q => ((rSortedSet w xs H Q ∨ rSortedI K xs H Q) ∨ rSortedT K xs H Q) ∨ rSortedIT K xs H Q) := by
  intro G H v d z Q s r e o
  cases d <;> simp only [bltD] at e <;> try cases e
  · rename_i xs
    cases hi : Py.intsD xs with
    | none =>
      rw [hi] at e
      simp only at e
      cases ht : tupsI xs with
      | none => rw [ht] at e; cases e
      | some ts =>
        rw [ht] at e
        cases e
        obtain ⟨a, vs, rfl, h, r, _⟩ := r.tup_ s
        obtain ⟨as, rfl, g2, g3⟩ := tups_rep ht r
        refine .inl (.inr ⟨a, as, kOf G, rfl, (.inr h.sqt), fun t ht => (TupO.sub s (g3 t ht)).sqt, fun ts' p hp hs hn => ?_⟩)
        have e1 : ts'.map (kOf G) = sortT ts := by
          refine sortedT_eq (((hp.map (kOf G)).trans (by rw [g2])).trans (sortT_perm ts).symm) (List.pairwise_map.mpr (hs.imp fun {x y} q => ?_)) (sortT_pw ts)
          rw [lexI_eq] at q; exact q
        have := reps_tups (K := K) (w := w) ts' fun b hb => g3 b (hp.mem_iff.mp hb)
        rw [e1] at this
        exact o.new rfl (newL hn this)
    | some ns =>
      rw [hi] at e
      cases e
      obtain ⟨a, vs, rfl, h, r, _⟩ := r.tup_ s
      rw [ints_map hi] at r
      have := r.intsD
      subst this
      refine .inr ⟨a, ns, rfl, h.sqt, fun ns' p hp hs hn => ?_⟩
      have := sorted_eq (hp.trans (sortI_perm ns).symm) hs (sortI_pw ns)
      subst this
      exact o.new rfl (newL hn (Reps.of_ints _))
  · rename_i xs
    cases hi : Py.intsD xs with
    | none =>
      rw [hi] at e
      simp only at e
      cases ht : tupsI xs with
      | none => rw [ht] at e; cases e
      | some ts =>
        rw [ht] at e
        cases e
        obtain ⟨a, vs, rfl, h, r⟩ := r.lst_ s
        obtain ⟨as, rfl, g2, g3⟩ := tups_rep ht r
        refine .inl (.inr ⟨a, as, kOf G, rfl, .inl (.of h), fun t ht => (TupO.sub s (g3 t ht)).sqt, fun ts' p hp hs hn => ?_⟩)
        have e1 : ts'.map (kOf G) = sortT ts := by
          refine sortedT_eq (((hp.map (kOf G)).trans (by rw [g2])).trans (sortT_perm ts).symm) (List.pairwise_map.mpr (hs.imp fun {x y} q => ?_)) (sortT_pw ts)
          rw [lexI_eq] at q; exact q
        have := reps_tups (K := K) (w := w) ts' fun b hb => g3 b (hp.mem_iff.mp hb)
        rw [e1] at this
        exact o.new rfl (newL hn this)
    | some ns =>
      rw [hi] at e
      cases e
      obtain ⟨a, vs, rfl, h, r⟩ := r.lst_ s
      rw [ints_map hi] at r
      have := r.intsD
      subst this
      refine .inl (.inl (.inr ⟨a, ns, rfl, .of h, fun ns' p hp hs hn => ?_⟩))
      have := sorted_eq (hp.trans (sortI_perm ns).symm) hs (sortI_pw ns)
      subst this
      exact o.new rfl (newL hn (Reps.of_ints _))
  · rename_i xs
    cases hi : Py.intsD xs with
    | none => rw [hi] at e; cases e
    | some ms =>
      rw [hi] at e
      simp only at e
      split at e <;> cases e
      rename_i hz
      obtain ⟨a, ns, rfl, rfl, h, nd⟩ := r.set_ s
      have := ints_inj hi
      subst this
      refine .inl (.inl (.inl ⟨a, _, _, rfl, h, hz, fun ns' p hs hm hl hn => ?_⟩))
      have nd' : ns'.Nodup := hs.imp fun {a b} h => Int.ne_of_lt h
      have hp : ns'.Perm ms := (List.perm_ext_iff_of_nodup nd' nd).mpr fun k => by rw [hm k]; simp
      have := sorted_eq (hp.trans (sortI_perm ms).symm) (hs.imp fun {a b} h => Int.le_of_lt h) (sortI_pw ms)
      subst this
      exact o.new rfl (newL hn (Reps.of_ints _))
theorem b_sum : B1 K w .sum (rSum K) := by
  intro G H v d z Q s r e o
  cases d <;> simp only [bltD] at e <;> try cases e
  rename_i xs
  cases hi : Py.intsD xs with
  | none => rw [hi] at e; cases e
  | some ns =>
    rw [hi] at e
    cases e
    obtain ⟨a, vs, rfl, h, r⟩ := r.lst_ s
    rw [ints_map hi] at r
    have := r.intsD
    subst this
    exact ⟨a, ns, rfl, .of h, o.val rfl s (.int _)⟩
theorem b_all : B1 K w .all (rAll K) := by
  intro G H v d z Q s r e o
  cases d <;> simp only [bltD] at e <;> try cases e
  rename_i xs
  cases hi : bls xs with
  | none => rw [hi] at e; cases e
  | some ns =>
    rw [hi] at e
    cases e
    obtain ⟨a, vs, rfl, h, r⟩ := r.lst_ s
    rw [bls_map hi] at r
    have := r.bls
    subst this
    exact ⟨a, ns, rfl, .of h, o.val rfl s (.bl _)⟩
theorem b_any : B1 K w .any (rAny K) := by
  intro G H v d z Q s r e o
  cases d <;> simp only [bltD] at e <;> try cases e
  rename_i xs
  cases hi : bls xs with
  | none => rw [hi] at e; cases e
  | some ns =>
    rw [hi] at e
    cases e
    obtain ⟨a, vs, rfl, h, r⟩ := r.lst_ s
    rw [bls_map hi] at r
    have := r.bls
    subst this
    exact ⟨a, ns, rfl, .of h, o.val rfl s (.bl _)⟩
theorem pairs_rep {G : Hp} : ∀ {xs : List D} {ps : List (Int × D)} {vs : List V}, pairsI xs = some ps → Reps K w G vs xs →
    ∃ (as : List Addr) (ys : List V), vs = as.map V.ref ∧ Paired (fun p kv => TupO G p [kV kv.1, kv.2]) as (dkv (ps.map (·.1)) ys) ∧ Reps K w G ys (ps.map (·.2))
  | [], ps, vs, h, r => by
    cases h
    cases r
    exact ⟨[], [], rfl, .nil, .nil⟩
  | x :: xs, ps, vs, h, r => by
    cases r with
    | @cons v vs _ _ a b =>
      unfold pairsI at h
      split at h
      · rename_i q; cases q
      · rename_i i d r' q
        cases q
        cases hp : pairsI xs with
        | none => rw [hp] at h; cases h
        | some ps' =>
          rw [hp] at h
          cases h
          obtain ⟨as, ys, h1, h2, h3⟩ := pairs_rep hp b
          cases a
          rename_i p us hg ru
          cases ru with
          | cons a1 a2 =>
            cases a2 with
            | cons a3 a4 =>
              cases a4
              cases a1
              exact ⟨_ :: as, _ :: ys, by rw [h1]; rfl, .cons hg h2, .cons a3 h3⟩
      · cases h
theorem pairs_len : ∀ {xs : List D} {ps : List (Int × D)}, pairsI xs = some ps → ps.length = xs.length
  | [], ps, h => by cases h; rfl
  | x :: xs, ps, h => by
    unfold pairsI at h
    split at h
    · rename_i q; cases q
    · rename_i i d r' q
      cases q
      cases hp : pairsI xs with
      | none => rw [hp] at h; cases h
      | some ps' => rw [hp] at h; cases h; simp [pairs_len hp]
    · cases h
theorem b_dict : B1 K w .dict (fun xs H Q => ∃ (a : Addr) (ps : List Addr) (kvs : List (Key × V)), xs = [.ref a] ∧ SqL K H a (ps.map V.ref) ∧ Paired (fun p kv => SqT K H p [kV kv.1, kv.2]) ps kvs ∧ ∀ p, H p = none → Q (.ref p) (upd H p (.dK (mergeK [] kvs)))) := by
  intro G H v d z Q s r e o
  cases d <;> simp only [bltD] at e <;> try cases e
  rename_i xs
  cases hi : pairsI xs with
  | none => rw [hi] at e; cases e
  | some ps =>
    rw [hi] at e
    simp only at e
    split at e <;> cases e
    obtain ⟨as, ys, h1, h2, h3⟩ : ∃ (as : List Addr) (ys : List V), (∃ a, v = .ref a ∧ H a = some (.lst (as.map V.ref))) ∧ Paired (fun p kv => TupO G p [kV kv.1, kv.2]) as (dkv (ps.map (·.1)) ys) ∧ Reps K w G ys (ps.map (·.2)) := by
      obtain ⟨a, vs, rfl, h, r⟩ := r.lst_ s
      obtain ⟨as, ys, g1, g2, g3⟩ := pairs_rep hi r
      exact ⟨as, ys, ⟨a, rfl, by rw [h, g1]⟩, g2, g3⟩
    obtain ⟨a, rfl, ha⟩ := h1
    obtain ⟨ns', xs', g1, g2, g3, g4⟩ := dkv_merge (ns := []) (xs := []) (ds := []) h3 rfl .nil
    refine ⟨a, as, dkv (ps.map (·.1)) ys, rfl, .of ha, ?_, fun p hp => ?_⟩
    · clear g1 g2 g3 g4
      generalize dkv (ps.map (·.1)) ys = kvs at h2
      clear ha
      induction h2 with
      | nil => exact .nil
      | cons h t ih => exact .cons (TupO.sqt (TupO.sub s h)) ih
    · have : mergeK [] (dkv (ps.map (·.1)) ys) = dkv ns' xs' := g1
      rw [this]
      exact o.new rfl (newD hp g3 g2 g4)
theorem b_max : B1 K w .max (rMax K) := by
  intro G H v d z Q s r e o
  cases d <;> simp only [bltD] at e <;> try cases e
  rename_i xs
  cases hi : Py.intsD xs with
  | none => rw [hi] at e; cases e
  | some ns =>
    rw [hi] at e
    cases ns with
    | nil => cases e
    | cons n ns =>
      cases e
      obtain ⟨a, vs, rfl, h, r⟩ := r.lst_ s
      rw [ints_map hi] at r
      have := r.intsD
      subst this
      refine ⟨a, n :: ns, rfl, .of h, by simp, fun m hm hy => ?_⟩
      have : m = maxI n ns := Int.le_antisymm (maxI_ge n ns m hm) (hy _ (maxI_mem n ns))
      subst this
      exact o.val rfl s (.int _)
theorem b_min : B1 K w .min (rMin K) := by
  intro G H v d z Q s r e o
  cases d <;> simp only [bltD] at e <;> try cases e
  rename_i xs
  cases hi : Py.intsD xs with
  | none => rw [hi] at e; cases e
  | some ns =>
    rw [hi] at e
    cases ns with
    | nil => cases e
    | cons n ns =>
      cases e
      obtain ⟨a, vs, rfl, h, r⟩ := r.lst_ s
      rw [ints_map hi] at r
      have := r.intsD
      subst this
      refine ⟨a, n :: ns, rfl, .of h, by simp, fun m hm hy => ?_⟩
      have : m = minI n ns := Int.le_antisymm (hy _ (minI_mem n ns)) (minI_le n ns m hm)
      subst this
      exact o.val rfl s (.int _)
theorem b_abs : B1 K w .abs (fun xs H Q => ∃ i, xs = [.int i] ∧ Q (.int (if i < 0 then -i else i)) H) := by
  intro G H v d z Q s r e o
  cases d <;> simp only [bltD] at e <;> try cases e
  exact ⟨_, by rw [r.int_], o.val rfl s (.int _)⟩
theorem b_int : B1 K w .int (fun xs H Q => (∃ i, xs = [.int i] ∧ Q (.int i) H) ∨ ∃ k, xs = [.bl k] ∧ Q (.int (if k then 1 else 0)) H) := by
  intro G H v d z Q s r e o
  cases d <;> simp only [bltD] at e <;> try cases e
  · exact .inr ⟨_, by rw [r.bl_], by
      rename_i b
      cases b
      · exact o.val rfl s (.int _)
      · exact o.val rfl s (.int _)⟩
  · exact .inl ⟨_, by rw [r.int_], o.val rfl s (.int _)⟩
end
end Py
end
section
set_option linter.all false
set_option maxRecDepth 100000
set_option maxHeartbeats 1000000
/-! PySnd13: further calls. -/
namespace Py
open PySem PySem.Spec PyProof.Rows L2
variable [tb : Tb]
section
variable {X : Cx} {WO : WN} {ft : Ft}
theorem back1 {x : Expr} {env : PySem.Env} {pos : Pos} (h : plain x = true) : (backTo pos (starEach [x] env)).any (·.1) = false := by
  rw [star_plain h]; rfl
/-! ### two intsD -/
theorem n_b2 {f : BF} {es : E} {x y : Expr} {fe : Expr} {pos : Pos} {g : Int → Int → Int} (h : PA X [x, y] (tA X.K X.w WO (ev ft es)) → PE X (.Call fe [x, y] [] pos) (tCB (fun xs H Q => ∃ i j, xs = [.int i, .int j] ∧ Q (.int (g i j)) H) (tA X.K X.w WO (ev ft es))))
    (hf : ∀ ds z, bltD f ds = .ok z → ∃ i j, ds = [.int i, .int j] ∧ z = .int (g i j)) (ha : PA X [x, y] (tA X.K X.w WO (ev ft es))) : Sx X WO ft (.blt f es) (.Call fe [x, y] [] pos) :=
  .mkM (peW (h ha) fun σ H Q ⟨G, env, ok, k⟩ => ⟨G, env, ok, (K1.bind (r := ev ft es env) k).mono fun x _ h1 => by
    obtain ⟨d, e⟩ := x
    cases d with
    | lst ds =>
      obtain ⟨z, ez, k3⟩ := (K1.bind (r := bltD f ds) h1).ok (bltD_noexc f ds)
      obtain ⟨i, j, rfl, rfl⟩ := hf ds z ez
      refine ⟨_, rfl, fun vs G' H' go ok' r => ?_⟩
      cases r with
      | cons ra rn =>
        cases rn with
        | cons rb rn =>
          cases rn
          cases ra
          cases rb
          exact ⟨i, j, rfl, Mx.val rfl (k3 G' H' go ok') ok'.sub (.int _)⟩
    | _ => exact h1.elim⟩) rfl fun _ => rfl
theorem max2_ok (ds : List D) (z : D) (h : bltD .max2 ds = .ok z) : ∃ i j, ds = [.int i, .int j] ∧ z = .int (if j > i then j else i) := by
  unfold bltD at h
  split at h <;> first
    | (rename_i q; cases q; done)
    | skip
  all_goals first
    | (rename_i a b q; cases h; exact ⟨a, b, rfl, rfl⟩)
    | (rename_i q _; cases q)
    | (rename_i q; cases q)
    | cases h
    | (split at h <;> first | cases h | (split at h <;> cases h))
theorem min2_ok (ds : List D) (z : D) (h : bltD .min2 ds = .ok z) : ∃ i j, ds = [.int i, .int j] ∧ z = .int (if j < i then j else i) := by
  unfold bltD at h
  split at h <;> first
    | (rename_i q; cases q; done)
    | skip
  all_goals first
    | (rename_i a b q; cases h; exact ⟨a, b, rfl, rfl⟩)
    | (rename_i q _; cases q)
    | (rename_i q; cases q)
    | cases h
    | (split at h <;> first | cases h | (split at h <;> cases h))
/-! ### ranges -/
theorem rngD_ok {ds : List D} {zs : List D} (h : rngD ds = .ok zs) : (∃ n : Int, ds = [.int n] ∧ -(2 ^ 62) ≤ n ∧ n ≤ 2 ^ 24 ∧ zs = rangeL 0 n.toNat) ∨
    ∃ a b : Int, ds = [.int a, .int b] ∧ -(2 ^ 62) ≤ a ∧ a < 2 ^ 62 ∧ -(2 ^ 62) ≤ b ∧ b < 2 ^ 62 ∧ b - a ≤ 2 ^ 24 ∧ zs = rangeL a (b - a).toNat := by
  have e1 : (2 : Int) ^ 62 = BIG := by decide
  have e2 : (2 : Int) ^ 24 = (SZ : Int) := by decide
  unfold rngD at h
  split at h
  · split at h
    · rename_i q
      cases h
      exact .inl ⟨_, rfl, by rw [e1]; exact q.1, by rw [e2]; exact q.2, rfl⟩
    · cases h
  · split at h
    · rename_i q
      cases h
      obtain ⟨q1, q2, q3, q4, q5⟩ := q
      exact .inr ⟨_, _, rfl, by rw [e1]; exact q1, by rw [e1]; exact q2, by rw [e1]; exact q3, by rw [e1]; exact q4, by rw [e2]; exact q5, rfl⟩
    · cases h
  · cases h
theorem rngD_noexc (ds : List D) (c : Nat) (d : D) : rngD ds ≠ .exc c d := fun q => by
  unfold rngD at q
  split at q <;> first | cases q | (split at q <;> cases q)
theorem rgV_rep {K : Fg} {w : World} {G : Hp} {a b : Int} : Reps K w G (rgV a b) (rangeL a (b - a).toNat) := by
  unfold rgV rangeL
  generalize List.range (b - a).toNat = l
  induction l with
  | nil => exact .nil
  | cons x xs ih => exact .cons (.int _) ih
def prgT (t : TA) : Sg → Hp → (Int → Int → Hp → Prop) → Prop := fun σ H Q => t σ H fun vs H1 => (∃ n, vs = [.int n] ∧ Q 0 n H1) ∨ ∃ a b, vs = [.int a, .int b] ∧ Q a b H1
theorem prgA1 {a : Expr} {t : TA} {p pos : Pos} (hg : Gl X "range") (hm : X.mg "range" = none) (ha : PA X [a] t) (hp : plain a = true) : PRg X (.Call (.Name "range" p) [a] [] pos) (fun σ H Q => t σ H fun vs H1 => ∃ n, vs = [.int n] ∧ Q 0 n H1) := by
  intro pins s σ H Q I h
  refine Call_ (ld_blt I hg hm boot_range (PyProof.Rows.callWith_type1 (thn (ha.run pos pins s σ H _ I h) fun us s1 ⟨vs, H1, I1, r1, q1⟩ => ?_) (star_plain hp) rfl))
  obtain ⟨n, rfl, q⟩ := q1
  obtain ⟨u, rfl, t', rfl⟩ := vals1 r1
  exact call_range_1 ⟨_, 0, n, _, _, _, H1, rfl, IsRange.new _ _ _ _ _ _ _, I1.kept fun b u e => Heap.get?_push_of_some _ e, q⟩
theorem prgA2 {a b : Expr} {t : TA} {p pos : Pos} (hg : Gl X "range") (hm : X.mg "range" = none) (ha : PA X [a, b] t) (hp : plain a = true) (hp2 : plain b = true) : PRg X (.Call (.Name "range" p) [a, b] [] pos) (fun σ H Q => t σ H fun vs H1 => ∃ i j, vs = [.int i, .int j] ∧ Q i j H1) := by
  intro pins s σ H Q I h
  refine Call_ (ld_blt I hg hm boot_range (PyProof.Rows.callWith_type1 (thn (ha.run pos pins s σ H _ I h) fun us s1 ⟨vs, H1, I1, r1, q1⟩ => ?_) (star_plain hp) (back1 hp2)))
  obtain ⟨i, j, rfl, q⟩ := q1
  obtain ⟨u1, u2, rfl, ⟨t1, rfl⟩, ⟨t2, rfl⟩⟩ := vals2 r1
  exact call_range_2 ⟨_, i, j, _, _, _, H1, rfl, IsRange.new _ _ _ _ _ _ _, I1.kept fun b u e => Heap.get?_push_of_some _ e, q⟩
/-- a range by its arguments' tuple -/
def tRg (K : Fg) (w : World) (WO : WN) (ft : Ft) (es : E) : Sg → Hp → (Int → Int → Hp → Prop) → Prop := fun σ H Q => ∃ G env, EOk K w G H σ env ∧ K1 WO H σ env ((ev ft es env).bind fun x => (unL x.1).bind fun ds => (rngD ds).bind fun z => .ok (z, x.2)) fun x =>
  ∀ a b G' H', Go G H σ env G' H' σ x.2 → EOk K w G' H' σ x.2 → RgOk a b → x.1 = rangeL a (b - a).toNat → Q a b H'
theorem unL_ok {d : D} {ds : List D} (h : unL d = .ok ds) : d = .lst ds := by
  cases d <;> simp only [unL] at h <;> cases h
  rfl
theorem unL_noexc (d : D) (c : Nat) (dd : D) : unL d ≠ .exc c dd := by cases d <;> exact fun q => by cases q
theorem len0 {env : Env} {x : D × Env} (h : ev ft .nil env = .ok x) : x.1 = .lst [] := by cases h; rfl
theorem lenS {a b : E} {env : Env} {x : D × Env} (h : ev ft (.cons a b) env = .ok x) : ∃ d e1 y ds, ev ft a env = .ok (d, e1) ∧ ev ft b e1 = .ok y ∧ y.1 = .lst ds ∧ x = (.lst (d :: ds), y.2) := by
  have h' : ((ev ft a env).bind fun x => (ev ft b x.2).bind fun y => (unL y.1).bind fun ys => R.ok (D.lst (x.1 :: ys), y.2)) = .ok x := h
  cases q : ev ft a env with
  | exc c d => rw [q] at h'; cases h'
  | bad => rw [q] at h'; cases h'
  | ok z =>
    rw [q] at h'
    simp only [R.bind] at h'
    cases q2 : ev ft b z.2 with
    | exc c d => rw [q2] at h'; cases h'
    | bad => rw [q2] at h'; cases h'
    | ok y =>
      rw [q2] at h'
      simp only [R.bind] at h'
      cases q3 : unL y.1 with
      | exc c d => rw [q3] at h'; cases h'
      | bad => rw [q3] at h'; cases h'
      | ok ds =>
        rw [q3] at h'
        cases h'
        exact ⟨z.1, z.2, y, ds, rfl, q2, unL_ok q3, rfl⟩
theorem len1 {a : E} {env : Env} {x : D × Env} (h : ev ft (.cons a .nil) env = .ok x) : ∃ d, x.1 = .lst [d] := by
  obtain ⟨d, e1, y, ds, h1, h2, h3, rfl⟩ := lenS h
  cases h2
  cases h3
  exact ⟨d, rfl⟩
theorem len2 {a b : E} {env : Env} {x : D × Env} (h : ev ft (.cons a (.cons b .nil)) env = .ok x) : ∃ d c, x.1 = .lst [d, c] := by
  obtain ⟨d, e1, y, ds, h1, h2, h3, rfl⟩ := lenS h
  obtain ⟨c, h4⟩ := len1 h2
  rw [h3] at h4
  cases h4
  exact ⟨d, c, rfl⟩
theorem rg1 {e : E} {a : Expr} {p pos : Pos} (hg : Gl X "range") (hm : X.mg "range" = none) (ha : PA X [a] (tA X.K X.w WO (ev ft (.cons e .nil)))) (hp : plain a = true) : PRg X (.Call (.Name "range" p) [a] [] pos) (tRg X.K X.w WO ft (.cons e .nil)) := by
  intro pins s σ H Q I ⟨G, env, ok, k⟩
  refine prgA1 hg hm ha hp pins s σ H Q I ⟨G, env, ok, (K1.bind (r := ev ft (.cons e .nil) env) k).mono fun x hx h1 => ?_⟩
  obtain ⟨d, e1⟩ := len1 hx
  rw [e1] at h1
  obtain ⟨z, e2, h3⟩ := (K1.bind (r := rngD [d]) h1).ok (rngD_noexc [d])
  refine ⟨[d], e1, fun vs G' H' go ok' r => ?_⟩
  rcases rngD_ok e2 with ⟨n, q0, q1, q2, rfl⟩ | ⟨a, b, q0, q1, q2, q3, q4, q5, rfl⟩
  · cases q0
    cases r with
    | cons ra rn =>
      cases rn
      cases ra
      exact ⟨n, rfl, h3 0 n G' H' go ok' ⟨by decide, by decide, q1, by omega, by omega⟩ (by rw [Int.sub_zero])⟩
  · cases q0
theorem rg2 {e e' : E} {a b : Expr} {p pos : Pos} (hg : Gl X "range") (hm : X.mg "range" = none) (ha : PA X [a, b] (tA X.K X.w WO (ev ft (.cons e (.cons e' .nil))))) (hp : plain a = true) (hp2 : plain b = true) :
    PRg X (.Call (.Name "range" p) [a, b] [] pos) (tRg X.K X.w WO ft (.cons e (.cons e' .nil))) := by
  intro pins s σ H Q I ⟨G, env, ok, k⟩
  refine prgA2 hg hm ha hp hp2 pins s σ H Q I ⟨G, env, ok, (K1.bind (r := ev ft (.cons e (.cons e' .nil)) env) k).mono fun x hx h1 => ?_⟩
  obtain ⟨d, c, e1⟩ := len2 hx
  rw [e1] at h1
  obtain ⟨z, e2, h3⟩ := (K1.bind (r := rngD [d, c]) h1).ok (rngD_noexc [d, c])
  refine ⟨[d, c], e1, fun vs G' H' go ok' r => ?_⟩
  rcases rngD_ok e2 with ⟨n, q0, q1, q2, rfl⟩ | ⟨a, b, q0, q1, q2, q3, q4, q5, rfl⟩
  · cases q0
  · cases q0
    cases r with
    | cons ra rn =>
      cases rn with
      | cons rb rn =>
        cases rn
        cases ra
        cases rb
        exact ⟨a, b, rfl, h3 a b G' H' go ok' ⟨q1, q2, q3, q4, by omega⟩ rfl⟩
theorem plain_call {f : Expr} {xs : List Expr} {ks : List Keyword} {p : Pos} {env : PySem.Env} : starEach [.Call f xs ks p] env = (false, eval (.Call f xs ks p) env) :: starEach [] env := rfl
theorem n_lrng {es : E} {f : Expr} {xs : List Expr} {p p2 pos : Pos} (hc : X.calm = true) (hg : Gl X "list") (hm : X.mg "list" = none) (h : PRg X (.Call f xs [] p2) (tRg X.K X.w WO ft es)) : Sx X WO ft (.blt .lrng es) (.Call (.Name "list" p) [.Call f xs [] p2] [] pos) :=
  .mkM (peW (pe_listRg hc hg hm h plain_call) fun σ H Q ⟨G, env, ok, k⟩ => ⟨G, env, ok, by
    have e0 : ev ft (.blt .lrng es) env = ((ev ft es env).bind fun x => (unL x.1).bind fun ds => (rngD ds).bind fun z => .ok (z, x.2)).bind fun y => .ok (.lst y.1, y.2) := by
      show ((ev ft es env).bind fun x => (unL x.1).bind fun ds => ((rngD ds).bind fun xs => R.ok (D.lst xs)).bind fun z => R.ok (z, x.2)) = _
      cases ev ft es env with
      | ok x =>
        simp only [R.bind]
        cases unL x.1 with
        | ok ds =>
          simp only [R.bind]
          cases rngD ds <;> rfl
        | _ => rfl
      | _ => rfl
    rw [e0] at k
    exact k.bind.mono fun x _ h1 a b G' H' go ok' rg e => ⟨rg, fun q hq => Mx.new rfl (h1 G' H' go ok') (newL hq (by rw [e]; exact rgV_rep))⟩⟩) rfl fun _ => rfl
theorem n_ltup {es : E} {f : Expr} {xs : List Expr} {p p2 pos : Pos} (hc : X.calm = true) (hg : Gl X "tuple") (hm : X.mg "tuple" = none) (h : PRg X (.Call f xs [] p2) (tRg X.K X.w WO ft es)) : Sx X WO ft (.blt .ltup es) (.Call (.Name "tuple" p) [.Call f xs [] p2] [] pos) :=
  .mkM (peW (pe_tupRgF hc hg hm h plain_call) fun σ H Q ⟨G, env, ok, k⟩ => ⟨G, env, ok, by
    have e0 : ev ft (.blt .ltup es) env = ((ev ft es env).bind fun x => (unL x.1).bind fun ds => (rngD ds).bind fun z => .ok (z, x.2)).bind fun y => .ok (.tup y.1, y.2) := by
      show ((ev ft es env).bind fun x => (unL x.1).bind fun ds => ((rngD ds).bind fun xs => R.ok (D.tup xs)).bind fun z => R.ok (z, x.2)) = _
      cases ev ft es env with
      | ok x =>
        simp only [R.bind]
        cases unL x.1 with
        | ok ds =>
          simp only [R.bind]
          cases rngD ds <;> rfl
        | _ => rfl
      | _ => rfl
    rw [e0] at k
    exact k.bind.mono fun x _ h1 a b G' H' go ok' rg e => ⟨rg, fun q u hq hu => Mx.tup (h1 G' H' go ok') ok'.sub hq hu (by rw [e]; exact rgV_rep)⟩⟩) rfl fun _ => rfl
theorem Walk.rg {K : Fg} {w : World} {G : Hp} {a b : Int} : Walk K w G (Itr a (b - a).toNat) (rangeL a (b - a).toNat) := Walk.rng
theorem i_rng1 {tg : Expr} {e : E} {a : Expr} {p pos : Pos} (hg : Gl X "range") (hm : X.mg "range" = none) (ha : PA X [a] (tA X.K X.w WO (ev ft (.cons e .nil)))) (hp : plain a = true) :
    PI X tg (.Call (.Name "range" p) [a] [] pos) (tI X.K X.w WO (ev ft (.rng (.cons e .nil)))) :=
  piW (pi_range1 hg hm ha (by rw [star_plain hp]; rfl)) fun σ H J0 ⟨G, env, ok, k⟩ => ⟨G, env, ok, (K1.bind (r := ev ft (.cons e .nil) env) k).mono fun x hx h1 => by
    obtain ⟨d, e1⟩ := len1 hx
    rw [e1] at h1
    obtain ⟨z, e2, h3⟩ := (K1.bind (r := rngD [d]) h1).ok (rngD_noexc [d])
    obtain ⟨ds, e3, f⟩ := h3
    cases e3
    refine ⟨[d], e1, fun vs G' H' go ok' r => ?_⟩
    rcases rngD_ok e2 with ⟨n, q0, q1, q2, rfl⟩ | ⟨a, b, q0, q1, q2, q3, q4, q5, rfl⟩
    · cases q0
      cases r with
      | cons ra rn =>
        cases rn
        cases ra
        exact ⟨n, rfl, q1, by omega, f _ G' H' go ok' Walk.rng⟩
    · cases q0⟩
theorem i_rng2 {tg : Expr} {e e' : E} {a b : Expr} {p pos : Pos} (hg : Gl X "range") (hm : X.mg "range" = none) (ha : PA X [a, b] (tA X.K X.w WO (ev ft (.cons e (.cons e' .nil))))) (hp : plain a = true) (hp2 : plain b = true) :
    PI X tg (.Call (.Name "range" p) [a, b] [] pos) (tI X.K X.w WO (ev ft (.rng (.cons e (.cons e' .nil))))) :=
  piW (pi_range2 hg hm ha (by rw [star_plain hp, star_plain hp2]; rfl) (by rw [star_plain hp2]; rfl)) fun σ H J0 ⟨G, env, ok, k⟩ => ⟨G, env, ok, (K1.bind (r := ev ft (.cons e (.cons e' .nil)) env) k).mono fun x hx h1 => by
    obtain ⟨d, c, e1⟩ := len2 hx
    rw [e1] at h1
    obtain ⟨z, e2, h3⟩ := (K1.bind (r := rngD [d, c]) h1).ok (rngD_noexc [d, c])
    obtain ⟨ds, e3, f⟩ := h3
    cases e3
    refine ⟨[d, c], e1, fun vs G' H' go ok' r => ?_⟩
    rcases rngD_ok e2 with ⟨n, q0, q1, q2, rfl⟩ | ⟨a, b, q0, q1, q2, q3, q4, q5, rfl⟩
    · cases q0
    · cases q0
      cases r with
      | cons ra rn =>
        cases rn with
        | cons rb rn =>
          cases rn
          cases ra
          cases rb
          exact ⟨a, b, rfl, ⟨q1, q2, q3, q4⟩, f _ G' H' go ok' Walk.rng⟩⟩
/-! ### isinstance -/
def tyD : D → String
  | .non => "NoneType"
  | .bl _ => "bool"
  | .int _ => "int"
  | .str _ => "str"
  | .tup _ => "tuple"
  | .lst _ => "list"
  | _ => ""
def tyS : Ty → String
  | .int => "int"
  | .bool => "bool"
  | .tuple => "tuple"
  | .list => "list"
  | .str => "str"
  | .dict => "dict"
theorem kit_all : ∀ (a : Nat) (t : Ty), a < 6 → kitB (["NoneType", "bool", "int", "str", "tuple", "list"].getD a "") (tyS t) = some ([[false, false, false, false, false, false], [true, true, false, false, false, false], [true, false, false, false, false, false], [false, false, false, false, true, false], [false, false, true, false, false, false], [false, false, false, true, false, false]].getD a [] |>.getD (match t with | .int => 0 | .bool => 1 | .tuple => 2 | .list => 3 | .str => 4 | .dict => 5) false) := by
  intro a t h
  have h6 : a = 0 ∨ a = 1 ∨ a = 2 ∨ a = 3 ∨ a = 4 ∨ a = 5 := by omega
  rcases h6 with rfl | rfl | rfl | rfl | rfl | rfl <;> cases t <;> decide +kernel
theorem kit_d (d : D) (t : Ty) (h : isiOk d = true) : kitB (tyD d) (tyS t) = some (isiD d t) := by
  cases d <;> cases h
  · rw [show tyD .non = ["NoneType", "bool", "int", "str", "tuple", "list"].getD 0 "" from rfl, kit_all 0 t (by decide)]; cases t <;> rfl
  · rename_i b; rw [show tyD (.bl b) = ["NoneType", "bool", "int", "str", "tuple", "list"].getD 1 "" from rfl, kit_all 1 t (by decide)]; cases t <;> rfl
  · rename_i b; rw [show tyD (.int b) = ["NoneType", "bool", "int", "str", "tuple", "list"].getD 2 "" from rfl, kit_all 2 t (by decide)]; cases t <;> rfl
  · rename_i b; rw [show tyD (.str b) = ["NoneType", "bool", "int", "str", "tuple", "list"].getD 3 "" from rfl, kit_all 3 t (by decide)]; cases t <;> rfl
  · rename_i b; rw [show tyD (.tup b) = ["NoneType", "bool", "int", "str", "tuple", "list"].getD 4 "" from rfl, kit_all 4 t (by decide)]; cases t <;> rfl
  · rename_i b; rw [show tyD (.lst b) = ["NoneType", "bool", "int", "str", "tuple", "list"].getD 5 "" from rfl, kit_all 5 t (by decide)]; cases t <;> rfl
theorem RepB.ty {K : Fg} {w : World} {G H : Hp} {v : V} {d : D} (s : Sub G H) (h : isiOk d = true) (r : RepB K w G H v d) : TyX K H v (.type (tyD d)) := by
  cases d <;> cases h
  · rw [r.non_]; exact .base .non
  · rw [r.bl_]; exact .base (.bl _)
  · rw [r.int_]; exact .base (.int _)
  · rw [r.str_.1]; exact .base (.str _)
  · obtain ⟨a, xs, rfl, ⟨_, h, ob, rfl, _⟩, _⟩ := r.tup_ s
    exact .fTuple h
  · obtain ⟨a, xs, rfl, h, _⟩ := r.lst_ s
    exact .base (.lst h)
theorem n_isi {a : E} {t : Ty} {x y : Expr} {p pos : Pos} (hg : Gl X "isinstance") (hm : X.mg "isinstance" = none) (ha : PE X x (tB X.K X.w WO (ev ft a))) (hy : PE X y (tC (.ty (tyS t)))) (hp : plain x = true) (hp2 : plain y = true) :
    Sx X WO ft (.isi a t) (.Call (.Name "isinstance" p) [x, y] [] pos) :=
  .mkM (peW (pe_callB call_isi hg hm boot_isinstance (pa_cons ha (pa_cons hy pa_nil (star_plain hp2)) (star_plain hp)) (by decide) (by decide) (star_plain hp) (back1 hp2)) fun σ H Q ⟨G, env, ok, k⟩ => ⟨G, env, ok, (K1.bind (r := ev ft a env) k).mono fun z _ h1 v G' H' go ok' r => by
    by_cases hi : isiOk z.1 = true
    · rw [if_pos hi] at h1
      exact ⟨v, .ty (tyS t), .type (tyD z.1), .type (tyS t), isiD z.1 t, rfl, .ty _, r.ty ok'.sub hi, kit_ty (kit_d z.1 t hi), Mx.val rfl (h1 G' H' go ok') ok'.sub (.bl _)⟩
    · rw [if_neg hi] at h1
      exact h1.elim⟩) rfl fun _ => rfl
/-! ### sum(lists, []) -/
theorem n_sum2 {a : E} {x : Expr} {p p2 pos : Pos} (hc : X.calm = true) (hg : Gl X "sum") (hm : X.mg "sum" = none) (ha : PE X x (tB X.K X.w WO (ev ft a))) (hp : plain x = true) :
    Sx X WO ft (.blt .sum2 (.cons a (.cons (.lst .nil) .nil))) (.Call (.Name "sum" p) [x, .List [] p2] [] pos) :=
  .mkM (peW (pe_callB (cr_sum2 hc) hg hm boot_sum (pa_cons ha (pa_cons (pe_lst pa_nil) pa_nil (star_plain rfl)) (star_plain hp)) (by decide) (by decide) (star_plain hp) (back1 rfl)) fun σ H Q ⟨G, env, ok, k⟩ => ⟨G, env, ok, by
    have e0 : ev ft (.blt .sum2 (.cons a (.cons (.lst .nil) .nil))) env = (ev ft a env).bind fun x => (bltD .sum2 [x.1, .lst []]).bind fun z => .ok (z, x.2) := by
      show (((ev ft a env).bind _).bind _) = _
      cases ev ft a env <;> rfl
    rw [e0] at k
    refine k.bind.mono fun z hz0 h1 v G' H' go ok' r => ⟨by decide, fun T hT => ?_⟩
    clear hz0
    obtain ⟨d, h2, h3⟩ := h1.bind.ok (bltD_noexc .sum2 _)
    obtain ⟨zd, ze⟩ := z
    cases zd <;> try cases h2
    rename_i xs
    have h2' : (match lsts xs with | some ls => if (sumL ls).length ≤ SZ then R.ok (D.lst (sumL ls)) else .bad | none => .bad) = R.ok d := h2
    cases hl : lsts xs with
    | none => rw [hl] at h2'; cases h2'
    | some ls =>
      rw [hl] at h2'
      simp only at h2'
      split at h2' <;> cases h2'
      rename_i hz
      obtain ⟨q, vs, rfl, hq, rs⟩ := r.lst_ ok'.sub
      have key : ∀ (xs : List D) (ls : List (List D)) (vs : List V), lsts xs = some ls → Reps X.K X.w G' vs xs → ∃ bs : List Addr, vs = bs.map V.ref ∧ ∃ ys : Addr → List V, (∀ b ∈ bs, G' b = some (.lst (ys b))) ∧ (ys = fun b => match G' b with | some (.lst l) => l | _ => []) ∧ Reps X.K X.w G' (bs.flatMap ys) (sumL ls) := by
        intro xs
        induction xs with
        | nil =>
          intro ls vs h r
          cases h
          cases r
          exact ⟨[], rfl, _, (fun b hb => by cases hb), rfl, .nil⟩
        | cons x xs ih =>
          intro ls vs h r
          cases x <;> simp only [lsts] at h <;> try cases h
          rename_i l
          cases h2 : lsts xs with
          | none => rw [h2] at h; cases h
          | some ls' =>
            rw [h2] at h
            cases h
            cases r with
            | cons r1 rr =>
              obtain ⟨bs, e1, ys, e2, e3, e4⟩ := ih ls' _ h2 rr
              cases r1
              rename_i b us hb ru
              refine ⟨b :: bs, by rw [e1]; rfl, ys, fun c hc => ?_, e3, ?_⟩
              · rcases List.mem_cons.mp hc with z | z
                · rw [z, e3]; simp only [hb]
                · exact e2 c z
              · rw [List.flatMap_cons]
                have : ys b = us := by rw [e3]; simp only [hb]
                rw [this]
                exact ru.append e4
      obtain ⟨bs, e1, ys, e2, _, e4⟩ := key xs ls vs hl rs
      subst e1
      have neT : ∀ b o, G' b = some o → b ≠ T := fun b o h z => by rw [z, ok'.sub.none hT] at h; cases h
      have qT : q ≠ T := fun z => by rw [z, hT] at hq; cases hq
      refine ⟨q, T, bs, ys, rfl, (upd_ne qT).trans hq, upd_same, fun b hb => (upd_ne (neT b _ (e2 b hb))).trans (ok'.sub _ _ (e2 b hb)), by rw [e4.length]; exact line_of hz, fun hn => ?_, fun hn p hp => ?_⟩
      · subst hn
        have e5 : sumL ls = [] := by cases e4' : sumL ls with | nil => rfl | cons _ _ => rw [e4'] at e4; cases e4
        refine Mx.new rfl (h3 G' H' go ok') ?_
        rw [e5]
        exact newL hT .nil
      · have gr : Grow G' H' G' (upd H' T (.lst [])) := .waste ok'.sub hT
        have := h3 G' (upd H' T (.lst [])) (go.trans (.grow gr)) (ok'.grow gr)
        exact Mx.new rfl this (newL hp e4)⟩) rfl fun _ => rfl
end
end Py
end
section
set_option linter.all false
set_option maxRecDepth 100000
set_option maxHeartbeats 1000000
/-! PySnd14: what changes in place; calls of defs. -/
namespace Py
open PySem PySem.Spec PyProof.Rows L2
variable [tb : Tb]
section
variable {K : Fg} {w : World} {G H : Hp} {σ : Sg} {env env' : Env}
/-- a content that is read and put back -/
theorem EOk.chg (ok : EOk K w G H σ env) {i : Nat} {ds es : List D} (h : Py.rd env i = .ok (.lst ds)) (h2 : Py.put env i (.lst es) = .ok env') :
    ∃ p xs, σ[i]? = some (some (.ref p)) ∧ H p = some (.lst xs) ∧ Reps K w G xs ds ∧ ∀ ys, Reps K w G ys es → EOk K w G (upd H p (.lst ys)) σ env' ∧ Go G H σ env G (upd H p (.lst ys)) σ env' := by
  obtain ⟨p, hp, hg, ow, f⟩ := ok.put h2
  obtain ⟨v, hv, rv⟩ := ok.rd h
  rw [hp] at hv
  cases hv
  rcases rv with r | ⟨q, e, hq, c⟩
  · cases r
    rename_i xs h3 r
    rw [hg] at h3; cases h3
  · cases e
    obtain ⟨xs, h3, r⟩ := c
    exact ⟨p, xs, hp, h3, r, fun ys ry => f (.lst ys) ⟨ys, upd_same, ry⟩⟩
theorem EOk.chgD (ok : EOk K w G H σ env) {i : Nat} {ks ds ks' ds' : List D} (h : Py.rd env i = .ok (.dic ks ds)) (h2 : Py.put env i (.dic ks' ds') = .ok env') :
    ∃ p ns xs, σ[i]? = some (some (.ref p)) ∧ ks = ns.map D.int ∧ ns.length = xs.length ∧ H p = some (.dK (dkv ns xs)) ∧ Reps K w G xs ds ∧
      ∀ ns' xs', ks' = ns'.map D.int → ns'.length = xs'.length → Reps K w G xs' ds' → EOk K w G (upd H p (.dK (dkv ns' xs'))) σ env' ∧ Go G H σ env G (upd H p (.dK (dkv ns' xs'))) σ env' := by
  obtain ⟨p, hp, hg, ow, f⟩ := ok.put h2
  obtain ⟨v, hv, rv⟩ := ok.rd h
  rw [hp] at hv
  cases hv
  rcases rv with r | ⟨q, e, hq, c⟩
  · generalize hk : D.dic ks ds = z at r
    cases r <;> cases hk
    rename_i h3 _
    rw [hg] at h3; cases h3
  · cases e
    obtain ⟨ns, xs, e1, l, h3, r⟩ := c
    exact ⟨p, ns, xs, hp, e1, l, h3, r, fun ns' xs' e2 l2 ry => f (.dK (dkv ns' xs')) ⟨ns', xs', e2, l2, upd_same, ry⟩⟩
end
section
variable {X : Cx} {WO : WN} {ft : Ft}
theorem put_noexc {env : Env} {i : Nat} {d : D} (c : Nat) (dd : D) : Py.put env i d ≠ .exc c dd := fun q => by
  unfold Py.put at q; split at q <;> cases q
theorem popD_noexc (x : D) (ds : List D) (c : Nat) (d : D) : popD x ds ≠ .exc c d := fun q => by
  unfold popD at q
  split at q <;> first
    | (split at q <;> first | cases q | (split at q <;> first | cases q | (split at q <;> cases q)))
    | cases q
theorem n_pop0 {i : Nat} {o : Expr} {apos pos : Pos} (ho : PE X o (L2.tVar i)) (hb : attributeBase o "pop" X.env (eval o X.env) = eval o X.env) (hl : (apos.endLine == pos.line) = true) :
    Sx X WO ft (.pop i .nil) (.Call (.Attribute o "pop" apos) [] [] pos) :=
  .mk1 (peW (pe_bm0 PySem.F.plainAttrs_list PySem.F.slot_list_pop PySem.F.type_list_pop mt_pop ho hb hl) fun σ H Q ⟨G, env, ok, k⟩ => by
    have k0 : K1 WO H σ env ((Py.rd env i).bind fun c0 => (unL c0).bind fun _ => (Py.rd env i).bind fun c => (popD c []).bind fun r => (Py.put env i r.2).bind fun e => .ok (r.1, e)) _ := k
    obtain ⟨c0, e0, k0⟩ := k0.bind.ok fun _ _ => rd_noexc
    obtain ⟨l0, e00, k1⟩ := k0.bind.ok (unL_noexc c0)
    obtain ⟨c, e1, k2⟩ := k1.bind.ok fun _ _ => rd_noexc
    obtain ⟨r, e2, k3⟩ := k2.bind.ok (popD_noexc c [])
    obtain ⟨env', e3, k4⟩ := k3.bind.ok put_noexc
    cases c <;> simp only [popD] at e2 <;> try cases e2
    rename_i ds
    cases hl : ds.getLast? with
    | none => rw [hl] at e2; cases e2
    | some y =>
      rw [hl] at e2
      cases e2
      obtain ⟨p, xs, hp, hH, rx, f⟩ := ok.chg e1 e3
      have hy : ds[ds.length - 1]? = some y := by rw [← List.getLast?_eq_getElem?]; exact hl
      obtain ⟨yv, h5, ry⟩ := rx.get hy
      obtain ⟨ok', go'⟩ := f xs.dropLast rx.dropLast
      exact ⟨.ref p, hp, .inl ⟨rfl, xs, .of hH⟩, p, xs, yv, rfl, rfl, hH, by rw [rx.length]; exact h5, k4 yv G _ go' ok' ry⟩) rfl rfl fun _ => rfl
theorem ixn_seqIx {n : Nat} {i : Int} {j : Nat} (h : ixn n i = some j) : seqIndex? i n = some j ∧ j < n ∧ -(n : Int) ≤ i ∧ i < n := ixN_seq h
theorem popD_int {c d : D} {r : D × D} (h : popD c [d] = .ok r) : ∃ ds j n y, c = .lst ds ∧ d = .int j ∧ ds.length ≤ SZ ∧ ixn ds.length j = some n ∧ ds[n]? = some y ∧ r = (y, .lst (ds.eraseIdx n)) := by
  unfold popD at h
  split at h
  · rename_i q
    cases q
  · rename_i q
    cases q
    split at h
    case isFalse => cases h
    rename_i hz
    split at h
    case h_2 => cases h
    rename_i n hn
    split at h
    case h_2 => cases h
    rename_i y hy
    cases h
    exact ⟨_, _, n, y, rfl, rfl, hz, hn, hy, rfl⟩
  · cases h
theorem n_pop1 {i : Nat} {e : E} {o x : Expr} {apos pos : Pos} (ho : PE X o (L2.tVar i)) (hx : PA X [x] (tA X.K X.w WO (ev ft (.cons e .nil)))) (hb : attributeBase o "pop" X.env (eval o X.env) = eval o X.env) (hl : (apos.endLine == pos.line) = true) (hp : plain x = true) :
    Sx X WO ft (.pop i (.cons e .nil)) (.Call (.Attribute o "pop" apos) [x] [] pos) :=
  .mk1 (peW (pe_bm PySem.F.plainAttrs_list PySem.F.slot_list_pop PySem.F.type_list_pop mt_popAt ho hx hb (by rw [star_plain hp]; rfl) hl (star_plain hp) rfl) fun σ H Q ⟨G, env, ok, k⟩ => by
    have k0 : K1 WO H σ env ((Py.rd env i).bind fun c0 => (unL c0).bind fun _ => (ev ft (.cons e .nil) env).bind fun x => (unL x.1).bind fun ds => (Py.rd x.2 i).bind fun c => (popD c ds).bind fun r => (Py.put x.2 i r.2).bind fun e => .ok (r.1, e)) _ := k
    obtain ⟨c0, e0, k0⟩ := k0.bind.ok fun _ _ => rd_noexc
    obtain ⟨l0, e00, k1⟩ := k0.bind.ok (unL_noexc c0)
    obtain ⟨v0, hv0, r0⟩ := ok.rd e0
    rw [unL_ok e00] at r0
    obtain ⟨p0, xs0, rfl, h0, _⟩ := r0.lst_ ok.sub
    refine ⟨.ref p0, hv0, .inl ⟨rfl, xs0, .of h0⟩, G, env, ok, k1.bind.mono fun x hx h1 => ?_⟩
    obtain ⟨d, ed⟩ := len1 hx
    rw [ed] at h1
    refine ⟨[d], ed, fun vs G' H' go ok' r => ?_⟩
    have k2 : K1 WO H σ env ((Py.rd x.2 i).bind fun c => (popD c [d]).bind fun r => (Py.put x.2 i r.2).bind fun e => .ok (r.1, e)) _ := h1
    obtain ⟨c, e1, k2⟩ := k2.bind.ok fun _ _ => rd_noexc
    obtain ⟨r1, e2, k3⟩ := k2.bind.ok (popD_noexc c [d])
    obtain ⟨env', e3, k4⟩ := k3.bind.ok put_noexc
    obtain ⟨ds, j, n, y, rfl, rfl, hz, hj, hy, rfl⟩ := popD_int e2
    obtain ⟨p, xs, hp, hH, rx, f⟩ := ok'.chg e1 e3
    rw [hv0] at hp
    cases hp
    cases r with
    | cons ra rn =>
          cases rn
          cases ra
          obtain ⟨yv, h5, ry⟩ := rx.get hy
          obtain ⟨ok2, go2⟩ := f (xs.eraseIdx n) (rx.eraseIdx n)
          obtain ⟨q1, q2, q3, q4⟩ := ixn_seqIx hj
          have hz2 : SZ = 16777216 := rfl
          exact ⟨p0, xs, j, n, yv, rfl, rfl, hH, by omega, by omega, by rw [rx.length]; exact q1, h5, k4 yv G' _ (go.trans go2) ok2 ry⟩) rfl rfl fun _ => rfl
/-! ### xs.index(x) -/
theorem indexL_ok (x : D) : ∀ (xs : List D) (j : Nat), indexL x xs = some j → ∃ y, xs[j]? = some y ∧ eqD y x = true ∧ ∀ (m : Nat) (z : D), m < j → xs[m]? = some z → eqD z x = false
  | [], j, h => by cases h
  | y :: ys, j, h => by
    unfold indexL at h
    split at h
    · rename_i hy
      cases h
      exact ⟨y, rfl, hy, fun m z hm => absurd hm (Nat.not_lt_zero m)⟩
    · rename_i hy
      cases hj : indexL x ys with
      | none => rw [hj] at h; cases h
      | some k =>
        rw [hj] at h
        cases h
        obtain ⟨z, h1, h2, h3⟩ := indexL_ok x ys k hj
        refine ⟨z, by simpa using h1, h2, fun m u hm hu => ?_⟩
        cases m with
        | zero =>
          have : y = u := by simpa using hu
          subst this
          cases q : eqD y x with
          | true => exact absurd q hy
          | false => rfl
        | succ m => exact h3 m u (Nat.lt_of_succ_lt_succ hm) (by simpa using hu)
theorem metOk_noexc (m : MF) (d : D) (c : Nat) (dd : D) : metOk m d ≠ .exc c dd := by
  cases m <;> cases d <;> exact fun q => by cases q
theorem metD_noexc (m : MF) (d : D) (ds : List D) (c : Nat) (dd : D) : metD m d ds ≠ .exc c dd := fun q => by
  unfold metD at q
  split at q
  · split at q
    · split at q
      · split at q <;> cases q
      · cases q
    · cases q
  · split at q
    · split at q <;> cases q
    · cases q
  · cases q
theorem noCall_base {o : Expr} {nm : Str} {env : PySem.Env} (h : noCall o = true) : attributeBase o nm env (eval o env) = eval o env := by
  cases o <;> first
    | rfl
    | cases h
theorem toPs_get {ds : List D} {j : Nat} {d : D} (h : ds[j]? = some d) : (toPs ds)[j]? = some (toP d) := by
  rw [toPs_map, List.getElem?_map, h]; rfl
theorem toPs_get' {ds : List D} {j : Nat} {z : PyData} (h : (toPs ds)[j]? = some z) : ∃ d, ds[j]? = some d ∧ z = toP d := by
  rw [toPs_map, List.getElem?_map] at h
  cases q : ds[j]? with
  | none => rw [q] at h; cases h
  | some d => rw [q] at h; cases h; exact ⟨d, rfl, rfl⟩
theorem shal_get {n : Nat} {ds : List D} {j : Nat} {d : D} (h : shal (n + 1) (.lst ds) = true) (hj : ds[j]? = some d) : shal n d = true := by
  have : ∀ x ∈ ds, shal n x = true := by simpa [shal] using h
  exact this d (List.mem_of_getElem? hj)
theorem n_index {a e : E} {o x : Expr} {apos pos : Pos} (hu : X.A.units + 65 < cLine) (ho : PE X o (lateT X.K X.w WO ft a)) (hx : PA X [x] (tA1 X.K X.w WO (ev ft (.cons e .nil)))) (hb : noCall o = true) (hl : (apos.endLine == pos.line) = true) (hp : plain x = true) :
    Sx X WO ft (.met .index a (.cons e .nil)) (.Call (.Attribute o "index" apos) [x] [] pos) :=
  .mkM (peW (pe_bm PySem.F.plainAttrs_list PySem.F.slot_list_index PySem.F.type_list_index (mt_indexD hu) ho hx (noCall_base hb) (by rw [star_plain hp]; rfl) hl (star_plain hp) rfl) fun σ H Q ⟨G, env, ok, k⟩ => by
    -- what is wanted behind both, whatever way the first one was read
    have fin : ∀ (x0 : D) (d c : D) (env2 : Env) (G' H' : Hp) (v : V) (u : V), metOk .index x0 = .ok () → Go G H σ env G' H' σ env2 → EOk X.K X.w G' H' σ env2 → RepB X.K X.w G' H' v d → RepB X.K X.w G' H' u c →
        K1 WO H σ env ((metD .index d [c]).bind fun z => R.ok (z, env2)) (fun x => ∀ G' H', Go G H σ env G' H' σ x.2 → EOk X.K X.w G' H' σ x.2 → Mx X.K X.w G' H' x.1 Q) → (∃ ds, d = .lst ds) → rIndexD X.K v [u] H' Q := by
      intro x0 d c env2 G' H' v u _ go ok' rv ru k ⟨ds, hd⟩
      subst hd
      obtain ⟨z, ez, k2⟩ := k.bind.ok (metD_noexc .index _ [c])
      have ez' : (if shal DEEP c && shal DEEP (.lst ds) then (match indexL c ds with | some j => R.ok (D.int (j : Int)) | none => R.bad) else R.bad) = .ok z := ez
      split at ez'
      case isFalse => cases ez'
      rename_i hs
      simp only [Bool.and_eq_true] at hs
      cases hj : indexL c ds with
      | none => rw [hj] at ez'; cases ez'
      | some j =>
        rw [hj] at ez'
        cases ez'
        obtain ⟨y, h1, h2, h3⟩ := indexL_ok c ds j hj
        obtain ⟨p, xs, rfl, hp, rx⟩ := rv.lst_ ok'.sub
        have dv : Dp X.K H' (.ref p) (.list (toPs ds)) := by
          have := rv.dp ok'.sub hs.2
          exact this
        refine ⟨p, u, toP c, toPs ds, j, toP y, rfl, rfl, dv, ru.dp ok'.sub hs.1, shaped_of hs.2, shaped_of hs.1, toPs_get h1, ?_, fun m z' hm hz' => ?_, Mx.val rfl (k2 G' H' go ok') ok'.sub (.int _)⟩
        · rw [eqv_eqD 29 DEEP _ _ (shal_get hs.2 h1) hs.1]; exact h2
        · obtain ⟨d', q1, rfl⟩ := toPs_get' hz'
          rw [eqv_eqD 29 DEEP _ _ (shal_get hs.2 q1) hs.1]; exact h3 m d' hm q1
    have isl : ∀ d : D, metOk .index d = .ok () → ∃ ds, d = .lst ds := fun d h => by cases d <;> first | exact ⟨_, rfl⟩ | cases h
    by_cases hn : nb a = true
    · rw [lateT_nb hn]
      refine ⟨G, env, ok, (K1.bind (r := ev ft a env) k).mono fun x0 _ h1 v G1 H1 go1 ok1 r1 => ?_⟩
      obtain ⟨_, e1, h2⟩ := (K1.bind (r := metOk .index x0.1) h1).ok (metOk_noexc .index x0.1)
      obtain ⟨ds, hd⟩ := isl _ e1
      rw [hd] at r1
      refine ⟨?_, G1, x0.2, ok1, (K1.go (G := G) (G' := G1) (K1.bind (r := ev ft (.cons e .nil) x0.2) h2) go1).mono fun y hy h3 => ?_⟩
      · cases r1
        rename_i p xs hp rx
        exact .inl ⟨rfl, xs, .of (ok1.sub _ _ hp)⟩
      · obtain ⟨c, ec⟩ := len1 hy
        rw [late_nb hn, ec, hd] at h3
        refine ⟨c, ec, fun u G2 H2 go2 ok2 r2 => ?_⟩
        have k5 : K1 WO H σ env ((metD .index (.lst ds) [c]).bind fun z => R.ok (z, y.2)) (fun x => ∀ G' H', Go G H σ env G' H' σ x.2 → EOk X.K X.w G' H' σ x.2 → Mx X.K X.w G' H' x.1 Q) := h3
        exact fin _ (.lst ds) c y.2 G2 H2 v u (by rw [hd] at e1; exact e1) (go1.trans go2) ok2 (.inl (r1.sub go2.gs)) r2 k5 ⟨ds, rfl⟩
    · cases a with
      | bor i =>
        have k0 : K1 WO H σ env (((Py.rd env i).bind fun d => R.ok (d, env)).bind fun x => (metOk .index x.1).bind fun _ => (ev ft (.cons e .nil) x.2).bind fun y => (late (.bor i) x.1 y.2).bind fun x' => (metOk .index x').bind fun _ => (unL y.1).bind fun ds => (metD .index x' ds).bind fun z => .ok (z, y.2)) _ := k
        obtain ⟨d0, e0, k1⟩ := (K1.bind (r := Py.rd env i) k0.bind).ok fun _ _ => rd_noexc
        obtain ⟨v, hv, rv⟩ := ok.rd e0
        obtain ⟨_, e1, h2⟩ := (K1.bind (r := metOk .index d0) k1).ok (metOk_noexc .index d0)
        obtain ⟨ds0, hd0⟩ := isl _ e1
        subst hd0
        obtain ⟨p0, xs0, rfl, hp0, _⟩ := rv.lst_ ok.sub
        refine ⟨.ref p0, hv, .inl ⟨rfl, xs0, .of hp0⟩, G, env, ok, (K1.bind (r := ev ft (.cons e .nil) env) h2).mono fun y hy h3 => ?_⟩
        obtain ⟨c, ec⟩ := len1 hy
        refine ⟨c, ec, fun u G2 H2 go2 ok2 r2 => ?_⟩
        rw [ec] at h3
        have h3 : K1 WO H σ env ((Py.rd y.2 i).bind fun x' => (metOk .index x').bind fun _ => (metD .index x' [c]).bind fun z => R.ok (z, y.2)) _ := h3
        obtain ⟨d1, e3, k4⟩ := h3.bind.ok fun _ _ => rd_noexc
        obtain ⟨v', hv', rv'⟩ := ok2.rd e3
        rw [hv] at hv'
        cases hv'
        obtain ⟨_, e4, k4⟩ := k4.bind.ok (metOk_noexc .index d1)
        have : ∃ ds, d1 = .lst ds := isl _ e4
        exact fin _ d1 c y.2 G2 H2 (.ref p0) u e1 go2 ok2 rv' r2 k4 this
      | _ => exact (hn rfl).elim) rfl fun _ => rfl
theorem shal_getT {n : Nat} {ds : List D} {j : Nat} {d : D} (h : shal (n + 1) (.tup ds) = true) (hj : ds[j]? = some d) : shal n d = true := by
  have : ∀ x ∈ ds, shal n x = true := by simpa [shal] using h
  exact this d (List.mem_of_getElem? hj)
/-- t.index(x), t a tuple -/
theorem n_indexT {a e : E} {o x : Expr} {apos pos : Pos} (hu : X.A.units + 65 < cLine) (hn : nb a = true) (ho : PE X o (tE X.K X.w WO (ev ft a))) (hx : PA X [x] (tA1 X.K X.w WO (ev ft (.cons e .nil)))) (hb : noCall o = true) (hl : (apos.endLine == pos.line) = true) (hp : plain x = true) :
    Sx X WO ft (.met .indexT a (.cons e .nil)) (.Call (.Attribute o "index" apos) [x] [] pos) :=
  .mkM (peW (pe_bmF PySem.F.plainAttrs_tuple PySem.F.slot_tuple_index PySem.F.type_tuple_index (mt_indexDT hu) ho hx (noCall_base hb) (by rw [star_plain hp]; rfl) hl (star_plain hp) rfl) fun σ H Q ⟨G, env, ok, k⟩ => by
    refine ⟨G, env, ok, (K1.bind (r := ev ft a env) k).mono fun x0 _ h1 v G1 H1 go1 ok1 r1 => ?_⟩
    obtain ⟨_, e1, h2⟩ := (K1.bind (r := metOk .indexT x0.1) h1).ok (metOk_noexc .indexT x0.1)
    obtain ⟨ds, hd⟩ : ∃ ds, x0.1 = .tup ds := by
      cases hx0 : x0.1 <;> rw [hx0] at e1 <;> first | exact ⟨_, rfl⟩ | cases e1
    rw [hd] at r1
    have r1' := r1
    cases r1
    rename_i p xs hp rx
    refine ⟨⟨p, xs, rfl, TupO.sub ok1.sub hp⟩, G1, x0.2, ok1, (K1.go (G := G) (G' := G1) (K1.bind (r := ev ft (.cons e .nil) x0.2) h2) go1).mono fun y hy h3 => ?_⟩
    obtain ⟨c, ec⟩ := len1 hy
    rw [late_nb hn, ec, hd] at h3
    refine ⟨c, ec, fun u G2 H2 go2 ok2 r2 => ?_⟩
    have k5 : K1 WO H σ env ((metD .indexT (.tup ds) [c]).bind fun z => R.ok (z, y.2)) (fun x => ∀ G' H', Go G H σ env G' H' σ x.2 → EOk X.K X.w G' H' σ x.2 → Mx X.K X.w G' H' x.1 Q) := h3
    obtain ⟨z, ez, k2⟩ := k5.bind.ok (metD_noexc .indexT _ [c])
    have ez' : (if shal DEEP c && shal DEEP (.tup ds) then (match indexL c ds with | some j => R.ok (D.int (j : Int)) | none => R.bad) else R.bad) = .ok z := ez
    split at ez'
    case isFalse => cases ez'
    rename_i hs
    simp only [Bool.and_eq_true] at hs
    cases hj : indexL c ds with
    | none => rw [hj] at ez'; cases ez'
    | some j =>
      rw [hj] at ez'
      cases ez'
      obtain ⟨y0, h1, h2, h3⟩ := indexL_ok c ds j hj
      have dv : Dp X.K H2 (.ref p) (.tuple (toPs ds)) := by
        have := (r1'.sub go2.gs).dp ok2.sub hs.2
        exact this
      refine ⟨p, u, toP c, toPs ds, j, toP y0, rfl, rfl, dv, r2.dp ok2.sub hs.1, shaped_of hs.2, shaped_of hs.1, toPs_get h1, ?_, fun m z' hm hz' => ?_, Mx.val rfl (k2 G2 H2 (go1.trans go2) ok2) ok2.sub (.int _)⟩
      · rw [eqv_eqD 29 DEEP _ _ (shal_getT hs.2 h1) hs.1]; exact h2
      · obtain ⟨d', q1, rfl⟩ := toPs_get' hz'
        rw [eqv_eqD 29 DEEP _ _ (shal_getT hs.2 q1) hs.1]; exact h3 m d' hm q1) rfl fun _ => rfl
end
end Py
end
section
set_option linter.all false
set_option maxRecDepth 100000
set_option maxHeartbeats 1000000
/-! PySnd15: calls of defs. -/
namespace Py
open PySem PySem.Spec PyProof.Rows L2
variable [tb : Tb]

def argE : Bool → List D → Env
  | true, d :: r => .io d :: r.map .imm
  | _, ds => ds.map .imm
def outE : Bool → List D → D → Env
  | true, _ :: r, c => .io c :: r.map .imm
  | _, ds, _ => ds.map .imm
abbrev sArg (vs : List V) : Sg := vs.map some
/-- what a def promises, by the evaluator's table -/
def spF (K : Fg) (w : World) (CA : Nat → Value) (np : Nat) (io fr : Bool) (f : List D → R (D × D)) : Sp := fun vs H Q E => vs.length = np ∧ ∃ G ds, EOk K w G H (sArg vs) (argE io ds) ∧ match f ds with
  | .ok r => ∀ v G' H' H2, Go G H (sArg vs) (argE io ds) G' H' (sArg vs) (outE io ds r.2) → EOk K w G' H' (sArg vs) (outE io ds r.2) → (if fr = true then isCont r.1 = true ∧ New K w G' H' r.1 v H2 else Rep K w G' v r.1 ∧ H2 = H') → Q v H2
  | .exc c d => ∀ H', Fr H (sArg vs) (argE io ds) H' → E (CA c) none H'
  | .bad => False
def wx (CA : Nat → Value) (WO : WN) : WX := fun cls d σ H => ∃ c dd, cls = CA c ∧ d = none ∧ WO c dd σ H
section
variable {K : Fg} {w : World} {G G' H H' : Hp} {σ : Sg} {env env' : Env}
theorem imm_at {ds : List D} {i : Nat} {s : Slot} (h : (ds.map Slot.imm)[i]? = some s) : ∃ d, s = .imm d ∧ ds[i]? = some d := by
  rw [List.getElem?_map] at h
  cases q : ds[i]? with
  | none => rw [q] at h; cases h
  | some d => rw [q] at h; cases h; exact ⟨d, rfl, rfl⟩
theorem EOk.args (s : Sub G H) (tt : LamX.Tabs Tb.T H) (nn : NTs G) {vs : List V} {ds : List D} (r : Reps K w G vs ds) : EOk K w G H (sArg vs) (ds.map Slot.imm) := by
  refine ⟨s, by rw [List.length_map, List.length_map, r.length], fun i t h => ?_, fun i j t u p h1 h2 c1 => ?_, tt, nn⟩
  · obtain ⟨d, rfl, hd⟩ := imm_at h
    obtain ⟨v, hv, rv⟩ := r.get hd
    exact ⟨v, by rw [List.getElem?_map, hv]; rfl, rv⟩
  · obtain ⟨d, rfl, hd⟩ := imm_at h1
    exact (c1 rfl).elim
theorem ow_imm {σ' : Sg} {ds : List D} {p : Addr} : ¬ Ow σ' (ds.map Slot.imm) p := fun ⟨i, s, h, c, _⟩ => by
  obtain ⟨d, rfl, _⟩ := imm_at h
  exact c rfl
theorem Fr.args {vs : List V} {ds : List D} (f : Fr H (sArg vs) (ds.map Slot.imm) H') : Fr H σ env H' := ⟨fun a o h _ nt => f.hs a o h ow_imm nt, f.tk⟩
/-- behind a call whose arguments are kept -/
theorem Go.args {vs : List V} {ds : List D} (ok : EOk K w G H σ env) (g : Go G H (sArg vs) (ds.map Slot.imm) G' H' (sArg vs) (ds.map Slot.imm)) (gh : Sub G' H') (gn : NTs G') : Grow G H G' H' :=
  ⟨g.gs, fun a o h nt => g.hs a o h ow_imm nt, fun a o h n => (g.fr a o h n).elim id fun z => (ow_imm z).elim, gh, g.tk, fun _ => gn⟩
/-- a thing that is lent -/
theorem EOk.lend (ok : EOk K w G H σ env) {i : Nat} {c : D} (h : rdO env i = .ok c) {vs : List V} {ds : List D} (r : Reps K w G vs ds) :
    ∃ p, σ[i]? = some (some (.ref p)) ∧ EOk K w G H (sArg (.ref p :: vs)) (argE true (c :: ds)) ∧ (∀ H', Fr H (sArg (.ref p :: vs)) (argE true (c :: ds)) H' → Fr H σ env H') ∧
      ∀ c' G' H', Go G H (sArg (.ref p :: vs)) (argE true (c :: ds)) G' H' (sArg (.ref p :: vs)) (outE true (c :: ds) c') → EOk K w G' H' (sArg (.ref p :: vs)) (outE true (c :: ds) c') →
        ∃ env', Py.put env i c' = .ok env' ∧ EOk K w G' H' σ env' ∧ Go G H σ env G' H' σ env' := by
  have key : ∃ s0, env[i]? = some s0 ∧ s0.cont = some c ∧ ∀ c', ∃ s1, Py.put env i c' = .ok (env.set i s1) ∧ s1.cont = some c' ∧ (∀ d', s1 = .io d' → ∃ d0, s0 = .io d0) := by
    unfold rdO at h
    split at h
    · rename_i q
      cases h
      exact ⟨_, q, rfl, fun c' => ⟨.own c', by unfold Py.put; rw [q], rfl, fun d' z => by cases z⟩⟩
    · rename_i q
      cases h
      exact ⟨_, q, rfl, fun c' => ⟨.io c', by unfold Py.put; rw [q], rfl, fun d' z => ⟨_, rfl⟩⟩⟩
    · cases h
  obtain ⟨s0, h0, c0, hput⟩ := key
  have c0' : s0.cont ≠ none := by rw [c0]; intro z; cases z
  have own : ∃ p, σ[i]? = some (some (.ref p)) ∧ G p = none ∧ Cont K w G H p c := by
    have q := ok.slot i s0 h0
    cases s0 with
    | no => cases c0
    | imm _ => cases c0
    | own _ => cases c0; exact q
    | io _ => cases c0; exact q
  obtain ⟨p, hp, hg, hc⟩ := own
  have hO : Ow σ env p := ⟨i, s0, h0, c0', hp⟩
  have ai := EOk.args ok.sub ok.tabs ok.ntb r
  have owA : ∀ {x : D} {a : Addr}, Ow (sArg (.ref p :: vs)) (.io x :: ds.map Slot.imm) a → a = p := fun {x a} ⟨j, s, hj, hcs, hq⟩ => by
    cases j with
    | zero => cases hq; rfl
    | succ j =>
      obtain ⟨d, rfl, _⟩ := imm_at (show (ds.map Slot.imm)[j]? = some s from by simpa using hj)
      exact (hcs rfl).elim
  have owP : ∀ {x : D}, Ow (sArg (.ref p :: vs)) (.io x :: ds.map Slot.imm) p := fun {x} => ⟨0, .io x, rfl, (by intro z; cases z), rfl⟩
  refine ⟨p, hp, ⟨ok.sub, by simp [argE, r.length], fun j s hj => ?_, fun j k s t q hj hk hs ht a b => ?_, ok.tabs, ok.ntb⟩, fun H' f => ⟨fun a o ha no nt => f.hs a o ha (fun z => no (by rw [owA (x := c) z]; exact hO)) nt, f.tk⟩, fun c' G' H' g e => ?_⟩
  · cases j with
    | zero =>
      cases hj
      exact ⟨p, rfl, hg, hc⟩
    | succ j => exact ai.slot j s (by simpa [argE] using hj)
  · have z1 : j = 0 := by
      cases j with
      | zero => rfl
      | succ j =>
        obtain ⟨d, rfl, _⟩ := imm_at (show (ds.map Slot.imm)[j]? = some s from by simpa [argE] using hj)
        exact (hs rfl).elim
    have z2 : k = 0 := by
      cases k with
      | zero => rfl
      | succ j =>
        obtain ⟨d, rfl, _⟩ := imm_at (show (ds.map Slot.imm)[j]? = some t from by simpa [argE] using hk)
        exact (ht rfl).elim
    rw [z1, z2]
  · obtain ⟨s1, hp1, hs1, hio⟩ := hput c'
    have hi : i < env.length := (List.getElem?_eq_some_iff.mp h0).1
    obtain ⟨p', e1, e2, e3⟩ := e.slot 0 (.io c') rfl
    cases e1
    have s1c : s1.cont ≠ none := by rw [hs1]; intro z; cases z
    refine ⟨_, hp1, ⟨e.sub, by rw [List.length_set]; exact ok.len, fun j s hj => ?_, fun j k s t q hj hk hs ht a b => ?_, e.tabs, e.ntb⟩, ⟨g.gs, fun a o ha no nt => g.hs a o ha (fun z => no (by rw [owA (x := c) z]; exact hO)) nt, fun a o ha na => (g.fr a o ha na).imp id fun z => (by rw [owA (x := c) z]; exact hO), fun a q => ?_, fun j d' hj => ?_, g.tk⟩⟩
    · rw [gset] at hj
      split at hj
      · rename_i q
        subst q
        try rw [if_pos hi] at hj
        cases hj
        cases s1 with
        | no => cases hs1
        | imm _ => cases hs1
        | own x => cases hs1; exact ⟨p, hp, e2, e3⟩
        | io x => cases hs1; exact ⟨p, hp, e2, e3⟩
      · rename_i q
        refine (ok.slot j s hj).sub g.gs fun p' hp' hcs => ?_
        have ne : p' ≠ p := fun z => q (ok.apart i j s0 s p h0 hj c0' hcs hp (by rw [← z]; exact hp'))
        obtain ⟨n1, u, hu, nu, _⟩ := ok.ow ⟨j, s, hj, hcs, hp'⟩
        refine ⟨?_, fun o ho => g.hs p' o ho fun z => ne (owA (x := c) z)⟩
        cases y : G' p' with
        | none => rfl
        | some x =>
          rcases g.fr p' x y n1 with z | z
          · exact (z.no hu nu).elim
          · exact (ne (owA (x := c) z)).elim
    · have bk : ∀ (j : Nat) (s : Slot), (env.set i s1)[j]? = some s → s.cont ≠ none → ∃ s', env[j]? = some s' ∧ s'.cont ≠ none := fun j s hj hcs => by
        rw [gset] at hj
        split at hj
        · rename_i q
          subst q
          exact ⟨s0, h0, c0'⟩
        · exact ⟨s, hj, hcs⟩
      obtain ⟨s', a1, a2⟩ := bk j s hj hs
      obtain ⟨t', b1, b2⟩ := bk k t hk ht
      exact ok.apart j k s' t' q a1 b1 a2 b2 a b
    · obtain ⟨j, s, hj, hcs, hq⟩ := q
      rw [gset] at hj
      split at hj
      · rename_i z
        subst z
        exact .inl ⟨_, s0, h0, c0', hq⟩
      · exact .inl ⟨j, s, hj, hcs, hq⟩
    · rw [gset] at hj
      split at hj
      · rename_i z
        subst z
        try rw [if_pos hi] at hj
        cases hj
        obtain ⟨d0, hd⟩ := hio d' rfl
        exact ⟨⟨d0, by rw [h0, hd]⟩, rfl⟩
      · exact ⟨⟨_, hj⟩, rfl⟩
end
section
variable {X : Cx} {WO : WN} {ft : Ft} {CA : Nat → Value}
theorem plain_tail {N : List E} : True := trivial
theorem back_all {env : PySem.Env} {pos : Pos} : ∀ {xs : List Expr}, allPlain xs = true → (starEach xs env).any (·.1) = false
  | [], _ => rfl
  | x :: xs, h => by
    simp only [allPlain, Bool.and_eq_true] at h
    rw [star_plain h.1]
    simp only [List.any_cons, Bool.false_or]
    exact back_all (pos := pos) h.2
theorem backTo_any {pos : Pos} : ∀ xs : List (Bool × Sem Value), (backTo pos xs).any (·.1) = xs.any (·.1)
  | [] => rfl
  | x :: xs => by
    have := backTo_any (pos := pos) xs
    simp [backTo] at this ⊢
    rw [this]
theorem n_call {f k np : Nat} {fr : Bool} {as : E} {y : Expr} {ys : List Expr} {x : Str} {p pos : Pos} {fa : Addr} {fd : FuncData} {ps : List Str}
    (F : FnOk X.prog X.w X.K X.mg X.base (L2.CX X.prog X.w) k fa fd ps (spF X.K X.w CA np false fr (ft f))) (hr : Room k X.A) (hg : Gl X x) (hm : X.mg x = some (.ref fa)) (hk : PySem.W.keepIn X.K (.ref fa) = true) (hb : Binds X.K fd ps [])
    (tk : Takes X (wx CA WO)) (hl : ∀ ds, ft f ds ≠ .bad → ds.length = np) (ha : PA X (y :: ys) (tA X.K X.w WO (ev ft as))) (hdb : (x == ("__debug__" : Str)) = false) (hp : plain y = true) (hps : allPlain ys = true) :
    Sx X WO ft (.call f false fr as) (.Call (.Name x p) (y :: ys) [] pos) := by
  have base := pe_callS (p := p) (pos := pos) F hr hg hm hk hb (fun σ => passAt tk σ) ha hdb (star_plain hp) (by rw [backTo_any]; exact back_all (pos := pos) hps)
  have conv : ∀ (σ : Sg) (H : Hp) (Q : VK) (P : D × Env → Prop) (G : Hp) (env : Env), EOk X.K X.w G H σ env → K1 WO H σ env (ev ft (.call f false fr as) env) P →
      (∀ (x : D × Env) (v : V) (G' H' H2 : Hp), P x → Go G H σ env G' H' σ x.2 → EOk X.K X.w G' H' σ x.2 → (if fr = true then isCont x.1 = true ∧ New X.K X.w G' H' x.1 v H2 else Rep X.K X.w G' v x.1 ∧ H2 = H') → Q v H2) →
      tCallS (spF X.K X.w CA np false fr (ft f)) (WE (wx CA WO)) (tA X.K X.w WO (ev ft as)) σ H Q := fun σ H Q P G env ok k fin => by
    have k : K1 WO H σ env ((ev ft as env).bind fun x => (unL x.1).bind fun ds => (ft f ds).bind fun r => .ok (r.1, x.2)) P := k
    refine ⟨G, env, ok, k.bind.mono fun x _ h1 => ?_⟩
    obtain ⟨ds, e1, h2⟩ := (K1.bind (r := unL x.1) h1).ok (unL_noexc x.1)
    refine ⟨ds, unL_ok e1, fun vs G1 H1 go1 ok1 r => ?_⟩
    have hne : ft f ds ≠ .bad := fun z => by rw [z] at h2; exact h2
    refine ⟨by rw [r.length]; exact hl ds hne, G1, ds, EOk.args ok1.sub ok1.tabs ok1.ntb r, ?_⟩
    cases hf : ft f ds with
    | bad => exact hne hf
    | exc c d =>
      rw [hf] at h2
      intro H' hF
      exact ⟨c, d, rfl, rfl, h2 H' (go1.fr' (Fr.args hF))⟩
    | ok r0 =>
      rw [hf] at h2
      intro v G' H' H2 g e hn
      have gr := Go.args ok1 g e.sub e.ntb
      exact fin (r0.1, x.2) v G' H' H2 h2 (go1.trans (.grow gr)) (ok1.grow gr) hn
  cases fr with
  | true => exact .mkM (peW base fun σ H Q ⟨G, env, ok, k⟩ => conv σ H Q _ G env ok k fun x v G' H' H2 hP go ok' hn => Mx.new hn.1 (hP G' H' go ok') hn.2) rfl fun _ => rfl
  | false =>
    have he : PE X (.Call (.Name x p) (y :: ys) [] pos) (tE X.K X.w WO (ev ft (.call f false false as))) := peW base fun σ H Q ⟨G, env, ok, k⟩ => conv σ H Q _ G env ok k fun x v G' H' H2 hP go ok' hn => by
      obtain ⟨hr, rfl⟩ := hn
      exact hP v G' H2 go ok' hr
    exact .mk1 he rfl rfl fun _ => rfl
theorem rdO_noexc {env : Env} {i : Nat} (c : Nat) (dd : D) : rdO env i ≠ .exc c dd := fun q => by
  unfold rdO at q; split at q <;> cases q
theorem n_callIo {f k np i : Nat} {fr : Bool} {as : E} {y : Expr} {ys : List Expr} {x : Str} {p pos : Pos} {fa : Addr} {fd : FuncData} {ps : List Str}
    (F : FnOk X.prog X.w X.K X.mg X.base (L2.CX X.prog X.w) k fa fd ps (spF X.K X.w CA np true fr (ft f))) (hr : Room k X.A) (hg : Gl X x) (hm : X.mg x = some (.ref fa)) (hk : PySem.W.keepIn X.K (.ref fa) = true) (hb : Binds X.K fd ps [])
    (tk : Takes X (wx CA WO)) (hl : ∀ ds, ft f ds ≠ .bad → ds.length = np) (hy : PE X y (L2.tVar i)) (ha : PA X ys (tA X.K X.w WO (ev ft as))) (hdb : (x == ("__debug__" : Str)) = false) (hp : plain y = true) (hps : allPlain ys = true) :
    Sx X WO ft (.call f true fr (.cons (.bor i) as)) (.Call (.Name x p) (y :: ys) [] pos) := by
  have base := pe_callS (p := p) (pos := pos) F hr hg hm hk hb (fun σ => passAt tk σ) (pa_cons hy ha (star_plain hp)) hdb (star_plain hp) (by rw [backTo_any]; exact back_all (pos := pos) hps)
  have conv : ∀ (σ : Sg) (H : Hp) (Q : VK) (P : D × Env → Prop) (G : Hp) (env : Env), EOk X.K X.w G H σ env → K1 WO H σ env (ev ft (.call f true fr (.cons (.bor i) as)) env) P →
      (∀ (x : D × Env) (v : V) (G' H' H2 : Hp), P x → Go G H σ env G' H' σ x.2 → EOk X.K X.w G' H' σ x.2 → (if fr = true then isCont x.1 = true ∧ New X.K X.w G' H' x.1 v H2 else Rep X.K X.w G' v x.1 ∧ H2 = H') → Q v H2) →
      tCallS (spF X.K X.w CA np true fr (ft f)) (WE (wx CA WO)) (tCons (L2.tVar i) (tA X.K X.w WO (ev ft as))) σ H Q := fun σ H Q P G env ok k fin => by
    have k : K1 WO H σ env ((rdO env i).bind fun _ => (ev ft as env).bind fun x => (unL x.1).bind fun ds => (rdO x.2 i).bind fun c => (ft f (c :: ds)).bind fun r => (Py.put x.2 i r.2).bind fun e => .ok (r.1, e)) P := k
    obtain ⟨c0, e0, k⟩ := k.bind.ok rdO_noexc
    obtain ⟨p0, hp0, _⟩ := ok.lend e0 (vs := []) (ds := []) .nil
    refine ⟨.ref p0, hp0, G, env, ok, k.bind.mono fun x _ h1 => ?_⟩
    obtain ⟨ds, e1, h2⟩ := (K1.bind (r := unL x.1) h1).ok (unL_noexc x.1)
    refine ⟨ds, unL_ok e1, fun vs G1 H1 go1 ok1 r => ?_⟩
    obtain ⟨c, e2, h3⟩ := (K1.bind (r := rdO x.2 i) h2).ok rdO_noexc
    obtain ⟨p, hp, okA, frA, back⟩ := ok1.lend e2 r
    rw [hp0] at hp
    cases hp
    have hne : ft f (c :: ds) ≠ .bad := fun z => by rw [z] at h3; exact h3
    refine ⟨by rw [List.length_cons, r.length]; exact hl _ hne, G1, c :: ds, okA, ?_⟩
    cases hf : ft f (c :: ds) with
    | bad => exact hne hf
    | exc c d =>
      rw [hf] at h3
      intro H' hF
      exact ⟨c, d, rfl, rfl, h3 H' (go1.fr' (frA H' hF))⟩
    | ok r0 =>
      rw [hf] at h3
      intro v G' H' H2 g e hn
      obtain ⟨env', ep, ok2, go2⟩ := back r0.2 G' H' g e
      have h4 : K1 WO H σ env ((Py.put x.2 i r0.2).bind fun e => R.ok (r0.1, e)) P := h3
      rw [ep] at h4
      exact fin (r0.1, env') v G' H' H2 h4 (go1.trans go2) ok2 hn
  cases fr with
  | true => exact .mkM (peW base fun σ H Q ⟨G, env, ok, k⟩ => conv σ H Q _ G env ok k fun x v G' H' H2 hP go ok' hn => Mx.new hn.1 (hP G' H' go ok') hn.2) rfl fun _ => rfl
  | false =>
    have he : PE X (.Call (.Name x p) (y :: ys) [] pos) (tE X.K X.w WO (ev ft (.call f true false (.cons (.bor i) as)))) := peW base fun σ H Q ⟨G, env, ok, k⟩ => conv σ H Q _ G env ok k fun x v G' H' H2 hP go ok' hn => by
      obtain ⟨hr, rfl⟩ := hn
      exact hP v G' H2 go ok' hr
    exact .mk1 he rfl rfl fun _ => rfl
end
end Py
end
section
set_option linter.all false
set_option maxRecDepth 100000
set_option maxHeartbeats 4000000
/-! PySndD: dict displays. -/
namespace Py
open PySem PySem.Spec PyProof.Rows L2
variable [tb : Tb]
section
variable {X : Cx} {WO : WN} {ft : Ft}
theorem n_dct0 {pos : Pos} : Sx X WO ft (.dct .nil) (.Dict [] [] pos) :=
  .mkM (peW pe_dnewK fun σ H Q ⟨G, env, ok, k⟩ p hp => by
    have k' : K1 WO H σ env (R.ok (D.dic [] [], env)) (fun x => ∀ G' H', Go G H σ env G' H' σ x.2 → EOk X.K X.w G' H' σ x.2 → Mx X.K X.w G' H' x.1 Q) := k
    exact Mx.new rfl (k' G H .refl ok) (newD (ns := []) (xs := []) hp rfl rfl .nil)) rfl fun _ => rfl
theorem dicR_noexc (d : D) (c : Nat) (x : D) : dicR d ≠ .exc c x := by cases d <;> exact fun q => by cases q
theorem dupD_noexc (a b d : D) (c : Nat) (x : D) : dupD a b d ≠ .exc c x := by
  unfold dupD
  split
  · split <;> exact fun q => by cases q
  · exact fun q => by cases q
theorem mrgD_noexc (a b : D) (c : Nat) (x : D) : mrgD a b ≠ .exc c x := by
  unfold mrgD
  split
  · split
    · split <;> exact fun q => by cases q
    · exact fun q => by cases q
  · exact fun q => by cases q
/-- an address that was new, taken out again -/
def cut (H : Hp) (p : Addr) : Hp := fun a => if a = p then none else H a
theorem cut_ne {H : Hp} {p a : Addr} (h : a ≠ p) : cut H p a = H a := if_neg h
theorem cut_same {H : Hp} {p : Addr} : cut H p p = none := if_pos rfl
theorem cut_upd {H : Hp} {p : Addr} {o : HO} : upd (cut H p) p o = upd H p o := by
  funext a
  by_cases q : a = p
  · rw [q, upd_same, upd_same]
  · rw [upd_ne q, upd_ne q, cut_ne q]
theorem rep_dic {K : Fg} {w : World} {G : Hp} {v : V} {ks ds : List D} (r : Rep K w G v (.dic ks ds)) : ∃ a ns xs, v = .ref a ∧ ks = ns.map D.int ∧ ns.length = xs.length ∧ G a = some (.dK (dkv ns xs)) ∧ Reps K w G xs ds := by
  generalize hk : D.dic ks ds = z at r
  cases r <;> cases hk
  rename_i a ns xs h l r
  exact ⟨a, ns, xs, rfl, rfl, l, h, r⟩
theorem no_ow {G H : Hp} {σ : Sg} {env : Env} {p : Addr} (ok : EOk X.K X.w G H σ env) (hp : H p = none) : ¬ Ow σ env p := fun q => by
  obtain ⟨u, hu, _⟩ := (ok.ow q).2
  rw [hp] at hu; cases hu
theorem n_dup {d a b : E} {xd xa xb : Expr} {pos : Pos} (hd : PE X xd (tE X.K X.w WO (ev ft d))) (ha : PE X xa (tE X.K X.w WO (ev ft a))) (hb : PE X xb (tE X.K X.w WO (ev ft b))) :
    Sx X WO ft (.dup d a b) (.Dict [none, some xa] [xd, xb] pos) :=
  .mkM (peW (pe_dup hd ha hb) fun σ H Q ⟨G, env, ok, k⟩ p hp => by
    have nw : ¬ Ow σ env p := no_ow ok hp
    have gp : G p = none := ok.sub.none hp
    have gr : Grow G H G (upd H p (.dK [])) := .waste ok.sub hp
    have go0 : Go G H σ env G (upd H p (.dK [])) σ env := .grow gr
    refine ⟨G, env, ok.grow gr, (K1.go (G := G) (G' := G) (K1.bind (r := ev ft d env) k) go0).mono fun x _ h1 v G1 H1 go1 ok1 r1 => ?_⟩
    obtain ⟨_, hdc, h2⟩ := (K1.bind (r := dicR x.1) h1).ok (dicR_noexc x.1)
    obtain ⟨xd, env1⟩ := x
    cases xd <;> try cases hdc
    rename_i ks ds hev
    obtain ⟨ad, ns, xs, rfl, rfl, l, hG, rx⟩ := rep_dic r1
    obtain ⟨hp1, gp1, nw1⟩ := go1.still (p := p) upd_same (fun _ z => nomatch z) gp nw
    have hap : ad ≠ p := fun e => by rw [e, gp1] at hG; cases hG
    have goA : Go G H σ env G1 H1 σ env1 := go0.trans go1
    refine ⟨ad, _, rfl, hap, ok1.sub _ _ hG, hp1, fun q hq => ?_⟩
    have hpq : p ≠ q := fun e => by rw [← e, upd_same] at hq; cases hq
    have hq1 : H1 q = none := by rw [upd_ne (Ne.symm hpq)] at hq; exact hq
    -- the first dict is filled
    have ok2 := ok1.away gp1 nw1 (H' := upd H1 p (.dK (dkv ns xs))) (.dK hp1) fun a ha => upd_ne ha
    have goB : Go G H σ env G1 (upd H1 p (.dK (dkv ns xs))) σ env1 := goA.away hp (.dK hp1) fun a ha => upd_ne ha
    -- the second one
    have nwq : ¬ Ow σ env1 q := no_ow ok1 hq1
    have gq : G1 q = none := ok1.sub.none hq1
    have gr2 : Grow G1 (upd H1 p (.dK (dkv ns xs))) G1 (upd (upd H1 p (.dK (dkv ns xs))) q (.dK [])) := .waste ok2.sub hq
    have ok3 := ok2.grow gr2
    have goC := goB.trans (.grow gr2)
    refine ⟨G1, env1, ok3, (K1.go (G := G) (G' := G1) (K1.bind (r := ev ft a env1) h2) goC).mono fun y _ h3 vy G2 H2 go2 okY ry => ?_⟩
    obtain ⟨hp2, gp2, nw2⟩ := go2.still (p := p) (by rw [upd_ne hpq, upd_same]) nt_dK gp1 nw1
    obtain ⟨hq2, gq2, nwq2⟩ := go2.still (p := q) upd_same nt_dK gq nwq
    refine ⟨G2, y.2, okY, (K1.go (G := G) (G' := G2) (K1.bind (r := ev ft b y.2) h3) (goC.trans go2)).mono fun z _ h4 vz G3 H3 go3 okZ rz => ?_⟩
    obtain ⟨hp3, gp3, nw3⟩ := go3.still (p := p) hp2 nt_dK gp2 nw2
    obtain ⟨hq3, gq3, nwq3⟩ := go3.still (p := q) hq2 nt_dK gq2 nwq2
    obtain ⟨r, hr, h5⟩ := (K1.bind (r := dupD (.dic (ns.map D.int) ds) y.1 z.1) h4).ok (dupD_noexc _ _ _)
    obtain ⟨yd, ye⟩ := y
    have hy : ∃ i, yd = .int i := by
      cases yd <;> first
        | exact ⟨_, rfl⟩
        | cases hr
    obtain ⟨i, rfl⟩ := hy
    cases ry
    simp only [dupD] at hr
    split at hr
    case isFalse => cases hr
    rename_i hl
    cases hr
    refine ⟨.inl i, rfl, hpq, hq3, hp3, by rw [dkv_len l]; rw [List.length_map] at hl; rw [← SZ_line]; exact hl, ?_⟩
    obtain ⟨ns', xs', e1, e2, e3, e4⟩ := dkv_put rz l (rx.sub (go2.gs.trans go3.gs)) (i := i)
    rw [e1]
    have okq := okZ.away gq3 nwq3 (H' := upd H3 q (.dK [(Sum.inl i, vz)])) (.dK hq3) fun a ha => upd_ne ha
    have okp := okq.away gp3 nw3 (H' := cut (upd H3 q (.dK [(Sum.inl i, vz)])) p) (.dK ((upd_ne hpq).trans hp3)) fun a ha => cut_ne ha
    have goQ : Go G1 (upd H1 p (.dK (dkv ns xs))) σ env1 G3 (upd H3 q (.dK [(Sum.inl i, vz)])) σ z.2 := (((Go.grow gr2).trans go2).trans go3).away hq (.dK hq3) fun a ha => upd_ne ha
    have goD := goB.trans goQ
    have goE : Go G H σ env G3 (cut (upd H3 q (.dK [(Sum.inl i, vz)])) p) σ z.2 := goD.away hp (.dK ((upd_ne hpq).trans hp3)) fun a ha => cut_ne ha
    rw [← cut_upd]
    exact Mx.new rfl (h5 G3 _ goE okp) (newD cut_same e3 e2 e4)) rfl fun _ => rfl
theorem zip_rep {G : Hp} {ns : List Int} : ∀ {ms : List Int} {ds : List D} {ps : List (Int × D)}, zipI (ms.map D.int) ds = some ps → ps.map (·.1) = ms ∧ ps.map (·.2) = ds
  | [], [], ps, h => by cases h; exact ⟨rfl, rfl⟩
  | [], _ :: _, ps, h => by cases h
  | _ :: _, [], ps, h => by cases h
  | m :: ms, d :: ds, ps, h => by
    simp only [List.map_cons, zipI] at h
    cases hz : zipI (ms.map D.int) ds with
    | none => rw [hz] at h; cases h
    | some ps' =>
      rw [hz] at h
      cases h
      obtain ⟨h1, h2⟩ := zip_rep (G := G) (ns := ns) hz
      exact ⟨by simp [h1], by simp [h2]⟩
theorem n_mrg {d a : E} {xd xa : Expr} {pos : Pos} (hd : PE X xd (tE X.K X.w WO (ev ft d))) (ha : PE X xa (tE X.K X.w WO (ev ft a))) :
    Sx X WO ft (.mrg d a) (.Dict [none, none] [xd, xa] pos) :=
  .mkM (peW (pe_mrg hd ha) fun σ H Q ⟨G, env, ok, k⟩ p hp => by
    have nw : ¬ Ow σ env p := no_ow ok hp
    have gp : G p = none := ok.sub.none hp
    have gr : Grow G H G (upd H p (.dK [])) := .waste ok.sub hp
    have go0 : Go G H σ env G (upd H p (.dK [])) σ env := .grow gr
    refine ⟨G, env, ok.grow gr, (K1.go (G := G) (G' := G) (K1.bind (r := ev ft d env) k) go0).mono fun x _ h1 v G1 H1 go1 ok1 r1 => ?_⟩
    obtain ⟨_, hdc, h2⟩ := (K1.bind (r := dicR x.1) h1).ok (dicR_noexc x.1)
    obtain ⟨xd, env1⟩ := x
    cases xd <;> try cases hdc
    rename_i ks ds hev
    obtain ⟨ad, ns, xs, rfl, rfl, l, hG, rx⟩ := rep_dic r1
    obtain ⟨hp1, gp1, nw1⟩ := go1.still (p := p) upd_same (fun _ z => nomatch z) gp nw
    have hap : ad ≠ p := fun e => by rw [e, gp1] at hG; cases hG
    have goA : Go G H σ env G1 H1 σ env1 := go0.trans go1
    refine ⟨ad, _, rfl, hap, ok1.sub _ _ hG, hp1, ?_⟩
    have ok2 := ok1.away gp1 nw1 (H' := upd H1 p (.dK (dkv ns xs))) (.dK hp1) fun a ha => upd_ne ha
    have goB : Go G H σ env G1 (upd H1 p (.dK (dkv ns xs))) σ env1 := goA.away hp (.dK hp1) fun a ha => upd_ne ha
    refine ⟨G1, env1, ok2, (K1.go (G := G) (G' := G1) (K1.bind (r := ev ft a env1) h2) goB).mono fun y _ h3 vy G2 H2 go2 okY ry => ?_⟩
    obtain ⟨hp2, gp2, nw2⟩ := go2.still (p := p) upd_same nt_dK gp1 nw1
    obtain ⟨r, hr, h5⟩ := (K1.bind (r := mrgD (.dic (ns.map D.int) ds) y.1) h3).ok (mrgD_noexc _ _)
    obtain ⟨yd, ye⟩ := y
    have hy : ∃ ks' ds', yd = .dic ks' ds' := by
      cases yd <;> first
        | exact ⟨_, _, rfl⟩
        | cases hr
    obtain ⟨ks', ds', rfl⟩ := hy
    obtain ⟨b, ms, ys, rfl, rfl, l2, hG2, rx2⟩ := rep_dic ry
    simp only [mrgD] at hr
    cases hz : zipI (ms.map D.int) ds' with
    | none => rw [hz] at hr; cases hr
    | some ps =>
      rw [hz] at hr
      simp only at hr
      split at hr
      case isFalse => cases hr
      rename_i hl
      cases hr
      obtain ⟨z1, z2⟩ := zip_rep (G := G) (ns := ns) hz
      have hbp : b ≠ p := fun e => by rw [e, gp2] at hG2; cases hG2
      obtain ⟨ns', xs', e1, e2, e3, e4⟩ := dkv_merge (ps := ps) (by rw [z2]; exact rx2) l (rx.sub go2.gs)
      rw [z1] at e1
      refine ⟨b, _, rfl, hbp, okY.sub _ _ hG2, hp2, by rw [dkv_len l, dkv_len l2]; simp only [List.length_map] at hl; rw [← SZ_line]; exact hl, ?_⟩
      rw [e1]
      have okp := okY.away gp2 nw2 (H' := cut H2 p) (.dK hp2) fun a ha => cut_ne ha
      have goE : Go G H σ env G2 (cut H2 p) σ ye := (goB.trans go2).away hp (.dK hp2) fun a ha => cut_ne ha
      rw [← cut_upd]
      exact Mx.new rfl (h5 G2 _ goE okp) (newD cut_same e3 e2 e4)) rfl fun _ => rfl
end
end Py
end
section
set_option linter.all false
set_option maxRecDepth 100000
set_option maxHeartbeats 4000000
/-! PySndT: x(lambda: e), x a def that tells what comes of a call; raise. -/
namespace Py
open PySem PySem.Spec PyProof.Rows L2
variable [tb : Tb]

/-- the word of the first clause that takes the class -/
def wordsOk (K : Fg) (cls : Value) : List (Value × List Nat) → (List Nat → Prop) → Prop
  | [], _ => False
  | cw :: r, P => ∃ b, PySem.W.exmOne K cls cw.1 = some b ∧ (b = true → P cw.2) ∧ (b = false → wordsOk K cls r P)
/-- try: a(), the clauses, return df -/
def TMany (K : Fg) (l : List (Value × List Nat)) (df : List Nat) : (XK → Hp → VK → Prop) → Hp → VK → Prop := fun tl H Q =>
  tl (fun cls _ H' => wordsOk K cls l fun w => Q (.str (sS w)) H') H fun _ H' => Q (.str (sS df)) H'
def clsOf (cl : Str → Value) (l : List (Str × List Nat)) : List (Value × List Nat) := l.map fun p => (cl p.1, p.2)
/-- the clauses, as written -/
def hdlV : List ExceptHandler → Option (List (Str × List Nat))
  | [] => some []
  | .ExceptHandler (some (.Name x _)) none [.Return (some (.Constant (.str s) _ _)) _] _ :: r => (hdlV r).map fun l => (x, s.cps.toList) :: l
  | _ => none
def hdlB (sg : Scope) (l : List (Str × List Nat)) : Bool := l.all fun p => (sg.names.lookup p.1 == some .globalImplicit) && !(p.1 == ("__debug__" : Str))
def tSay (w : List Nat) : TS := tRet (tC (.str (sS w)))
theorem sS_cps (s : Str) : sS s.cps.toList = s := by
  obtain ⟨⟨l⟩⟩ := s
  rfl
theorem hds_ok {Y : Cx} {sg : Scope} {cl : Str → Value} (hs : Y.env.scope = sg) :
    ∀ {hds : List ExceptHandler} {l : List (Str × List Nat)}, hdlV hds = some l → hdlB sg l = true → (∀ p ∈ l, Y.mg p.1 = some (cl p.1)) →
      HdsOk Y hds (l.map fun p => (cl p.1, fun _ _ _ => tSay p.2))
  | [], l, h, _, _ => by cases h; exact .nil
  | hd :: hds, l, h, hb, hg => by
    unfold hdlV at h
    split at h
    · rename_i z; cases z
    · rename_i x np s j p5 p6 p7 r z
      cases z
      cases hr : hdlV hds with
      | none => rw [hr] at h; cases h
      | some l0 =>
        rw [hr] at h
        cases h
        simp only [hdlB, List.all_cons, Bool.and_eq_true, beq_iff_eq, Bool.not_eq_true'] at hb
        obtain ⟨⟨hb1, hb2⟩, hb3⟩ := hb
        refine .cons ⟨?_, hb2, .inl (hg _ List.mem_cons_self)⟩ (fun a oe cls d pn _ _ => ?_) (hds_ok hs hr hb3 fun p hp => hg p (List.mem_cons_of_mem _ hp))
        · show Y.env.scope.names.lookup x = _
          rw [hs]; exact hb1
        · show PSs _ _ (tRet (tC (.str (sS s.cps.toList))))
          rw [sS_cps]
          exact pss_one (ps_ret pe_str)
    · cases h
theorem words_many {K : Fg} {cl : Str → Value} {D : Ends} {cls : Value} {d : Option Addr} {σ : Sg} {H : Hp} : ∀ {l : List (Str × List Nat)}, wordsOk K cls (clsOf cl l) (fun w => D.rt (.str (sS w)) H) →
    wMany K (fun _ _ _ _ => False) D (l.map fun p => (cl p.1, fun _ _ _ => tSay p.2)) cls d σ H
  | [], h => h
  | p :: l, ⟨b, h1, h2, h3⟩ => ⟨b, h1, fun e _ _ => h2 e, fun e => words_many (h3 e)⟩
/-- the def -/
theorem many_gives {X : Cx} {Ng : List Str} {x a q : Str} {sg : Scope} {g : Addr} {cdg : Value} {hds : List ExceptHandler} {l : List (Str × List Nat)} {cl : Str → Value} {df : Str} {j : Nat} {p1 p2 p3 p4 p5 p6 : Pos}
    (hh : hdlV hds = some l) (hne : hds ≠ []) (hb : hdlB sg l = true) (hg : ∀ p ∈ l, X.mg p.1 = some (cl p.1)) (h0 : ∀ f : Addr, (L2.start Ng [V.ref f])[0]? = some (some (V.ref f))) :
    LamX.GivesTo X Ng x sg g cdg [.Try [.Expr (.Call (.Name a p1) [] [] p2) p3] hds [] [] p4, .Return (some (.Constant (.str df) j p5)) p6] a q (TMany X.K (clsOf cl l) df.cps.toList) := by
  intro f c' s H Q tl act hc h
  cases hds with
  | nil => exact (hne rfl).elim
  | cons hd hds =>
    have hk := hds_ok (Y := (cxOf C8.CX0 X.prog X.w X.K X.mg X.base Ng x sg g cdg X.A X.stack s H C8.E0).nox) (sg := sg) (cl := cl) rfl hh hb hg
    refine ⟨_, pss_cons (ps_try_many (X := (cxOf C8.CX0 X.prog X.w X.K X.mg X.base Ng x sg g cdg X.A X.stack s H C8.E0).nox)
        (tb := fun W D σ H => ∃ Ech : XK, (∀ cls d σ' H', Ech cls d H' → W cls d σ' H') ∧ σ[0]? = some (some (.ref f)) ∧ H c' = some (LamX.CodeO c' q) ∧ tl Ech H fun _ H' => D.nx σ H')
        rfl rfl LamX.takes0 (fun W pn xe tk _ => ?_) hk) (pss_one (ps_ret pe_str)), ?_⟩
    · refine ⟨fun pins s' σ H' D I h' => ?_⟩
      obtain ⟨Ech, hW, h1, h2, h3⟩ := h'
      have hp := act W pn xe Ech p1 p2 tk hW
      exact (pss_one (ps_expr (pos := p3) hp)).run pins s' σ H' D I ⟨h1, h2, h3⟩
    · refine ⟨fun cls _ H' => wordsOk X.K cls (clsOf cl l) fun w => Q (.str (sS w)) H', fun cls d σ' H' hw => words_many hw, h0 f, hc, ?_⟩
      have h' : tl (fun cls _ H' => wordsOk X.K cls (clsOf cl l) fun w => Q (.str (sS w)) H') H fun _ H' => Q (.str (sS df.cps.toList)) H' := h
      rw [sS_cps] at h'
      exact h'

/-! ### x(lambda: e) -/
/-- what is known of such a def -/
structure TriF (K : Fg) (mg : Str → Option Value) (ft : Ft) (CA : Nat → Value) (f : Nat) (x : Str) : Prop where
  ex : ∃ (ga : Addr) (a : Str) (pg : Arguments) (bg : List Stmt) (sg : Scope) (dV kV doc pm cdv ct oc : Value) (an od : Option Addr) (osl : Array (Option Value)) (Ng : List Str) (l : List (Value × List Nat)) (df : List Nat),
    mg x = some (.ref ga) ∧ PySem.W.keepIn K (.ref ga) = true ∧ K.lookup ga = some ⟨oc, od, .func (PySem.W.fnOf x x pg bg sg dV kV doc pm an cdv ct), osl⟩ ∧ PySem.W.codeIn K cdv x = true ∧
    Binds K (PySem.W.fnOf x x pg bg sg dV kV doc pm an cdv ct) [a] [] ∧ FnScope Ng [a] sg ∧ Ng[0]? = some a ∧ Vis sg a ∧ nameOk a = true ∧
    (∀ (X : Cx) (q : Str), X.K = K → X.mg = mg → LamX.GivesTo X Ng x sg ga cdv bg a q (TMany K l df)) ∧ df.length ≤ SZ ∧ (∀ ds c d, ft f ds ≠ .exc c d) ∧
    (∀ d r, ft f [.int 0, d] = .ok r → r.1 = .str df) ∧
    ∀ (c : Nat) (d : D) (r : D × D), ft f [.int ((c + 1 : Nat) : Int), d] = .ok r → ∃ w : List Nat, r.1 = .str w ∧ w.length ≤ SZ ∧ ∀ P : List Nat → Prop, P w → wordsOk K (CA c) l P
/-- what is known where a lambda stands -/
def LamB (X : Cx) : Prop := ∃ c P, LamX.TabB X.base X.mg c P ∧ X.env.code = .ref c ∧ (P, X.env.qual ++ "<lambda>") ∈ Tb.T ∧ ∀ p ∈ Tb.T, p.1 = P → p.2 = X.env.qual ++ "<lambda>"
section
variable {K : Fg} {w : World} {G G' H H1 H' : Hp} {σ σ' : Sg} {env env' : Env} {WO : WN}
theorem hide_at {i : Nat} {s : Slot} (h : (hide env)[i]? = some s) : s = .no ∨ ∃ d, s = .imm d ∧ env[i]? = some (.imm d) := by
  unfold hide at h
  rw [List.getElem?_map] at h
  cases q : env[i]? with
  | none => rw [q] at h; cases h
  | some t =>
    rw [q] at h
    cases t with
    | imm d => cases h; exact .inr ⟨d, rfl, rfl⟩
    | no => cases h; exact .inl rfl
    | own d => cases h; exact .inl rfl
    | io d => cases h; exact .inl rfl
theorem ow_hide {p : Addr} : ¬ Ow σ (hide env) p := fun ⟨i, s, h, c, _⟩ => by
  rcases hide_at h with rfl | ⟨d, rfl, _⟩
  · exact c rfl
  · exact c rfl
theorem EOk.hide (e : EOk K w G H σ env) (x : LamX.ExtN H H1) (t : LamX.Tabs Tb.T H1) : EOk K w G H1 σ (hide env) := by
  refine ⟨fun a o h => x a o (e.sub a o h) (e.ntb a o h), by unfold Py.hide; rw [List.length_map]; exact e.len, fun i s h => ?_, fun i j s u p hi _ hc => ?_, t, e.ntb⟩
  · rcases hide_at h with rfl | ⟨d, rfl, hd⟩
    · trivial
    · obtain ⟨v, h1, h2⟩ := e.slot i _ hd
      exact ⟨v, h1, h2⟩
  · rcases hide_at hi with rfl | ⟨d, rfl, _⟩
    · exact (hc rfl).elim
    · exact (hc rfl).elim
theorem Grow.hide (e : EOk K w G H σ env) (x : LamX.ExtN H H1) (tk : Tk H H') (g : Go G H1 σ (hide env) G' H' σ' env') (e' : EOk K w G' H' σ' env') : Grow G H G' H' where
  gs := g.gs
  hs := fun a o h n => g.hs a o (x a o h n) ow_hide n
  fr := fun a o h n => by
    rcases g.fr a o h n with z | z
    · exact fun u hu nu => z u (x a u hu nu) nu
    · exact (ow_hide z).elim
  gh := e'.sub
  tk := tk
  nt := fun _ => e'.ntb
end
section
variable {X : Cx} {WO : WN} {ft : Ft} {CA : Nat → Value}
theorem nameOk2 {x : Str} (h : nameOk x = true) : (x == ("__debug__" : Str)) = false ∧ (x == ("__classdict__" : Str)) = false := by
  simp only [nameOk, Bool.and_eq_true, Bool.not_eq_true'] at h
  exact ⟨h.1.1, h.1.2⟩
theorem noArgs_ok {ps : Arguments} (h : noArgs ps = true) : ps = ⟨[], [], none, [], [], none, []⟩ := by
  unfold noArgs at h
  split at h
  · rfl
  · cases h
theorem n_tri {f k : Nat} {x : Str} {e : E} {ps : Arguments} {body : Expr} {scope : Scope} {lpos p pos : Pos} (F : TriF X.K X.mg ft CA f x) (hg : Gl X x) (hdb : (x == ("__debug__" : Str)) = false) (L : LamB X) (hr : Room (k + 2) X.A) (Ls : LamX.LamS X.env.scope scope) (hn : noArgs ps = true)
    (hbody : ∀ (A : Around) (outer : List PySem.Env) (s : Shared) (H : Hp) (E : XK) (fl c' : Addr), Room k (A.deeper (LamX.lamEnv X scope s.heap.objs.size fl c')) → PE (LamX.lamCx X A outer s H E scope fl c') body (tE X.K X.w (fun c _ _ H' => E (CA c) none H') (ev ft e))) :
    Sx X WO ft (.tri f e) (.Call (.Name x p) [.Lambda ps body scope lpos] [] pos) := by
  obtain ⟨ga, a, pg, bg, sg, dV, kV, doc, pm, cdv, ct, oc, an, od, osl, Ng, l, df, f1, f2, f3, f4, f5, f6, f7, f8, f9, f10, f11, fx, f12, f13⟩ := F.ex
  obtain ⟨c, P, l1, l2, l3, l4⟩ := L
  have e0 := noArgs_ok hn
  subst e0
  obtain ⟨n1, n2⟩ := nameOk2 f9
  have base := LamX.pe_lamcall (X := X) (T := Tb.T) (params := ⟨[], [], none, [], [], none, []⟩) (body := body) (scope := scope) (p := p) (lpos := lpos) (pos := pos) (k := k) (t := fun E => tE X.K X.w (fun c _ _ H' => E (CA c) none H') (ev ft e)) hg f1 f2 f3 f4 f5 f6 f7 f8 (f10 X _ rfl rfl) l1 l2 l3 l4 hr Ls rfl (fun _ _ _ _ _ => rfl) hbody hdb n1 n2
  refine .mk1 (peW base fun σ H Q ⟨G, env, ok, k⟩ => ?_) rfl rfl fun _ => rfl
  refine ⟨ok.tabs, fun H1 x1 t1 => ?_⟩
  have k : K1 WO H σ env (triR ft f (ev ft e (hide env)) env) _ := k
  refine ⟨G, hide env, ok.hide x1 t1, ?_⟩
  have tkE : ∀ {H' : Hp}, Tk H1 H' → Tk H H' := fun z _ => z t1
  cases hr : ev ft e (hide env) with
  | bad => rw [hr] at k; exact k
  | ok y =>
    rw [hr] at k
    have k : K1 WO H σ env ((ft f [.int 0, y.1]).bind fun z => R.ok (z.1, env)) _ := k
    intro v G' H' go ok' _
    show Q (.str (sS df)) H'
    cases hf : ft f [.int 0, y.1] with
    | bad => rw [hf] at k; exact k.elim
    | exc c d =>
      exact absurd hf (fx _ _ _)
    | ok r =>
      rw [hf] at k
      have gr := Grow.hide ok x1 (tkE go.tk) go ok'
      have := k (.str (sS df)) G' H' (.grow gr) (ok.grow gr) (by rw [f12 _ _ hf]; exact .str _ f11)
      exact this
  | exc c d =>
    rw [hr] at k
    have k : K1 WO H σ env ((ft f [.int ((c + 1 : Nat) : Int), d]).bind fun z => R.ok (z.1, env)) _ := k
    intro H' fr
    show wordsOk X.K (CA c) l fun w => Q (.str (sS w)) H'
    cases hf : ft f [.int ((c + 1 : Nat) : Int), d] with
    | bad => rw [hf] at k; exact k.elim
    | exc c d => exact absurd hf (fx _ _ _)
    | ok r =>
      rw [hf] at k
      obtain ⟨w, w1, w2, w3⟩ := f13 c d r hf
      refine w3 _ ?_
      have gr : Grow G H G H' := ⟨.refl _, fun a o h n => fr.hs a o (x1 a o h n) ow_hide n, fun a o h n => (by rw [n] at h; cases h), fun a o h => fr.hs a o (x1 a o (ok.sub a o h) (ok.ntb a o h)) ow_hide (ok.ntb a o h), tkE fr.tk, id⟩
      exact k (.str (sS w)) G H' (.grow gr) (ok.grow gr) (by rw [w1]; exact .str _ w2)
end
end Py
end
section
set_option linter.all false
set_option maxRecDepth 100000
set_option maxHeartbeats 4000000
/-! PyRev: t[::-1], xs[::-1], by what stands there. -/
namespace HT
open PySem PySem.W PySem.Calls PyProof.Rows PyProof.V PySem.Spec
section
variable {prog : Program} {w : World} {A : Around} {E : Value → Shared → Prop} {s : Shared}
theorem adjust_rev (n : Nat) : Builtin.Slice.sliceAdjust none none (-1) (n : Int) = ((n : Int) - 1, -1) := rfl
theorem places_rev (n : Nat) : Builtin.Slice.slicePlaces ((n : Int) - 1) (-1) (-1) = n := by
  unfold Builtin.Slice.slicePlaces
  rw [if_neg (by decide)]
  by_cases h : (n : Int) - 1 > -1
  · rw [if_pos h]
    have e : ((n : Int) - 1 - -1 - 1) / (- -1) + 1 = (n : Int) := by
      rw [show (- -1 : Int) = 1 by decide, Int.ediv_one]; omega
    rw [e]; simp
  · rw [if_neg h]
    have : n = 0 := by omega
    subst this; rfl
theorem applied_rev {sl : Addr} {vs : Value} {n : Nat} {R : Int × Int × Nat → Shared → Prop} (hs : s.heap.IsSliceOf sl .none .none vs) (ps : IsPart vs (some (-1))) (h : R ((n : Int) - 1, -1, n) s) :
    wpAny (model prog w) A (Builtin.Slice.sliceApplied (.ref sl) (pure (n : Int))) R E s := by
  obtain ⟨os, hos, _, hds⟩ := id hs
  unfold Builtin.Slice.sliceApplied Builtin.Slice.sliceFields
  refine wpAny_bind (wpAny_bind (wpAny_field hos hds (x := .none) rfl (wpAny_bind (wpAny_field hos hds (x := .none) rfl (wpAny_bind (wpAny_field hos hds (x := vs) rfl (wpAny_pure ?_)))))))
  refine wpAny_bind (slicePart_ ps ?_)
  show wpAny _ _ (if ((-1 : Int) == 0) = true then _ else _) _ _ s
  rw [if_neg (by decide)]
  refine wpAny_bind (slicePart_none (wpAny_bind (slicePart_none (wpAny_bind (wpAny_pure ?_)))))
  show wpAny _ _ (match Builtin.Slice.sliceAdjust none none (-1) (n : Int) with | (lo, hi) => pure (lo, (-1 : Int), Builtin.Slice.slicePlaces lo hi (-1))) _ _ s
  rw [adjust_rev]
  show wpAny _ _ (pure ((n : Int) - 1, (-1 : Int), Builtin.Slice.slicePlaces ((n : Int) - 1) (-1) (-1))) _ _ s
  rw [places_rev]
  exact wpAny_pure h
theorem fm_congr {α β : Type} {f g : α → Option β} : ∀ {l : List α}, (∀ k ∈ l, f k = g k) → l.filterMap f = l.filterMap g
  | [], _ => rfl
  | a :: l, h => by
    rw [List.filterMap_cons, List.filterMap_cons, h a List.mem_cons_self, fm_congr fun k hk => h k (List.mem_cons_of_mem _ hk)]
theorem pick_rev (xs : Array Value) : ((List.range xs.size).filterMap fun (m : Nat) => xs[((xs.size : Int) - 1 + (m : Int) * (-1)).toNat]?).toArray = xs.toList.reverse.toArray := by
  have e : (List.range xs.size).filterMap (fun (m : Nat) => xs[((xs.size : Int) - 1 + (m : Int) * (-1)).toNat]?) = ((List.range xs.size).map fun k => xs.size - 1 - k).filterMap (xs[·]?) := by
    rw [List.filterMap_map]
    refine fm_congr fun k hk => ?_
    have := List.mem_range.mp hk
    have e : ((xs.size : Int) - 1 + (k : Int) * (-1)).toNat = xs.size - 1 - k := by omega
    simp only [Function.comp, e]
  rw [e, PySem.W.krv_range, List.filterMap_reverse, PySem.W.krv_all]
theorem getItem_tuple_rev {t sl : Addr} {items : Array Value} {vs : Value} {R : Value → Shared → Prop} (ht : IsTup s.heap t items) (hs : s.heap.IsSliceOf sl .none .none vs) (ps : IsPart vs (some (-1)))
    (h : R (.ref s.heap.objs.size) { s with heap := s.heap.push { cls := .type "tuple", data := .seq items.toList.reverse.toArray } }) (hz : items.size ≤ sizeLine) : wpAny (model prog w) A (getItem (.ref t) (.ref sl)) R E s := by
  have hok : sizeOk (.seq items.toList.reverse.toArray) := by
    show items.toList.reverse.toArray.size ≤ sizeLine
    rw [List.size_toArray, List.length_reverse, Array.length_toList]; exact hz
  obtain ⟨o, ho, hcs, _⟩ := id hs
  have hT : s.TypeIs (.ref sl) "slice" := ⟨o, ho, hcs⟩
  unfold getItem
  try with_reducible refine wpAny_holding ?_
  first | refine wpAny_bind (wpAny_pure ?_) | skip
  refine wpAny_bind (wpAny_sequenceKey ht.typeIs (by decide) ?_)
  refine wpAny_bind (wpAny_callSpecial?_slot (name := Str.ofString "__getitem__") ht.typeIs PyProof.Rows.slot_tuple_getitem (wpAny_call_entry PyProof.Rows.slot_tuple_getitem ht.typeIs entry_tuple_getitem ?_ (args_tuple_getitem _ _)))
  show wpAny _ _ (Builtin.Tuple.tupleItemsOf (.ref t) >>= _) _ _ s
  refine wpAny_bind (tupleItemsOf_ ht (wpAny_bind (wpAny_typeOf hT ?_)))
  rw [if_pos (by decide)]
  refine wpAny_bind (applied_rev hs ps ?_)
  have hno : ¬ ((((items.size : Int) - 1 == 0) && (-1 : Int) == 1 && items.size == items.size) = true) := by
    intro q
    rw [Bool.and_eq_true, Bool.and_eq_true] at q
    exact absurd q.1.2 (by decide)
  show wpAny _ _ (if (((items.size : Int) - 1 == 0) && (-1 : Int) == 1 && items.size == items.size) = true then _ else _) _ _ s
  rw [if_neg hno, pick_rev]
  first
    | exact wpAny_bind (m := Builtin.Tuple.tupleExact _) (wpAny_newObj_type (wpAny_pure ⟨_, rfl, wpAny_pure h⟩) hok)
    | exact wpAny_bind (m := Builtin.Tuple.tupleExact _) (wpAny_newObj_type (wpAny_bind (wpAny_pure (wpAny_pure ⟨_, rfl, wpAny_pure h⟩))) hok)
    | exact wpAny_bind (wpAny_bind (m := Builtin.Tuple.tupleExact _) (wpAny_newObj_type (wpAny_pure (wpAny_pure ⟨_, rfl, wpAny_pure h⟩)) hok))
    | exact wpAny_bind (wpAny_bind (m := Builtin.Tuple.tupleExact _) (wpAny_newObj_type (wpAny_pure ⟨_, rfl, wpAny_pure h⟩) hok))
end
end HT
namespace Py
open PySem PySem.Spec PyProof.Rows L2
/-- x[::-1] -/
def tRevF (K : PySem.W.Frag) (te : TE) : TE := fun σ H Q => te σ H fun x H1 => (∃ a xs, x = .ref a ∧ SqL K H1 a xs ∧ ∀ p, H1 p = none → Q (.ref p) (upd H1 p (.lst xs.reverse))) ∨
  ∃ a xs, x = .ref a ∧ SqT K H1 a xs ∧ ∀ p o, H1 p = none → IsTO o xs.reverse → Q (.ref p) (upd H1 p o)
theorem pe_revF {X : Cx} {e : Expr} {te : TE} {k : Nat} {p1 p2 p3 pos : Pos} (he : PE X e te) : PE X (.Subscript e (.Slice none none (some (.UnaryOp .USub (.Constant (.int 1) k p1) p2)) p3) pos) (tRevF X.K te) := by
  refine ⟨fun pins s σ H Q I h => ?_⟩
  refine Subscript_ (thn (he.run pins s σ H _ I h) fun v s1 ⟨x, H1, I1, r1, q1⟩ => ?_)
  have hst : PO X (some (.UnaryOp .USub (.Constant (.int 1) k p1) p2)) (tPart (tUn (rU fun i => .int (-i)) (tC (.int 1)))) := po_some (pe_un un_neg pe_int)
  refine wpAny_Slice (thn (po_none.run pins s1 σ H1 (fun o H2 => o = none ∧ H2 = H1) I1 ⟨rfl, rfl⟩) fun vl s2 ⟨l, H2, I2, pl, el, e2⟩ => ?_)
  subst el e2
  refine thn (po_none.run pins s2 σ H2 (fun o H3 => o = none ∧ H3 = H2) I2 ⟨rfl, rfl⟩) fun vu s3 ⟨u, H3, I3, pu, eu, e3⟩ => ?_
  subst eu e3
  refine thn (hst.run pins s3 σ H3 (fun o H4 => o = some (-1) ∧ H4 = H3) I3 ⟨1, rfl, -1, rfl, rfl, rfl⟩) fun vs s4 ⟨o, H4, I4, ps, eo, e4⟩ => ?_
  subst eo e4
  cases pl
  cases pu
  have I5 : Inv X pins σ H4 { s4 with heap := s4.heap.push { cls := .type "slice", data := .fields #[.none, .none, vs] } } := I4.kept (t' := s4.toks) fun b ob q => Heap.get?_push_of_some _ q
  rcases q1 with ⟨a, xs, rfl, hx, q⟩ | ⟨a, xs, rfl, hx, q⟩ <;> cases r1
  · obtain ⟨its, r, hl, hz⟩ := I5.list hx
    have hlen := r.length
    show wpAny (model X.prog X.w) X.A (subscriptTail e (.Slice none none (some (.UnaryOp .USub (.Constant (.int 1) k p1) p2)) p3) (.ref a) (.ref s4.heap.objs.size)) (EP X pins σ Q) X.xe { s4 with heap := s4.heap.push { cls := .type "slice", data := .fields #[.none, .none, vs] } }
    refine tail_any (ops := [.ref a, .ref s4.heap.objs.size]) hl.isList.typeIs (PySem.slot_list_getitem.lookup) ?_ (by with_unfolding_all rfl)
    refine wpAny_getItem_list_slice hl.isList (Heap.IsSliceOf.new _ .none .none vs) .none .none ps (by decide) ?_ (by rw [List.size_toArray]; omega)
    rw [PySem.W.krv_pick]
    refine ⟨.ref _, _, I5.laid (t' := s4.toks) (o := .lst xs.reverse) (fun b ob q => Heap.get?_push_of_some _ q) (Nat.le_refl _) ?_, rfl, q _ (I5.hok.fresh (Nat.le_refl _))⟩
    exact ⟨by rw [List.length_reverse]; exact hz, _, 0, r.reverse, Heap.get?_push_size _ rfl⟩
  · obtain ⟨its, r, ht, hz⟩ := I5.tuple hx
    have hlen := r.length
    show wpAny (model X.prog X.w) X.A (subscriptTail e (.Slice none none (some (.UnaryOp .USub (.Constant (.int 1) k p1) p2)) p3) (.ref a) (.ref s4.heap.objs.size)) (EP X pins σ Q) X.xe { s4 with heap := s4.heap.push { cls := .type "slice", data := .fields #[.none, .none, vs] } }
    refine tail_any (ops := [.ref a, .ref s4.heap.objs.size]) ht.typeIs (PyProof.Rows.slot_tuple_getitem.lookup) ?_ (by with_unfolding_all rfl)
    refine HT.getItem_tuple_rev ht (Heap.IsSliceOf.new _ .none .none vs) ps ?_ (by rw [List.size_toArray]; omega)
    refine ⟨.ref _, upd H4 _ (.frz (tobj its.reverse.toArray) (.tup xs.reverse)), I5.laid (t' := s4.toks) (o := .frz (tobj its.reverse.toArray) (.tup xs.reverse)) (fun b ob q => Heap.get?_push_of_some _ q) (Nat.le_refl _) ?_, rfl, q _ _ (I5.hok.fresh (Nat.le_refl _)) (isTO _ _)⟩
    exact okTO (Heap.get?_push_size _ rfl) (by rw [List.length_reverse]; exact hz) r.reverse
end Py
end
section
set_option linter.all false
set_option maxRecDepth 100000
set_option maxHeartbeats 4000000
/-! PySndR: x[::-1]. -/
namespace Py
open PySem PySem.Spec PyProof.Rows L2
variable [tb : Tb]
section
variable {X : Cx} {WO : WN} {ft : Ft}
theorem revD_noexc (x : D) (c : Nat) (d : D) : revD x ≠ .exc c d := by
  cases x <;> exact fun q => by cases q
theorem n_rev {a : E} {xa : Expr} {k : Nat} {p1 p2 p3 pos : Pos} (ha : PE X xa (tB X.K X.w WO (ev ft a))) : Sx X WO ft (.rev a) (.Subscript xa (.Slice none none (some (.UnaryOp .USub (.Constant (.int 1) k p1) p2)) p3) pos) := by
  refine .mkM (peW (pe_revF ha) fun σ H Q ⟨G, env, ok, k⟩ => ⟨G, env, ok, (K1.bind (r := ev ft a env) k).mono fun x _ h1 v G1 H1 go1 ok1 r1 => ?_⟩) rfl fun _ => rfl
  obtain ⟨z, e, h2⟩ := (K1.bind (r := revD x.1) h1).ok (revD_noexc x.1)
  have fin := h2 G1 H1 go1 ok1
  cases hx : x.1 <;> rw [hx] at e r1 <;> simp only [revD] at e <;> try cases e
  · obtain ⟨p, xs, rfl, h3, r3, _⟩ := r1.tup_ ok1.sub
    exact .inr ⟨p, xs, rfl, h3.sqt, fun q o hq ho => outT ok1.sub (outN rfl fin) hq ho r3.rev⟩
  · obtain ⟨p, xs, rfl, h3, r3⟩ := r1.lst_ ok1.sub
    exact .inl ⟨p, xs, rfl, .of h3, fun q hq => (outC rfl fin) _ _ (newL hq r3.rev)⟩
end
end Py
end
section
set_option linter.all false
set_option maxRecDepth 100000
set_option maxHeartbeats 4000000
/-! PySnd16: every expression that is checked. -/
namespace Py
open PySem PySem.Spec PyProof.Rows L2
variable [tb : Tb]

/-- what is known of the top, by a context -/
structure Fx (g : Cg) (k : Nat) (ft : Ft) (CA : Nat → Value) (X : Cx) : Prop where
  fns : ∀ (f : Nat) (n : Str) (np : Nat) (io fr : Bool), f < k → (∀ p ∈ g.refs, p.1 ≠ f) → g.fns[f]? = some (n, np, io, fr) → ∃ fa fd ps, X.mg n = some (.ref fa) ∧ PySem.W.keepIn X.K (.ref fa) = true ∧ Binds X.K fd ps [] ∧
    FnOk X.prog X.w X.K X.mg X.base (L2.CX X.prog X.w) (f + 3) fa fd ps (spF X.K X.w CA np io fr (ft f)) ∧ ∀ ds, ft f ds ≠ .bad → ds.length = np
  csI : ∀ (x : Str) (i : Int), g.cs.lookup x = some (.int i) → ∃ t, X.mg x = some (.int i t)
  csS : ∀ (x : Str) (s : List Nat), g.cs.lookup x = some (.str s) → ∃ t, X.mg x = some (.str (sS s) t)
  free : ∀ x ∈ g.free, X.mg x = none
  refs : ∀ (f : Nat) (x : Str), f < k → (f, x) ∈ g.refs → TriF X.K X.mg ft CA f x
  exs : ∀ (c : Nat) (x : Str), g.exs[c]? = some x → ∃ C : Addr, X.mg x = some (.ref C) ∧ PySem.W.excIn X.K C He.veBase "ValueError.__new__" = true ∧ PySem.W.keepIn X.K (.ref C) = true ∧ Raises X (.ref C) ∧ CA c = .ref C
theorem Fx.low {g g' : Cg} {k j : Nat} {ft : Ft} {CA : Nat → Value} {X Y : Cx} (h : Fx g k ft CA X) (hj : j ≤ k) (e1 : g'.fns = g.fns) (e2 : g'.cs = g.cs) (e3 : g'.free = g.free) (e4 : g'.refs = g.refs) (e5 : g'.exs = g.exs)
    (q1 : Y.prog = X.prog) (q2 : Y.w = X.w) (q3 : Y.K = X.K) (q4 : Y.mg = X.mg) (q5 : Y.base = X.base) : Fx g' j ft CA Y := by
  refine ⟨fun f n np io fr hf hn hq => ?_, fun x i => ?_, fun x i => ?_, fun x hx => ?_, fun f x hf hx => ?_, fun c x hx => ?_⟩
  · rw [e1] at hq; rw [e4] at hn
    rw [q1, q2, q3, q4, q5]
    exact h.fns f n np io fr (Nat.lt_of_lt_of_le hf hj) hn hq
  · rw [e2, q4]; exact h.csI x i
  · rw [e2, q4]; exact h.csS x i
  · rw [e3] at hx; rw [q4]; exact h.free x hx
  · rw [e4] at hx; rw [q3, q4]; exact h.refs f x (Nat.lt_of_lt_of_le hf hj) hx
  · rw [e5] at hx
    obtain ⟨C, a1, a2, a3, a4, a5⟩ := h.exs c x hx
    refine ⟨C, by rw [q4]; exact a1, by rw [q3]; exact a2, by rw [q3]; exact a3, ?_, a5⟩
    unfold Raises at a4 ⊢
    rw [q3]
    exact a4
structure XOk (g : Cg) (k : Nat) (ft : Ft) (CA : Nat → Value) (X : Cx) (sc : Scope) (WO : WN) : Prop where
  calm : X.calm = true
  nd : X.N.Nodup
  scp : ScOk X sc
  fnc : ∀ x, sc.names.lookup x = some .cell → X.fn x = true
  room : Room (k + 2) X.A
  tk : Takes X (wx CA WO)
  fx : Fx g k ft CA X
  lam : g.lam = true → LamB X
section
variable {g : Cg} {k : Nat} {ft : Ft} {CA : Nat → Value} {X : Cx} {sc : Scope} {WO : WN}
theorem XOk.un (h : XOk g k ft CA X sc WO) : X.A.units + 65 < cLine := by have := h.room.un; omega
theorem XOk.blk (h : XOk g k ft CA X sc WO) {scope : Scope} {s : Shared} {H : Hp} {C : Addr} {cl : List (Str × Addr)} {fp : List Addr} : XOk g k ft CA (X.blk s H scope (compEnvC scope cl C X.env) fp) scope WF where
  calm := h.calm
  nd := h.nd
  scp := ScOk.blk
  fnc := fun x e => by
    show (scope.names.lookup x == some .cell) = true
    rw [e]; rfl
  room := h.room
  tk := fun u s' ⟨a, B, sI, pins, σ, H, cls, d, e, I, nb, up, sky, na, os, ag, c, dd, e1, e2, w⟩ => w.elim
  fx := h.fx.low (Nat.le_refl _) rfl rfl rfl rfl rfl rfl rfl rfl rfl rfl
  lam := fun z => by
    obtain ⟨c, P, h1, h2, h3, h4⟩ := h.lam z
    exact ⟨c, P, h1, h2, h3, h4⟩
theorem XOk.lamC (h : XOk g k ft CA X sc WO) (hk : 2 ≤ k) {A : Around} {outer : List PySem.Env} {s : Shared} {H : Hp} {E : XK} {scope : Scope} {fl c' : Addr} (Ls : LamX.LamS X.env.scope scope) (hr : Room k (A.deeper (LamX.lamEnv X scope s.heap.objs.size fl c'))) :
    XOk g.nt (k - 2) ft CA (LamX.lamCx X A outer s H E scope fl c') scope (fun c _ _ H' => E (CA c) none H') where
  calm := rfl
  nd := h.nd
  scp := fun y q hy => ⟨q, hy, .inl rfl⟩
  fnc := fun x e => absurd rfl (Ls.own _ (PySem.mem_of_lookup e)).2
  room := by
    have e : k - 2 + 2 = k := by omega
    rw [e]; exact hr
  tk := (takes_of (X := LamX.lamCx X A outer s H E scope fl c') (E := E) rfl rfl rfl rfl).imp fun cls d σ H' ⟨c, dd, e1, e2, e3⟩ => by rw [e1, e2]; exact e3
  fx := h.fx.low (Nat.sub_le _ _) rfl rfl rfl rfl rfl rfl rfl rfl rfl rfl
  lam := fun z => by cases z
theorem XOk.blt (h : XOk g k ft CA X sc WO) {n : Str} {e : Expr} (c : bltB g sc n e = true) : ∃ p, e = .Name n p ∧ Gl X n ∧ X.mg n = none ∧ nameOk n = true := by
  cases e <;> try cases c
  rename_i x p
  simp only [bltB, Bool.and_eq_true, decide_eq_true_eq] at c
  obtain ⟨⟨⟨rfl, c2⟩, c3⟩, c4⟩ := c
  exact ⟨p, rfl, h.scp.gl c2, h.fx.free _ c3, c4⟩
theorem nameOk_ {x : Str} (h : nameOk x = true) : (x == ("__debug__" : Str)) = false ∧ (x == ("__classdict__" : Str)) = false ∧ (x == ("__name__" : Str)) = false := by
  simp only [nameOk, Bool.and_eq_true, Bool.not_eq_true'] at h
  exact ⟨h.1.1, h.1.2, h.2⟩
theorem XOk.var (h : XOk g k ft CA X sc WO) {i : Nat} {e : Expr} (c : varB X.N sc i e = true) : ∃ x p, e = .Name x p ∧ X.N[i]? = some x ∧ Vis X.env.scope x ∧ (x == ("__debug__" : Str)) = false ∧ (x == ("__classdict__" : Str)) = false := by
  cases e <;> try cases c
  rename_i x p
  simp only [varB, Bool.and_eq_true, decide_eq_true_eq] at c
  obtain ⟨⟨c1, c2⟩, c3⟩ := c
  exact ⟨x, p, rfl, c1, h.scp.vis c2, (nameOk_ c3).1, (nameOk_ c3).2.1⟩
def rg : E → Bool
  | .rng _ => true
  | _ => false
/-- a list of expressions, one by one -/
def SxL (X : Cx) (WO : WN) (ft : Ft) : E → List Expr → Prop
  | .nil, [] => True
  | .cons a b, x :: xs => plain x = true ∧ wk a = false ∧ Sx X WO ft a x ∧ SxL X WO ft b xs
  | _, _ => False
theorem SxL.plain : ∀ {e : E} {xs : List Expr}, SxL X WO ft e xs → allPlain xs = true
  | .nil, [], _ => rfl
  | .cons a b, x :: xs, h => by
    simp only [allPlain, Bool.and_eq_true]
    exact ⟨h.1, SxL.plain h.2.2.2⟩
theorem SxL.pa : ∀ {e : E} {xs : List Expr}, SxL X WO ft e xs → nbs e = true → PA X xs (tA X.K X.w WO (ev ft e))
  | .nil, [], _, _ => a_nil
  | .cons a b, x :: xs, h, n => by
    simp only [nbs, Bool.and_eq_true] at n
    exact a_cons (h.2.2.1.e (by unfold ne; rw [n.1, h.2.1]; rfl)) (SxL.pa h.2.2.2 n.2) h.1
theorem SxL.pa1 {a : E} {x : Expr} (h : SxL X WO ft (.cons a .nil) [x]) : PA X [x] (tA1 X.K X.w WO (ev ft (.cons a .nil))) := a_one (h.2.2.1.b h.2.1) h.1
def SxG (X : Cx) (WO : WN) (ft : Ft) (e : E) : Tg → Prop
  | .ex x => (wk e = false → Sx X WO ft e x) ∧ (wk e = true → ∀ tg, (isTup tg = true ∨ rg e = true) → PI X tg x (tI X.K X.w WO (ev ft e)))
  | .ls xs => SxL X WO ft e xs
  | .bo op xs => Bx X WO ft e op xs
theorem SxG.mk1 {e : E} {x : Expr} (hw : wk e = false) (s : Sx X WO ft e x) : SxG X WO ft e (.ex x) := ⟨fun _ => s, fun z => by rw [hw] at z; cases z⟩
theorem SxG.pe {e : E} {x : Expr} (s : SxG X WO ft e (.ex x)) (h : ne e = true) : PE X x (tE X.K X.w WO (ev ft e)) := by
  have h' : (nb e && !wk e) = true := h
  simp only [Bool.and_eq_true, Bool.not_eq_true'] at h'
  exact (s.1 h'.2).e h
theorem SxG.pt {e : E} {x : Expr} (s : SxG X WO ft e (.ex x)) (h : ne e = true) : PT X x (tT X.K X.w WO (ev ft e)) := by
  have h' : (nb e && !wk e) = true := h
  simp only [Bool.and_eq_true, Bool.not_eq_true'] at h'
  exact (s.1 h'.2).t h
theorem not_wk {e : E} (h : (!wk e) = true) : wk e = false := by simpa using h
theorem SxG.late {e : E} {x : Expr} (s : SxG X WO ft e (.ex x)) (h : (!wk e) = true) : PE X x (lateT X.K X.w WO ft e) := (s.1 (not_wk h)).late (not_wk h)
theorem SxG.pb {e : E} {x : Expr} (s : SxG X WO ft e (.ex x)) (h : (!wk e) = true) : PE X x (tB X.K X.w WO (ev ft e)) := (s.1 (not_wk h)).b (not_wk h)
theorem SxG.bx {e : E} {x : Expr} {op : BoolOp} (s : SxG X WO ft e (.ex x)) (h : ne e = true) : Bx X WO ft e op [x] := .one (s.pe h) (s.pt h)
theorem SxG.pi {e : E} {x tg : Expr} (s : SxG X WO ft e (.ex x)) (hn : nb e = true) (hc : (!ezB e || isTup tg) = true) : PI X tg x (tI X.K X.w WO (ev ft e)) := by
  by_cases hw : wk e = true
  · refine s.2 hw tg ?_
    cases e <;> first
      | exact .inr rfl
      | (refine .inl ?_; simpa [ezB] using hc)
      | cases hw
  · have hw' : wk e = false := by simpa using hw
    exact i_seq (s.pe (by unfold ne; rw [hn, hw']; rfl))
theorem vDct_ok {t : Tg} (h : vDct t = true) : ∃ pos, t = .ex (.Dict [] [] pos) := by
  unfold vDct at h
  split at h
  · exact ⟨_, rfl⟩
  · cases h
theorem vDup_ok {t : Tg} {q : _} (h : vDup t = some q) : ∃ pos, t = .ex (.Dict [none, some q.2.1] [q.1, q.2.2] pos) := by
  unfold vDup at h
  split at h
  · cases h; exact ⟨_, rfl⟩
  · cases h
theorem vMrg_ok {t : Tg} {q : _} (h : vMrg t = some q) : ∃ pos, t = .ex (.Dict [none, none] [q.1, q.2] pos) := by
  unfold vMrg at h
  split at h
  · cases h; exact ⟨_, rfl⟩
  · cases h
theorem isNil_ok {e : E} (h : isNil e = true) : e = .nil := by
  cases e <;> first
    | rfl
    | cases h
theorem vBin_ok {t : Tg} {q : _} (h : vBin t = some q) : ∃ pos, t = .ex (.BinOp q.1 q.2.1 q.2.2 pos) := by
  unfold vBin at h
  split at h
  · cases h; exact ⟨_, rfl⟩
  · cases h
theorem vNeg_ok {t : Tg} {q : _} (h : vNeg t = some q) : ∃ pos, t = .ex (.UnaryOp .USub q pos) := by
  unfold vNeg at h
  split at h
  · cases h; exact ⟨_, rfl⟩
  · cases h
theorem vNot_ok {t : Tg} {q : _} (h : vNot t = some q) : ∃ pos, t = .ex (.UnaryOp .Not q pos) := by
  unfold vNot at h
  split at h
  · cases h; exact ⟨_, rfl⟩
  · cases h
theorem vCmp_ok {t : Tg} {q : _} (h : vCmp t = some q) : ∃ pos, t = .ex (.Compare q.1 [q.2.1] [q.2.2] pos) := by
  unfold vCmp at h
  split at h
  · cases h; exact ⟨_, rfl⟩
  · cases h
theorem vChn_ok {t : Tg} {q : _} (h : vChn t = some q) : ∃ pos, t = .ex (.Compare q.1 [q.2.1, q.2.2.1] [q.2.2.2.1, q.2.2.2.2] pos) := by
  unfold vChn at h
  split at h
  · cases h; exact ⟨_, rfl⟩
  · cases h
theorem vIf_ok {t : Tg} {q : _} (h : vIf t = some q) : ∃ pos, t = .ex (.IfExp q.1 q.2.1 q.2.2 pos) := by
  unfold vIf at h
  split at h
  · cases h; exact ⟨_, rfl⟩
  · cases h
theorem vTup_ok {t : Tg} {q : _} (h : vTup t = some q) : ∃ n pos, t = .ex (.Tuple q n pos) := by
  unfold vTup at h
  split at h
  · cases h; exact ⟨_, _, rfl⟩
  · cases h
theorem vLst_ok {t : Tg} {q : _} (h : vLst t = some q) : ∃ pos, t = .ex (.List q pos) := by
  unfold vLst at h
  split at h
  · cases h; exact ⟨_, rfl⟩
  · cases h
theorem vSub_ok {t : Tg} {q : _} (h : vSub t = some q) : ∃ pos, t = .ex (.Subscript q.1 q.2 pos) := by
  unfold vSub at h
  split at h
  · cases h; exact ⟨_, rfl⟩
  · cases h
theorem vSli_ok {t : Tg} {q : _} (h : vSli t = some q) : ∃ p2 pos, t = .ex (.Subscript q.1 (.Slice q.2.1 q.2.2 none p2) pos) := by
  unfold vSli at h
  split at h
  · cases h; exact ⟨_, _, rfl⟩
  · cases h
theorem vCall_ok {t : Tg} {q : _} (h : vCall t = some q) : ∃ p pos, t = .ex (.Call (.Name q.1 p) (q.2.1 :: q.2.2) [] pos) := by
  unfold vCall at h
  split at h
  · cases h; exact ⟨_, _, rfl⟩
  · cases h
theorem vC1_ok {t : Tg} {q : _} (h : vC1 t = some q) : ∃ pos, t = .ex (.Call q.1 [q.2] [] pos) := by
  unfold vC1 at h
  split at h
  · cases h; exact ⟨_, rfl⟩
  · cases h
theorem vC2_ok {t : Tg} {q : _} (h : vC2 t = some q) : ∃ pos, t = .ex (.Call q.1 [q.2.1, q.2.2] [] pos) := by
  unfold vC2 at h
  split at h
  · cases h; exact ⟨_, rfl⟩
  · cases h
theorem vRg_ok {t : Tg} {q : _} (h : vRg t = some q) : ∃ p2 pos, t = .ex (.Call q.1 [.Call q.2.1 q.2.2 [] p2] [] pos) := by
  unfold vRg at h
  split at h
  · cases h; exact ⟨_, _, rfl⟩
  · cases h
theorem vCE_ok {t : Tg} {q : _} (h : vCE t = some q) : ∃ pos, t = .ex (.Call q.1 q.2 [] pos) := by
  unfold vCE at h
  split at h
  · cases h; exact ⟨_, rfl⟩
  · cases h
theorem vMet_ok {t : Tg} {q : _} (h : vMet t = some q) : ∃ apos pos, t = .ex (.Call (.Attribute q.1 q.2.1 apos) q.2.2.2 [] pos) ∧ q.2.2.1 = (apos.endLine == pos.line) := by
  unfold vMet at h
  split at h
  · cases h; exact ⟨_, _, rfl, rfl⟩
  · cases h
theorem vLc_ok {t : Tg} {q : _} (h : vLc t = some q) : ∃ pos, t = .ex (.ListComp q.1 [⟨q.2.1, q.2.2.1, q.2.2.2.1, 0⟩] q.2.2.2.2 pos) := by
  unfold vLc at h
  split at h
  · cases h; exact ⟨_, rfl⟩
  · cases h
theorem vRev_ok {t : Tg} {q : _} (h : vRev t = some q) : ∃ (j : Nat) (p1 p2 p3 pos : Pos), t = .ex (.Subscript q (.Slice none none (some (.UnaryOp .USub (.Constant (.int 1) j p1) p2)) p3) pos) := by
  unfold vRev at h
  split at h
  · cases h; exact ⟨_, _, _, _, _, rfl⟩
  · cases h
theorem vTri_ok {t : Tg} {q : _} (h : vTri t = some q) : ∃ p lpos pos, t = .ex (.Call (.Name q.1 p) [.Lambda q.2.1 q.2.2.1 q.2.2.2 lpos] [] pos) := by
  unfold vTri at h
  split at h
  · cases h; exact ⟨_, _, _, rfl⟩
  · cases h
theorem vEx_ok {t : Tg} {q : _} (h : vEx t = some q) : t = .ex q := by
  unfold vEx at h
  split at h
  · cases h; rfl
  · cases h
theorem vCons_ok {t : Tg} {q : _} (h : vCons t = some q) : t = .ls (q.1 :: q.2) := by
  unfold vCons at h
  split at h
  · cases h; rfl
  · cases h
theorem isNilT_ok {t : Tg} (h : isNilT t = true) : t = .ls [] := by
  unfold isNilT at h
  split at h
  · rfl
  · cases h
theorem vBoX_ok {op : BoolOp} {xs : List Expr} {q : _} (h : vBoX op xs = some q) : (∃ y, xs = [q.1, y] ∧ q.2 = .ex y) ∨ ∃ y z r, xs = q.1 :: y :: z :: r ∧ q.2 = .bo op (y :: z :: r) := by
  unfold vBoX at h
  split at h
  · cases h; exact .inl ⟨_, rfl, rfl⟩
  · cases h; exact .inr ⟨_, _, _, rfl, rfl⟩
  · cases h
theorem vAnd_ok {t : Tg} {q : _} (h : vAnd t = some q) : ∃ xs, vBoX .And xs = some q ∧ ((∃ pos, t = .ex (.BoolOp .And xs pos)) ∨ t = .bo .And xs) := by
  unfold vAnd at h
  split at h
  · exact ⟨_, h, .inl ⟨_, rfl⟩⟩
  · exact ⟨_, h, .inr rfl⟩
  · cases h
theorem vOr_ok {t : Tg} {q : _} (h : vOr t = some q) : ∃ xs, vBoX .Or xs = some q ∧ ((∃ pos, t = .ex (.BoolOp .Or xs pos)) ∨ t = .bo .Or xs) := by
  unfold vOr at h
  split at h
  · exact ⟨_, h, .inl ⟨_, rfl⟩⟩
  · exact ⟨_, h, .inr rfl⟩
  · cases h
theorem SxL.one : ∀ {e : E} {x : Expr}, SxL X WO ft e [x] → ∃ a, e = .cons a .nil
  | .cons a .nil, x, _ => ⟨a, rfl⟩
theorem SxL.two : ∀ {e : E} {x y : Expr}, SxL X WO ft e [x, y] → ∃ a b, e = .cons a (.cons b .nil)
  | .cons a (.cons b .nil), x, y, _ => ⟨a, b, rfl⟩
theorem boB_eq {o : BO} {op : Operator} (h : boB o op = true) : (o = .add ∧ op = .Add) ∨ (o = .sub ∧ op = .Sub) ∨ (o = .mul ∧ op = .Mult) ∨ (o = .div ∧ op = .FloorDiv) ∨ (o = .mod ∧ op = .Mod) ∨ (o = .pow ∧ op = .Pow) := by
  cases o <;> cases op <;> first
    | (cases h; done)
    | simp
theorem boB_ok {o : BO} {op : Operator} (h : boB o op = true) : ∃ r, OpR X (binaryOp op) r ∧ Op2 X.K X.w (binD o) r := by
  rcases boB_eq h with ⟨rfl, rfl⟩ | ⟨rfl, rfl⟩ | ⟨rfl, rfl⟩ | ⟨rfl, rfl⟩ | ⟨rfl, rfl⟩ | ⟨rfl, rfl⟩
  · exact ⟨_, or_add, o2_add⟩
  · exact ⟨_, op_sub, o2_sub⟩
  · exact ⟨_, or_mul, o2_mul⟩
  · exact ⟨_, op_fdiv, o2_div⟩
  · exact ⟨_, op_mod, o2_mod⟩
  · exact ⟨_, op_pow, o2_pow⟩
theorem coB_eq {o : CO} {op : CmpOp} (h : coB o op = true) : (o = .eq ∧ op = .Eq) ∨ (o = .ne ∧ op = .NotEq) ∨ (o = .lt ∧ op = .Lt) ∨ (o = .le ∧ op = .LtE) ∨ (o = .gt ∧ op = .Gt) ∨ (o = .ge ∧ op = .GtE) ∨ (o = .mem ∧ op = .In) ∨ (o = .nmem ∧ op = .NotIn) ∨ (o = .is ∧ op = .Is) ∨ (o = .nis ∧ op = .IsNot) := by
  cases o <;> cases op <;> first
    | (cases h; done)
    | simp
theorem coB_ok (hu : X.A.units + 65 < cLine) {o : CO} {op : CmpOp} (h : coB o op = true) : ∃ r, OpR X (compareOp op) r ∧ Op2B X.K X.w (cmpD o) r := by
  rcases coB_eq h with ⟨rfl, rfl⟩ | ⟨rfl, rfl⟩ | ⟨rfl, rfl⟩ | ⟨rfl, rfl⟩ | ⟨rfl, rfl⟩ | ⟨rfl, rfl⟩ | ⟨rfl, rfl⟩ | ⟨rfl, rfl⟩ | ⟨rfl, rfl⟩ | ⟨rfl, rfl⟩
  · exact ⟨_, op_eqD (by omega), o2_eq⟩
  · exact ⟨_, op_neD (by omega), o2_ne⟩
  · exact ⟨_, op_lt, o2_lt⟩
  · exact ⟨_, op_le, o2_le⟩
  · exact ⟨_, op_gt, o2_gt⟩
  · exact ⟨_, op_ge, o2_ge⟩
  · exact ⟨_, or_mem hu, o2_mem⟩
  · exact ⟨_, or_nmem hu, o2_nmem⟩
  · exact ⟨_, or_is, o2_is⟩
  · exact ⟨_, or_nis, o2_nis⟩
theorem last_ord {o o' : CO} {op op' : CmpOp} {xb xc : Expr} (h' : coB o' op' = true) (i' : isOrd o' = true) : lastMarks [op, op'] [xb, xc] = false := by
  have : op' ≠ .In ∧ op' ≠ .NotIn := by
    revert h' i'
    cases o' <;> cases op' <;> intro h' i' <;> first
      | (cases h'; done)
      | (cases i'; done)
      | exact ⟨(by intro z; cases z), (by intro z; cases z)⟩
  exact nomark xc this.1 this.2
end
end Py
end
section
set_option linter.all false
set_option maxRecDepth 100000
set_option maxHeartbeats 4000000
/-! PySnd17: the main induction over expressions. -/
namespace Py
open PySem PySem.Spec PyProof.Rows L2
variable [tb : Tb]
section
variable {ft : Ft} {CA : Nat → Value}
abbrev Sound (ft : Ft) (CA : Nat → Value) (e : E) : Prop := ∀ (g : Cg) (k : Nat) (X : Cx) (sc : Scope) (WO : WN) (t : Tg), XOk g k ft CA X sc WO → chk g k X.N e sc t = true → SxG X WO ft e t
theorem cst_ok {g : Cg} {k : Nat} {X : Cx} {sc : Scope} {WO : WN} {d : D} {x : Expr} (xo : XOk g k ft CA X sc WO) (c : cstB g sc d x = true) : Sx X WO ft (.cst d) x := by
  unfold cstB at c
  split at c
  · split at c
    · simp only [decide_eq_true_eq] at c
      subst c
      exact n_const pe_int (fun G => .int _) fun _ => rfl
    · cases c
  · split at c
    · simp only [beq_iff_eq] at c
      subst c
      exact n_const pe_bl (fun G => .bl _) fun _ => rfl
    · cases c
  · split at c
    · exact n_const pe_non (fun G => .non) fun _ => rfl
    · cases c
  · split at c
    · simp only [Bool.and_eq_true, decide_eq_true_eq] at c
      obtain ⟨rfl, c2⟩ := c
      exact n_const pe_str (fun G => .str _ c2) fun _ => rfl
    · cases c
  · rename_i x pos
    simp only [Bool.and_eq_true] at c
    obtain ⟨⟨c1, c2⟩, c3⟩ := c
    split at c3
    · rename_i i j q
      simp only [decide_eq_true_eq] at c3
      subst c3
      obtain ⟨t, ht⟩ := xo.fx.csI _ _ q
      exact n_const (v := .int i) (pe_glob (xo.scp.gl c1) ht ⟨t, rfl⟩ (nameOk_ c2).1) (fun G => .int _) fun _ => rfl
    · rename_i i j q
      simp only [Bool.and_eq_true, decide_eq_true_eq] at c3
      obtain ⟨rfl, c4⟩ := c3
      obtain ⟨t, ht⟩ := xo.fx.csS _ _ q
      exact n_const (v := .str (sS i)) (pe_glob (xo.scp.gl c1) ht ⟨t, rfl⟩ (nameOk_ c2).1) (fun G => .str _ c4) fun _ => rfl
    · cases c3
  · cases c
theorem s_cons {a b : E} (iha : Sound ft CA a) (ihb : Sound ft CA b) : Sound ft CA (.cons a b) := by
  intro g k X sc WO t xo c
  simp only [chk] at c
  split at c
  case h_2 => cases c
  rename_i q hq
  have ht := vCons_ok hq
  subst ht
  simp only [Bool.and_eq_true] at c
  obtain ⟨⟨⟨c1, c2⟩, c3⟩, c4⟩ := c
  exact ⟨c1, not_wk c2, (iha _ _ X sc WO _ xo c3).1 (not_wk c2), ihb _ _ X sc WO _ xo c4⟩
theorem s_bin {o : BO} {a b : E} (iha : Sound ft CA a) (ihb : Sound ft CA b) : Sound ft CA (.bin o a b) := by
  intro g k X sc WO t xo c
  simp only [chk] at c
  split at c
  case h_2 => cases c
  rename_i q hq
  obtain ⟨pos, ht⟩ := vBin_ok hq
  subst ht
  simp only [Bool.and_eq_true] at c
  obtain ⟨⟨⟨⟨c1, c2⟩, c3⟩, c4⟩, c5⟩ := c
  obtain ⟨r, h1, h2⟩ := boB_ok (X := X) c1
  exact .mk1 rfl (n_bin h1 h2 ((iha _ _ X sc WO _ xo c4).late c2) ((ihb _ _ X sc WO _ xo c5).pb c3))
theorem s_neg {a : E} (iha : Sound ft CA a) : Sound ft CA (.neg a) := by
  intro g k X sc WO t xo c
  simp only [chk] at c
  split at c
  case h_2 => cases c
  rename_i q hq
  obtain ⟨pos, ht⟩ := vNeg_ok hq
  subst ht
  simp only [Bool.and_eq_true] at c
  exact .mk1 rfl (n_neg ((iha _ _ X sc WO _ xo c.2).pe c.1))
theorem s_not {a : E} (iha : Sound ft CA a) : Sound ft CA (.not a) := by
  intro g k X sc WO t xo c
  simp only [chk] at c
  split at c
  case h_2 => cases c
  rename_i q hq
  obtain ⟨pos, ht⟩ := vNot_ok hq
  subst ht
  simp only [Bool.and_eq_true] at c
  exact .mk1 rfl (n_not ((iha _ _ X sc WO _ xo c.2).pe c.1) ((iha _ _ X sc WO _ xo c.2).pt c.1))
theorem s_cmp {o : CO} {a b : E} (iha : Sound ft CA a) (ihb : Sound ft CA b) : Sound ft CA (.cmp o a b) := by
  intro g k X sc WO t xo c
  simp only [chk] at c
  split at c
  case h_2 => cases c
  rename_i q hq
  obtain ⟨pos, ht⟩ := vCmp_ok hq
  subst ht
  simp only [Bool.and_eq_true] at c
  obtain ⟨⟨⟨⟨⟨c1, c2⟩, c3⟩, c4⟩, c5⟩, c6⟩ := c
  obtain ⟨r, h1, h2⟩ := coB_ok xo.un c1
  exact .mk1 rfl (n_cmp h1 h2 ((iha _ _ X sc WO _ xo c5).late c3) ((ihb _ _ X sc WO _ xo c6).pb c4) (beh_plain c2))
theorem s_chn {o o' : CO} {a b d : E} (iha : Sound ft CA a) (ihb : Sound ft CA b) (ihd : Sound ft CA d) : Sound ft CA (.chn o o' a b d) := by
  intro g k X sc WO t xo c
  simp only [chk] at c
  split at c
  case h_2 => cases c
  rename_i q hq
  obtain ⟨pos, ht⟩ := vChn_ok hq
  subst ht
  simp only [Bool.and_eq_true] at c
  obtain ⟨⟨⟨⟨⟨⟨⟨⟨⟨c1, c2⟩, c3⟩, c4⟩, c5⟩, c6⟩, c7⟩, c8⟩, c9⟩, c10⟩ := c
  obtain ⟨r, h1, h2⟩ := coB_ok xo.un c1
  obtain ⟨r', h1', h2'⟩ := coB_ok xo.un c2
  exact .mk1 rfl (n_chn h1 h1' h2 h2' ((iha _ _ X sc WO _ xo c8).pe c5) ((ihb _ _ X sc WO _ xo c9).pe c6) ((ihd _ _ X sc WO _ xo c10).pe c7) (last_ord (o := o) c2 c4))
theorem neT_bx {X : Cx} {WO : WN} {b : E} {t : Tg} {op : BoolOp} {ys : List Expr} (h : SxG X WO ft b t) (hn : neT b t = true) (e : (∃ y, t = .ex y ∧ ys = [y]) ∨ t = .bo op ys) : Bx X WO ft b op ys := by
  rcases e with ⟨y, rfl, rfl⟩ | rfl
  · exact h.bx hn
  · exact h
theorem s_and {a b : E} (iha : Sound ft CA a) (ihb : Sound ft CA b) : Sound ft CA (.and a b) := by
  intro g k X sc WO t xo c
  simp only [chk] at c
  split at c
  case h_2 => cases c
  rename_i q hq
  obtain ⟨xs, hx, ht⟩ := vAnd_ok hq
  simp only [Bool.and_eq_true] at c
  obtain ⟨⟨⟨c1, c2⟩, c3⟩, c4⟩ := c
  have ha := iha _ _ X sc WO _ xo c3
  have hb := ihb _ _ X sc WO _ xo c4
  have main : Bx X WO ft (.and a b) .And xs := by
    rcases vBoX_ok hx with ⟨y, rfl, e⟩ | ⟨y, z, r, rfl, e⟩
    · exact n_and (ha.pe c1) (ha.pt c1) (neT_bx hb c2 (.inl ⟨y, e, rfl⟩))
    · exact n_and (ha.pe c1) (ha.pt c1) (neT_bx hb c2 (.inr e))
  rcases ht with ⟨pos, rfl⟩ | rfl
  · exact .mk1 rfl (main.sx rfl rfl)
  · exact main
theorem s_or {a b : E} (iha : Sound ft CA a) (ihb : Sound ft CA b) : Sound ft CA (.or a b) := by
  intro g k X sc WO t xo c
  simp only [chk] at c
  split at c
  case h_2 => cases c
  rename_i q hq
  obtain ⟨xs, hx, ht⟩ := vOr_ok hq
  simp only [Bool.and_eq_true] at c
  obtain ⟨⟨⟨c1, c2⟩, c3⟩, c4⟩ := c
  have ha := iha _ _ X sc WO _ xo c3
  have hb := ihb _ _ X sc WO _ xo c4
  have main : Bx X WO ft (.or a b) .Or xs := by
    rcases vBoX_ok hx with ⟨y, rfl, e⟩ | ⟨y, z, r, rfl, e⟩
    · exact n_or (ha.pe c1) (ha.pt c1) (neT_bx hb c2 (.inl ⟨y, e, rfl⟩))
    · exact n_or (ha.pe c1) (ha.pt c1) (neT_bx hb c2 (.inr e))
  rcases ht with ⟨pos, rfl⟩ | rfl
  · exact .mk1 rfl (main.sx rfl rfl)
  · exact main
theorem s_ife {d a b : E} (ihd : Sound ft CA d) (iha : Sound ft CA a) (ihb : Sound ft CA b) : Sound ft CA (.ife d a b) := by
  intro g k X sc WO t xo c
  simp only [chk] at c
  split at c
  case h_2 => cases c
  rename_i q hq
  obtain ⟨pos, ht⟩ := vIf_ok hq
  subst ht
  simp only [Bool.and_eq_true] at c
  obtain ⟨⟨⟨⟨⟨c1, c2⟩, c3⟩, c4⟩, c5⟩, c6⟩ := c
  have hd := ihd _ _ X sc WO _ xo c4
  have ha := iha _ _ X sc WO _ xo c5
  have hb := ihb _ _ X sc WO _ xo c6
  exact .mk1 rfl (n_ife (hd.pt c1) (ha.pe c2) (hb.pe c3) (ha.pt c2) (hb.pt c3))
theorem s_tup {es : E} (ih : Sound ft CA es) : Sound ft CA (.tup es) := by
  intro g k X sc WO t xo c
  simp only [chk] at c
  split at c
  case h_2 => cases c
  rename_i q hq
  obtain ⟨n, pos, ht⟩ := vTup_ok hq
  subst ht
  simp only [Bool.and_eq_true] at c
  exact .mk1 rfl (n_tup (SxL.pa (ih _ _ X sc WO _ xo c.2) c.1))
theorem s_lst {es : E} (ih : Sound ft CA es) : Sound ft CA (.lst es) := by
  intro g k X sc WO t xo c
  simp only [chk] at c
  split at c
  case h_2 => cases c
  rename_i q hq
  obtain ⟨pos, ht⟩ := vLst_ok hq
  subst ht
  simp only [Bool.and_eq_true] at c
  exact .mk1 rfl (n_lst (SxL.pa (ih _ _ X sc WO _ xo c.2) c.1))
theorem s_sub {a i : E} (iha : Sound ft CA a) (ihi : Sound ft CA i) : Sound ft CA (.sub a i) := by
  intro g k X sc WO t xo c
  simp only [chk] at c
  split at c
  case h_2 => cases c
  rename_i q hq
  obtain ⟨pos, ht⟩ := vSub_ok hq
  subst ht
  simp only [Bool.and_eq_true] at c
  obtain ⟨⟨⟨⟨c1, c2⟩, c3⟩, c4⟩, c5⟩ := c
  exact .mk1 rfl (n_sub xo.un ((iha _ _ X sc WO _ xo c4).late c2) (peB ((ihi _ _ X sc WO _ xo c5).pe c3)) c1)
theorem po_ok {g : Cg} {k : Nat} {X : Cx} {sc : Scope} {WO : WN} {lo : E} {o : Option Expr} (xo : XOk g k ft CA X sc WO) (ih : Sound ft CA lo) (c0 : o = none → isNil lo = true) (c1 : ∀ l, o = some l → (ne lo && nnil lo && chk g k X.N lo sc (.ex l)) = true) : PoOk X WO ft lo o := by
  cases o with
  | none =>
    have c := c0 rfl
    cases lo <;> first
      | exact rfl
      | cases c
  | some l =>
    have c := c1 l rfl
    simp only [Bool.and_eq_true] at c
    exact ⟨(ih _ _ X sc WO _ xo c.2).pe c.1.1, c.1.2⟩
theorem s_sli {a lo hi : E} (iha : Sound ft CA a) (ihl : Sound ft CA lo) (ihh : Sound ft CA hi) : Sound ft CA (.sli a lo hi) := by
  intro g k X sc WO t xo c
  simp only [chk] at c
  split at c
  case h_2 => cases c
  rename_i q hq
  obtain ⟨p2, pos, ht⟩ := vSli_ok hq
  subst ht
  simp only [Bool.and_eq_true] at c
  obtain ⟨⟨⟨c1, c2⟩, c3⟩, c4⟩ := c
  exact .mk1 rfl (n_sli ((iha _ _ X sc WO _ xo c4).late c1) (po_ok xo ihl (fun e => by rw [e] at c2; exact c2) fun l e => by rw [e] at c2; exact c2) (po_ok xo ihh (fun e => by rw [e] at c3; exact c3) fun l e => by rw [e] at c3; exact c3))
theorem s_call {f : Nat} {io frc : Bool} {as : E} (ih : Sound ft CA as) : Sound ft CA (.call f io frc as) := by
  intro g k X sc WO t xo c
  simp only [chk] at c
  split at c
  case h_2 => cases c
  rename_i q hq
  obtain ⟨p, pos, ht⟩ := vCall_ok hq
  subst ht
  simp only [Bool.and_eq_true, decide_eq_true_eq] at c
  obtain ⟨⟨⟨⟨⟨⟨c1, c2⟩, c3⟩, c4⟩, c5⟩, c7⟩, c6⟩ := c
  unfold fnB at c4
  cases hf : g.fns[f]? with
  | none => rw [hf] at c4; cases c4
  | some r =>
    rw [hf] at c4
    simp only [Bool.and_eq_true, decide_eq_true_eq, beq_iff_eq] at c4
    obtain ⟨n, np, io', fr⟩ := r
    obtain ⟨⟨e1, e2⟩, e3⟩ := c4
    have e1 : n = q.1 := e1
    have e2 : io' = io := e2
    have e3 : fr = frc := e3
    subst e2 e3
    obtain ⟨fa, fd, ps, h1, h2, h3, h4, h5⟩ := xo.fx.fns f n np io' fr c1 (fun p hp => by simpa using List.all_eq_true.mp c7 p hp) hf
    rw [e1] at h1
    have hl := ih _ _ X sc WO _ xo c6
    have hl2 : SxL X WO ft as (q.2.1 :: q.2.2) := hl
    have pl := hl2.plain
    simp only [allPlain, Bool.and_eq_true] at pl
    cases io' with
    | false => exact .mk1 rfl (n_call (h4.mono (by omega)) xo.room (xo.scp.gl c2) h1 h2 h3 xo.tk h5 (SxL.pa hl2 c5) (nameOk_ c3).1 pl.1 pl.2)
    | true =>
      cases as <;> try cases c5
      rename_i a b
      cases a <;> try cases c5
      rename_i i
      obtain ⟨_, _, s1, s2⟩ := hl2
      exact .mk1 rfl (n_callIo (h4.mono (by omega)) xo.room (xo.scp.gl c2) h1 h2 h3 xo.tk h5 (s1.v i rfl) (SxL.pa s2 c5) (nameOk_ c3).1 pl.1 pl.2)
theorem boot_abs' : bootBuiltins "abs" = some (.builtin "abs") := by decide +kernel
theorem boot_all' : bootBuiltins "all" = some (.builtin "all") := by decide +kernel
theorem boot_any' : bootBuiltins "any" = some (.builtin "any") := by decide +kernel
theorem boot_len' : bootBuiltins "len" = some (.builtin "len") := by decide +kernel
theorem boot_tuple' : bootBuiltins "tuple" = some (.type "tuple") := by decide +kernel
theorem boot_list' : bootBuiltins "list" = some (.type "list") := by decide +kernel
theorem boot_set' : bootBuiltins "set" = some (.type "set") := by decide +kernel
theorem boot_int' : bootBuiltins "int" = some (.type "int") := by decide +kernel
theorem boot_bool' : bootBuiltins "bool" = some (.type "bool") := by decide +kernel
theorem boot_str' : bootBuiltins "str" = some (.type "str") := by decide +kernel
theorem boot_dict' : bootBuiltins "dict" = some (.type "dict") := by decide +kernel
theorem s_blt {f : BF} {as : E} (ih : Sound ft CA as) : Sound ft CA (.blt f as) := by
  intro g k X sc WO t xo c
  simp only [chk] at c
  split at c
  · rename_i hB
    split at c
    case h_2 => cases c
    rename_i q hq
    obtain ⟨pos, ht⟩ := vC1_ok hq
    subst ht
    simp only [Bool.and_eq_true] at c
    obtain ⟨c1, c2⟩ := c
    have hl : SxL X WO ft as [q.2] := ih _ _ X sc WO _ xo c2
    obtain ⟨a, rfl⟩ := hl.one
    have pp := hl.plain
    simp only [allPlain, Bool.and_true] at pp
    have pa := hl.pa1
    obtain ⟨p, e, hg, hm, _⟩ := xo.blt c1
    rw [e]
    have hc := xo.calm
    cases f <;> first
      | (cases hB; done)
      | skip
    · exact .mk1 rfl (n_b1 b_len (fun ha => pe_callB (call_len_seq.or (call_len_str.or cr_lenS)) hg hm boot_len' ha (by decide) (by decide) (star_plain pp) rfl) pa)
    · exact .mk1 rfl (n_b1 b_tuple (fun ha => pe_callTy call_tupleF hg hm boot_tuple' ha (by decide) (by decide) (star_plain pp) rfl) pa)
    · exact .mk1 rfl (n_b1 b_list (fun ha => pe_callTy call_list_of hg hm boot_list' ha (by decide) (by decide) (star_plain pp) rfl) pa)
    · exact .mk1 rfl (n_b1 b_set (fun ha => pe_callTy (cr_setI hc) hg hm boot_set' ha (by decide) (by decide) (star_plain pp) rfl) pa)
    · exact .mk1 rfl (n_b1 b_sorted (fun ha => pe_callB ((((cr_sortedSet hc).or cr_sortedI).or (cr_sortedT (by have := xo.un; omega))).or cr_sortedIT) hg hm boot_sorted ha (by decide) (by decide) (star_plain pp) rfl) pa)
    · exact .mk1 rfl (n_b1 b_sum (fun ha => pe_callB (cr_sum hc) hg hm boot_sum ha (by decide) (by decide) (star_plain pp) rfl) pa)
    · exact .mk1 rfl (n_b1 b_all (fun ha => pe_callB (cr_all hc) hg hm boot_all' ha (by decide) (by decide) (star_plain pp) rfl) pa)
    · exact .mk1 rfl (n_b1 b_any (fun ha => pe_callB (cr_any hc) hg hm boot_any' ha (by decide) (by decide) (star_plain pp) rfl) pa)
    · exact .mk1 rfl (n_b1 b_max (fun ha => pe_callB (cr_max hc) hg hm boot_max ha (by decide) (by decide) (star_plain pp) rfl) pa)
    · exact .mk1 rfl (n_b1 b_min (fun ha => pe_callB (cr_min hc) hg hm boot_min ha (by decide) (by decide) (star_plain pp) rfl) pa)
    · exact .mk1 rfl (n_b1 b_abs (fun ha => pe_callB call_abs hg hm boot_abs' ha (by decide) (by decide) (star_plain pp) rfl) pa)
    · exact .mk1 rfl (n_b1 b_int (fun ha => pe_callTy call_int1 hg hm boot_int' ha (by decide) (by decide) (star_plain pp) rfl) pa)
    · exact .mk1 rfl (n_b1 b_dict (fun ha => pe_callTy (call_dictP hc) hg hm boot_dict' ha (by decide) (by decide) (star_plain pp) rfl) pa)
  · split at c
    · rename_i hB
      split at c
      case h_2 => cases c
      rename_i q hq
      obtain ⟨pos, ht⟩ := vC2_ok hq
      subst ht
      simp only [Bool.and_eq_true] at c
      obtain ⟨⟨c1, c2⟩, c3⟩ := c
      have hl : SxL X WO ft as [q.2.1, q.2.2] := ih _ _ X sc WO _ xo c3
      have pp := hl.plain
      simp only [allPlain, Bool.and_true, Bool.and_eq_true] at pp
      have pa := hl.pa c2
      obtain ⟨p, e, hg, hm, _⟩ := xo.blt c1
      rw [e]
      have hc := xo.calm
      cases f <;> first
        | (cases hB; done)
        | skip
      · exact .mk1 rfl (n_b2 (fun ha => pe_callB (call_max2 hc) hg hm boot_max ha (by decide) (by decide) (star_plain pp.1) (back1 pp.2)) max2_ok pa)
      · exact .mk1 rfl (n_b2 (fun ha => pe_callB (call_min2 hc) hg hm boot_min ha (by decide) (by decide) (star_plain pp.1) (back1 pp.2)) min2_ok pa)
    · split at c
      · rename_i hB
        split at c
        case h_2 => cases c
        rename_i q hq
        obtain ⟨p2, pos, ht⟩ := vRg_ok hq
        subst ht
        simp only [Bool.and_eq_true] at c
        obtain ⟨⟨⟨⟨c1, c2⟩, c3⟩, c4⟩, c5⟩ := c
        have hl : SxL X WO ft as q.2.2 := ih _ _ X sc WO _ xo c5
        have pp := hl.plain
        have pa := hl.pa c4
        obtain ⟨p, e, hg, hm, _⟩ := xo.blt c1
        obtain ⟨p', e', hg', hm', _⟩ := xo.blt c2
        have rgs : PRg X (.Call q.2.1 q.2.2 [] p2) (tRg X.K X.w WO ft as) := by
          rw [e']
          unfold rgLen at c3
          match hys : q.2.2 with
          | [] => rw [hys] at c3; cases c3
          | [y] =>
            rw [hys] at hl pp pa
            obtain ⟨a, rfl⟩ := hl.one
            simp only [allPlain, Bool.and_true] at pp
            exact rg1 hg' hm' pa pp
          | [y, z] =>
            rw [hys] at hl pp pa
            obtain ⟨a, b, rfl⟩ := hl.two
            simp only [allPlain, Bool.and_true, Bool.and_eq_true] at pp
            exact rg2 hg' hm' pa pp.1 pp.2
          | _ :: _ :: _ :: _ => rw [hys] at c3; simp at c3
        rw [e]
        have hc := xo.calm
        cases f <;> first
          | (cases hB; done)
          | skip
        · exact .mk1 rfl (n_ltup hc hg hm rgs)
        · exact .mk1 rfl (n_lrng hc hg hm rgs)
      · split at c
        case h_2 => cases c
        rename_i q hq
        obtain ⟨pos, ht⟩ := vC2_ok hq
        subst ht
        simp only [Bool.and_eq_true, decide_eq_true_eq] at c
        obtain ⟨⟨⟨rfl, c2⟩, c3⟩, c4⟩ := c
        have hl : SxL X WO ft as [q.2.1, q.2.2] := ih _ _ X sc WO _ xo c4
        have hc := xo.calm
        obtain ⟨p, e, hg, hm, _⟩ := xo.blt c2
        rw [e]
        unfold sumShape at c3
        split at c3
        · rename_i a p2 hq2
          obtain ⟨h1, h2, h3, _⟩ := hl
          rw [hq2]
          exact .mk1 rfl (n_sum2 hc hg hm (h3.b h2) h1)
        · cases c3
theorem s_met {m : MF} {a as : E} (iha : Sound ft CA a) (ih : Sound ft CA as) : Sound ft CA (.met m a as) := by
  intro g k X sc WO t xo c
  simp only [chk] at c
  split at c
  case h_2 => cases c
  rename_i q hq
  obtain ⟨apos, pos, ht, hline⟩ := vMet_ok hq
  subst ht
  simp only [Bool.and_eq_true, decide_eq_true_eq] at c
  simp only [Bool.or_eq_true, Bool.and_eq_true, decide_eq_true_eq] at c
  obtain ⟨⟨⟨⟨⟨⟨⟨c1, c2⟩, c3⟩, c4⟩, c5⟩, c6⟩, c7⟩, c8⟩ := c
  match hxs : q.2.2.2 with
  | [] => rw [hxs] at c6; cases c6
  | _ :: _ :: _ => rw [hxs] at c6; simp at c6
  | [x] =>
    rw [hxs] at c8
    have hl : SxL X WO ft as [x] := ih _ _ X sc WO _ xo c8
    obtain ⟨e, rfl⟩ := hl.one
    have pp := hl.plain
    simp only [allPlain, Bool.and_true] at pp
    rw [c2]
    rcases c1 with rfl | ⟨rfl, c1⟩
    rotate_left
    · exact .mk1 rfl (n_indexT xo.un c1 ((iha _ _ X sc WO _ xo c7).pe (by unfold ne; rw [c1, c5]; rfl)) hl.pa1 c3 (by rw [← hline]; exact c4) pp)
    exact .mk1 rfl (n_index xo.un ((iha _ _ X sc WO _ xo c7).late c5) hl.pa1 c3 (by rw [← hline]; exact c4) pp)
theorem s_pop {i : Nat} {as : E} (ih : Sound ft CA as) : Sound ft CA (.pop i as) := by
  intro g k X sc WO t xo c
  simp only [chk] at c
  split at c
  case h_2 => cases c
  rename_i q hq
  obtain ⟨apos, pos, ht, hline⟩ := vMet_ok hq
  subst ht
  simp only [Bool.and_eq_true, decide_eq_true_eq] at c
  obtain ⟨⟨⟨⟨⟨c1, c2⟩, c3⟩, c4⟩, c5⟩, c6⟩ := c
  obtain ⟨x, p, e, h1, h2, h3, h4⟩ := xo.var c2
  rw [c1]
  rw [hline] at c3
  have ho : PE X q.1 (L2.tVar i) := by rw [e]; exact pe_var h1 h2 h3 h4
  have hb : attributeBase q.1 "pop" X.env (eval q.1 X.env) = eval q.1 X.env := by rw [e]; rfl
  match hxs : q.2.2.2 with
  | [] =>
    rw [hxs] at c6
    have hl : SxL X WO ft as [] := ih _ _ X sc WO _ xo c6
    cases as <;> first
      | exact .mk1 rfl (n_pop0 ho hb c3)
      | exact hl.elim
  | [x] =>
    rw [hxs] at c6
    have hl : SxL X WO ft as [x] := ih _ _ X sc WO _ xo c6
    obtain ⟨e, rfl⟩ := hl.one
    have pp := hl.plain
    simp only [allPlain, Bool.and_true] at pp
    exact .mk1 rfl (n_pop1 ho (hl.pa c5) hb c3 pp)
  | _ :: _ :: _ => rw [hxs] at c4; simp at c4
theorem s_isi {a : E} {ty : Ty} (iha : Sound ft CA a) : Sound ft CA (.isi a ty) := by
  intro g k X sc WO t xo c
  simp only [chk] at c
  split at c
  case h_2 => cases c
  rename_i q hq
  obtain ⟨pos, ht⟩ := vC2_ok hq
  subst ht
  simp only [Bool.and_eq_true] at c
  obtain ⟨⟨⟨⟨c1, c2⟩, c3⟩, c4⟩, c5⟩ := c
  obtain ⟨p, e, hg, hm, _⟩ := xo.blt c1
  obtain ⟨p', e', hg', hm', hn'⟩ := xo.blt c2
  rw [e, e']
  have hy : PE X (.Name (tyN ty) p') (tC (.ty (tyS ty))) := by
    obtain ⟨n1, n2, n3⟩ := nameOk_ hn'
    have n3' : tyN ty ≠ "__name__" := by cases ty <;> decide
    cases ty
    · exact pe_bltn hg' hm' boot_int' rfl n3' n1
    · exact pe_bltn hg' hm' boot_bool' rfl n3' n1
    · exact pe_bltn hg' hm' boot_tuple' rfl n3' n1
    · exact pe_bltn hg' hm' boot_list' rfl n3' n1
    · exact pe_bltn hg' hm' boot_str' rfl n3' n1
    · exact pe_bltn hg' hm' boot_dict' rfl n3' n1
  exact .mk1 rfl (n_isi hg hm ((iha _ _ X sc WO _ xo c5).pb c4) hy c3 rfl)
theorem s_rng {as : E} (ih : Sound ft CA as) : Sound ft CA (.rng as) := by
  intro g k X sc WO t xo c
  simp only [chk] at c
  split at c
  case h_2 => cases c
  rename_i q hq
  obtain ⟨pos, ht⟩ := vCE_ok hq
  subst ht
  simp only [Bool.and_eq_true] at c
  obtain ⟨⟨⟨c1, c2⟩, c3⟩, c4⟩ := c
  have hl : SxL X WO ft as q.2 := ih _ _ X sc WO _ xo c4
  have pp := hl.plain
  have pa := hl.pa c3
  obtain ⟨p, e, hg, hm, _⟩ := xo.blt c1
  refine ⟨fun z => (by cases z), fun _ tg _ => ?_⟩
  rw [e]
  unfold rgLen at c2
  match hys : q.2 with
  | [] => rw [hys] at c2; cases c2
  | [y] =>
    rw [hys] at hl pp pa
    obtain ⟨a, rfl⟩ := hl.one
    simp only [allPlain, Bool.and_true] at pp
    exact i_rng1 hg hm pa pp
  | [y, z] =>
    rw [hys] at hl pp pa
    obtain ⟨a, b, rfl⟩ := hl.two
    simp only [allPlain, Bool.and_true, Bool.and_eq_true] at pp
    exact i_rng2 hg hm pa pp.1 pp.2
  | _ :: _ :: _ :: _ => rw [hys] at c2; simp at c2
theorem s_enu {a : E} (iha : Sound ft CA a) : Sound ft CA (.enu a) := by
  intro g k X sc WO t xo c
  simp only [chk] at c
  split at c
  case h_2 => cases c
  rename_i q hq
  obtain ⟨pos, ht⟩ := vC1_ok hq
  subst ht
  simp only [Bool.and_eq_true] at c
  obtain ⟨⟨⟨c1, c2⟩, c3⟩, c4⟩ := c
  obtain ⟨p, e, hg, hm, _⟩ := xo.blt c1
  have pa := a_cons ((iha _ _ X sc WO _ xo c4).pe c3) a_nil c2
  refine ⟨fun z => (by cases z), fun _ tg ht => ?_⟩
  rw [e]
  rcases ht with ht | ht
  · cases tg <;> try cases ht
    exact i_enu hg hm pa c2
  · cases ht
theorem s_zip {as : E} (ih : Sound ft CA as) : Sound ft CA (.zip as) := by
  intro g k X sc WO t xo c
  simp only [chk] at c
  split at c
  case h_2 => cases c
  rename_i q hq
  obtain ⟨pos, ht⟩ := vC2_ok hq
  subst ht
  simp only [Bool.and_eq_true] at c
  obtain ⟨⟨c1, c2⟩, c3⟩ := c
  have hl : SxL X WO ft as [q.2.1, q.2.2] := ih _ _ X sc WO _ xo c3
  have pp := hl.plain
  simp only [allPlain, Bool.and_true, Bool.and_eq_true] at pp
  obtain ⟨p, e, hg, hm, _⟩ := xo.blt c1
  refine ⟨fun z => (by cases z), fun _ tg ht => ?_⟩
  rw [e]
  rcases ht with ht | ht
  · cases tg <;> try cases ht
    exact i_zip hg hm (hl.pa c2) pp.1 pp.2
  · cases ht
structure LcP (X : Cx) (WO : WN) (ft : Ft) (vs : List Nat) (t' : T) (it cnd elt : E) (x tg i : Expr) (ifs : List Expr) (scope : Scope) : Prop where
  pi : PI X tg i (tI X.K X.w WO (ev ft it))
  ok : BlkOk X.N X.env.scope scope (pairsOf X.N vs)
  hv : (pairsOf X.N vs).map (·.2) = vs
  ht : ∀ j ∈ tgV t', j ∈ vs
  hp : plain i = true
  hg : ∀ (s : Shared) (H : Hp) (C : Addr) (cl : List (Str × Addr)) (fp : List Addr), PG (X.blk s H scope (compEnvC scope cl C X.env) fp) tg (gT X.K X.w t')
  hc : ∀ (s : Shared) (H : Hp) (C : Addr) (cl : List (Str × Addr)) (fp : List Addr), PTs (X.blk s H scope (compEnvC scope cl C X.env) fp) ifs (ctT X.K X.w ft cnd)
  he : ∀ (s : Shared) (H : Hp) (C : Addr) (cl : List (Str × Addr)) (fp : List Addr), PE (X.blk s H scope (compEnvC scope cl C X.env) fp) x (tE X.K X.w WF (ev ft elt))
theorem lc_parts {vs : List Nat} {t' : T} {it cnd elt : E} (ihi : Sound ft CA it) (ihc : Sound ft CA cnd) (ihe : Sound ft CA elt) {g : Cg} {k : Nat} {X : Cx} {sc : Scope} {WO : WN} {t : Tg} (xo : XOk g k ft CA X sc WO) (c : chk g k X.N (.lc vs t' it cnd elt) sc t = true) :
    ∃ x tg i ifs scope pos, t = .ex (.ListComp x [⟨tg, i, ifs, 0⟩] scope pos) ∧ LcP X WO ft vs t' it cnd elt x tg i ifs scope := by
  simp only [chk] at c
  split at c
  case h_2 => cases c
  rename_i q hq
  obtain ⟨pos, ht⟩ := vLc_ok hq
  subst ht
  simp only [Bool.and_eq_true] at c
  obtain ⟨⟨⟨⟨⟨⟨⟨⟨⟨⟨c1, c2⟩, c3⟩, c4⟩, c5⟩, c6⟩, c7⟩, c8⟩, c9⟩, c10⟩, c11⟩ := c
  have hok := xo.scp.blkOk (blkOk_by c1)
  have hv : (pairsOf X.N vs).map (·.2) = vs := by simpa using c2
  have htg : ∀ j ∈ tgV t', j ∈ vs := fun j hj => by
    have := List.all_eq_true.mp c3 j hj
    simpa using this
  refine ⟨q.1, q.2.1, q.2.2.1, q.2.2.2.1, q.2.2.2.2, pos, rfl, (ihi _ _ X sc WO _ xo c7).pi c4 c6, hok, hv, htg, c5,
    (fun s H C cl fp => snd_T (X := X.blk s H q.2.2.2.2 (compEnvC q.2.2.2.2 cl C X.env) fp) (sc := q.2.2.2.2) xo.calm xo.nd ScOk.blk xo.blk.fnc t' (.ex q.2.1) c8),
    (fun s H C cl fp => ?_),
    (fun s H C cl fp => (ihe _ _ (X.blk s H q.2.2.2.2 (compEnvC q.2.2.2.2 cl C X.env) fp) q.2.2.2.2 WF _ xo.blk c10).pe c9)⟩
  match hifs : q.2.2.2.1 with
  | [] =>
    rw [hifs] at c11
    have : cnd = .nil := by cases cnd <;> first | rfl | cases c11
    subst this
    exact pts_nil
  | [cc] =>
    rw [hifs] at c11
    simp only [Bool.and_eq_true] at c11
    obtain ⟨⟨⟨d1, d2⟩, d3⟩, d4⟩ := c11
    have hct : ctT X.K X.w ft cnd = tT X.K X.w WF (ev ft cnd) := by
      cases cnd <;> first | rfl | cases d3
    rw [hct]
    exact pts_one ((ihc _ _ (X.blk s H q.2.2.2.2 (compEnvC q.2.2.2.2 cl C X.env) fp) q.2.2.2.2 WF _ xo.blk d4).pt d2)
  | _ :: _ :: _ => rw [hifs] at c11; simp at c11
/-- a block's value is a new list -/
theorem lc_new {vs : List Nat} {t' : T} {it cnd elt : E} {env : Env} {y : D × Env} (e : ev ft (.lc vs t' it cnd elt) env = .ok y) : isCont y.1 = true := by
  have e' : ((ev ft it env).bind fun x => (items x.1).bind fun ds => (mapL (turnF ft t' vs cnd elt) ds x.2).bind fun r => if r.1.length ≤ SZ then R.ok (D.lst r.1, r.2) else .bad) = .ok y := e
  cases q1 : ev ft it env with
  | exc _ _ => rw [q1] at e'; cases e'
  | bad => rw [q1] at e'; cases e'
  | ok x =>
    rw [q1] at e'
    simp only [R.bind] at e'
    cases q2 : items x.1 with
    | exc _ _ => rw [q2] at e'; cases e'
    | bad => rw [q2] at e'; cases e'
    | ok ds =>
      rw [q2] at e'
      simp only [R.bind] at e'
      cases q3 : mapL (turnF ft t' vs cnd elt) ds x.2 with
      | exc _ _ => rw [q3] at e'; cases e'
      | bad => rw [q3] at e'; cases e'
      | ok r =>
        rw [q3] at e'
        simp only [R.bind] at e'
        split at e' <;> cases e'
        rfl
theorem s_dct {es : E} : Sound ft CA (.dct es) := by
  intro g k X sc WO t xo c
  simp only [chk, Bool.and_eq_true] at c
  obtain ⟨pos, rfl⟩ := vDct_ok c.1
  have := isNil_ok c.2
  subst this
  exact .mk1 rfl n_dct0
theorem s_dup {d a b : E} (ihd : Sound ft CA d) (iha : Sound ft CA a) (ihb : Sound ft CA b) : Sound ft CA (.dup d a b) := by
  intro g k X sc WO t xo c
  simp only [chk] at c
  split at c
  case h_2 => cases c
  rename_i q hq
  obtain ⟨pos, ht⟩ := vDup_ok hq
  subst ht
  simp only [Bool.and_eq_true] at c
  obtain ⟨⟨⟨⟨⟨c1, c2⟩, c3⟩, c4⟩, c5⟩, c6⟩ := c
  exact .mk1 rfl (n_dup ((ihd _ _ X sc WO _ xo c4).pe c1) ((iha _ _ X sc WO _ xo c5).pe c2) ((ihb _ _ X sc WO _ xo c6).pe c3))
theorem s_mrg {d a : E} (ihd : Sound ft CA d) (iha : Sound ft CA a) : Sound ft CA (.mrg d a) := by
  intro g k X sc WO t xo c
  simp only [chk] at c
  split at c
  case h_2 => cases c
  rename_i q hq
  obtain ⟨pos, ht⟩ := vMrg_ok hq
  subst ht
  simp only [Bool.and_eq_true] at c
  obtain ⟨⟨⟨c1, c2⟩, c3⟩, c4⟩ := c
  exact .mk1 rfl (n_mrg ((ihd _ _ X sc WO _ xo c3).pe c1) ((iha _ _ X sc WO _ xo c4).pe c2))
theorem s_lc {vs : List Nat} {t' : T} {it cnd elt : E} (ihi : Sound ft CA it) (ihc : Sound ft CA cnd) (ihe : Sound ft CA elt) : Sound ft CA (.lc vs t' it cnd elt) := by
  intro g k X sc WO t xo c
  obtain ⟨x, tg, i, ifs, scope, pos, rfl, P⟩ := lc_parts ihi ihc ihe xo c
  have pe := n_lc (ft := ft) (pos := pos) xo.calm xo.nd P.pi P.ok P.hv P.ht P.hp P.hg P.hc P.he
  have he : PE X (.ListComp x [⟨tg, i, ifs, 0⟩] scope pos) (tE X.K X.w WO (ev ft (.lc vs t' it cnd elt))) := peW pe fun σ H Q ⟨G, env, ok, kk⟩ => toO ok (kk.mono fun y e f => ⟨lc_new e, f⟩)
  exact .mk1 rfl ⟨fun _ => he, fun _ => peB he, fun _ => pe, fun _ => ptE he fun _ => rfl, fun i z => by cases z⟩
theorem s_rev {a : E} (iha : Sound ft CA a) : Sound ft CA (.rev a) := by
  intro g k X sc WO t xo c
  simp only [chk] at c
  split at c
  case h_2 => cases c
  rename_i q hq
  obtain ⟨j, p1, p2, p3, pos, ht⟩ := vRev_ok hq
  subst ht
  simp only [Bool.and_eq_true] at c
  exact .mk1 rfl (n_rev ((iha _ _ X sc WO _ xo c.2).pb c.1))
theorem s_tri {f : Nat} {e : E} (ihe : Sound ft CA e) : Sound ft CA (.tri f e) := by
  intro g k X sc WO t xo c
  simp only [chk] at c
  split at c
  case h_2 => cases c
  rename_i q hq
  obtain ⟨p, lpos, pos, ht⟩ := vTri_ok hq
  subst ht
  simp only [Bool.and_eq_true, decide_eq_true_eq, List.contains_iff_mem] at c
  obtain ⟨⟨⟨⟨⟨⟨⟨⟨⟨c1, c2⟩, c3⟩, c4⟩, c5⟩, c6⟩, c7⟩, c8⟩, c9⟩, c10⟩ := c
  have Ls0 := LamX.lamS_by c8
  have Ls : LamX.LamS X.env.scope q.2.2.2 := ⟨Ls0.kind, Ls0.co, Ls0.gen, Ls0.own, fun y hy e => by
    rcases Ls0.free y hy e with z | z
    · obtain ⟨k', h1, h2⟩ := xo.scp _ _ z
      rcases h2 with rfl | ⟨h2, _⟩
      · exact .inl h1
      · cases h2
    · obtain ⟨k', h1, h2⟩ := xo.scp _ _ z
      rcases h2 with rfl | ⟨_, rfl⟩
      · exact .inr h1
      · exact .inl h1⟩
  exact .mk1 rfl (n_tri (xo.fx.refs f q.1 c3 c2) (xo.scp.gl c5) (nameOk_ c6).1 (xo.lam c1) xo.room Ls c7 fun A outer s H E fl c' hr => (ihe g.nt (k - 2) _ q.2.2.2 _ _ (xo.lamC c4 Ls hr) c10).pe c9)
theorem snd_E : ∀ e : E, Sound ft CA e := by
  intro e
  induction e with
  | nil =>
    intro g k X sc WO t xo c
    simp only [chk] at c
    have := isNilT_ok c
    subst this
    exact True.intro
  | cons a b iha ihb => exact s_cons iha ihb
  | loc i =>
    intro g k X sc WO t xo c
    simp only [chk] at c
    split at c
    case h_2 => cases c
    rename_i x hx
    have := vEx_ok hx
    subst this
    obtain ⟨n, p, rfl, h1, h2, h3, h4⟩ := xo.var c
    exact .mk1 rfl (n_loc h1 h2 h3 h4)
  | bor i =>
    intro g k X sc WO t xo c
    simp only [chk] at c
    split at c
    case h_2 => cases c
    rename_i x hx
    have := vEx_ok hx
    subst this
    obtain ⟨n, p, rfl, h1, h2, h3, h4⟩ := xo.var c
    exact .mk1 rfl (n_bor h1 h2 h3 h4)
  | cst d =>
    intro g k X sc WO t xo c
    simp only [chk] at c
    split at c
    case h_2 => cases c
    rename_i x hx
    have := vEx_ok hx
    subst this
    exact .mk1 rfl (cst_ok xo c)
  | bin o a b iha ihb => exact s_bin iha ihb
  | neg a iha => exact s_neg iha
  | not a iha => exact s_not iha
  | cmp o a b iha ihb => exact s_cmp iha ihb
  | chn o o' a b c iha ihb ihc => exact s_chn iha ihb ihc
  | and a b iha ihb => exact s_and iha ihb
  | or a b iha ihb => exact s_or iha ihb
  | ife c a b ihc iha ihb => exact s_ife ihc iha ihb
  | tup es ih => exact s_tup ih
  | lst es ih => exact s_lst ih
  | dct es ih => exact s_dct
  | dup d a b ihd iha ihb => exact s_dup ihd iha ihb
  | mrg d a ihd iha => exact s_mrg ihd iha
  | sub a i iha ihi => exact s_sub iha ihi
  | sli a lo hi iha ihl ihh => exact s_sli iha ihl ihh
  | rev a iha => exact s_rev iha
  | call f io fr as ih => exact s_call ih
  | blt f as ih => exact s_blt ih
  | met m a as iha ih => exact s_met iha ih
  | pop i as ih => exact s_pop ih
  | isi a t iha => exact s_isi iha
  | rng as ih => exact s_rng ih
  | enu a iha => exact s_enu iha
  | zip as ih => exact s_zip ih
  | lc vs t it cnd elt ihi ihc ihe => exact s_lc ihi ihc ihe
  | tri f e ihe => exact s_tri ihe
  | lc2 vs vs1 t it cnd t1 it1 cnd1 elt _ _ _ _ _ => intro g k X sc WO t xo c; simp only [chk, Bool.false_eq_true] at c
end
end Py
end
section
set_option linter.all false
set_option maxRecDepth 100000
set_option maxHeartbeats 4000000
/-! PySnd18: statements: readings. -/
namespace Py
open PySem PySem.Spec PyProof.Rows L2
variable [tb : Tb]

/-- what is handed back -/
def RetV (K : Fg) (w : World) (fr : Bool) (H : Hp) (σ : Sg) (env : Env) (G' H' : Hp) (σ' : Sg) (env' : Env) (v : V) (d : D) : Prop :=
  if fr = true then isCont d = true ∧ ∃ p, v = .ref p ∧ G' p = none ∧ Cont K w G' H' p d ∧ ¬ Ow σ' env' p ∧ (Fsh H p ∨ Ow σ env p) else Rep K w G' v d
/-- what is asked of a statement's end -/
def KS (K : Fg) (w : World) (fr : Bool) (WO : WN) (G H : Hp) (σ : Sg) (env : Env) (r : SR) (nx : Sg → Hp → Prop) (rt : VK) : Prop := match r with
  | .nx env' => ∀ σ' G' H', Go G H σ env G' H' σ' env' → EOk K w G' H' σ' env' → nx σ' H'
  | .rt d env' => ∀ v σ' G' H', Go G H σ env G' H' σ' env' → EOk K w G' H' σ' env' → RetV K w fr H σ env G' H' σ' env' v d → rt v H'
  | .ex c d => ∀ σ' H', Fr H σ env H' → WO c d σ' H'
  | .bad => False
def tS (K : Fg) (w : World) (fr : Bool) (WO : WN) (rf : Env → SR) : TS := fun D σ H => ∃ G env, EOk K w G H σ env ∧ KS K w fr WO G H σ env (rf env) D.nx D.rt
section
variable {K : Fg} {w : World} {fr : Bool} {WO : WN} {G H G' H' : Hp} {σ σ' : Sg} {env env' : Env} {nx nx' : Sg → Hp → Prop} {rt : VK}
theorem RetV.go {G2 H2 : Hp} {σ2 : Sg} {env2 : Env} {v : V} {d : D} (r : RetV K w fr H' σ' env' G2 H2 σ2 env2 v d) (g : Go G H σ env G' H' σ' env') : RetV K w fr H σ env G2 H2 σ2 env2 v d := by
  unfold RetV at r ⊢
  split
  · rename_i h
    rw [if_pos h] at r
    obtain ⟨c, p, rfl, h1, h2, h3, h4⟩ := r
    refine ⟨c, p, rfl, h1, h2, h3, ?_⟩
    rcases h4 with h4 | h4
    · exact g.back h4
    · rcases g.ow p h4 with z | z
      · exact .inr z
      · exact .inl z
  · rename_i h
    rw [if_neg h] at r
    exact r
theorem KS.go {r : SR} (h : KS K w fr WO G H σ env r nx rt) (g : Go G H σ env G' H' σ' env') : KS K w fr WO G' H' σ' env' r nx rt := by
  cases r with
  | nx e => exact fun σ2 G2 H2 g2 ok => h σ2 G2 H2 (g.trans g2) ok
  | rt d e => exact fun v σ2 G2 H2 g2 ok r => h v σ2 G2 H2 (g.trans g2) ok (r.go g)
  | ex c d => exact fun σ2 H2 f => h σ2 H2 (g.fr' f)
  | bad => exact h
theorem KS.thn {r : SR} {f : Env → SR} (h : KS K w fr WO G H σ env (r.thn f) nx rt) : KS K w fr WO G H σ env r (fun σ' H' => ∃ G' e', EOk K w G' H' σ' e' ∧ KS K w fr WO G' H' σ' e' (f e') nx rt) rt := by
  cases r with
  | nx e => exact fun σ2 G2 H2 g2 ok => ⟨G2, e, ok, KS.go h g2⟩
  | rt d e => exact h
  | ex c d => exact h
  | bad => exact h
theorem KS.mono {r : SR} (h : KS K w fr WO G H σ env r nx rt) (f : ∀ σ' H', nx σ' H' → nx' σ' H') : KS K w fr WO G H σ env r nx' rt := by
  cases r with
  | nx e => exact fun σ2 G2 H2 g2 ok => f _ _ (h σ2 G2 H2 g2 ok)
  | rt d e => exact h
  | ex c d => exact h
  | bad => exact h
theorem KS.thnS {r : SR} {f : Env → SR} (h : KS K w fr WO G H σ env (r.thn f) nx rt) : KS K w fr WO G H σ env r (fun σ' H' => ∃ G' e', Sub G G' ∧ EOk K w G' H' σ' e' ∧ KS K w fr WO G' H' σ' e' (f e') nx rt) rt := by
  cases r with
  | nx e => exact fun σ2 G2 H2 g2 ok => ⟨G2, e, g2.gs, ok, KS.go h g2⟩
  | rt d e => exact h
  | ex c d => exact h
  | bad => exact h
theorem sto_noexc {i : Nat} {s : Slot} {e : Env} (c : Nat) (dd : D) : sto e i s ≠ .exc c dd := fun q => by
  unfold sto at q; split at q <;> cases q
mutual
theorem asgT_noexc : ∀ (t : T) (d : D) (e : Env) (c : Nat) (dd : D), asgT t d e ≠ .exc c dd
  | .v i, d, e, c, dd => sto_noexc c dd
  | .tu a, d, e, c, dd => fun q => by
    cases d <;> first
      | exact asgTs_noexc a _ e c dd q
      | cases q
  | .nil, d, e, c, dd => fun q => by cases q
  | .cons a b, d, e, c, dd => fun q => by cases q
theorem asgTs_noexc : ∀ (t : T) (ds : List D) (e : Env) (c : Nat) (dd : D), asgTs t ds e ≠ .exc c dd
  | .v i, ds, e, c, dd => fun q => by cases ds <;> cases q
  | .tu a, ds, e, c, dd => fun q => by cases ds <;> cases q
  | .nil, ds, e, c, dd => fun q => by cases ds <;> cases q
  | .cons a b, [], e, c, dd => fun q => by cases q
  | .cons a b, d :: ds, e, c, dd => fun q => by
    have q : ((asgT a d e).bind fun e => asgTs b ds e) = .exc c dd := q
    cases h : asgT a d e with
    | ok e1 => rw [h] at q; exact asgTs_noexc b ds e1 c dd q
    | exc c' d' => exact asgT_noexc a d e c' d' h
    | bad => rw [h] at q; cases q
end
/-- an expression ahead -/
theorem KS.ofR {α : Type} {r : R α} {f : α → SR} (h : KS K w fr WO G H σ env (SR.ofR r f) nx rt) : K1 WO H σ env r fun x => KS K w fr WO G H σ env (f x) nx rt := by
  cases r with
  | ok x => exact h
  | exc c d => exact fun H' f => h σ H' f
  | bad => exact h
end
section
variable {X : Cx} {fr : Bool} {WO : WN} {st : Stmt} {sts : List Stmt}
theorem psW {t t' : TS} (h : PS X st t) (f : ∀ D σ H, t' D σ H → t D σ H) : PS X st t' := ⟨fun pins s σ H D I q => h.run pins s σ H D I (f D σ H q)⟩
theorem pssW {t t' : TS} (h : PSs X sts t) (f : ∀ D σ H, t' D σ H → t D σ H) : PSs X sts t' := ⟨fun pins s σ H D I q => h.run pins s σ H D I (f D σ H q)⟩
abbrev tSx (X : Cx) (fr : Bool) (WO : WN) (rf : Env → SR) : TS := tS X.K X.w fr WO rf
variable {ft : Ft}
theorem q_nil : PSs X [] (tSx X fr WO (evS ft .nil)) := pssW pss_nil fun D σ H ⟨G, env, ok, k⟩ => k σ G H .refl ok
theorem q_cons {a b : S} (ha : PS X st (tSx X fr WO (evS ft a))) (hb : PSs X sts (tSx X fr WO (evS ft b))) : PSs X (st :: sts) (tSx X fr WO (evS ft (.cons a b))) :=
  pssW (pss_cons ha hb) fun D σ H ⟨G, env, ok, k⟩ => ⟨G, env, ok, KS.thn (r := evS ft a env) k⟩
theorem q_ite {c : E} {a b : S} {x : Expr} {as bs : List Stmt} {pos : Pos} (hc : PT X x (tT X.K X.w WO (ev ft c))) (ha : PSs X as (tSx X fr WO (evS ft a))) (hb : PSs X bs (tSx X fr WO (evS ft b))) : PS X (.If x as bs pos) (tSx X fr WO (evS ft (.ite c a b))) :=
  psW (ps_if hc ha hb) fun D σ H ⟨G, env, ok, k⟩ => ⟨G, env, ok, by
    have k0 : KS X.K X.w fr WO G H σ env (SR.ofR (ev ft c env) fun x => SR.ofR (bool x) fun k => if k.1 = true then evS ft a k.2 else evS ft b k.2) D.nx D.rt := k
    have k1 := k0.ofR
    have k2 : K1 WO H σ env ((ev ft c env).bind bool) fun z => KS X.K X.w fr WO G H σ env (if z.1 = true then evS ft a z.2 else evS ft b z.2) D.nx D.rt := by
      cases q : ev ft c env with
      | ok x =>
        rw [q] at k1
        exact (KS.ofR (r := bool x) k1)
      | exc c d => rw [q] at k1; exact k1
      | bad => rw [q] at k1; exact k1
    refine k2.mono fun z _ h G' H' go ok' => ?_
    obtain ⟨zb, ze⟩ := z
    cases zb with
    | true => exact ⟨G', ze, ok', KS.go (G := G) h go⟩
    | false => exact ⟨G', ze, ok', KS.go (G := G) h go⟩⟩
theorem q_ret {e : E} {x : Expr} {pos : Pos} (he : PE X x (tE X.K X.w WO (ev ft e))) : PS X (.Return (some x) pos) (tSx X false WO (evS ft (.ret e))) :=
  psW (ps_ret he) fun D σ H ⟨G, env, ok, k⟩ => ⟨G, env, ok, (KS.ofR (r := ev ft e env) k).mono fun z _ h v G' H' go ok' r => h v σ G' H' go ok' r⟩
theorem q_ret0 {pos : Pos} : PS X (.Return none pos) (tSx X false WO (evS ft .ret0)) :=
  psW ps_retN fun D σ H ⟨G, env, ok, k⟩ => k .non σ G H .refl ok .non
theorem q_pass {pos : Pos} : PS X (.Pass pos) (tSx X fr WO (evS ft .pas)) := psW ps_pass fun D σ H ⟨G, env, ok, k⟩ => k σ G H .refl ok
theorem New.ret {K : Fg} {w : World} {G H H2 : Hp} {σ : Sg} {env : Env} {z : D} {v : V} (ok : EOk K w G H σ env) (c : isCont z = true) (n : New K w G H z v H2) :
    ∃ p o, v = .ref p ∧ H p = none ∧ H2 = upd H p o ∧ EOk K w G H2 σ env ∧ Go G H σ env G H2 σ env ∧ RetV K w true H σ env G H2 σ env v z := by
  obtain ⟨p, o, rfl, hp, rfl, cc⟩ := n
  have gr : Grow G H G (upd H p o) := .waste ok.sub hp
  have ok' := ok.grow gr
  refine ⟨p, o, rfl, hp, rfl, ok', .grow gr, ?_⟩
  unfold RetV
  rw [if_pos rfl]
  have no : ¬ Ow σ env p := fun q => by
    obtain ⟨u, hu, _⟩ := (ok.ow q).2
    rw [hp] at hu; cases hu
  exact ⟨c, p, rfl, ok.sub.none hp, cc, no, .inl (.of hp)⟩
def ownB : E → Bool
  | .bor _ => true
  | _ => false
theorem q_reO {e : E} {x : Expr} {pos : Pos} (hn : ownB e = false) (he : PE X x (tO X.K X.w WO (ev ft e))) : PS X (.Return (some x) pos) (tSx X true WO (evS ft (.reO e))) :=
  psW (ps_ret he) fun D σ H ⟨G, env, ok, k⟩ => ⟨G, env, ok, by
    have k0 : KS X.K X.w true WO G H σ env (SR.ofR (ev ft e env) fun x => if isCont x.1 = true then .rt x.1 x.2 else .bad) D.nx D.rt := by
      cases e <;> first
        | exact k
        | cases hn
    refine (KS.ofR (r := ev ft e env) k0).mono fun z _ h => ?_
    by_cases hc : isCont z.1 = true
    · rw [if_pos hc] at h
      refine ⟨hc, fun v G' H' H2 go ok' n => ?_⟩
      obtain ⟨p, o, rfl, hp, rfl, ok2, go2, rv⟩ := n.ret ok' hc
      exact h _ σ G' _ (go.trans go2) ok2 (rv.go go)
    · rw [if_neg hc] at h; exact h.elim⟩
theorem EOk.drop {K : Fg} {w : World} {G H : Hp} {σ : Sg} {env : Env} (ok : EOk K w G H σ env) {i : Nat} {d : D} (h : env[i]? = some (.own d)) : EOk K w G H σ (env.set i .no) ∧ Go G H σ env G H σ (env.set i .no) := by
  have hi : i < env.length := (List.getElem?_eq_some_iff.mp h).1
  have bk : ∀ (j : Nat) (s : Slot), (env.set i .no)[j]? = some s → s = .no ∨ (i ≠ j ∧ env[j]? = some s) := fun j s hj => by
    rw [gset] at hj
    split at hj
    · try rw [if_pos hi] at hj
      cases hj; exact .inl rfl
    · exact .inr ⟨by assumption, hj⟩
  refine ⟨⟨ok.sub, by rw [List.length_set]; exact ok.len, fun j s hj => ?_, fun j k s t q hj hk hs ht a b => ?_, ok.tabs, ok.ntb⟩, ⟨.refl _, fun a o h _ _ => h, fun a o h n => (by rw [h] at n; cases n), fun a q => ?_, fun j d' hj => ?_, .refl _⟩⟩
  · rcases bk j s hj with rfl | ⟨_, h2⟩
    · trivial
    · exact ok.slot j s h2
  · rcases bk j s hj with rfl | ⟨_, h2⟩
    · exact (hs rfl).elim
    · rcases bk k t hk with rfl | ⟨_, h3⟩
      · exact (ht rfl).elim
      · exact ok.apart j k s t q h2 h3 hs ht a b
  · obtain ⟨j, s, hj, hc, hq⟩ := q
    rcases bk j s hj with rfl | ⟨_, h2⟩
    · exact (hc rfl).elim
    · exact .inl ⟨j, s, h2, hc, hq⟩
  · rcases bk j _ hj with z | ⟨_, h2⟩
    · cases z
    · exact ⟨⟨d', h2⟩, rfl⟩
theorem q_reB {i : Nat} {x : Expr} {pos : Pos} (he : PE X x (L2.tVar i)) : PS X (.Return (some x) pos) (tSx X true WO (evS ft (.reO (.bor i)))) :=
  psW (ps_ret he) fun D σ H ⟨G, env, ok, k⟩ => by
    have k0 : KS X.K X.w true WO G H σ env (if ownAt env i = true then SR.ofR (Py.rd env i) fun d => .rt d (env.set i .no) else .bad) D.nx D.rt := k
    by_cases ho : ownAt env i = true
    · rw [if_pos ho] at k0
      obtain ⟨d, e1, k1⟩ := (KS.ofR (r := Py.rd env i) k0).ok fun _ _ => rd_noexc
      have hs : env[i]? = some (.own d) := by
        unfold ownAt at ho
        unfold Py.rd at e1
        split at ho
        · rename_i q
          rw [q] at e1 ⊢
          cases e1
          rfl
        · cases ho
      obtain ⟨p, hp, hg, hc⟩ := ok.slot i _ hs
      obtain ⟨ok2, go2⟩ := ok.drop hs
      have hcc : isCont d = true := by cases d <;> first | rfl | exact hc.elim
      refine ⟨.ref p, hp, k1 (.ref p) σ G H go2 ok2 ?_⟩
      unfold RetV
      rw [if_pos rfl]
      refine ⟨hcc, p, rfl, hg, hc, fun q => ?_, .inr ⟨i, _, hs, (by intro z; cases z), hp⟩⟩
      obtain ⟨j, s, hj, hcs, hq⟩ := q
      rw [gset] at hj
      split at hj
      · rename_i z
        split at hj
        · cases hj; exact hcs rfl
        · cases hj
      · rename_i z
        exact z (ok.apart i j _ s p hs hj (by intro z; cases z) hcs hp hq)
    · rw [if_neg ho] at k0; exact k0.elim
theorem q_whl {c : E} {b : S} {x : Expr} {bs : List Stmt} {pos : Pos} (hp : PassesOwn (model X.prog X.w) X.A X.env X.xe) (hc : PT X x (tT X.K X.w WO (ev ft c))) (hb : PSs X bs (tSx X fr WO (evS ft b))) : PS X (.While x bs [] pos) (tSx X fr WO (evS ft (.whl c b))) :=
  psW (ps_while hp hc hb) fun D σ H ⟨G, env, ok, k⟩ => by
    refine ⟨fun m σ H => ∃ G env, EOk X.K X.w G H σ env ∧ KS X.K X.w fr WO G H σ env (whileL (fun e => (ev ft c e).bind bool) (evS ft b) m env) D.nx D.rt, ⟨FUEL, G, env, ok, k⟩, fun m σ H ⟨G, env, ok, k⟩ => ?_⟩
    cases m with
    | zero => exact k.elim
    | succ m =>
      refine ⟨G, env, ok, (KS.ofR (r := (ev ft c env).bind bool) k).mono fun z _ h G' H' go ok' => ?_⟩
      obtain ⟨zb, ze⟩ := z
      cases zb with
      | false => exact h σ G' H' go ok'
      | true =>
        have h1 : KS X.K X.w fr WO G H σ env ((evS ft b ze).thn (whileL (fun e => (ev ft c e).bind bool) (evS ft b) m)) D.nx D.rt := h
        exact ⟨fun σ' H' => ∃ G env, EOk X.K X.w G H' σ' env ∧ KS X.K X.w fr WO G H' σ' env (whileL (fun e => (ev ft c e).bind bool) (evS ft b) m env) D.nx D.rt, fun σ' H' q => ⟨m, Nat.lt_succ_self m, q⟩, G', ze, ok', (h1.go go).thn⟩
theorem q_for {t : T} {it : E} {b : S} {tg x : Expr} {bs : List Stmt} {pos : Pos} (hp : PassesOwn (model X.prog X.w) X.A X.env X.xe) (hc : X.calm = true) (hi : PI X tg x (tI X.K X.w WO (ev ft it))) (hg : PG X tg (gT X.K X.w t)) (hb : PSs X bs (tSx X fr WO (evS ft b))) (hpl : plain x = true) :
    PS X (.For tg x bs [] pos) (tSx X fr WO (evS ft (.for_ t it b))) :=
  psW (ps_for hp hc hi hg hb (fold_plain hpl)) fun En σ H ⟨G, env, ok, k⟩ => ⟨G, env, ok, (KS.ofR (r := ev ft it env) k).mono fun z _ h => by
    obtain ⟨ds, hds, h2⟩ := (KS.ofR (r := items z.1) h).ok (items_noexc z.1)
    refine ⟨ds, hds, fun J G1 H1 go1 ok1 wk => ?_⟩
    let f : D → Env → SR := fun d e => SR.ofR (asgT t d e) fun e1 => evS ft b e1
    have h3 : KS X.K X.w fr WO G H σ env (forL f ds z.2) En.nx En.rt := h2
    refine ⟨fun i m σ2 H2 => m + i = ds.length ∧ ∃ G2 e2, EOk X.K X.w G2 H2 σ2 e2 ∧ Sub G1 G2 ∧ KS X.K X.w fr WO G2 H2 σ2 e2 (forL f (ds.drop i) e2) En.nx En.rt, ⟨ds.length, rfl, G1, z.2, ok1, .refl _, by rw [List.drop_zero]; exact h3.go go1⟩, fun i m σ2 H2 ⟨hm, G2, e2, ok2, s2, k2⟩ => ?_⟩
    by_cases hl : ds.length ≤ i
    · left
      refine ⟨wk.stop i G2 H2 hl s2 ok2.sub, ?_⟩
      rw [List.drop_eq_nil_of_le hl] at k2
      exact k2 σ2 G2 H2 .refl ok2
    · right
      have hl : i < ds.length := Nat.lt_of_not_le hl
      refine ⟨wk.go i G2 H2 hl s2 ok2.sub, fun σ' H' => ∃ G2 e2, EOk X.K X.w G2 H' σ' e2 ∧ Sub G1 G2 ∧ KS X.K X.w fr WO G2 H' σ' e2 (forL f (ds.drop (i + 1)) e2) En.nx En.rt, fun σ' H' q => ⟨m - 1, by omega, by omega, q⟩, fun xv H3 hy => ?_⟩
      obtain ⟨G3, gr3, rx⟩ := wk.yld i G2 H2 xv H3 ds[i] (List.getElem?_eq_getElem hl) s2 ok2.sub hy
      have ok3 := ok2.grow gr3
      rw [List.drop_eq_getElem_cons hl] at k2
      have k3 : KS X.K X.w fr WO G2 H2 σ2 e2 ((f ds[i] e2).thn (forL f (ds.drop (i + 1)))) En.nx En.rt := k2
      have k4 : KS X.K X.w fr WO G3 H3 σ2 e2 (SR.ofR (asgT t ds[i] e2) fun e1 => evS ft b e1) (fun σ' H' => ∃ G' e', Sub G3 G' ∧ EOk X.K X.w G' H' σ' e' ∧ KS X.K X.w fr WO G' H' σ' e' (forL f (ds.drop (i + 1)) e') En.nx En.rt) En.rt := (k3.go (.grow gr3)).thnS
      obtain ⟨e4, he4, k5⟩ := (KS.ofR (r := asgT t ds[i] e2) k4).ok (asgT_noexc t ds[i] e2)
      exact ⟨G3, e2, ds[i], e4, ok3, rx, he4, fun σ4 ok4 go4 _ => ⟨G3, e4, ok4, (KS.go k5 go4).mono fun σ' H' ⟨G5, e5, s5, ok5, k⟩ => ⟨G5, e5, ok5, s2.trans (gr3.gs.trans s5), k⟩⟩⟩⟩
end
end Py
end
section
set_option linter.all false
set_option maxRecDepth 100000
set_option maxHeartbeats 4000000
/-! PySnd19: statements: stores. -/
namespace Py
open PySem PySem.Spec PyProof.Rows L2
variable [tb : Tb]
section
variable {X : Cx} {fr : Bool} {WO : WN} {ft : Ft}
/-- target = value, the value kept -/
theorem asg_conv {t : T} {e : E} : ∀ D σ H, tSx X fr WO (evS ft (.asg t e)) D σ H → tAsg (tE X.K X.w WO (ev ft e)) (gT X.K X.w t) D σ H := fun En σ H ⟨G, env, ok, k⟩ =>
  ⟨G, env, ok, (KS.ofR (r := ev ft e env) k).mono fun z _ h v G' H' go ok' r => by
    obtain ⟨e4, he4, k5⟩ := (KS.ofR (r := asgT t z.1 z.2) h).ok (asgT_noexc t z.1 z.2)
    exact ⟨G', z.2, z.1, e4, ok', r, he4, fun σ' ok2 go2 _ => k5 σ' G' H' (go.trans go2) ok2⟩⟩
theorem q_asg {t : T} {e : E} {tg x : Expr} {pos : Pos} (he : PE X x (tE X.K X.w WO (ev ft e))) (hg : PG X tg (gT X.K X.w t)) (hs : swapsWithSole [tg] x pos.line X.env = pure false) (hw : swappedStores [tg] x X.env = pure none) (hp : plain tg = true) :
    PS X (.Assign [tg] x pos) (tSx X fr WO (evS ft (.asg t e))) := psW (ps_asg he hg hs hw (by rw [assignEach_plain hp]; rfl)) asg_conv
/-- name = value -/
theorem name_conv {i : Nat} {e : E} : ∀ D σ H, tSx X fr WO (evS ft (.asg (.v i) e)) D σ H → tAsg (tE X.K X.w WO (ev ft e)) (gName i) D σ H := fun En σ H ⟨G, env, ok, k⟩ =>
  ⟨G, env, ok, (KS.ofR (r := ev ft e env) k).mono fun z _ h v G' H' go ok' r => by
    obtain ⟨e4, he4, k5⟩ := (KS.ofR (r := asgT (.v i) z.1 z.2) h).ok (asgT_noexc (.v i) z.1 z.2)
    obtain ⟨ok2, go2⟩ := ok'.sto he4 r
    exact k5 _ G' H' (go.trans go2) ok2⟩
theorem q_name {i : Nat} {y : Str} {e : E} {x : Expr} {pos py : Pos} (hN : X.N.Nodup) (hi : X.N[i]? = some y) (hy : Loc X.env.scope y) (hf : X.fn y = true ∨ X.env.scope.names.lookup y = some .local) (he : PE X x (tE X.K X.w WO (ev ft e))) (hs : swapsWith x (some (.Name y py)) pos.line X.env = pure false) :
    PS X (.Assign [.Name y py] x pos) (tSx X fr WO (evS ft (.asg (.v i) e))) := psW (ps_set hN hi hy he hs hf) name_conv
theorem own_conv {i : Nat} {e : E} : ∀ D σ H, tSx X fr WO (evS ft (.asO i e)) D σ H → tAsg (tO X.K X.w WO (ev ft e)) (gName i) D σ H := fun En σ H ⟨G, env, ok, k⟩ =>
  ⟨G, env, ok, (KS.ofR (r := ev ft e env) k).mono fun z _ h => by
    by_cases hc : isCont z.1 = true
    · rw [if_pos hc] at h
      obtain ⟨e4, he4, k5⟩ := (KS.ofR (r := sto z.2 i (.own z.1)) h).ok fun _ _ => sto_noexc _ _
      refine ⟨hc, fun v G' H' H2 go ok' n => ?_⟩
      obtain ⟨p, o, rfl, hp, rfl, cc⟩ := n
      obtain ⟨ok2, go2⟩ := ok'.stoO he4 hp cc
      exact k5 _ G' _ (go.trans go2) ok2
    · rw [if_neg hc] at h; exact h.elim⟩
theorem q_own {i : Nat} {y : Str} {e : E} {x : Expr} {pos py : Pos} (hN : X.N.Nodup) (hi : X.N[i]? = some y) (hy : Loc X.env.scope y) (hf : X.fn y = true ∨ X.env.scope.names.lookup y = some .local) (he : PE X x (tO X.K X.w WO (ev ft e))) (hs : swapsWith x (some (.Name y py)) pos.line X.env = pure false) :
    PS X (.Assign [.Name y py] x pos) (tSx X fr WO (evS ft (.asO i e))) := psW (ps_set hN hi hy he hs hf) own_conv
/-- name = [..] on one line -/
theorem lc_frz {vs : List Nat} {t : T} {it cnd elt : E} {own : List (Str × Nat)} (hv : own.map (·.2) = vs) (ht : ∀ j ∈ tgV t, j ∈ vs) : ∀ σ H Q, tE X.K X.w WO (ev ft (.lc vs t it cnd elt)) σ H Q →
    tLc (tI X.K X.w WO (ev ft it)) (gT X.K X.w t) (ctT X.K X.w ft cnd) (tE X.K X.w WF (ev ft elt)) (own.map (·.2)) σ H Q := fun σ H Q ⟨G, env, ok, k⟩ =>
  lc_conv hv ht σ H Q (toO ok (k.mono fun y e f => ⟨lc_new e, f⟩))
theorem tAsgW {te te' : TE} {g : TG} (h : ∀ σ H Q, te' σ H Q → te σ H Q) : ∀ D σ H, tAsg te' g D σ H → tAsg te g D σ H := fun D σ H q => h σ H _ q
theorem q_nameLc {i : Nat} {y : Str} {py pos spos : Pos} {vs : List Nat} {t : T} {it cnd elt : E} {x tg ix : Expr} {ifs : List Expr} {scope : Scope} (hc : X.calm = true) (hN : X.N.Nodup) (hi : X.N[i]? = some y) (hy : X.env.scope.names.lookup y = some .local)
    (hsw : swapsWith (.ListComp x [⟨tg, ix, ifs, 0⟩] scope pos) (some (.Name y py)) spos.line X.env = pure true) (P : LcP X WO ft vs t it cnd elt x tg ix ifs scope) :
    PS X (.Assign [.Name y py] (.ListComp x [⟨tg, ix, ifs, 0⟩] scope pos) spos) (tSx X fr WO (evS ft (.asg (.v i) (.lc vs t it cnd elt)))) :=
  psW (ps_setLc hc hN hi hy hsw P.pi P.ok P.hg P.hc P.he (fold_plain P.hp)) fun D σ H q => tAsgW (lc_frz P.hv P.ht) D σ H (name_conv D σ H q)
theorem q_ownLc {i : Nat} {y : Str} {py pos spos : Pos} {vs : List Nat} {t : T} {it cnd elt : E} {x tg ix : Expr} {ifs : List Expr} {scope : Scope} (hc : X.calm = true) (hN : X.N.Nodup) (hi : X.N[i]? = some y) (hy : X.env.scope.names.lookup y = some .local)
    (hsw : swapsWith (.ListComp x [⟨tg, ix, ifs, 0⟩] scope pos) (some (.Name y py)) spos.line X.env = pure true) (P : LcP X WO ft vs t it cnd elt x tg ix ifs scope) :
    PS X (.Assign [.Name y py] (.ListComp x [⟨tg, ix, ifs, 0⟩] scope pos) spos) (tSx X fr WO (evS ft (.asO i (.lc vs t it cnd elt)))) :=
  psW (ps_setLc hc hN hi hy hsw P.pi P.ok P.hg P.hc P.he (fold_plain P.hp)) fun D σ H q => tAsgW (lc_conv P.hv P.ht) D σ H (own_conv D σ H q)
/-- xs[k] = value -/
theorem setD_noexc (a b c : D) (x : Nat) (d : D) : setD a b c ≠ .exc x d := fun q => by
  unfold setD at q
  split at q
  · split at q <;> cases q
  · split at q <;> cases q
  · cases q
theorem setD_ok {a b c z : D} (h : setD a b c = .ok z) : (∃ xs i j, a = .lst xs ∧ b = .int i ∧ ixn xs.length i = some j ∧ z = .lst (xs.set j c)) ∨ ∃ ks vs i, a = .dic ks vs ∧ b = .int i ∧ ks.length < SZ ∧ z = putI i c ks vs := by
  unfold setD at h
  split at h
  · split at h
    · cases h; exact .inl ⟨_, _, _, rfl, rfl, by assumption, rfl⟩
    · cases h
  · split at h
    · cases h; exact .inr ⟨_, _, _, rfl, rfl, by assumption, rfl⟩
    · cases h
  · cases h
def rSetLD : TSet := fun o i v H Q => rSetL o i v H Q ∨ rSetD o i v H Q
theorem set_ld (hu : X.A.units + 65 < cLine) : PSet X rSetLD := fun pins s σ H o i v ov iv u Q I r1 r2 r3 h =>
  h.elim (set_list pins s σ H o i v ov iv u Q I r1 r2 r3) (set_dict (by omega) pins s σ H o i v ov iv u Q I r1 r2 r3)
/-- one store into a list, the value at hand -/
theorem set_conv {i : Nat} {kx : E} {G H : Hp} {σ : Sg} {env : Env} {v : V} {d : D} {nx : Sg → Hp → Prop} {rt : VK} {cont : Env → SR} {Q : Sg → Hp → Prop} (ok : EOk X.K X.w G H σ env) (r : Rep X.K X.w G v d)
    (k : KS X.K X.w fr WO G H σ env (SR.ofR (ev ft kx env) fun y => SR.ofR (Py.rd y.2 i) fun c => SR.ofR (setD c y.1 d) fun c' => SR.ofR (Py.put y.2 i c') cont) nx rt)
    (hv : ∃ p, σ[i]? = some (some p)) (fin : ∀ G' H' e', Sub G G' → EOk X.K X.w G' H' σ e' → KS X.K X.w fr WO G' H' σ e' (cont e') nx rt → Q σ H') :
    gSub (L2.tVar i) (tE X.K X.w WO (ev ft kx)) rSetLD v σ H Q := by
  obtain ⟨p0, hp0⟩ := hv
  refine ⟨p0, hp0, G, env, ok, (KS.ofR (r := ev ft kx env) k).mono fun y _ h1 iv G1 H1 go1 ok1 ri => ?_⟩
  obtain ⟨c, e2, h2⟩ := (KS.ofR (r := Py.rd y.2 i) h1).ok fun _ _ => rd_noexc
  obtain ⟨z, e3, h3⟩ := (KS.ofR (r := setD c y.1 d) h2).ok (setD_noexc _ _ _)
  obtain ⟨e', e4, h4⟩ := (KS.ofR (r := Py.put y.2 i z) h3).ok put_noexc
  rcases setD_ok e3 with ⟨xs, j, n, rfl, e5, e6, rfl⟩ | ⟨ks, ds, j, rfl, e5, e6, rfl⟩
  · obtain ⟨p, vs, hp, hH, rx, f⟩ := ok1.chg e2 e4
    rw [hp0] at hp
    cases hp
    rw [e5] at ri
    cases ri
    obtain ⟨ok2, go2⟩ := f (vs.set n v) (rx.set (r.sub go1.gs) n)
    exact .inl ⟨p, vs, j, n, rfl, rfl, hH, by rw [rx.length]; exact e6, fin G1 _ e' (go1.gs) ok2 (h4.go (go1.trans go2))⟩
  · obtain ⟨p, ns, xs, hp, ek, l, hH, rx, f⟩ := ok1.chgD e2 e4
    rw [hp0] at hp
    cases hp
    rw [e5] at ri
    cases ri
    subst ek
    obtain ⟨ns', xs', g1, g2, g3, g4⟩ := dkv_put (r.sub go1.gs) l rx (i := j)
    obtain ⟨ok2, go2⟩ := f ns' xs' g3 g2 g4
    refine .inr ⟨p, _, rfl, DPut.k (k := Sum.inl j) hH (by rw [dkv_len l]; rw [List.length_map] at e6; rw [← SZ_line]; exact e6), ?_⟩
    rw [g1]
    exact fin G1 _ e' (go1.gs) ok2 (h4.go (go1.trans go2))
theorem rd_there {K : Fg} {w : World} {G H : Hp} {σ : Sg} {env : Env} {i : Nat} {d : D} (ok : EOk K w G H σ env) (h : Py.rd env i = .ok d) : ∃ p, σ[i]? = some (some p) := let ⟨v, hv, _⟩ := ok.rd h; ⟨v, hv⟩
theorem q_set {i : Nat} {kx e : E} {o y x : Expr} {pos tpos : Pos} (hu : X.A.units + 65 < cLine) (he : PE X x (tE X.K X.w WO (ev ft e))) (ho : PE X o (L2.tVar i)) (hy : PE X y (tE X.K X.w WO (ev ft kx)))
    (hs : swapsWithSole [.Subscript o y tpos] x pos.line X.env = pure false) (hw : swappedStores [.Subscript o y tpos] x X.env = pure none)
    (ha : ∀ v, assign (.Subscript o y tpos) X.env v = (do
      let ov ← holding [v] (eval o X.env)
      let iv ← holding [v, ov] (eval y X.env)
      standAt tpos
      holding [v, ov, iv] (setItem ov iv v)
      release [v, ov, iv] [])) : PS X (.Assign [.Subscript o y tpos] x pos) (tSx X fr WO (evS ft (.asS i kx e))) :=
  psW (ps_asg he (pg_sub ho hy (set_ld hu) ha) hs hw rfl) fun En σ H ⟨G, env, ok, k⟩ => by
    have k : KS X.K X.w fr WO G H σ env (SR.ofR (Py.rd env i) fun _ => SR.ofR (ev ft e env) fun x => SR.ofR (ev ft kx x.2) fun y => SR.ofR (Py.rd y.2 i) fun c => SR.ofR (setD c y.1 x.1) fun c' => SR.ofR (Py.put y.2 i c') .nx) En.nx En.rt := k
    obtain ⟨d0, e0, k⟩ := (KS.ofR (r := Py.rd env i) k).ok fun _ _ => rd_noexc
    have hv := rd_there ok e0
    exact ⟨G, env, ok, (KS.ofR (r := ev ft e env) k).mono fun z _ h v G' H' go ok' r => set_conv ok' r (KS.go (G := G) h go) hv fun G2 H2 e2 _ ok2 k2 => k2 σ G2 H2 .refl ok2⟩
/-- a[i], b[j] = x, y -/
theorem un2_ok {d : D} {ab : D × D} (h : un2 d = .ok ab) : d = .tup [ab.1, ab.2] := by
  unfold un2 at h
  split at h
  · cases h; rfl
  · cases h
theorem un2_noexc (d : D) (c : Nat) (dd : D) : un2 d ≠ .exc c dd := fun q => by
  unfold un2 at q; split at q <;> cases q
theorem q_swp {i i' : Nat} {kx kx' es : E} {o y o' y' x : Expr} {pos tpos tpos' tp : Pos} {n : Nat} (hu : X.A.units + 65 < cLine) (hc : X.calm = true) (he : PE X x (tE X.K X.w WO (ev ft (.tup es)))) (ho : PE X o (L2.tVar i)) (hy : PE X y (tE X.K X.w WO (ev ft kx))) (ho' : PE X o' (L2.tVar i')) (hy' : PE X y' (tE X.K X.w WO (ev ft kx')))
    (hs : swapsWithSole [.Tuple [.Subscript o y tpos, .Subscript o' y' tpos'] n tp] x pos.line X.env = pure false) (hw : swappedStores [.Tuple [.Subscript o y tpos, .Subscript o' y' tpos'] n tp] x X.env = pure none)
    (ha : ∀ v, assign (.Subscript o y tpos) X.env v = (do
      let ov ← holding [v] (eval o X.env)
      let iv ← holding [v, ov] (eval y X.env)
      standAt tpos
      holding [v, ov, iv] (setItem ov iv v)
      release [v, ov, iv] []))
    (ha' : ∀ v, assign (.Subscript o' y' tpos') X.env v = (do
      let ov ← holding [v] (eval o' X.env)
      let iv ← holding [v, ov] (eval y' X.env)
      standAt tpos'
      holding [v, ov, iv] (setItem ov iv v)
      release [v, ov, iv] [])) : PS X (.Assign [.Tuple [.Subscript o y tpos, .Subscript o' y' tpos'] n tp] x pos) (tSx X fr WO (evS ft (.swp i kx i' kx' es))) :=
  psW (ps_asg he (pg_tup (n := 2) hc (pgs_cons (pg_sub ho hy (set_ld hu) ha) (pgs_cons (pg_sub ho' hy' (set_ld hu) ha') pgs_nil rfl) rfl) rfl rfl) hs hw rfl) fun En σ H ⟨G, env, ok, k⟩ => by
    have k : KS X.K X.w fr WO G H σ env (SR.ofR (Py.rd env i) fun _ => SR.ofR (Py.rd env i') fun _ => SR.ofR (ev ft (.tup es) env) fun x => SR.ofR (un2 x.1) fun ab =>
      SR.ofR (ev ft kx x.2) fun y => SR.ofR (Py.rd y.2 i) fun c => SR.ofR (setD c y.1 ab.1) fun c1 => SR.ofR (Py.put y.2 i c1) fun e1 =>
      SR.ofR (ev ft kx' e1) fun z => SR.ofR (Py.rd z.2 i') fun c' => SR.ofR (setD c' z.1 ab.2) fun c2 => SR.ofR (Py.put z.2 i' c2) .nx) En.nx En.rt := k
    obtain ⟨d0, e0, k⟩ := (KS.ofR (r := Py.rd env i) k).ok fun _ _ => rd_noexc
    obtain ⟨d1, e1, k⟩ := (KS.ofR (r := Py.rd env i') k).ok fun _ _ => rd_noexc
    have hv := rd_there ok e0
    have hv' := rd_there ok e1
    refine ⟨G, env, ok, (KS.ofR (r := ev ft (.tup es) env) k).mono fun z _ h v G' H' go ok' r => ?_⟩
    obtain ⟨ab, e2, h2⟩ := (KS.ofR (r := un2 z.1) h).ok (un2_noexc z.1)
    rw [un2_ok e2] at r
    cases r
    rename_i p xs hp rs
    cases rs with
    | cons r1 rs =>
      cases rs with
      | cons r2 rs =>
        cases rs
        refine ⟨p, _, rfl, (TupO.sub ok'.sub hp).sqt, rfl, _, _, rfl, set_conv ok' r1 (KS.go (G := G) h2 go) hv fun G2 H2 e2 s2 ok2 k2 => ⟨_, _, rfl, set_conv ok2 (r2.sub s2) k2 hv' fun G3 H3 e3 _ ok3 k3 => ⟨rfl, k3 σ G3 H3 .refl ok3⟩⟩⟩
/-- an expression as a statement -/
theorem q_exp {e : E} {x : Expr} {pos : Pos} (he : PE X x (tB X.K X.w WO (ev ft e))) (hs : swapsWith x none pos.line X.env = pure false) : PS X (.Expr x pos) (tSx X fr WO (evS ft (.exp e))) :=
  psW (ps_expr he hs) fun En σ H ⟨G, env, ok, k⟩ => ⟨G, env, ok, (KS.ofR (r := ev ft e env) k).mono fun z _ h v G' H' go ok' r => h σ G' H' go ok'⟩
/-- xs.append(x) -/
theorem q_app {i : Nat} {e : E} {o x : Expr} {apos cpos pos : Pos} (ho : PE X o (L2.tVar i)) (hx : PE X x (tE X.K X.w WO (ev ft e))) (hb : attributeBase o "append" X.env (eval o X.env) = eval o X.env) (hl : (apos.endLine == cpos.line) = true) (hp : plain x = true) :
    PS X (.Expr (.Call (.Attribute o "append" apos) [x] [] cpos) pos) (tSx X fr WO (evS ft (.app i e))) :=
  psW (ps_expr (pe_bm PySem.F.plainAttrs_list PySem.F.slot_list_append PySem.F.type_list_append mt_append ho (pa_cons hx pa_nil (star_plain hp)) hb (by rw [star_plain hp]; rfl) hl (star_plain hp) rfl) rfl) fun En σ H ⟨G, env, ok, k⟩ => by
    have k : KS X.K X.w fr WO G H σ env (SR.ofR (Py.rd env i) fun c0 => SR.ofR (unL c0) fun _ => SR.ofR (ev ft e env) fun x => SR.ofR (Py.rd x.2 i) fun c => (match c with
    | .lst xs => if xs.length < SZ then SR.ofR (Py.put x.2 i (.lst (xs ++ [x.1]))) .nx else .bad
    | _ => .bad)) En.nx En.rt := k
    obtain ⟨c0, e0, k⟩ := (KS.ofR (r := Py.rd env i) k).ok fun _ _ => rd_noexc
    obtain ⟨l0, e00, k⟩ := (KS.ofR (r := unL c0) k).ok (unL_noexc c0)
    obtain ⟨v0, hv0, r0⟩ := ok.rd e0
    rw [unL_ok e00] at r0
    obtain ⟨p0, xs0, rfl, h0, _⟩ := r0.lst_ ok.sub
    refine ⟨.ref p0, hv0, .inl ⟨rfl, xs0, .of h0⟩, G, env, ok, (KS.ofR (r := ev ft e env) k).mono fun z _ h v G' H' go ok' r => ?_⟩
    obtain ⟨c, e1, h2⟩ := (KS.ofR (r := Py.rd z.2 i) h).ok fun _ _ => rd_noexc
    cases c <;> try exact h2.elim
    rename_i ds
    have h2 : KS X.K X.w fr WO G H σ env (if ds.length < SZ then SR.ofR (Py.put z.2 i (.lst (ds ++ [z.1]))) .nx else .bad) En.nx En.rt := h2
    by_cases hz : ds.length < SZ
    · rw [if_pos hz] at h2
      obtain ⟨e', e4, h4⟩ := (KS.ofR (r := Py.put z.2 i _) h2).ok put_noexc
      obtain ⟨p, vs, hp, hH, rx, f⟩ := ok'.chg e1 e4
      rw [hv0] at hp
      cases hp
      obtain ⟨ok2, go2⟩ := f (vs ++ [v]) (rx.append (.cons r .nil))
      exact ⟨p0, vs, v, rfl, rfl, hH, by rw [rx.length, ← SZ_line]; exact hz, h4 σ G' _ (go.trans go2) ok2⟩
    · rw [if_neg hz] at h2; exact h2.elim
/-- a, b = x, y, stored from the right -/
theorem q_par2 {i j : Nat} {es : E} {x y : Str} {a b : Expr} {px py pt pos : Pos} {kt k2 pt2} (hc : X.calm = true) (hN : X.N.Nodup) (hi : X.N[i]? = some x) (hj : X.N[j]? = some y) (hij : i ≠ j)
    (hx : X.env.scope.names.lookup x = some .local) (hy : X.env.scope.names.lookup y = some .local) (ha : PA X [a, b] (tA X.K X.w WO (ev ft es)))
    (hw : swappedStores [.Tuple [.Name x px, .Name y py] kt pt] (.Tuple [a, b] k2 pt2) X.env = pure (some [x, y])) (hs : swapsWithSole [.Tuple [.Name x px, .Name y py] kt pt] (.Tuple [a, b] k2 pt2) pos.line X.env = pure false) :
    PS X (.Assign [.Tuple [.Name x px, .Name y py] kt pt] (.Tuple [a, b] k2 pt2) pos) (tSx X fr WO (evS ft (.par [(i, false), (j, false)] es))) :=
  psW (ps_par hc hN hi hj hij hx hy ha hw hs) fun En σ H ⟨G, env, ok, k⟩ => ⟨G, env, ok, (KS.ofR (r := ev ft es env) k).mono fun z _ h => by
    obtain ⟨ds, e1, h2⟩ := (KS.ofR (r := unL z.1) h).ok (unL_noexc z.1)
    refine ⟨ds, unL_ok e1, fun vs G' H' go ok' r => ?_⟩
    have h3 : KS X.K X.w fr WO G H σ env (SR.ofR (parS [(i, false), (j, false)] ds z.2) .nx) En.nx En.rt := h2
    match ds, r with
    | [d1, d2], .cons r1 (.cons r2 .nil) =>
      have h4 : KS X.K X.w fr WO G H σ env (SR.ofR ((sto z.2 i (.imm d1)).bind fun e => (sto e j (.imm d2)).bind fun e => R.ok e) .nx) En.nx En.rt := h3
      have h5 := KS.ofR (r := (sto z.2 i (.imm d1)).bind fun e => (sto e j (.imm d2)).bind fun e => R.ok e) h4
      obtain ⟨e5, q5, h6⟩ := (K1.bind (r := sto z.2 i (.imm d1)) h5).ok fun _ _ => sto_noexc _ _
      obtain ⟨e6, q6, h7⟩ := (K1.bind (r := sto e5 j (.imm d2)) h6).ok fun _ _ => sto_noexc _ _
      obtain ⟨ok5, go5⟩ := ok'.sto q5 r1
      obtain ⟨ok6, go6⟩ := ok5.sto q6 r2
      exact ⟨_, _, rfl, h7 _ G' H' ((go.trans go5).trans go6) ok6⟩
    | [], .nil => exact h3.elim
    | [_], .cons _ .nil =>
      have h3' : KS X.K X.w fr WO G H σ env (SR.ofR ((sto z.2 i (.imm _)).bind fun e => R.bad) .nx) En.nx En.rt := h3
      obtain ⟨e5, q5, h6⟩ := (K1.bind (r := sto z.2 i (.imm _)) (KS.ofR h3')).ok fun _ _ => sto_noexc _ _
      exact h6.elim
    | _ :: _ :: _ :: _, .cons _ (.cons _ (.cons _ _)) =>
      have h3' : KS X.K X.w fr WO G H σ env (SR.ofR ((sto z.2 i (.imm _)).bind fun e => (sto e j (.imm _)).bind fun e => R.bad) .nx) En.nx En.rt := h3
      obtain ⟨e5, q5, h6⟩ := (K1.bind (r := sto z.2 i (.imm _)) (KS.ofR h3')).ok fun _ _ => sto_noexc _ _
      obtain ⟨e6, q6, h7⟩ := (K1.bind (r := sto e5 j (.imm _)) h6).ok fun _ _ => sto_noexc _ _
      exact h7.elim⟩
end
end Py
end
section
set_option linter.all false
set_option maxRecDepth 100000
set_option maxHeartbeats 4000000
/-! PySndP: several names stored at once. -/
namespace Py
open PySem PySem.Spec PyProof.Rows L2
variable [tb : Tb]
section
variable {K : Fg} {w : World} {G G' H H' G0 H0 : Hp} {σ σ' σ0 : Sg} {env env' env0 : Env}
def lessP (H : Hp) (p : Addr) : Hp := fun a => if a = p then none else H a
theorem lessP_same {H : Hp} {p : Addr} : lessP H p p = none := if_pos rfl
theorem lessP_ne {H : Hp} {p a : Addr} (h : a ≠ p) : lessP H p a = H a := if_neg h
theorem lessP_upd {H : Hp} {p : Addr} {o : HO} (h : H p = some o) : L2.upd (lessP H p) p o = H := by
  funext a
  by_cases q : a = p
  · rw [q, upd_same, h]
  · rw [upd_ne q, lessP_ne q]
theorem EOk.minus (ok : EOk K w G H σ env) {p : Addr} (g : G p = none) (n : ¬ Ow σ env p) (pl : Plain H p) : EOk K w G (lessP H p) σ env := by
  refine ⟨fun a o e => ?_, ok.len, fun i s h => (ok.slot i s h).sub (.refl _) fun q hq hc => ⟨(ok.ow ⟨i, s, h, hc, hq⟩).1, fun o ho _ => ?_⟩, ok.apart, (Tk.away pl fun a h => lessP_ne h) ok.tabs, ok.ntb⟩
  · have q : a ≠ p := fun z => by rw [z, g] at e; cases e
    rw [lessP_ne q]; exact ok.sub a o e
  · have z : q ≠ p := fun z => n ⟨i, s, h, hc, by rw [← z]; exact hq⟩
    rw [lessP_ne z]; exact ho
theorem Go.minus (go : Go G0 H0 σ0 env0 G H σ env) {p : Addr} (h : Fsh H0 p ∨ Ow σ0 env0 p) (pl : Plain H p) : Go G0 H0 σ0 env0 G (lessP H p) σ env :=
  ⟨go.gs, fun a o e n nt => by
    have q : a ≠ p := fun z => by
      rw [z] at e n
      rcases h with h | h
      · exact h.no e nt
      · exact n h
    rw [lessP_ne q]; exact go.hs a o e n nt, go.fr, go.ow, go.io, go.tk.trans (Tk.away pl fun a h => lessP_ne h)⟩
/-- values of which some are new and belong to nobody -/
inductive RepF (K : Fg) (w : World) (G H : Hp) (σ : Sg) (env : Env) (H0 : Hp) (σ0 : Sg) (env0 : Env) : List Addr → List Bool → List V → List D → Prop
  | nil : RepF K w G H σ env H0 σ0 env0 [] [] [] []
  | imm {v : V} {d : D} {ps : List Addr} {fs : List Bool} {vs : List V} {ds : List D} : Rep K w G v d → RepF K w G H σ env H0 σ0 env0 ps fs vs ds → RepF K w G H σ env H0 σ0 env0 ps (false :: fs) (v :: vs) (d :: ds)
  | own {p : Addr} {d : D} {ps : List Addr} {fs : List Bool} {vs : List V} {ds : List D} : G p = none → (Fsh H0 p ∨ Ow σ0 env0 p) → ¬ Ow σ env p → Cont K w G H p d → p ∉ ps → RepF K w G H σ env H0 σ0 env0 ps fs vs ds →
      RepF K w G H σ env H0 σ0 env0 (p :: ps) (true :: fs) (.ref p :: vs) (d :: ds)
  | odd {v : V} {d : D} {ps : List Addr} {fs : List Bool} {vs : List V} {ds : List D} : isCont d = false → Rep K w G v d → RepF K w G H σ env H0 σ0 env0 ps fs vs ds → RepF K w G H σ env H0 σ0 env0 ps (true :: fs) (v :: vs) (d :: ds)
theorem RepF.mono {H1 : Hp} {σ1 σ2 : Sg} {env1 env2 : Env} {ps : List Addr} {fs : List Bool} {vs : List V} {ds : List D} (h : RepF K w G H σ env H0 σ0 env0 ps fs vs ds)
    (f : ∀ q ∈ ps, ¬ Ow σ env q → ¬ Fsh H q → ¬ Ow σ1 env1 q) (g : ∀ q, (Fsh H0 q ∨ Ow σ0 env0 q) → (Fsh H1 q ∨ Ow σ2 env2 q)) : RepF K w G H σ1 env1 H1 σ2 env2 ps fs vs ds := by
  induction h with
  | nil => exact .nil
  | imm r _ ih => exact .imm r (ih f)
  | odd q r _ ih => exact .odd q r (ih f)
  | own a b c d e _ ih => exact .own a (g _ b) (f _ List.mem_cons_self c fun z => by obtain ⟨o, ho, nt, _⟩ := d.there; exact z.no ho nt) d e (ih fun q hq => f q (List.mem_cons_of_mem _ hq))
theorem RepF.none_ {ps : List Addr} {fs : List Bool} {vs : List V} {ds : List D} (h : RepF K w G H σ env H0 σ0 env0 ps fs vs ds) : ∀ q ∈ ps, Fsh H0 q ∨ Ow σ0 env0 q := by
  induction h with
  | nil => intro q hq; cases hq
  | imm r _ ih => exact ih
  | odd q r _ ih => exact ih
  | own a b c d e _ ih =>
    intro q hq
    rcases List.mem_cons.mp hq with rfl | hq
    · exact b
    · exact ih q hq
theorem RepF.len {ps : List Addr} {fs : List Bool} {vs : List V} {ds : List D} (h : RepF K w G H σ env H0 σ0 env0 ps fs vs ds) : vs.length = fs.length := by
  induction h with
  | nil => rfl
  | imm r _ ih => exact congrArg (· + 1) ih
  | odd q r _ ih => exact congrArg (· + 1) ih
  | own a b c d e _ ih => exact congrArg (· + 1) ih
def stoAll (σ : Sg) : List (Nat × Bool) → List V → Sg
  | (i, _) :: is, v :: vs => stoAll (σ.set i (some v)) is vs
  | _, _ => σ
theorem EOk.stoX (ok : EOk K w G H σ env) {i : Nat} {d : D} {p : Addr} (h : Py.sto env i (.own d) = .ok env') (g : G p = none) (n : ¬ Ow σ env p) (c : Cont K w G H p d) :
    EOk K w G H (σ.set i (some (.ref p))) env' ∧ Go G (lessP H p) σ env G H (σ.set i (some (.ref p))) env' := by
  obtain ⟨o, ho, pl⟩ := c.there
  have := (ok.minus g n (fun u hu => by rw [ho] at hu; cases hu; exact pl)).stoO (o := o) h lessP_same (by rw [lessP_upd ho]; exact c)
  rw [lessP_upd ho] at this
  exact this
theorem par_go {ps : List Addr} {vs : List V} {ds : List D} {fl : List Bool} (r : RepF K w G H σ env H0 σ0 env0 ps fl vs ds) : ∀ {is : List (Nat × Bool)} {e1 : Env}, is.map (·.2) = fl → EOk K w G H σ env → Go G0 H0 σ0 env0 G H σ env → parS is ds env = .ok e1 →
    EOk K w G H (stoAll σ is vs) e1 ∧ Go G0 H0 σ0 env0 G H (stoAll σ is vs) e1 := by
  induction vs generalizing σ env ps ds fl with
  | nil =>
    cases r
    intro is e1 hi ok go hp
    cases is with
    | nil => cases hp; exact ⟨ok, go⟩
    | cons => cases hi
  | cons v vs ih =>
    intro is e1 hi ok go hp
    cases is with
    | nil => subst hi; cases r
    | cons a is =>
      obtain ⟨i, o⟩ := a
      cases r with
      | imm rv rs =>
        rename_i d fs ds
        obtain ⟨rfl, hj⟩ : o = false ∧ is.map (·.2) = fs := by cases hi; exact ⟨rfl, rfl⟩
        have hp : (Py.sto env i (.imm d)).bind (parS is ds) = .ok e1 := hp
        cases e2 : Py.sto env i (.imm d) with
        | ok e' =>
          rw [e2] at hp
          obtain ⟨ok', go'⟩ := ok.sto e2 rv
          refine ih (rs.mono (fun q _ hn hq z => ?_) fun _ h => h) hj ok' (go.trans go') hp
          rcases go'.ow q z with z | z
          · exact hn z
          · exact hq z
        | exc c x => rw [e2] at hp; cases hp
        | bad => rw [e2] at hp; cases hp
      | odd hc rv rs =>
        rename_i d fs ds
        obtain ⟨rfl, hj⟩ : o = true ∧ is.map (·.2) = fs := by cases hi; exact ⟨rfl, rfl⟩
        have hp : (if isCont d = true then (Py.sto env i (.own d)).bind (parS is ds) else .bad) = R.ok e1 := hp
        rw [hc] at hp
        cases hp
      | own g b n c np rs =>
        rename_i p d ps fs ds
        obtain ⟨rfl, hj⟩ : o = true ∧ is.map (·.2) = fs := by cases hi; exact ⟨rfl, rfl⟩
        have hp : (if isCont d = true then (Py.sto env i (.own d)).bind (parS is ds) else .bad) = R.ok e1 := hp
        split at hp
        case isFalse => cases hp
        cases e2 : Py.sto env i (.own d) with
        | ok e' =>
          rw [e2] at hp
          obtain ⟨ok', go'⟩ := ok.stoX e2 g n c
          refine ih (rs.mono (fun q hqs hn hq z => ?_) fun _ h => h) hj ok' ((go.minus b (fun u hu => by obtain ⟨o', ho', pl⟩ := c.there; rw [ho'] at hu; cases hu; exact pl)).trans go') hp
          rcases go'.ow q z with z | z
          · exact hn z
          · by_cases e : q = p
            · exact np (e ▸ hqs)
            · exact hq fun u hu => z u (by rw [lessP_ne e]; exact hu)
        | exc c x => rw [e2] at hp; cases hp
        | bad => rw [e2] at hp; cases hp
theorem parS_noexc : ∀ {is : List (Nat × Bool)} {ds : List D} {env : Env} (c : Nat) (d : D), parS is ds env ≠ .exc c d
  | [], [], _, _, _ => by simp [parS]
  | [], _ :: _, _, _, _ => by simp [parS]
  | _ :: _, [], _, _, _ => by simp [parS]
  | (i, o) :: is, x :: ds, env, c, d => by
    intro h
    unfold parS at h
    split at h
    · split at h
      · cases e : sto env i (.own x) with
        | ok e' => rw [e] at h; exact parS_noexc c d h
        | exc c' d' => exact sto_noexc _ _ e
        | bad => rw [e] at h; cases h
      · cases h
    · cases e : sto env i (.imm x) with
      | ok e' => rw [e] at h; exact parS_noexc c d h
      | exc c' d' => exact sto_noexc _ _ e
      | bad => rw [e] at h; cases h
end
section
variable {X : Cx} {fr : Bool} {WO : WN} {ft : Ft}
def tAF (K : Fg) (w : World) (WO : WN) (fl : List Bool) (rf : Env → R (D × Env)) : TA := fun σ H Q => ∃ G env, EOk K w G H σ env ∧ K1 WO H σ env (rf env) fun x =>
  ∃ ds, x.1 = .lst ds ∧ ∀ ps vs G' H', Go G H σ env G' H' σ x.2 → EOk K w G' H' σ x.2 → RepF K w G' H' σ x.2 H σ env ps fl vs ds → Q vs H'
/-- which are new is written -/
def flB : List Bool → E → Bool
  | [], .nil => true
  | f :: fs, .cons a b => nb a && (!f || fresh a) && flB fs b
  | _, _ => false
theorem pe_or {x : Expr} {t t' : TE} (h : PE X x t) (h' : PE X x t') : PE X x (fun σ H Q => t σ H Q ∨ t' σ H Q) :=
  ⟨fun pins s σ H Q I q => q.elim (h.run pins s σ H Q I) (h'.run pins s σ H Q I)⟩
theorem paF_tail {a b : E} {fl : List Bool} {G H G1 H1 : Hp} {σ : Sg} {env e1 : Env} {Q : List V → Hp → Prop} {f0 : Bool} {v1 : D} {v : V} (go1 : Go G H σ env G1 H1 σ e1) (ok1 : EOk X.K X.w G1 H1 σ e1)
    (h1 : K1 WO H σ env ((ev ft b e1).bind fun y => (unL y.1).bind fun ys => R.ok (D.lst (v1 :: ys), y.2)) fun x => ∃ ds, x.1 = D.lst ds ∧ ∀ ps vs G' H', Go G H σ env G' H' σ x.2 → EOk X.K X.w G' H' σ x.2 → RepF X.K X.w G' H' σ x.2 H σ env ps (f0 :: fl) vs ds → Q vs H')
    (fin : ∀ G2 H2 e2 ps vs ds, Go G1 H1 σ e1 G2 H2 σ e2 → EOk X.K X.w G2 H2 σ e2 → RepF X.K X.w G2 H2 σ e2 H1 σ e1 ps fl vs ds → ∃ ps', RepF X.K X.w G2 H2 σ e2 H σ env ps' (f0 :: fl) (v :: vs) (v1 :: ds)) :
    tAF X.K X.w WO fl (ev ft b) σ H1 fun vs H2 => Q (v :: vs) H2 :=
  ⟨G1, e1, ok1, (K1.go (G := G) (G' := G1) h1.bind go1).mono fun y _ h2 => by
    obtain ⟨d, e⟩ := y
    cases d with
    | lst ys =>
      obtain ⟨ds, q1, f⟩ := h2
      cases q1
      refine ⟨ys, rfl, fun ps vs G2 H2 go2 ok2 r2 => ?_⟩
      obtain ⟨ps', r3⟩ := fin G2 H2 e ps vs ys go2 ok2 r2
      exact f ps' (v :: vs) G2 H2 (go1.trans go2) ok2 r3
    | _ => exact h2.elim⟩
theorem Go.src {K : Fg} {w : World} {G H G1 H1 : Hp} {σ : Sg} {env e1 : Env} (go1 : Go G H σ env G1 H1 σ e1) {q : Addr} (hq : Fsh H1 q ∨ Ow σ e1 q) : Fsh H q ∨ Ow σ env q := by
  rcases hq with hq | hq
  · exact go1.back hq
  · exact (go1.ow q hq).symm
theorem SxL.paF : ∀ {e : E} {xs : List Expr} {fl : List Bool}, SxL X WO ft e xs → flB fl e = true → PA X xs (tAF X.K X.w WO fl (ev ft e))
  | .nil, [], [], _, _ => paW pa_nil fun σ H Q ⟨G, env, ok, k⟩ => by
    have k : K1 WO H σ env (R.ok (D.lst [], env)) (fun x => ∃ ds, x.1 = D.lst ds ∧ ∀ ps vs G' H', Go G H σ env G' H' σ x.2 → EOk X.K X.w G' H' σ x.2 → RepF X.K X.w G' H' σ x.2 H σ env ps [] vs ds → Q vs H') := k
    obtain ⟨ds, e1, f⟩ := k
    cases e1
    exact f [] [] G H .refl ok .nil
  | .cons a b, x :: xs, f :: fl, h, n => by
    simp only [flB, Bool.and_eq_true] at n
    have hb := SxL.paF h.2.2.2 n.2
    have ha := h.2.2.1.e (by unfold ne; rw [n.1.1, h.2.1]; rfl)
    cases f with
    | false =>
      exact paW (pa_cons ha hb (star_plain h.1)) fun σ H Q ⟨G, env, ok, k⟩ =>
        ⟨G, env, ok, (K1.bind (r := ev ft a env) k).mono fun x1 _ h1 v G1 H1 go1 ok1 r1 => paF_tail (a := a) go1 ok1 h1 fun G2 H2 e2 ps vs ds go2 ok2 r2 =>
          ⟨ps, .imm (r1.sub go2.gs) (r2.mono (fun _ _ h _ => h) fun q hq => go1.src (K := X.K) (w := X.w) hq)⟩⟩
    | true =>
      have ho := h.2.2.1.o (by simpa using n.1.2)
      exact paW (pa_cons (pe_or ha ho) hb (star_plain h.1)) fun σ H Q ⟨G, env, ok, k⟩ => by
        have k1 := K1.bind (r := ev ft a env) k
        by_cases hc : ∃ z, ev ft a env = .ok z ∧ isCont z.1 = true
        · obtain ⟨z, hz, hc⟩ := hc
          refine .inr ⟨G, env, ok, k1.mono fun x1 hx1 h1 => ?_⟩
          rw [hz] at hx1
          cases hx1
          refine ⟨hc, fun v G1 H1 H2 go1 ok1 nw => ?_⟩
          obtain ⟨p, o, rfl, hp, rfl, cc⟩ := nw
          have gr : Grow G1 H1 G1 (upd H1 p o) := .waste ok1.sub hp
          have nop : ¬ Ow σ z.2 p := fun y => by obtain ⟨u, hu, _⟩ := (ok1.ow y).2; rw [hp] at hu; cases hu
          obtain ⟨ou, hou, ntu, _⟩ := cc.there
          refine paF_tail (a := a) (go1.trans (.grow gr)) (ok1.grow gr) h1 fun G3 H3 e3 ps vs ds go2 ok2 r2 => ⟨p :: ps, .own ?_ (go1.back (.of hp)) ?_ (cc.sub go2.gs fun o' ho' nt => go2.hs _ _ ho' nop nt) ?_ (r2.mono (fun _ _ h _ => h) fun q hq => (go1.trans (.grow gr)).src (K := X.K) (w := X.w) hq)⟩
          · cases q3 : G3 p with
            | none => rfl
            | some u =>
              rcases go2.fr p u q3 (ok1.sub.none hp) with y | y
              · exact (y.no hou ntu).elim
              · exact (nop y).elim
          · intro y
            rcases go2.ow p y with y | y
            · exact nop y
            · exact (y.no hou ntu).elim
          · intro y
            rcases r2.none_ p y with y | y
            · exact (y.no hou ntu).elim
            · exact nop y
        · refine .inl ⟨G, env, ok, k1.mono fun x1 hx1 h1 v G1 H1 go1 ok1 r1 => paF_tail (a := a) go1 ok1 h1 fun G2 H2 e2 ps vs ds go2 ok2 r2 => ⟨ps, .odd ?_ (r1.sub go2.gs) (r2.mono (fun _ _ h _ => h) fun q hq => go1.src (K := X.K) (w := X.w) hq)⟩⟩
          cases e : isCont x1.1 with
          | false => rfl
          | true => exact (hc ⟨x1, hx1, e⟩).elim
/-- what stands behind, when all values are there -/
theorem par_fin {is : List (Nat × Bool)} {es : E} {En0 : Sg → Hp → Prop} {rt : VK} {σ : Sg} {G H : Hp} {env : Env} {Q : List V → Hp → Prop} (k : KS X.K X.w fr WO G H σ env (evS ft (.par is es) env) En0 rt)
    (fin : ∀ vs H', vs.length = is.length → En0 (stoAll σ is vs) H' → Q vs H') (ok : EOk X.K X.w G H σ env) : tAF X.K X.w WO (is.map (·.2)) (ev ft es) σ H Q :=
  ⟨G, env, ok, (KS.ofR (r := ev ft es env) k).mono fun z _ h => by
    obtain ⟨ds, e1, h2⟩ := (KS.ofR (r := unL z.1) h).ok (unL_noexc z.1)
    refine ⟨ds, unL_ok e1, fun ps vs G' H' go ok' r => ?_⟩
    obtain ⟨e3, e4, h3⟩ := (KS.ofR (r := parS is ds z.2) h2).ok parS_noexc
    obtain ⟨ok5, go5⟩ := par_go r rfl ok' go e4
    refine fin vs H' ?_ (h3 _ G' H' go5 ok5)
    clear h h2 h3 e4 ok5 go5
    have := r.len
    simpa using this⟩
theorem q_par2F {i j : Nat} {o1 o2 : Bool} {es : E} {x y : Str} {a b : Expr} {px py pt pos : Pos} {kt k2 pt2} (hc : X.calm = true) (hN : X.N.Nodup) (hi : X.N[i]? = some x) (hj : X.N[j]? = some y) (hij : i ≠ j)
    (hx : X.env.scope.names.lookup x = some .local) (hy : X.env.scope.names.lookup y = some .local) (ha : PA X [a, b] (tAF X.K X.w WO [o1, o2] (ev ft es)))
    (hw : swappedStores [.Tuple [.Name x px, .Name y py] kt pt] (.Tuple [a, b] k2 pt2) X.env = pure (some [x, y])) (hs : swapsWithSole [.Tuple [.Name x px, .Name y py] kt pt] (.Tuple [a, b] k2 pt2) pos.line X.env = pure false) :
    PS X (.Assign [.Tuple [.Name x px, .Name y py] kt pt] (.Tuple [a, b] k2 pt2) pos) (tSx X fr WO (evS ft (.par [(i, o1), (j, o2)] es))) :=
  psW (ps_par hc hN hi hj hij hx hy ha hw hs) fun En σ H ⟨G, env, ok, k⟩ => par_fin (is := [(i, o1), (j, o2)]) k (fun vs H' hl q => by
    match vs, hl with
    | [u, v], _ => exact ⟨u, v, rfl, q⟩) ok
theorem q_par3F {i j l : Nat} {o1 o2 o3 : Bool} {es : E} {x y z : Str} {a b c : Expr} {px py pz pt pos : Pos} {kt k2 pt2} (hc : X.calm = true) (hN : X.N.Nodup) (hi : X.N[i]? = some x) (hj : X.N[j]? = some y) (hl : X.N[l]? = some z) (hij : i ≠ j) (hil : i ≠ l) (hjl : j ≠ l)
    (hx : X.env.scope.names.lookup x = some .local) (hy : X.env.scope.names.lookup y = some .local) (hz : X.env.scope.names.lookup z = some .local) (ha : PA X [a, b, c] (tAF X.K X.w WO [o1, o2, o3] (ev ft es)))
    (hw : swappedStores [.Tuple [.Name x px, .Name y py, .Name z pz] kt pt] (.Tuple [a, b, c] k2 pt2) X.env = pure (some [x, y, z])) (hs : swapsWithSole [.Tuple [.Name x px, .Name y py, .Name z pz] kt pt] (.Tuple [a, b, c] k2 pt2) pos.line X.env = pure false) :
    PS X (.Assign [.Tuple [.Name x px, .Name y py, .Name z pz] kt pt] (.Tuple [a, b, c] k2 pt2) pos) (tSx X fr WO (evS ft (.par [(i, o1), (j, o2), (l, o3)] es))) :=
  psW (ps_par3 hc hN hi hj hl hij hil hjl hx hy hz ha hw hs) fun En σ H ⟨G, env, ok, k⟩ => par_fin (is := [(i, o1), (j, o2), (l, o3)]) k (fun vs H' hl q => by
    match vs, hl with
    | [u, v, w], _ => exact ⟨u, v, w, rfl, q⟩) ok
end
end Py
end
section
set_option linter.all false
set_option maxRecDepth 100000
set_option maxHeartbeats 4000000
/-! PySnd20: that a written body is the evaluator's one. -/
namespace Py
open PySem PySem.Spec PyProof.Rows L2
variable [tb : Tb]

def lcSame (sc : Scope) : Expr → Expr → Bool
  | .Name y py, .ListComp _ _ scope p => (sc.names.lookup y == some .local) && (py.line == p.line) && !(scope.names.any fun (n, k) => n == y && (k == .local || k == .cell))
  | _, _ => false
def noSw : Expr → Expr → Bool
  | .Name _ _, .SetComp .. => false
  | .Name _ _, .DictComp .. => false
  | _, _ => true
def locNames (sc : Scope) (ts : List Expr) : List Str := ts.filterMap fun t => match t with
  | .Name id pos => if sc.names.lookup id == some .local && pos.line == (ts.head?.map (·.pos.line)).getD 0 then some id else none
  | _ => none
def ttNone (sc : Scope) : Expr → Expr → Bool
  | .Tuple ts _ _, .Tuple vs _ _ => (locNames sc ts).length != ts.length || vs.all (foldedForSure 8) || !(ts.length == 2 || ts.length == 3)
  | .List _ _, .Tuple _ _ _ => false
  | _, _ => true
def notComp : Expr → Bool
  | .ListComp .. => false
  | .SetComp .. => false
  | .DictComp .. => false
  | _ => true
def isLc : E → Bool
  | .lc .. => true
  | _ => false
def isName : Expr → Bool
  | .Name .. => true
  | _ => false

def wCons : List Stmt → Option (Stmt × List Stmt)
  | x :: r => some (x, r)
  | _ => none
def wAsg : List Stmt → Option (Expr × Expr × Pos)
  | [.Assign [tg] x pos] => some (tg, x, pos)
  | _ => none
def wSub : Expr → Option (Expr × Expr × Pos)
  | .Subscript o y p => some (o, y, p)
  | _ => none
def wTup2 : Expr → Option (Expr × Expr)
  | .Tuple [a, b] _ _ => some (a, b)
  | _ => none
def wTup3 : Expr → Option (Expr × Expr × Expr)
  | .Tuple [a, b, c] _ _ => some (a, b, c)
  | _ => none
def wName : Expr → Option (Str × Pos)
  | .Name x p => some (x, p)
  | _ => none
def wExp : List Stmt → Option Expr
  | [.Expr x _] => some x
  | _ => none
def wRet : List Stmt → Option (Option Expr)
  | [.Return x _] => some x
  | _ => none
def wIf : List Stmt → Option (Expr × List Stmt × List Stmt)
  | [.If c a b _] => some (c, a, b)
  | _ => none
def wWhl : List Stmt → Option (Expr × List Stmt)
  | [.While c b [] _] => some (c, b)
  | _ => none
def wFor : List Stmt → Option (Expr × Expr × List Stmt)
  | [.For t i b [] _] => some (t, i, b)
  | _ => none
def wRai : List Stmt → Option Str
  | [.Raise (some (.Call (.Name x _) [.Constant (.str _) _ _] [] _)) none _] => some x
  | _ => none
def wPass : List Stmt → Bool
  | [.Pass _] => true
  | _ => false
def one : List Stmt → Bool
  | [_] => true
  | _ => false
def wNil : List Stmt → Bool
  | [] => true
  | _ => false
def nmB (N : List Str) (sc : Scope) (i : Nat) : Expr → Bool
  | .Name x _ => decide (N[i]? = some x) && locB sc x
  | _ => false
/-- xs[k] as a target -/
def subT (g : Cg) (k : Nat) (N : List Str) (sc : Scope) (i : Nat) (kx : E) (tg : Expr) : Bool := match wSub tg with
  | some q => varB N sc i q.1 && plain q.2.1 && ne kx && chk g k N kx sc (.ex q.2.1)
  | none => false
def loc2 (N : List Str) (sc : Scope) (i j : Nat) (a b : Expr) : Bool := match wName a, wName b with
  | some p, some q => decide (N[i]? = some p.1) && decide (N[j]? = some q.1) && decide (i ≠ j) && decide (p.1 ≠ q.1) && (sc.names.lookup p.1 == some .local) && (sc.names.lookup q.1 == some .local) && (p.2.line == q.2.line)
  | _, _ => false
def loc1 (N : List Str) (sc : Scope) (i : Nat) (a : Str × Pos) (l : Nat) : Bool := decide (N[i]? = some a.1) && (sc.names.lookup a.1 == some .local) && (a.2.line == l)
def loc3 (N : List Str) (sc : Scope) (i j l : Nat) (a b c : Expr) : Bool := match wName a, wName b, wName c with
  | some p, some q, some r => loc1 N sc i p p.2.line && loc1 N sc j q p.2.line && loc1 N sc l r p.2.line && decide (i ≠ j) && decide (i ≠ l) && decide (j ≠ l) && decide (p.1 ≠ q.1) && decide (p.1 ≠ r.1) && decide (q.1 ≠ r.1)
  | _, _, _ => false
def foldsL (l : List Expr) : Bool := !(l.all (foldedForSure 8)) && !(l.all (constantsAlone 8))
def folds (a b : Expr) : Bool := !([a, b].all (foldedForSure 8)) && !([a, b].all (constantsAlone 8))

def isSeq : S → Bool
  | .nil => true
  | .cons _ _ => true
  | _ => false
def parB2 (g : Cg) (k : Nat) (N : List Str) (sc : Scope) (es : E) (i j : Nat) (o1 o2 : Bool) (a b : Expr × Expr) : Bool :=
  loc2 N sc i j a.1 a.2 && folds b.1 b.2 && plain b.1 && plain b.2 && flB [o1, o2] es && chk g k N es sc (.ls [b.1, b.2])
def parB3 (g : Cg) (k : Nat) (N : List Str) (sc : Scope) (es : E) (i j l : Nat) (o1 o2 o3 : Bool) (a b : Expr × Expr × Expr) : Bool :=
  loc3 N sc i j l a.1 a.2.1 a.2.2 && foldsL [b.1, b.2.1, b.2.2] && plain b.1 && plain b.2.1 && plain b.2.2 && flB [o1, o2, o3] es && chk g k N es sc (.ls [b.1, b.2.1, b.2.2])
def parB (g : Cg) (k : Nat) (N : List Str) (sc : Scope) (is : List (Nat × Bool)) (es : E) (tg x : Expr) : Bool := match is with
  | [(i, o1), (j, o2)] => (match wTup2 tg, wTup2 x with
    | some a, some b => parB2 g k N sc es i j o1 o2 a b
    | _, _ => false)
  | [(i, o1), (j, o2), (l, o3)] => (match wTup3 tg, wTup3 x with
    | some a, some b => parB3 g k N sc es i j l o1 o2 o3 a b
    | _, _ => false)
  | _ => false
def chkS (g : Cg) (k : Nat) (N : List Str) (fr : Bool) : S → Scope → List Stmt → Bool
  | .nil, _, xs => wNil xs
  | .cons a b, sc, xs => (match wCons xs with
    | some q => !isSeq a && isSeq b && chkS g k N fr a sc [q.1] && chkS g k N fr b sc q.2
    | none => false)
  | .asg t e, sc, xs => (match wAsg xs with
    | some q => plain q.1 && ne e && chkT N sc t (.ex q.1) && chk g k N e sc (.ex q.2.1) && noSw q.1 q.2.1 && ttNone sc q.1 q.2.1 && (if lcSame sc q.1 q.2.1 = true then isLc e else true)
    | none => false)
  | .asO i e, sc, xs => (match wAsg xs with
    | some q => nmB N sc i q.1 && fresh e && nb e && chk g k N e sc (.ex q.2.1) && noSw q.1 q.2.1 && (if lcSame sc q.1 q.2.1 = true then isLc e else true)
    | none => false)
  | .par is es, sc, xs => (match wAsg xs with
    | some q => parB g k N sc is es q.1 q.2.1
    | none => false)
  | .asS i kx e, sc, xs => (match wAsg xs with
    | some q => subT g k N sc i kx q.1 && ne e && chk g k N e sc (.ex q.2.1)
    | none => false)
  | .swp i kx j ky es, sc, xs => (match wAsg xs with
    | some q => (match wTup2 q.1 with
      | some a => subT g k N sc i kx a.1 && subT g k N sc j ky a.2 && nbs es && chk g k N (.tup es) sc (.ex q.2.1)
      | none => false)
    | none => false)
  | .exp e, sc, xs => (match wExp xs with
    | some x => !wk e && notComp x && chk g k N e sc (.ex x)
    | none => false)
  | .app i e, sc, xs => (match wExp xs with
    | some x => (match vMet (.ex x) with
      | some q => decide (q.2.1 = "append") && varB N sc i q.1 && q.2.2.1 && (match q.2.2.2 with
        | [y] => plain y && ne e && chk g k N e sc (.ex y)
        | _ => false)
      | none => false)
    | none => false)
  | .rem _ _, _, _ => false
  | .ret e, sc, xs => (match wRet xs with
    | some (some x) => !fr && ne e && chk g k N e sc (.ex x)
    | _ => false)
  | .reO e, sc, xs => (match wRet xs with
    | some (some x) => fr && chk g k N e sc (.ex x) && (ownB e || (fresh e && nb e))
    | _ => false)
  | .ret0, sc, xs => (match wRet xs with
    | some none => !fr
    | _ => false)
  | .ite c a b, sc, xs => (match wIf xs with
    | some q => ne c && chk g k N c sc (.ex q.1) && chkS g k N fr a sc q.2.1 && chkS g k N fr b sc q.2.2
    | none => false)
  | .whl c b, sc, xs => (match wWhl xs with
    | some q => ne c && chk g k N c sc (.ex q.1) && chkS g k N fr b sc q.2
    | none => false)
  | .for_ t it b, sc, xs => (match wFor xs with
    | some q => nb it && plain q.2.1 && (!ezB it || isTup q.1) && chkT N sc t (.ex q.1) && chk g k N it sc (.ex q.2.1) && chkS g k N fr b sc q.2.2
    | none => false)
  | .rai c a, sc, xs => (match wRai xs with
    | some x => isNil a && decide (g.exs[c]? = some x) && gloB sc x && nameOk x
    | none => false)
  | .pas, _, xs => wPass xs

/-! ### swaps -/
section
variable {X : Cx} {sc : Scope}
theorem sw_name {x : Expr} {y : Str} {py : Pos} {l : Nat} (hk : X.env.scope.kind = .function) (hs : X.env.scope = sc) (h : lcSame sc (.Name y py) x = false) (hn : noSw (.Name y py) x = true) : swapsWith x (some (.Name y py)) l X.env = pure false := by
  cases x <;> first
    | rfl
    | (cases hn; done)
    | skip
  rename_i elt gs scope p
  have ky : X.env.kindOf y = sc.names.lookup y := by rw [← hs]; rfl
  have hb : X.env.blockKind = .function := by unfold Env.blockKind; rw [hk]; rfl
  unfold swapsWith
  simp only [hb, ky, Expr.pos]
  simp only [lcSame] at h
  show (pure (((ScopeKind.function == ScopeKind.function) && sc.names.lookup y == some .local && py.line == p.line) && !(scope.names.any _)) : Sem Bool) = _
  have e : (ScopeKind.function == ScopeKind.function) = true := rfl
  rw [e, Bool.true_and, h]
theorem sw_lc {elt : Expr} {gs : List Comprehension} {scope : Scope} {p : Pos} {y : Str} {py : Pos} {l : Nat} (hk : X.env.scope.kind = .function) (hs : X.env.scope = sc) (h : lcSame sc (.Name y py) (.ListComp elt gs scope p) = true) :
    swapsWith (.ListComp elt gs scope p) (some (.Name y py)) l X.env = pure true ∧ X.env.scope.names.lookup y = some .local := by
  simp only [lcSame, Bool.and_eq_true, beq_iff_eq, Bool.not_eq_true'] at h
  have hy : X.env.scope.names.lookup y = some .local := by rw [hs]; exact h.1.1
  exact ⟨sw_true hk hy (by simpa using h.1.2) h.2, hy⟩
theorem sw_sub {o y x : Expr} {p : Pos} {l : Nat} : swapsWithSole [.Subscript o y p] x l X.env = pure false := by
  cases x <;> rfl
theorem sw_tup {ts : List Expr} {n : Nat} {x : Expr} {p : Pos} {l : Nat} : swapsWithSole [.Tuple ts n p] x l X.env = pure false := by
  cases x <;> rfl
theorem st_sub {o y x : Expr} {p : Pos} : swappedStores [.Subscript o y p] x X.env = pure none := by
  cases x <;> rfl
theorem st_name {x : Expr} {y : Str} {p : Pos} : swappedStores [.Name y p] x X.env = pure none := by
  cases x <;> rfl
theorem st_tup {ts : List Expr} {n : Nat} {x : Expr} {p : Pos} (hs : X.env.scope = sc) (h : ttNone sc (.Tuple ts n p) x = true) : swappedStores [.Tuple ts n p] x X.env = pure none := by
  cases x <;> first
    | rfl
    | skip
  rename_i vs m q
  have h : ((locNames sc ts).length != ts.length || vs.all (foldedForSure 8) || !(ts.length == 2 || ts.length == 3)) = true := h
  unfold swappedStores
  simp only
  have e : ∀ f : Expr → Option Str, (∀ t, f t = (match t with
      | .Name id pos => if sc.names.lookup id == some .local && pos.line == (ts.head?.map (·.pos.line)).getD 0 then some id else none
      | _ => none)) → ts.filterMap f = locNames sc ts := fun f hf => by rw [show f = _ from funext hf]; rfl
  split
  · rfl
  · rename_i hn
    split
    · rfl
    · split
      · rfl
      · rename_i hh
        rw [Bool.or_eq_true, Bool.or_eq_true] at h
        rcases h with (h | h) | h
        · exfalso
          apply hh
          simp only [Bool.or_eq_true]
          left
          rw [e _ (fun t => by cases t <;> first | rfl | (rw [← hs]; rfl))]
          exact h
        · rw [if_pos h]
        · exfalso
          apply hn
          simp only [Bool.or_eq_true]
          left; left
          exact h
theorem st_two {x y : Str} {px py p q : Pos} {n m : Nat} {a b : Expr} (hk : X.env.scope.kind = .function) (hs : X.env.scope = sc) (hx : (sc.names.lookup x == some .local) = true) (hy : (sc.names.lookup y == some .local) = true) (hl : (px.line == py.line) = true) (hne : x ≠ y)
    (pa : plain a = true) (pb : plain b = true) (hf : folds a b = true) : swappedStores [.Tuple [.Name x px, .Name y py] n p] (.Tuple [a, b] m q) X.env = pure (some [x, y]) := by
  have hb : X.env.blockKind = .function := by unfold Env.blockKind; rw [hk]; rfl
  have kx : X.env.kindOf x = some .local := by
    have : X.env.kindOf x = sc.names.lookup x := by rw [← hs]; rfl
    rw [this]; simpa using hx
  have ky : X.env.kindOf y = some .local := by
    have : X.env.kindOf y = sc.names.lookup y := by rw [← hs]; rfl
    rw [this]; simpa using hy
  simp only [folds, Bool.and_eq_true, Bool.not_eq_true'] at hf
  have hl' : (py.line == px.line) = true := by
    have : px.line = py.line := by simpa using hl
    rw [this]; simp
  have st : ([a, b].any fun z => match z with | .Starred .. => true | _ => false) = false := by
    have ea : ∀ z : Expr, plain z = true → (match z with | .Starred .. => true | _ => false) = false := fun z hz => by cases z <;> first | rfl | cases hz
    simp only [List.any_cons, List.any_nil, ea a pa, ea b pb, Bool.or_false]
  have hd : ([x, y].eraseDups).length = 2 := by
    have hxy : (y == x) = false := beq_eq_false_iff_ne.mpr (Ne.symm hne)
    simp [List.eraseDups_cons, hxy, hne, Ne.symm hne]
  unfold swappedStores
  have e0 : ([Expr.Name x px, Expr.Name y py].length == 2 || [Expr.Name x px, Expr.Name y py].length == 3) = true := rfl
  have hle : py.line = px.line := by simpa using hl'
  have f1 : ([a, b].all (foldedForSure 8)) = false := hf.1
  have f2 : ([a, b].all (constantsAlone 8)) = false := hf.2
  have hxy : (y == x) = false := beq_eq_false_iff_ne.mpr (Ne.symm hne)
  simp only [List.length_cons, List.length_nil, List.head?_cons, Option.map_some, Option.getD_some, List.filterMap_cons, List.filterMap_nil, kx, ky, hle, f1, f2]
  have ep : (Expr.Name x px).pos = px := rfl
  simp only [ep, beq_self_eq_true, Bool.and_self, if_true]
  split
  · rename_i h
    exfalso
    revert h
    simp [hb]
  split
  · rename_i h
    simp only [List.any_cons, List.any_nil, Bool.or_false, Bool.or_eq_true] at h
    exfalso
    rcases h with h | h
    · cases a <;> first | (cases h; done) | (cases pa; done)
    · cases b <;> first | (cases h; done) | (cases pb; done)
  split
  · rename_i h
    exfalso
    revert h
    simp [hd]
  rfl
theorem st_three {x y z : Str} {px py pz p q : Pos} {n m : Nat} {a b c : Expr} (hk : X.env.scope.kind = .function) (hs : X.env.scope = sc) (hx : (sc.names.lookup x == some .local) = true) (hy : (sc.names.lookup y == some .local) = true) (hz : (sc.names.lookup z == some .local) = true)
    (hl : (py.line == px.line) = true) (hl2 : (pz.line == px.line) = true) (hxy : x ≠ y) (hxz : x ≠ z) (hyz : y ≠ z)
    (pa : plain a = true) (pb : plain b = true) (pc : plain c = true) (hf : foldsL [a, b, c] = true) : swappedStores [.Tuple [.Name x px, .Name y py, .Name z pz] n p] (.Tuple [a, b, c] m q) X.env = pure (some [x, y, z]) := by
  have hb : X.env.blockKind = .function := by unfold Env.blockKind; rw [hk]; rfl
  have kk : ∀ u : Str, (sc.names.lookup u == some .local) = true → X.env.kindOf u = some .local := fun u hu => by
    have : X.env.kindOf u = sc.names.lookup u := by rw [← hs]; rfl
    rw [this]; simpa using hu
  simp only [foldsL, Bool.and_eq_true, Bool.not_eq_true'] at hf
  have ly : py.line = px.line := by simpa using hl
  have lz : pz.line = px.line := by simpa using hl2
  have st : ([a, b, c].any fun z => match z with | .Starred .. => true | _ => false) = false := by
    have ea : ∀ z : Expr, plain z = true → (match z with | .Starred .. => true | _ => false) = false := fun z hz => by cases z <;> first | rfl | cases hz
    simp only [List.any_cons, List.any_nil, ea a pa, ea b pb, ea c pc, Bool.or_false]
  have hd : ([x, y, z].eraseDups).length = 3 := by
    have h1 : (y == x) = false := beq_eq_false_iff_ne.mpr (Ne.symm hxy)
    have h2 : (z == x) = false := beq_eq_false_iff_ne.mpr (Ne.symm hxz)
    have h3 : (z == y) = false := beq_eq_false_iff_ne.mpr (Ne.symm hyz)
    simp [List.eraseDups_cons, h1, h2, h3]
  unfold swappedStores
  have f1 : ([a, b, c].all (foldedForSure 8)) = false := hf.1
  have f2 : ([a, b, c].all (constantsAlone 8)) = false := hf.2
  simp only [List.length_cons, List.length_nil, List.head?_cons, Option.map_some, Option.getD_some, List.filterMap_cons, List.filterMap_nil, kk x hx, kk y hy, kk z hz, ly, lz, f1, f2]
  have ep : (Expr.Name x px).pos = px := rfl
  simp only [ep, beq_self_eq_true, Bool.and_self, if_true]
  split
  · rename_i h
    exfalso
    revert h
    simp [hb]
  split
  · rename_i h
    simp only [List.any_cons, List.any_nil, Bool.or_false, Bool.or_eq_true] at h
    exfalso
    rcases h with h | h | h
    · cases a <;> first | (cases h; done) | (cases pa; done)
    · cases b <;> first | (cases h; done) | (cases pb; done)
    · cases c <;> first | (cases h; done) | (cases pc; done)
  split
  · rename_i h
    exfalso
    revert h
    simp [hd]
  rfl
end
end Py
end
section
set_option linter.all false
set_option maxRecDepth 100000
set_option maxHeartbeats 4000000
/-! PySnd21: every body that is checked. -/
namespace Py
open PySem PySem.Spec PyProof.Rows L2
variable [tb : Tb]

structure SOk (g : Cg) (k : Nat) (ft : Ft) (CA : Nat → Value) (X : Cx) (sc : Scope) (WO : WN) : Prop where
  xo : XOk g k ft CA X sc WO
  hs : X.env.scope = sc
  hk : X.env.scope.kind = .function
  ps : PassesOwn (model X.prog X.w) X.A X.env X.xe
theorem wCons_ok {xs : List Stmt} {q : _} (h : wCons xs = some q) : xs = q.1 :: q.2 := by
  unfold wCons at h; split at h <;> cases h; rfl
theorem wAsg_ok {xs : List Stmt} {q : _} (h : wAsg xs = some q) : ∃ pos, xs = [.Assign [q.1] q.2.1 pos] := by
  unfold wAsg at h; split at h <;> cases h; exact ⟨_, rfl⟩
theorem wSub_ok {x : Expr} {q : _} (h : wSub x = some q) : x = .Subscript q.1 q.2.1 q.2.2 := by
  unfold wSub at h; split at h <;> cases h; rfl
theorem wTup3_ok {x : Expr} {q : _} (h : wTup3 x = some q) : ∃ n p, x = .Tuple [q.1, q.2.1, q.2.2] n p := by
  unfold wTup3 at h; split at h <;> cases h; exact ⟨_, _, rfl⟩
theorem wTup2_ok {x : Expr} {q : _} (h : wTup2 x = some q) : ∃ n p, x = .Tuple [q.1, q.2] n p := by
  unfold wTup2 at h; split at h <;> cases h; exact ⟨_, _, rfl⟩
theorem wName_ok {x : Expr} {q : _} (h : wName x = some q) : x = .Name q.1 q.2 := by
  unfold wName at h; split at h <;> cases h; rfl
theorem wExp_ok {xs : List Stmt} {q : _} (h : wExp xs = some q) : ∃ pos, xs = [.Expr q pos] := by
  unfold wExp at h; split at h <;> cases h; exact ⟨_, rfl⟩
theorem wRet_ok {xs : List Stmt} {q : _} (h : wRet xs = some q) : ∃ pos, xs = [.Return q pos] := by
  unfold wRet at h; split at h <;> cases h; exact ⟨_, rfl⟩
theorem wIf_ok {xs : List Stmt} {q : _} (h : wIf xs = some q) : ∃ pos, xs = [.If q.1 q.2.1 q.2.2 pos] := by
  unfold wIf at h; split at h <;> cases h; exact ⟨_, rfl⟩
theorem wWhl_ok {xs : List Stmt} {q : _} (h : wWhl xs = some q) : ∃ pos, xs = [.While q.1 q.2 [] pos] := by
  unfold wWhl at h; split at h <;> cases h; exact ⟨_, rfl⟩
theorem wFor_ok {xs : List Stmt} {q : _} (h : wFor xs = some q) : ∃ pos, xs = [.For q.1 q.2.1 q.2.2 [] pos] := by
  unfold wFor at h; split at h <;> cases h; exact ⟨_, rfl⟩
theorem wRai_ok {xs : List Stmt} {q : _} (h : wRai xs = some q) : ∃ (s : Str) (j : Nat) (p p2 p3 pos : Pos), xs = [.Raise (some (.Call (.Name q p) [.Constant (.str s) j p2] [] p3)) none pos] := by
  unfold wRai at h; split at h <;> cases h; exact ⟨_, _, _, _, _, _, rfl⟩
theorem wPass_ok {xs : List Stmt} (h : wPass xs = true) : ∃ pos, xs = [.Pass pos] := by
  unfold wPass at h; split at h <;> first | exact ⟨_, rfl⟩ | cases h
theorem one_ok {xs : List Stmt} (h : one xs = true) : ∃ st, xs = [st] := by
  unfold one at h; split at h <;> first | exact ⟨_, rfl⟩ | cases h
theorem wNil_ok {xs : List Stmt} (h : wNil xs = true) : xs = [] := by
  unfold wNil at h; split at h <;> first | rfl | cases h
section
variable {g : Cg} {k : Nat} {ft : Ft} {CA : Nat → Value} {X : Cx} {sc : Scope} {WO : WN} {fr : Bool}
theorem subT_ok (so : SOk g k ft CA X sc WO) {i : Nat} {kx : E} {tg : Expr} (c : subT g k X.N sc i kx tg = true) : ∃ o y p, tg = .Subscript o y p ∧ PE X o (L2.tVar i) ∧ PE X y (tE X.K X.w WO (ev ft kx)) ∧ ∀ v, assign (.Subscript o y p) X.env v = (do
      let ov ← holding [v] (eval o X.env)
      let iv ← holding [v, ov] (eval y X.env)
      standAt p
      holding [v, ov, iv] (setItem ov iv v)
      release [v, ov, iv] []) := by
  unfold subT at c
  split at c
  case h_2 => cases c
  rename_i q hq
  simp only [Bool.and_eq_true] at c
  obtain ⟨⟨⟨c1, c2⟩, c3⟩, c4⟩ := c
  obtain ⟨x, p, e, h1, h2, h3, h4⟩ := so.xo.var c1
  refine ⟨q.1, q.2.1, q.2.2, wSub_ok hq, by rw [e]; exact pe_var h1 h2 h3 h4, (snd_E kx _ _ X sc WO _ so.xo c4).pe c3, fun v => ?_⟩
  generalize q.2.1 = y at c2
  cases y <;> first
    | rfl
    | cases c2
theorem nmB_ok (so : SOk g k ft CA X sc WO) {i : Nat} {tg : Expr} (c : nmB X.N sc i tg = true) : ∃ y py, tg = .Name y py ∧ X.N[i]? = some y ∧ Loc X.env.scope y ∧ (X.fn y = true ∨ X.env.scope.names.lookup y = some .local) := by
  cases tg <;> try cases c
  rename_i y py
  simp only [nmB, Bool.and_eq_true, decide_eq_true_eq] at c
  exact ⟨y, py, rfl, c.1, so.xo.scp.loc c.2, so.xo.scp.fnl so.xo.fnc c.2⟩
theorem lc_expr {X : Cx} {sc : Scope} {e : E} {x : Expr} (h : isLc e = true) (c : chk g k X.N e sc (.ex x) = true) : ∃ vs t it cnd elt, e = .lc vs t it cnd elt := by
  cases e <;> first
    | exact ⟨_, _, _, _, _, rfl⟩
    | cases h
def SG (g : Cg) (k : Nat) (ft : Ft) (X : Cx) (sc : Scope) (WO : WN) (fr : Bool) (s : S) : Prop := ∀ xs : List Stmt, chkS g k X.N fr s sc xs = true → (isSeq s = false → ∃ st, xs = [st] ∧ PS X st (tSx X fr WO (evS ft s))) ∧ (isSeq s = true → PSs X xs (tSx X fr WO (evS ft s)))
theorem SG.pss {s : S} {xs : List Stmt} (h : SG g k ft X sc WO fr s) (c : chkS g k X.N fr s sc xs = true) : PSs X xs (tSx X fr WO (evS ft s)) := by
  cases q : isSeq s with
  | true => exact (h xs c).2 q
  | false =>
    obtain ⟨st, rfl, p⟩ := (h xs c).1 q
    exact pss_one p
theorem SG.mk {s : S} (hq : isSeq s = false) (h : ∀ xs, chkS g k X.N fr s sc xs = true → ∃ st, xs = [st] ∧ PS X st (tSx X fr WO (evS ft s))) : SG g k ft X sc WO fr s := fun xs c => ⟨fun _ => h xs c, fun z => by rw [hq] at z; cases z⟩
theorem g_asg (so : SOk g k ft CA X sc WO) {t : T} {e : E} : SG g k ft X sc WO fr (.asg t e) := .mk rfl fun xs c => by
  simp only [chkS] at c
  split at c
  case h_2 => cases c
  rename_i q hq
  obtain ⟨pos, rfl⟩ := wAsg_ok hq
  simp only [Bool.and_eq_true] at c
  obtain ⟨⟨⟨⟨⟨⟨c1, c2⟩, c3⟩, c4⟩, c5⟩, c6⟩, c7⟩ := c
  refine ⟨_, rfl, ?_⟩
  have hg : PG X q.1 (gT X.K X.w t) := snd_T so.xo.calm so.xo.nd so.xo.scp so.xo.fnc t (.ex q.1) c3
  have he := snd_E e _ _ X sc WO _ so.xo c4
  cases hl : lcSame sc q.1 q.2.1 with
  | true =>
    rw [hl] at c7
    obtain ⟨vs, t', it, cnd, elt, rfl⟩ := lc_expr c7 c4
    obtain ⟨x, tg, i, ifs, scope, p, e1, P⟩ := lc_parts (snd_E it) (snd_E cnd) (snd_E elt) so.xo c4
    have e1 : q.2.1 = _ := Tg.ex.inj e1
    rw [e1] at hl ⊢
    cases hn : q.1 <;> rw [hn] at hl <;> try (cases hl; done)
    rename_i y py
    obtain ⟨h1, h2⟩ := sw_lc (l := pos.line) so.hk so.hs hl
    rw [hn] at c3
    cases t <;> try (cases c3; done)
    rename_i j
    simp only [chkT, Bool.and_eq_true, decide_eq_true_eq] at c3
    exact q_nameLc so.xo.calm so.xo.nd c3.1.1 h2 h1 P
  | false =>
    cases hn : q.1 <;> rw [hn] at c1 c3 c5 c6 hl hg <;> try (cases c1; done)
    case Name y py =>
      exact q_asg (he.pe c2) hg (sw_name (l := pos.line) so.hk so.hs hl c5) st_name rfl
    case Tuple ts n p =>
      exact q_asg (he.pe c2) hg sw_tup (st_tup so.hs c6) rfl
    all_goals (cases t <;> cases c3)
theorem g_asO (so : SOk g k ft CA X sc WO) {i : Nat} {e : E} : SG g k ft X sc WO fr (.asO i e) := .mk rfl fun xs c => by
  simp only [chkS] at c
  split at c
  case h_2 => cases c
  rename_i q hq
  obtain ⟨pos, rfl⟩ := wAsg_ok hq
  simp only [Bool.and_eq_true] at c
  obtain ⟨⟨⟨⟨⟨c1, c2⟩, c3⟩, c4⟩, c5⟩, c6⟩ := c
  refine ⟨_, rfl, ?_⟩
  have he := snd_E e _ _ X sc WO _ so.xo c4
  obtain ⟨y, py, hn, h1, h2, h3⟩ := nmB_ok so c1
  rw [hn] at c5 c6 ⊢
  have hw : wk e = false := by
    cases e <;> first | rfl | (cases c2; done)
  cases hl : lcSame sc (.Name y py) q.2.1 with
  | true =>
    rw [hl] at c6
    obtain ⟨vs, t', it, cnd, elt, rfl⟩ := lc_expr c6 c4
    obtain ⟨x, tg, ii, ifs, scope, p, e1, P⟩ := lc_parts (snd_E it) (snd_E cnd) (snd_E elt) so.xo c4
    have e1 : q.2.1 = _ := Tg.ex.inj e1
    rw [e1] at hl ⊢
    obtain ⟨k1, k2⟩ := sw_lc (l := pos.line) so.hk so.hs hl
    exact q_ownLc so.xo.calm so.xo.nd h1 k2 k1 P
  | false => exact q_own so.xo.nd h1 h2 h3 ((he.1 hw).o c2) (sw_name so.hk so.hs hl c5)
theorem g_par (so : SOk g k ft CA X sc WO) {is : List (Nat × Bool)} {es : E} : SG g k ft X sc WO fr (.par is es) := .mk rfl fun xs c => by
  simp only [chkS] at c
  split at c
  case h_2 => cases c
  rename_i q hq
  obtain ⟨pos, rfl⟩ := wAsg_ok hq
  unfold parB at c
  split at c
  case h_3 => cases c
  · rename_i i o1 j o2
    split at c
    case h_2 => cases c
    rename_i a b ha hb
    simp only [parB2, Bool.and_eq_true] at c
    obtain ⟨⟨⟨⟨⟨c1, c2⟩, c3⟩, c4⟩, c5⟩, c6⟩ := c
    refine ⟨_, rfl, ?_⟩
    obtain ⟨n, p, e1⟩ := wTup2_ok ha
    obtain ⟨n', p', e2⟩ := wTup2_ok hb
    have hl : SxL X WO ft es [b.1, b.2] := snd_E es _ _ X sc WO _ so.xo c6
    unfold loc2 at c1
    split at c1
    case h_2 => cases c1
    rename_i u v hu hv
    simp only [Bool.and_eq_true, decide_eq_true_eq] at c1
    obtain ⟨⟨⟨⟨⟨⟨d1, d2⟩, d3⟩, d4⟩, d5⟩, d6⟩, d7⟩ := c1
    rw [e1, e2, wName_ok hu, wName_ok hv]
    have hx : X.env.scope.names.lookup u.1 = some .local := by rw [so.hs]; simpa using d5
    have hy : X.env.scope.names.lookup v.1 = some .local := by rw [so.hs]; simpa using d6
    exact q_par2F so.xo.calm so.xo.nd d1 d2 d3 hx hy (hl.paF c5) (st_two so.hk so.hs d5 d6 d7 d4 c3 c4 c2) rfl
  · rename_i i o1 j o2 l o3
    split at c
    case h_2 => cases c
    rename_i a b ha hb
    simp only [parB3, Bool.and_eq_true] at c
    obtain ⟨⟨⟨⟨⟨⟨c1, c2⟩, c3⟩, c4⟩, c4b⟩, c5⟩, c6⟩ := c
    refine ⟨_, rfl, ?_⟩
    obtain ⟨n, p, e1⟩ := wTup3_ok ha
    obtain ⟨n', p', e2⟩ := wTup3_ok hb
    have hl : SxL X WO ft es [b.1, b.2.1, b.2.2] := snd_E es _ _ X sc WO _ so.xo c6
    unfold loc3 at c1
    split at c1
    case h_2 => cases c1
    rename_i u v w hu hv hw
    simp only [Bool.and_eq_true, decide_eq_true_eq, loc1] at c1
    obtain ⟨⟨⟨⟨⟨⟨⟨⟨⟨⟨d1, d2⟩, d3⟩, ⟨d4, d5⟩, d6⟩, ⟨d7, d8⟩, d9⟩, i1⟩, i2⟩, i3⟩, j1⟩, j2⟩, j3⟩ := c1
    rw [e1, e2, wName_ok hu, wName_ok hv, wName_ok hw]
    have hx : X.env.scope.names.lookup u.1 = some .local := by rw [so.hs]; simpa using d2
    have hy : X.env.scope.names.lookup v.1 = some .local := by rw [so.hs]; simpa using d5
    have hz : X.env.scope.names.lookup w.1 = some .local := by rw [so.hs]; simpa using d8
    exact q_par3F so.xo.calm so.xo.nd d1 d4 d7 i1 i2 i3 hx hy hz (hl.paF c5) (st_three so.hk so.hs d2 d5 d8 d6 d9 j1 j2 j3 c3 c4 c4b c2) rfl
theorem g_asS (so : SOk g k ft CA X sc WO) {i : Nat} {kx e : E} : SG g k ft X sc WO fr (.asS i kx e) := .mk rfl fun xs c => by
  simp only [chkS] at c
  split at c
  case h_2 => cases c
  rename_i q hq
  obtain ⟨pos, rfl⟩ := wAsg_ok hq
  simp only [Bool.and_eq_true] at c
  obtain ⟨⟨c1, c2⟩, c3⟩ := c
  refine ⟨_, rfl, ?_⟩
  obtain ⟨o, y, p, e1, h1, h2, h3⟩ := subT_ok so c1
  rw [e1]
  exact q_set so.xo.un ((snd_E e _ _ X sc WO _ so.xo c3).pe c2) h1 h2 sw_sub st_sub h3
theorem g_swp (so : SOk g k ft CA X sc WO) {i j : Nat} {kx ky es : E} : SG g k ft X sc WO fr (.swp i kx j ky es) := .mk rfl fun xs c => by
  simp only [chkS] at c
  split at c
  case h_2 => cases c
  rename_i q hq
  obtain ⟨pos, rfl⟩ := wAsg_ok hq
  split at c
  case h_2 => cases c
  rename_i a ha
  simp only [Bool.and_eq_true] at c
  obtain ⟨⟨⟨c1, c2⟩, c3⟩, c4⟩ := c
  refine ⟨_, rfl, ?_⟩
  obtain ⟨n, p, e1⟩ := wTup2_ok ha
  obtain ⟨o, y, p1, e2, h1, h2, h3⟩ := subT_ok so c1
  obtain ⟨o', y', p2, e3, h1', h2', h3'⟩ := subT_ok so c2
  rw [e1, e2, e3]
  have he := (snd_E (.tup es) _ _ X sc WO _ so.xo c4).pe rfl
  refine q_swp so.xo.un so.xo.calm he h1 h2 h1' h2' sw_tup (st_tup so.hs ?_) h3 h3'
  generalize q.2.1 = x
  cases x <;> rfl
theorem g_exp (so : SOk g k ft CA X sc WO) {e : E} : SG g k ft X sc WO fr (.exp e) := .mk rfl fun xs c => by
  simp only [chkS] at c
  split at c
  case h_2 => cases c
  rename_i q hq
  obtain ⟨pos, rfl⟩ := wExp_ok hq
  simp only [Bool.and_eq_true] at c
  obtain ⟨⟨c1, c2⟩, c3⟩ := c
  refine ⟨_, rfl, q_exp ((snd_E e _ _ X sc WO _ so.xo c3).pb c1) ?_⟩
  clear c3 hq
  cases q <;> first
    | rfl
    | cases c2
theorem g_app (so : SOk g k ft CA X sc WO) {i : Nat} {e : E} : SG g k ft X sc WO fr (.app i e) := .mk rfl fun xs c => by
  simp only [chkS] at c
  split at c
  case h_2 => cases c
  rename_i x hx
  obtain ⟨pos, rfl⟩ := wExp_ok hx
  split at c
  case h_2 => cases c
  rename_i q hq
  obtain ⟨apos, cpos, e1, hline⟩ := vMet_ok hq
  have e1 : x = _ := Tg.ex.inj e1
  simp only [Bool.and_eq_true, decide_eq_true_eq] at c
  obtain ⟨⟨⟨c1, c2⟩, c3⟩, c4⟩ := c
  split at c4
  case h_2 => cases c4
  rename_i y hy
  simp only [Bool.and_eq_true] at c4
  obtain ⟨n, p, en, h1, h2, h3, h4⟩ := so.xo.var c2
  refine ⟨_, rfl, ?_⟩
  rw [e1, hy, c1]
  rw [hline] at c3
  exact q_app (by rw [en]; exact pe_var h1 h2 h3 h4) ((snd_E e _ _ X sc WO _ so.xo c4.2).pe c4.1.2) (by rw [en]; rfl) c3 c4.1.1
theorem g_ret (so : SOk g k ft CA X sc WO) {e : E} : SG g k ft X sc WO fr (.ret e) := .mk rfl fun xs c => by
  simp only [chkS] at c
  split at c
  case h_2 => cases c
  rename_i x hx
  obtain ⟨pos, rfl⟩ := wRet_ok hx
  simp only [Bool.and_eq_true, Bool.not_eq_true'] at c
  obtain ⟨⟨rfl, c2⟩, c3⟩ := c
  exact ⟨_, rfl, q_ret ((snd_E e _ _ X sc WO _ so.xo c3).pe c2)⟩
theorem g_ret0 (so : SOk g k ft CA X sc WO) : SG g k ft X sc WO fr .ret0 := .mk rfl fun xs c => by
  simp only [chkS] at c
  split at c
  case h_2 => cases c
  rename_i hx
  obtain ⟨pos, rfl⟩ := wRet_ok hx
  simp only [Bool.not_eq_true'] at c
  subst c
  exact ⟨_, rfl, q_ret0⟩
theorem g_reO (so : SOk g k ft CA X sc WO) {e : E} : SG g k ft X sc WO fr (.reO e) := .mk rfl fun xs c => by
  simp only [chkS] at c
  split at c
  case h_2 => cases c
  rename_i x hx
  obtain ⟨pos, rfl⟩ := wRet_ok hx
  simp only [Bool.and_eq_true, Bool.or_eq_true] at c
  obtain ⟨⟨rfl, c2⟩, c3⟩ := c
  refine ⟨_, rfl, ?_⟩
  have he := snd_E e _ _ X sc WO _ so.xo c2
  cases ho : ownB e with
  | true =>
    cases e <;> try (cases ho; done)
    rename_i i
    exact q_reB ((he.1 rfl).v i rfl)
  | false =>
    rw [ho] at c3
    rcases c3 with c3 | c3
    · cases c3
    · have hw : wk e = false := by
        cases e <;> first | rfl | (cases c3.1; done)
      exact q_reO ho ((he.1 hw).o c3.1)
theorem snd_S (so : SOk g k ft CA X sc WO) : ∀ s : S, SG g k ft X sc WO fr s := by
  intro s
  induction s with
  | nil =>
    intro xs c
    simp only [chkS] at c
    have := wNil_ok c
    subst this
    exact ⟨fun z => (by cases z), fun _ => q_nil⟩
  | cons a b iha ihb =>
    intro xs c
    simp only [chkS] at c
    split at c
    case h_2 => cases c
    rename_i q hq
    have e := wCons_ok hq
    subst e
    simp only [Bool.and_eq_true, Bool.not_eq_true'] at c
    obtain ⟨⟨⟨c1, c2⟩, c3⟩, c4⟩ := c
    obtain ⟨st, e1, p⟩ := (iha _ c3).1 c1
    cases e1
    exact ⟨fun z => (by cases z), fun _ => q_cons p ((ihb _ c4).2 c2)⟩
  | asg t e => exact g_asg so
  | asO i e => exact g_asO so
  | par is es => exact g_par so
  | asS i kx e => exact g_asS so
  | swp i kx j ky es => exact g_swp so
  | exp e => exact g_exp so
  | app i e => exact g_app so
  | rem i e => exact .mk rfl fun xs c => by simp only [chkS, Bool.false_eq_true] at c
  | ret e => exact g_ret so
  | reO e => exact g_reO so
  | ret0 => exact g_ret0 so
  | ite c a b iha ihb =>
    refine .mk rfl fun xs h => ?_
    simp only [chkS] at h
    split at h
    case h_2 => cases h
    rename_i q hq
    obtain ⟨pos, rfl⟩ := wIf_ok hq
    simp only [Bool.and_eq_true] at h
    obtain ⟨⟨⟨c1, c2⟩, c3⟩, c4⟩ := h
    exact ⟨_, rfl, q_ite ((snd_E c _ _ X sc WO _ so.xo c2).pt c1) (iha.pss c3) (ihb.pss c4)⟩
  | whl c b ihb =>
    refine .mk rfl fun xs h => ?_
    simp only [chkS] at h
    split at h
    case h_2 => cases h
    rename_i q hq
    obtain ⟨pos, rfl⟩ := wWhl_ok hq
    simp only [Bool.and_eq_true] at h
    obtain ⟨⟨c1, c2⟩, c3⟩ := h
    exact ⟨_, rfl, q_whl so.ps ((snd_E c _ _ X sc WO _ so.xo c2).pt c1) (ihb.pss c3)⟩
  | for_ t it b ihb =>
    refine .mk rfl fun xs h => ?_
    simp only [chkS] at h
    split at h
    case h_2 => cases h
    rename_i q hq
    obtain ⟨pos, rfl⟩ := wFor_ok hq
    simp only [Bool.and_eq_true] at h
    obtain ⟨⟨⟨⟨⟨c1, c2⟩, c3⟩, c4⟩, c5⟩, c6⟩ := h
    exact ⟨_, rfl, q_for so.ps so.xo.calm ((snd_E it _ _ X sc WO _ so.xo c5).pi c1 c3) (snd_T so.xo.calm so.xo.nd so.xo.scp so.xo.fnc t (.ex q.1) c4) (ihb.pss c6) c2⟩
  | rai c a =>
    refine .mk rfl fun xs h => ?_
    simp only [chkS] at h
    split at h
    case h_2 => cases h
    rename_i x hx
    obtain ⟨s, j, p, p2, p3, pos, rfl⟩ := wRai_ok hx
    simp only [Bool.and_eq_true, decide_eq_true_eq] at h
    obtain ⟨⟨⟨c1, c2⟩, c3⟩, c4⟩ := h
    have := isNil_ok c1
    subst this
    obtain ⟨C, h1, h2, h3, h4, h5⟩ := so.xo.fx.exs c x c2
    refine ⟨_, rfl, psW (ps_raise so.xo.calm so.xo.tk (pmk_own PySem.F.excBase_ValueError h2 h1 h3 h4 (so.xo.scp.gl c3) (nameOk_ c4).1)) fun D σ H ⟨G, env, ok, q⟩ => ?_⟩
    exact ⟨c, .lst [], h5.symm, rfl, q σ H ⟨fun _ _ h _ _ => h, .refl _⟩⟩
  | pas =>
    refine .mk rfl fun xs h => ?_
    simp only [chkS] at h
    obtain ⟨pos, rfl⟩ := wPass_ok h
    exact ⟨_, rfl, q_pass⟩
end
end Py
end
section
set_option linter.all false
set_option maxRecDepth 100000
set_option maxHeartbeats 4000000
/-! PySnd22: defs. -/
namespace Py
open PySem PySem.Spec PyProof.Rows L2
variable [tb : Tb]
section
variable {K : Fg} {w : World} {G H G' H' : Hp} {σ σ' : Sg} {env env' : Env}
abbrev exS (σ : Sg) (n : Nat) : Sg := σ ++ List.replicate n none
abbrev exE (env : Env) (n : Nat) : Env := env ++ List.replicate n .no
theorem exE_at {n i : Nat} {s : Slot} (h : (exE env n)[i]? = some s) : s = .no ∨ (i < env.length ∧ env[i]? = some s) := by
  by_cases hi : i < env.length
  · rw [List.getElem?_append_left hi] at h
    exact .inr ⟨hi, h⟩
  · rw [List.getElem?_append_right (by omega), List.getElem?_replicate] at h
    split at h <;> cases h
    exact .inl rfl
theorem exS_at {n i : Nat} (h : i < σ.length) : (exS σ n)[i]? = σ[i]? := List.getElem?_append_left h
theorem exE_l {n i : Nat} (h : i < env.length) : (exE env n)[i]? = env[i]? := List.getElem?_append_left h
theorem EOk.ext (ok : EOk K w G H σ env) (n : Nat) : EOk K w G H (exS σ n) (exE env n) := by
  refine ⟨ok.sub, by simp [ok.len], fun i s h => ?_, fun i j s t p hi hj hs ht a b => ?_, ok.tabs, ok.ntb⟩
  · rcases exE_at h with rfl | ⟨hi, h2⟩
    · trivial
    · rw [exS_at (by rw [← ok.len]; exact hi)]
      exact ok.slot i s h2
  · rcases exE_at hi with rfl | ⟨l1, h1⟩
    · exact (hs rfl).elim
    · rcases exE_at hj with rfl | ⟨l2, h2⟩
      · exact (ht rfl).elim
      · rw [exS_at (by rw [← ok.len]; exact l1)] at a
        rw [exS_at (by rw [← ok.len]; exact l2)] at b
        exact ok.apart i j s t p h1 h2 hs ht a b
theorem ow_ext (hl : env.length = σ.length) {n : Nat} {p : Addr} : Ow (exS σ n) (exE env n) p ↔ Ow σ env p := by
  constructor
  · intro ⟨i, s, h, hc, hp⟩
    rcases exE_at h with rfl | ⟨l1, h1⟩
    · exact (hc rfl).elim
    · rw [exS_at (by rw [← hl]; exact l1)] at hp
      exact ⟨i, s, h1, hc, hp⟩
  · intro ⟨i, s, h, hc, hp⟩
    have l1 : i < env.length := (List.getElem?_eq_some_iff.mp h).1
    exact ⟨i, s, by rw [exE_l l1]; exact h, hc, by rw [exS_at (by rw [← hl]; exact l1)]; exact hp⟩
theorem env0_eq (f : Fn) (ds : List D) : env0 f ds = exE (argE f.io ds) (f.ns - f.np) := by
  unfold env0 argE
  cases f.io <;> cases ds <;> rfl
theorem Go.awayF {H2 : Hp} {p : Addr} (g : Go G H σ env G' H' σ' env') (hp : Fsh H p) (hn : Plain H' p) (h : ∀ a, a ≠ p → H2 a = H' a) : Go G H σ env G' H2 σ' env' :=
  ⟨g.gs, fun a o e n nt => by
    have ne : a ≠ p := fun z => by rw [z] at e; exact hp.no e nt
    rw [h a ne]; exact g.hs a o e n nt, g.fr, g.ow, g.io, g.tk.trans (Tk.away hn h)⟩
/-- the end of a def, seen from its call -/
theorem EOk.leave {f : Fn} {vs : List V} {ds : List D} {n : Nat} {c : D} (ok : EOk K w G H (sArg vs) (argE f.io ds)) (g : Go G H (exS (sArg vs) n) (exE (argE f.io ds) n) G' H' σ' env') (e : EOk K w G' H' σ' env') (hc : ioOut f env' = .ok c) :
    EOk K w G' H' (sArg vs) (outE f.io ds c) ∧ Go G H (sArg vs) (argE f.io ds) G' H' (sArg vs) (outE f.io ds c) ∧ (∀ p, Ow (sArg vs) (argE f.io ds) p → Ow σ' env' p) ∧ ∀ p, Ow (sArg vs) (outE f.io ds c) p → Ow σ' env' p := by
  have hlen : (argE f.io ds).length = (sArg vs).length := ok.len
  have own : ∀ p, Ow (exS (sArg vs) n) (exE (argE f.io ds) n) p ↔ Ow (sArg vs) (argE f.io ds) p := fun p => ow_ext hlen
  have hl : vs.length = ds.length := by
    have := hlen
    cases hio : f.io <;> rw [hio] at this <;> cases ds <;> simpa [argE] using this.symm
  -- without a lent one
  have plain : f.io = false ∨ ds = [] → EOk K w G' H' (sArg vs) (outE f.io ds c) ∧ Go G H (sArg vs) (argE f.io ds) G' H' (sArg vs) (outE f.io ds c) ∧ (∀ p, Ow (sArg vs) (argE f.io ds) p → Ow σ' env' p) ∧ ∀ p, Ow (sArg vs) (outE f.io ds c) p → Ow σ' env' p := fun h => by
    have e1 : argE f.io ds = ds.map Slot.imm := by
      rcases h with h | h
      · rw [h]; cases ds <;> rfl
      · rw [h]; cases f.io <;> rfl
    have e2 : outE f.io ds c = ds.map Slot.imm := by
      rcases h with h | h
      · rw [h]; cases ds <;> rfl
      · rw [h]; cases f.io <;> rfl
    rw [e1] at ok g own ⊢
    rw [e2]
    have no : ∀ {τ : Sg} {p : Addr}, ¬ Ow τ (ds.map Slot.imm) p := ow_imm
    refine ⟨⟨e.sub, ok.len, fun i s hi => ?_, ok.apart, e.tabs, e.ntb⟩, ⟨g.gs, fun a o ha _ => g.hs a o ha fun q => no ((own a).mp q), fun a o ha na => (g.fr a o ha na).imp id fun q => (own a).mp q, fun a q => (no q).elim, fun i d hi => ?_, g.tk⟩, fun p q => (no q).elim, fun p q => (no q).elim⟩
    · obtain ⟨d, rfl, hd⟩ := imm_at hi
      obtain ⟨x, hx, rx⟩ := ok.slot i _ hi
      exact ⟨x, hx, rx.sub g.gs⟩
    · obtain ⟨d', z, _⟩ := imm_at hi
      cases z
  by_cases hp : f.io = false ∨ ds = []
  · exact plain hp
  · have hio : f.io = true := by
      cases h : f.io with
      | true => rfl
      | false => exact (hp (.inl h)).elim
    cases ds with
    | nil => exact (hp (.inr rfl)).elim
    | cons d ds =>
      cases vs with
      | nil => simp at hl
      | cons v vs =>
        rw [hio] at ok g own ⊢
        have ok : EOk K w G H (some v :: sArg vs) (.io d :: ds.map Slot.imm) := ok
        have hh : env'.head? = some (.io c) := by
          unfold ioOut at hc
          rw [if_pos hio] at hc
          split at hc
          · rename_i q
            cases hc
            exact q
          · cases hc
        have h0 : env'[0]? = some (.io c) := by rw [← List.head?_eq_getElem?]; exact hh
        obtain ⟨p, hp1, hp2, hp3⟩ := e.slot 0 _ h0
        obtain ⟨_, hs0⟩ := g.io 0 c h0
        have hv : σ'[0]? = some (some v) := by rw [hs0]; rfl
        rw [hv] at hp1
        cases hp1
        have owA : ∀ {x : D} {a : Addr}, Ow (some (.ref p) :: sArg vs) (.io x :: ds.map Slot.imm) a → a = p := fun {x a} ⟨j, s, hj, hcs, hq⟩ => by
          cases j with
          | zero => cases hq; rfl
          | succ j =>
            obtain ⟨d, rfl, _⟩ := imm_at (show (ds.map Slot.imm)[j]? = some s from by simpa using hj)
            exact (hcs rfl).elim
        have owP : ∀ {x : D}, Ow (some (.ref p) :: sArg vs) (.io x :: ds.map Slot.imm) p := fun {x} => ⟨0, .io x, rfl, (by intro z; cases z), rfl⟩
        have owE : Ow σ' env' p := ⟨0, .io c, h0, (by intro z; cases z), hv⟩
        have own : ∀ q, Ow (exS (some (.ref p) :: sArg vs) n) (exE (.io d :: ds.map Slot.imm) n) q ↔ Ow (some (.ref p) :: sArg vs) (.io d :: ds.map Slot.imm) q := own
        have g : Go G H (exS (some (.ref p) :: sArg vs) n) (exE (.io d :: ds.map Slot.imm) n) G' H' σ' env' := g
        show EOk K w G' H' (some (.ref p) :: sArg vs) (.io c :: ds.map Slot.imm) ∧ Go G H (some (.ref p) :: sArg vs) (.io d :: ds.map Slot.imm) G' H' (some (.ref p) :: sArg vs) (.io c :: ds.map Slot.imm) ∧ (∀ q, Ow (some (.ref p) :: sArg vs) (.io d :: ds.map Slot.imm) q → Ow σ' env' q) ∧ ∀ q, Ow (some (.ref p) :: sArg vs) (.io c :: ds.map Slot.imm) q → Ow σ' env' q
        refine ⟨⟨e.sub, ok.len, fun i s hi => ?_, fun i j s t q hi hj hs ht a b => ?_, e.tabs, e.ntb⟩, ⟨g.gs, fun a o ha na => g.hs a o ha fun q => na ((own a).mp q), fun a o ha na => (g.fr a o ha na).imp id fun q => (own a).mp q, fun a q => .inl (by rw [owA q]; exact owP), fun i x hi => ?_, g.tk⟩, fun q hq => by rw [owA hq]; exact owE, fun q hq => by rw [owA hq]; exact owE⟩
        · cases i with
          | zero =>
            cases hi
            exact ⟨p, rfl, hp2, hp3⟩
          | succ i =>
            have hi' : (ds.map Slot.imm)[i]? = some s := by simpa using hi
            obtain ⟨x, rfl, hx⟩ := imm_at hi'
            obtain ⟨y, hy, ry⟩ := ok.slot (i + 1) (.imm x) (by simpa using hi')
            exact ⟨y, hy, ry.sub g.gs⟩
        · have z1 : i = 0 := by
            cases i with
            | zero => rfl
            | succ i =>
              obtain ⟨x, rfl, _⟩ := imm_at (show (ds.map Slot.imm)[i]? = some s from by simpa using hi)
              exact (hs rfl).elim
          have z2 : j = 0 := by
            cases j with
            | zero => rfl
            | succ i =>
              obtain ⟨x, rfl, _⟩ := imm_at (show (ds.map Slot.imm)[i]? = some t from by simpa using hj)
              exact (ht rfl).elim
          rw [z1, z2]
        · cases i with
          | zero => exact ⟨⟨d, rfl⟩, rfl⟩
          | succ i =>
            obtain ⟨y, z, _⟩ := imm_at (show (ds.map Slot.imm)[i]? = some (.io x) from by simpa using hi)
            cases z
end
section
variable {P : Program} {w : World} {K : PySem.W.Frag} {mg : Str → Option Value} {base : Heap} {x qual : Str} {params : Arguments} {body : List Stmt} {scope : Scope} {kws : List (Str × V)} {fa : Addr} {fd : FuncData}
variable {g : Cg} {k : Nat} {ft : Ft} {CA : Nat → Value}
theorem start_eq {N : List Str} {vs : List V} {f : Fn} (h1 : f.ns = N.length) (h2 : vs.length = f.np) : L2.start N vs = exS (sArg vs) (f.ns - f.np) := by
  unfold L2.start
  rw [h1, h2]
/-- what is known of a def that has lambdas: its code object, the table of this one -/
def LamB0 (base : Heap) (mg : Str → Option Value) (cd : Value) (qual : Str) : Prop := ∃ c P, LamX.TabB base mg c P ∧ cd = .ref c ∧ (P, (qual ++ ".<locals>.") ++ "<lambda>") ∈ Tb.T ∧ ∀ p ∈ Tb.T, p.1 = P → p.2 = (qual ++ ".<locals>.") ++ "<lambda>"
/-- a def keeps what the evaluator says -/
theorem fn_ok {N ps : List Str} {f : Fn} (F : FunD K x qual params body scope [] kws fa fd) (S : FnScope N ps scope) (hnp : f.np = ps.length) (hns : f.ns = N.length) (hc : chkS g k N f.fr f.body scope body = true)
    (hfx : ∀ X : Cx, X.prog = P → X.w = w → X.K = K → X.mg = mg → X.base = base → Fx g k ft CA X) (hl : g.lam = true → LamB0 base mg fd.code qual) :
    FnOk P w K mg base (L2.CX P w) (k + 3) fa fd ps (spF K w CA f.np f.io f.fr (evF ft f)) := by
  obtain ⟨oc, od, dV, kV, doc, pm, an, cdv, ct, osl, rfl, lk, hcd, _, _⟩ := F.ex
  refine fn_of lk hcd S (fun vs H Q E h => by rw [h.1, hnp]) fun A outer s H vs Q E hr h => ?_
  obtain ⟨hvl, G, ds, ok, hm⟩ := h
  let X := cxOf (L2.CX P w) P w K mg base N qual scope fa cdv A outer s H E
  let WO : WN := fun c _ _ H' => E (CA c) none H'
  have so : SOk g k ft CA X scope WO := {
    xo := {
      calm := rfl
      nd := S.nd
      scp := fun y k h => ⟨k, h, .inl rfl⟩
      fnc := fun _ _ => rfl
      room := hr
      tk := (takes_of (X := X) (E := E) rfl rfl rfl rfl).imp fun cls d σ H' ⟨c, dd, e1, e2, e3⟩ => by rw [e1, e2]; exact e3
      fx := hfx X rfl rfl rfl rfl rfl
      lam := fun z => by
        obtain ⟨c, Pt, h1, h2, h3, h4⟩ := hl z
        exact ⟨c, Pt, h1, h2, h3, h4⟩ }
    hs := rfl
    hk := S.kind
    ps := passes_of (X := X) rfl }
  refine ⟨tSx X f.fr WO (evS ft f.body), (snd_S so f.body).pss hc, G, env0 f ds, ?_, ?_⟩
  · rw [start_eq hns hvl, env0_eq]
    exact ok.ext _
  · rw [start_eq hns hvl]
    have hdl : ds.length = f.np := by
      have := ok.len
      rw [← hvl]
      cases hio : f.io <;> rw [hio] at this <;> cases ds <;> simpa [argE] using this
    have hev : evF ft f ds = (match evS ft f.body (env0 f ds) with
      | .nx env => if f.fr = true then .bad else (ioOut f env).bind fun c => .ok (.non, c)
      | .rt d env => (ioOut f env).bind fun c => .ok (d, c)
      | .ex c d => .exc c d
      | .bad => .bad) := by
      unfold evF
      rw [if_pos hdl]
      try (cases evS ft f.body (env0 f ds) <;> rfl)
    rw [hev] at hm
    cases hs : evS ft f.body (env0 f ds) with
    | bad => rw [hs] at hm; exact hm
    | ex c d =>
      rw [hs] at hm
      intro σ' H' hF
      refine hm H' ⟨fun a o ha na nt => hF.hs a o ha (fun q => na ?_) nt, hF.tk⟩
      rw [env0_eq] at q
      exact (ow_ext ok.len).mp q
    | nx env' =>
      rw [hs] at hm
      simp only at hm
      intro σ' G' H' go e
      rw [env0_eq] at go
      by_cases hfr : f.fr = true
      · rw [if_pos hfr] at hm; exact hm.elim
      · rw [if_neg hfr] at hm
        cases hi : ioOut f env' with
        | exc c d => rw [hi] at hm; unfold ioOut at hi; split at hi <;> first | cases hi | (split at hi <;> cases hi)
        | bad => rw [hi] at hm; exact hm.elim
        | ok c =>
          rw [hi] at hm
          obtain ⟨e2, g2, _, _⟩ := ok.leave go e hi
          refine hm .non G' H' H' g2 e2 ?_
          rw [if_neg hfr]
          exact ⟨.non, rfl⟩
    | rt d env' =>
      rw [hs] at hm
      simp only at hm
      intro v σ' G' H' go e rv
      rw [env0_eq] at go rv
      cases hi : ioOut f env' with
      | exc c d => rw [hi] at hm; unfold ioOut at hi; split at hi <;> first | cases hi | (split at hi <;> cases hi)
      | bad => rw [hi] at hm; exact hm.elim
      | ok c =>
        rw [hi] at hm
        obtain ⟨e2, g2, o1, o2⟩ := ok.leave go e hi
        unfold RetV at rv
        by_cases hfr : f.fr = true
        · rw [if_pos hfr] at rv
          obtain ⟨hcc, p, rfl, h1, h2, h3, h4⟩ := rv
          obtain ⟨o, ho, pl⟩ := h2.there
          have pln : Plain H' p := fun u hu => by rw [ho] at hu; cases hu; exact pl
          have hHp : Fsh H p := by
            rcases h4 with h4 | h4
            · exact h4
            · exact (h3 (o1 p ((ow_ext ok.len).mp h4))).elim
          let Hd : Hp := fun a => if a = p then none else H' a
          have hd : ∀ a, a ≠ p → Hd a = H' a := fun a ha => if_neg ha
          have e3 := e2.away h1 (fun q => h3 (o2 p q)) pln hd
          have g3 := g2.awayF hHp pln hd
          have eu : H' = upd Hd p o := by
            funext a
            by_cases q : a = p
            · rw [q, upd_same, ho]
            · rw [upd_ne q, hd a q]
          refine hm (.ref p) G' Hd H' g3 e3 ?_
          rw [if_pos hfr]
          refine ⟨hcc, p, o, rfl, if_pos rfl, eu, ?_⟩
          rw [← eu]
          exact h2
        · rw [if_neg hfr] at rv
          refine hm v G' H' H' g2 e2 ?_
          rw [if_neg hfr]
          exact ⟨rv, rfl⟩
end
end Py
end
section
set_option linter.all false
set_option maxRecDepth 100000
set_option maxHeartbeats 4000000
/-! PySnd23: a whole program. -/
namespace Py
open PySem PySem.Spec PyProof.Rows L2
variable [tb : Tb]

/-- a def that tells what comes of a call: by the exception's number (0: none) its word -/
def triS : List (Nat × List Nat) → S
  | [] => .cons (.exp (.neg (.cst .non))) .nil
  | cw :: r => .cons (.ite (.cmp .eq (.loc 0) (.cst (.int (cw.1 : Int)))) (.cons (.ret (.cst (.str cw.2))) .nil) .nil) (triS r)
def triFn (tbl : List (Nat × List Nat)) : Fn := ⟨2, 2, false, false, triS tbl⟩
theorem triS_ev {ft : Ft} {n : Nat} {y : Slot} : ∀ (tbl : List (Nat × List Nat)), evS ft (triS tbl) [.imm (.int (n : Int)), y] = (match tbl.lookup n with
    | some w => .rt (.str w) [.imm (.int (n : Int)), y]
    | none => .bad)
  | [] => rfl
  | (m, w0) :: r => by
    have ih := triS_ev (ft := ft) (n := n) (y := y) r
    have e : eqR (.int (n : Int)) (.int (m : Int)) = .ok (decide (n = m)) := by
      show R.ok (decide ((n : Int) = (m : Int))) = _
      congr 1
      exact decide_eq_decide.mpr ⟨fun h => by omega, fun h => by rw [h]⟩
    have e0 : ([.imm (.int (n : Int)), y] : Env)[0]? = some (.imm (.int (n : Int))) := rfl
    simp only [triS, evS, ev, e0, late, cmpD, R.bind_ok, e, SR.ofR, bool, List.lookup_cons]
    by_cases h : n = m
    · subst h
      simp
    · have hb : (n == m) = false := by simpa using h
      rw [hb]
      simp only [h, decide_false, Bool.false_eq_true, if_false, SR.thn]
      exact ih
theorem triS_no {ft : Ft} {x y : Slot} : ∀ (tbl : List (Nat × List Nat)) (c : Nat) (d : D), (x = x) → (∃ z, x = .imm z) → evS ft (triS tbl) [x, y] ≠ .ex c d
  | [], c, d, _, _, h => by cases h
  | cw :: r, c, d, _, ⟨z, hz⟩, h => by
    subst hz
    have ih := triS_no (ft := ft) (x := .imm z) (y := y) r c d rfl ⟨z, rfl⟩
    have e0 : ([.imm z, y] : Env)[0]? = some (.imm z) := rfl
    simp only [triS, evS, ev, e0, late, cmpD, R.bind_ok] at h
    cases q : eqR z (.int (cw.1 : Int)) with
    | bad => rw [q] at h; cases h
    | exc c d => unfold eqR at q; split at q <;> cases q
    | ok b =>
      rw [q] at h
      cases b with
      | true => cases h
      | false => exact ih h
theorem tri_ev {ft : Ft} {tbl : List (Nat × List Nat)} {n : Nat} {d : D} {r : D × D} (h : evF ft (triFn tbl) [.int (n : Int), d] = .ok r) : ∃ w, tbl.lookup n = some w ∧ r.1 = .str w := by
  have e : evF ft (triFn tbl) [.int (n : Int), d] = (match evS ft (triS tbl) [.imm (.int (n : Int)), .imm d] with
    | .nx env => (ioOut (triFn tbl) env).bind fun c => .ok (.non, c)
    | .rt d env => (ioOut (triFn tbl) env).bind fun c => .ok (d, c)
    | .ex c d => .exc c d
    | .bad => .bad) := rfl
  rw [e, triS_ev] at h
  cases q : tbl.lookup n with
  | none => rw [q] at h; cases h
  | some w =>
    rw [q] at h
    cases h
    exact ⟨w, rfl, rfl⟩
theorem tri_no {ft : Ft} {tbl : List (Nat × List Nat)} (ds : List D) (c : Nat) (d : D) : evF ft (triFn tbl) ds ≠ .exc c d := by
  intro h
  match ds, h with
  | [x, y], h =>
    have e : evF ft (triFn tbl) [x, y] = (match evS ft (triS tbl) [.imm x, .imm y] with
      | .nx env => (ioOut (triFn tbl) env).bind fun c => .ok (.non, c)
      | .rt d env => (ioOut (triFn tbl) env).bind fun c => .ok (d, c)
      | .ex c d => .exc c d
      | .bad => .bad) := rfl
    rw [e] at h
    cases q : evS ft (triS tbl) [.imm x, .imm y] with
    | ex c' d' => exact triS_no tbl _ _ rfl ⟨x, rfl⟩ q
    | nx env => rw [q] at h; cases h
    | rt d' env => rw [q] at h; cases h
    | bad => rw [q] at h; cases h
  | [], h => cases h
  | [_], h => cases h
  | _ :: _ :: _ :: _, h =>
    unfold evF at h
    rw [if_neg (by simp [triFn])] at h
    cases h

/-- a def, its core form, its names -/
structure Ent where
  d : He.DefD
  f : Fn
  N : List Str
  /-- whether it has lambdas -/
  lam : Bool := false
  /-- a def that tells what comes of a call: its words -/
  tri : Option (List (Nat × List Nat)) := none
def Ent.ps (e : Ent) : List Str := match e.tri with
  | some _ => e.N.take 1
  | none => e.N.take e.f.np
def fnsOf (pr : List Ent) : List (Str × Nat × Bool × Bool) := pr.map fun e => (e.d.name, e.f.np, e.f.io, e.f.fr)
def refsOf : Nat → List Ent → List (Nat × Str)
  | _, [] => []
  | n, e :: r => if e.tri.isSome = true then (n, e.d.name) :: refsOf (n + 1) r else refsOf (n + 1) r
theorem refs_in : ∀ {pr : List Ent} {n f : Nat} {x : Str}, (f, x) ∈ refsOf n pr → ∃ i e, f = n + i ∧ pr[i]? = some e ∧ e.tri.isSome = true ∧ e.d.name = x
  | [], _, _, _, h => by cases h
  | e :: r, n, f, x, h => by
    unfold refsOf at h
    have up : (f, x) ∈ refsOf (n + 1) r → ∃ i e', f = n + i ∧ (e :: r)[i]? = some e' ∧ e'.tri.isSome = true ∧ e'.d.name = x := fun h => by
      obtain ⟨i, e', h1, h2, h3⟩ := refs_in h
      exact ⟨i + 1, e', by omega, by simpa using h2, h3⟩
    split at h
    · rename_i q
      rcases List.mem_cons.mp h with h | h
      · cases h
        exact ⟨0, e, rfl, rfl, q, rfl⟩
      · exact up h
    · exact up h
theorem refs_of : ∀ {pr : List Ent} {n i : Nat} {e : Ent}, pr[i]? = some e → e.tri.isSome = true → (n + i, e.d.name) ∈ refsOf n pr
  | [], _, _, _, h, _ => by simp at h
  | x :: r, n, 0, e, h, q => by
    simp at h
    subst h
    unfold refsOf
    rw [if_pos q]
    exact List.mem_cons_self
  | x :: r, n, i + 1, e, h, q => by
    have := refs_of (n := n + 1) (i := i) (pr := r) (by simpa using h) q
    have e1 : n + 1 + i = n + (i + 1) := by omega
    rw [e1] at this
    unfold refsOf
    split
    · exact List.mem_cons_of_mem _ this
    · exact this
/-- every parameter is written -/
def BindP (e : Ent) : Prop := ∀ (kV doc pm : Value) (an : Option Addr) (cdv ct : Value) (us : List Value), us.length = e.ps.length → bindArgs (PySem.W.fnOf e.d.name e.d.qual e.d.params e.d.body e.d.scope .none kV doc pm an cdv ct) ⟨us, []⟩ = pure (e.ps.zip us)
def AllB : List Ent → Prop
  | [] => True
  | e :: r => BindP e ∧ AllB r
theorem AllB.at : ∀ {pr : List Ent} {i : Nat} {e : Ent}, AllB pr → pr[i]? = some e → BindP e
  | [], _, _, _, h => by simp at h
  | x :: r, 0, e, h, h2 => by simp at h2; subst h2; exact h.1
  | x :: r, i + 1, e, h, h2 => AllB.at h.2 (by simpa using h2)
/-- the words are those of the core form -/
def TriP (e : Ent) : Prop := match e.tri with
  | some t => e.f = triFn t
  | none => True
def AllT : List Ent → Prop
  | [] => True
  | e :: r => TriP e ∧ AllT r
theorem AllT.at : ∀ {pr : List Ent} {i : Nat} {e : Ent}, AllT pr → pr[i]? = some e → TriP e
  | [], _, _, _, h => by simp at h
  | x :: r, 0, e, h, h2 => by simp at h2; subst h2; exact h.1
  | x :: r, i + 1, e, h, h2 => AllT.at h.2 (by simpa using h2)
def gloF (fa : List He.Fa) (x : Str) : Bool := fa.any fun f => match f with
  | .glo y => decide (y = x)
  | _ => false
def freF (fa : List He.Fa) (x : Str) : Bool := fa.any fun f => match f with
  | .free y => decide (y = x)
  | _ => false
def cstF (fa : List He.Fa) (p : Str × D) : Bool := match p.2 with
  | .int i => fa.any fun f => (match f with
    | .int y j => decide (y = p.1) && decide (j = i)
    | _ => false)
  | .str s => fa.any fun f => (match f with
    | .str y z => decide (y = p.1) && decide (z = sS s)
    | _ => false)
  | _ => false
def excF (fa : List He.Fa) (x : Str) : Bool := fa.any fun f => match f with
  | .exc y => decide (y = x)
  | _ => false
/-- whether an exception of one class is one of another -/
def exmF (fa : List He.Fa) (x y : Str) : Option Bool := match fa.find? (fun f => match f with
    | .exm u v _ => decide (u = x) && decide (v = y)
    | _ => false) with
  | some (.exm _ _ b) => some b
  | _ => none
def wordB (fa : List He.Fa) (x : Str) : List (Str × List Nat) → Option (List Nat)
  | [] => none
  | p :: r => match exmF fa x p.1 with
    | some true => some p.2
    | some false => wordB fa x r
    | none => none
def triV : List Stmt → Option (Str × List ExceptHandler × Str)
  | [.Try [.Expr (.Call (.Name a _) [] [] _) _] hds [] [] _, .Return (some (.Constant (.str df) _ _)) _] => some (a, hds, df)
  | _ => none
def tblB (g : Cg) (fa : List He.Fa) (l : List (Str × List Nat)) (p : Nat × List Nat) : Bool := match p.1 with
  | 0 => true
  | c + 1 => (match g.exs[c]? with
    | some x => decide (wordB fa x l = some p.2)
    | none => false)
def fitT (g : Cg) (fa : List He.Fa) (tbl : List (Nat × List Nat)) (e : Ent) : Bool :=
  decide (e.d.at_.1 = e.d.name) && e.d.at_.2.isNone && e.d.dfl.isEmpty && e.d.kwd.isEmpty && gloF fa e.d.name && decide (e.d.qual = e.d.name) &&
  (match triV e.d.body with
  | some q => (match hdlV q.2.1 with
    | some l => C8.scC e.N [q.1] e.d.scope && decide (e.N.take 1 = [q.1]) && visB e.d.scope q.1 && nameOk q.1 && !q.2.1.isEmpty && hdlB e.d.scope l && l.all (fun p => gloF fa p.1) &&
        decide (tbl.lookup 0 = some q.2.2.cps.toList) && tbl.all (fun p => decide (p.2.length ≤ SZ)) && tbl.all (tblB g fa l)
    | none => false)
  | none => false)
def Cg.lm (g : Cg) (b : Bool) : Cg := { g with lam := b }
/-- one def fits -/
def fitN (g : Cg) (fa : List He.Fa) (i : Nat) (e : Ent) : Bool :=
  decide (e.d.at_.1 = e.d.name) && e.d.at_.2.isNone && e.d.dfl.isEmpty && e.d.kwd.isEmpty && gloF fa e.d.name && C8.scC e.N e.ps e.d.scope && decide (e.f.ns = e.N.length) && decide (e.f.np ≤ e.N.length) && chkS (g.lm e.lam) i e.N e.f.fr e.f.body e.d.scope e.d.body
def fitE (g : Cg) (fa : List He.Fa) (i : Nat) (e : Ent) : Bool := match e.tri with
  | some t => fitT g fa t e
  | none => fitN g fa i e
def fitAll (g : Cg) (fa : List He.Fa) : Nat → List Ent → Bool
  | _, [] => true
  | i, e :: r => fitE g fa i e && fitAll g fa (i + 1) r
theorem fitAll_at {g : Cg} {fa : List He.Fa} : ∀ {n : Nat} {pr : List Ent} {i : Nat} {e : Ent}, fitAll g fa n pr = true → pr[i]? = some e → fitE g fa (n + i) e = true
  | n, [], i, e, _, h => by simp at h
  | n, x :: r, 0, e, h, h2 => by
    simp at h2; subst h2
    simp only [fitAll, Bool.and_eq_true] at h
    exact h.1
  | n, x :: r, i + 1, e, h, h2 => by
    simp only [fitAll, Bool.and_eq_true] at h
    have := fitAll_at (i := i) h.2 (by simpa using h2)
    have e1 : n + 1 + i = n + (i + 1) := by omega
    rw [← e1]; exact this
/-- names and constants of the top fit -/
def fitG (g : Cg) (fa : List He.Fa) : Bool := g.free.all (freF fa) && g.cs.all (cstF fa) && g.exs.all (fun x => gloF fa x && excF fa x)
section
variable {P : Program} {w : World} {K : PySem.W.Frag} {mg : Str → Option Value} {base h : Heap} {fa : List He.Fa} {fn : List He.DefD} {g : Cg} {CA : Nat → Value} {pr : List Ent}
theorem glo_at (KX : K.In h) (G : h.Ns mainGlobals mg) (c : He.SaysD fa fn K) {x : Str} (q : gloF fa x = true) : mg x = some (.ref (He.ga K x)) := by
  obtain ⟨f, hf, hm⟩ := List.any_eq_true.mp q
  split at hm
  · simp only [decide_eq_true_eq] at hm
    subst hm
    exact He.glo_ok KX G (c.facts hf)
  · cases hm
theorem fre_at (KX : K.In h) (G : h.Ns mainGlobals mg) (c : He.SaysD fa fn K) {x : Str} (q : freF fa x = true) : mg x = none := by
  obtain ⟨f, hf, hm⟩ := List.any_eq_true.mp q
  split at hm
  · simp only [decide_eq_true_eq] at hm
    subst hm
    exact He.free_ok KX G (c.facts hf)
  · cases hm
theorem mem_lookN {α : Type} : ∀ {l : List (Nat × α)} {x : Nat} {a : α}, l.lookup x = some a → (x, a) ∈ l
  | [], x, a, h => by cases h
  | (y, b) :: r, x, a, h => by
    rw [List.lookup_cons] at h
    split at h
    · rename_i q
      cases h
      have : x = y := by simpa using q
      rw [this]
      exact List.mem_cons_self
    · exact List.mem_cons_of_mem _ (mem_lookN h)
theorem mem_look {α : Type} : ∀ {l : List (Str × α)} {x : Str} {a : α}, l.lookup x = some a → (x, a) ∈ l
  | [], x, a, h => by cases h
  | (y, b) :: r, x, a, h => by
    rw [List.lookup_cons] at h
    split at h
    · rename_i q
      cases h
      have : x = y := by simpa using q
      rw [this]
      exact List.mem_cons_self
    · exact List.mem_cons_of_mem _ (mem_look h)
theorem exm_at (c : He.SaysD fa fn K) {x y : Str} {b : Bool} (h : exmF fa x y = some b) : PySem.W.exmOne K (.ref (He.ga K x)) (.ref (He.ga K y)) = some b := by
  unfold exmF at h
  split at h
  · rename_i u v b' q
    cases h
    have h1 := List.mem_of_find?_eq_some q
    have h2 := List.find?_some q
    simp only [Bool.and_eq_true, decide_eq_true_eq] at h2
    obtain ⟨rfl, rfl⟩ := h2
    exact He.exm_ok (c.facts h1)
  · cases h
theorem word_at (c : He.SaysD fa fn K) {x : Str} {w : List Nat} : ∀ {l : List (Str × List Nat)}, wordB fa x l = some w → ∀ P : List Nat → Prop, P w → wordsOk K (.ref (He.ga K x)) (clsOf (fun y => .ref (He.ga K y)) l) P
  | [], h, _, _ => by cases h
  | p :: r, h, P, hp => by
    unfold wordB at h
    split at h
    · rename_i q
      cases h
      exact ⟨true, exm_at c q, fun _ => hp, fun z => by cases z⟩
    · rename_i q
      exact ⟨false, exm_at c q, fun z => (by cases z), fun _ => word_at c h P hp⟩
    · cases h
theorem exc_at (c : He.SaysD fa fn K) {x : Str} (h : excF fa x = true) : (He.Fa.exc x).ok K = true := by
  obtain ⟨f, hf, hm⟩ := List.any_eq_true.mp h
  split at hm
  · simp only [decide_eq_true_eq] at hm
    subst hm
    exact c.facts hf
  · cases hm
theorem triV_ok {b : List Stmt} {q : _} (h : triV b = some q) : ∃ (p1 p2 p3 p4 p5 p6 : Pos) (j : Nat), b = [.Try [.Expr (.Call (.Name q.1 p1) [] [] p2) p3] q.2.1 [] [] p4, .Return (some (.Constant (.str q.2.2) j p5)) p6] := by
  unfold triV at h
  split at h
  · cases h; exact ⟨_, _, _, _, _, _, _, rfl⟩
  · cases h
/-- the class values, by their numbers -/
def caOf (g : Cg) (K : PySem.W.Frag) (c : Nat) : Value := .ref (He.ga K (g.exs.getD c ""))
/-- a def that tells what comes of a call -/
theorem tri_ok (KX : K.In h) (G : h.Ns mainGlobals mg) (c : He.SaysD fa fn K) {e : Ent} {tbl : List (Nat × List Nat)} {n i : Nat} (ht : e.tri = some tbl) (hm : e.d ∈ fn) (hb : BindP e) (hf : fitT g fa tbl e = true) {ft : Ft} (hft : ∃ ft', ft i = evF ft' (triFn tbl)) :
    TriF K mg ft (caOf g K) i e.d.name := by
  unfold fitT at hf
  simp only [Bool.and_eq_true, decide_eq_true_eq, Option.isNone_iff_eq_none, List.isEmpty_iff] at hf
  obtain ⟨⟨⟨⟨⟨⟨a1, a2⟩, a3⟩, a4⟩, a5⟩, a6⟩, a7⟩ := hf
  split at a7
  case h_2 => cases a7
  rename_i q hq
  split at a7
  case h_2 => cases a7
  rename_i l hl
  simp only [Bool.and_eq_true, decide_eq_true_eq, Bool.not_eq_true', List.isEmpty_eq_false_iff] at a7
  obtain ⟨⟨⟨⟨⟨⟨⟨⟨⟨b1, b2⟩, b3⟩, b4⟩, b5⟩, b6⟩, b7⟩, b8⟩, b9⟩, b10⟩ := a7
  obtain ⟨fd, F⟩ := c.defs hm
  have ed : e.d.at_ = (e.d.name, none) := Prod.ext a1 a2
  have e1 : He.fAd K e.d.at_ = He.ga K e.d.name := by rw [ed]; rfl
  have e2 : e.d.dvs K = [] := by unfold He.DefD.dvs; rw [a3]; rfl
  have e3 : e.d.kws K = [] := by unfold He.DefD.kws; rw [a4]; rfl
  rw [e1, e2, e3] at F
  have hps : e.ps = [q.1] := by unfold Ent.ps; rw [ht]; exact b2
  have hB : Binds K fd e.ps [] := F.bindsN hb
  rw [hps] at hB
  have kp := F.kp
  obtain ⟨oc, od, dV, kV, doc, pm, an, cdv, ct, osl, rfl, lk, hcd, _, _⟩ := F.ex
  rw [a6] at lk hcd hB
  obtain ⟨p1, p2, p3, p4, p5, p6, j, hbd⟩ := triV_ok hq
  rw [hbd] at lk hB
  obtain ⟨ft', hft⟩ := hft
  have hN0 : e.N[0]? = some q.1 := by
    cases hN : e.N with
    | nil => rw [hN] at b2; cases b2
    | cons u r => rw [hN] at b2; simp at b2; rw [b2]; rfl
  refine ⟨_, q.1, _, _, _, _, _, _, _, _, _, _, _, _, _, e.N, clsOf (fun y => .ref (He.ga K y)) l, q.2.2.cps.toList, glo_at KX G c a5, kp, lk, hcd, hB, C8.fnScope_by b1, hN0, ?_, b4, fun X q' h1 h2 => ?_, ?_, ?_, ?_, ?_⟩
  · unfold visB at b3
    split at b3
    · rename_i z; exact .inl z
    · rename_i z; exact .inr (.inl z)
    · rename_i z; exact .inr (.inr z)
    · cases b3
  · subst h1 h2
    exact many_gives hl b5 b6 (fun p hp => glo_at KX G c (List.all_eq_true.mp b7 p hp)) fun f => rfl
  · have := List.all_eq_true.mp b9 _ (mem_lookN b8)
    simpa using this
  · intro ds c d
    rw [hft]
    exact tri_no ds c d
  · intro d r hr
    rw [hft] at hr
    obtain ⟨w, w1, w2⟩ := tri_ev (n := 0) hr
    rw [b8] at w1
    cases w1
    exact w2
  · intro c0 d r hr
    rw [hft] at hr
    obtain ⟨w, w1, w2⟩ := tri_ev hr
    refine ⟨w, w2, ?_, fun P hP => ?_⟩
    · have := List.all_eq_true.mp b9 _ (mem_lookN w1)
      simpa using this
    · have := List.all_eq_true.mp b10 _ (mem_lookN w1)
      simp only [tblB] at this
      split at this
      case h_2 => cases this
      rename_i x hx
      simp only [decide_eq_true_eq] at this
      have e4 : caOf g K c0 = .ref (He.ga K x) := by unfold caOf; rw [List.getD_eq_getElem?_getD, hx]; rfl
      rw [e4]
      exact word_at c this P hP
/-- every def keeps what the evaluator says -/
theorem prog_ok (KX : K.In h) (G : h.Ns mainGlobals mg) (c : He.SaysD fa fn K) (hg : g.fns = fnsOf pr) (hrf : g.refs = refsOf 0 pr) (hfit : fitAll g fa 0 pr = true) (hfg : fitG g fa = true) (hmem : ∀ e ∈ pr, e.d ∈ fn) (hb : AllB pr) (hat : AllT pr)
    (hl : ∀ e ∈ pr, e.lam = true → ∀ fd, FunD K e.d.name e.d.qual e.d.params e.d.body e.d.scope [] [] (He.ga K e.d.name) fd → LamB0 base mg fd.code e.d.qual) :
    ∀ (i : Nat) (e : Ent), pr[i]? = some e → e.tri = none → ∃ fd, FunD K e.d.name e.d.qual e.d.params e.d.body e.d.scope [] [] (He.ga K e.d.name) fd ∧ mg e.d.name = some (.ref (He.ga K e.d.name)) ∧ Binds K fd e.ps [] ∧
      FnOk P w K mg base (L2.CX P w) (i + 3) (He.ga K e.d.name) fd e.ps (spF K w (caOf g K) e.f.np e.f.io e.f.fr (evF (ftAt (pr.map (·.f)) i) e.f)) ∧ e.ps.length = e.f.np := by
  intro i
  induction i using Nat.strongRecOn with
  | ind i ih =>
    intro e he hnt
    have f1 := fitAll_at hfit he
    rw [Nat.zero_add] at f1
    unfold fitE at f1
    rw [hnt] at f1
    simp only at f1
    unfold fitN at f1
    simp only [Bool.and_eq_true, decide_eq_true_eq, Option.isNone_iff_eq_none, List.isEmpty_iff] at f1
    obtain ⟨⟨⟨⟨⟨⟨⟨⟨a1, a2⟩, a3⟩, a4⟩, a5⟩, a6⟩, a7⟩, a8⟩, a9⟩ := f1
    have hme := List.mem_of_getElem? he
    obtain ⟨fd, F⟩ := c.defs (hmem e hme)
    have ed : e.d.at_ = (e.d.name, none) := Prod.ext a1 a2
    have e1 : He.fAd K e.d.at_ = He.ga K e.d.name := by rw [ed]; rfl
    have e2 : e.d.dvs K = [] := by unfold He.DefD.dvs; rw [a3]; rfl
    have e3 : e.d.kws K = [] := by unfold He.DefD.kws; rw [a4]; rfl
    rw [e1, e2, e3] at F
    have hm := glo_at KX G c a5
    have hps : e.ps = e.N.take e.f.np := by unfold Ent.ps; rw [hnt]
    have hpl : e.ps.length = e.f.np := by rw [hps, List.length_take]; omega
    have hB : Binds K fd e.ps [] := F.bindsN (hb.at he)
    refine ⟨fd, F, hm, hB, ?_, hpl⟩
    have hfg' := Bool.and_eq_true_iff.mp hfg
    have hfg1 := Bool.and_eq_true_iff.mp hfg'.1
    refine fn_ok (g := g.lm e.lam) F (C8.fnScope_by a6) hpl.symm a7 a9 (fun X e1 e2 e3 e4 e5 => ?_) fun hz => hl e hme hz fd F
    subst e1 e2 e3 e4 e5
    refine ⟨fun f n np io fr hf hn hq => ?_, fun x j hx => ?_, fun x s hx => ?_, fun x hx => ?_, fun f x hf hx => ?_, fun c0 x hx => ?_⟩
    · have hq : g.fns[f]? = some (n, np, io, fr) := hq
      rw [hg] at hq
      unfold fnsOf at hq
      rw [List.getElem?_map] at hq
      cases q : pr[f]? with
      | none => rw [q] at hq; cases hq
      | some e' =>
        rw [q] at hq
        cases hq
        have hnt' : e'.tri = none := by
          cases z : e'.tri with
          | none => rfl
          | some t =>
            have := refs_of (n := 0) q (by rw [z]; rfl)
            rw [Nat.zero_add, ← hrf] at this
            exact (hn _ this rfl).elim
        obtain ⟨fd', F', m', b', ok', l'⟩ := ih f hf e' q hnt'
        have ef : ftAt (pr.map (·.f)) i f = evF (ftAt (pr.map (·.f)) f) e'.f := ftAt_lt (by rw [List.getElem?_map, q]; rfl) hf
        refine ⟨_, fd', e'.ps, m', F'.kp, b', ?_, fun ds hne => ?_⟩
        · rw [ef]
          exact ok'
        · rw [ef] at hne
          unfold evF at hne
          split at hne
          · assumption
          · exact (hne rfl).elim
    · have := List.all_eq_true.mp hfg1.2 _ (mem_look hx)
      unfold cstF at this
      simp only at this
      obtain ⟨f, hf, hm2⟩ := List.any_eq_true.mp this
      split at hm2
      · simp only [Bool.and_eq_true, decide_eq_true_eq] at hm2
        obtain ⟨rfl, rfl⟩ := hm2
        exact He.int_ok KX G (c.facts hf)
      · cases hm2
    · have := List.all_eq_true.mp hfg1.2 _ (mem_look hx)
      unfold cstF at this
      simp only at this
      obtain ⟨f, hf, hm2⟩ := List.any_eq_true.mp this
      split at hm2
      · simp only [Bool.and_eq_true, decide_eq_true_eq] at hm2
        obtain ⟨rfl, rfl⟩ := hm2
        exact He.str_ok KX G (c.facts hf)
      · cases hm2
    · exact fre_at KX G c (List.all_eq_true.mp hfg1.1 x hx)
    · have hx : (f, x) ∈ g.refs := hx
      rw [hrf] at hx
      obtain ⟨j, e', h1, h2, h3, rfl⟩ := refs_in hx
      rw [Nat.zero_add] at h1
      subst h1
      obtain ⟨t, ht⟩ := Option.isSome_iff_exists.mp h3
      have f2 := fitAll_at hfit h2
      rw [Nat.zero_add] at f2
      unfold fitE at f2
      rw [ht] at f2
      have tp : e'.f = triFn t := by
        have := hat.at h2
        unfold TriP at this
        rw [ht] at this
        exact this
      refine tri_ok (n := 0) KX G c ht (hmem e' (List.mem_of_getElem? h2)) (hb.at h2) f2 ⟨ftAt (pr.map (·.f)) f, ?_⟩
      rw [← tp]
      exact ftAt_lt (by rw [List.getElem?_map, h2]; rfl) hf
    · have hx : g.exs[c0]? = some x := hx
      have h1 := List.all_eq_true.mp hfg'.2 x (List.mem_of_getElem? hx)
      obtain ⟨h2, h3⟩ := Bool.and_eq_true_iff.mp h1
      obtain ⟨x1, x2, x3, x4⟩ := He.exc_ok (exc_at c h3)
      refine ⟨He.ga X.K x, glo_at KX G c h2, x1, x2, raises_own x3 x4, ?_⟩
      unfold caOf
      rw [List.getD_eq_getElem?_getD, hx]
      rfl
/-- at the start all tables are empty -/
theorem tabs_start {H : Hp} {cs : List (Addr × Addr)} (h : ∀ p ∈ cs, H p.2 = some (.tbl #[])) (hc : ∀ q ∈ Tb.T, ∃ p ∈ cs, p.2 = q.1) : LamX.Tabs Tb.T H := fun q hq => by
  obtain ⟨p, hp, e⟩ := hc q hq
  exact LamX.TabS.nil (by rw [← e]; exact h p hp)
/-- what is no table -/
def noTab (H : Hp) : Hp := fun a => match H a with
  | some (.tbl _) => none
  | o => o
theorem noTab_sub {H : Hp} : Sub (noTab H) H := fun a o e => by
  unfold noTab at e
  split at e
  · cases e
  · exact e
theorem noTab_nt {H : Hp} : NTs (noTab H) := fun a o e ps z => by
  subst z
  unfold noTab at e
  split at e
  · cases e
  · rename_i h; exact h _ e
theorem noTab_at {H : Hp} {a : Addr} {o : HO} (h : H a = some o) (n : NT o) : noTab H a = some o := by
  unfold noTab
  split
  · rename_i ps q
    rw [h] at q
    exact (n _ (Option.some.inj q)).elim
  · exact h
/-- the law's def, at its script -/
theorem law_sp {np : Nat} {f : List D → R (D × D)} (hv : np = 1) {ns : List Int} (hf : f [.fz ns] = .ok (.bl true, .non)) (H : Hp) (a : Addr) (hS : SqL K H a (ns.map V.int)) (hT : LamX.Tabs Tb.T H) :
    spF K w CA np false false f [.ref a] H (fun v _ => v = .bl true) fun _ _ _ => False := by
  have hS' : SqL K (noTab H) a (ns.map V.int) := by
    rcases hS with (h | ⟨o, h⟩) | h
    · exact .inl (.inl (noTab_at h fun _ z => nomatch z))
    · exact .inl (.inr ⟨o, noTab_at h fun _ z => nomatch z⟩)
    · exact .inr h
  refine ⟨by rw [hv]; rfl, noTab H, [.fz ns], EOk.args noTab_sub hT noTab_nt (.cons (.fz hS') .nil), ?_⟩
  rw [hf]
  intro v G' H' H2 _ _ h
  rw [if_neg (by decide)] at h
  obtain ⟨r, _⟩ := h
  cases r
  rfl
end
end Py
end
section
set_option linter.all false
set_option maxRecDepth 100000
set_option maxHeartbeats 4000000
/-! PySnd24: the law's end. -/
namespace Py
open PySem PySem.Spec PyProof.Rows L2
/-- what is known of the law's def at the head's heap h -/
def LawF (l : PySem.W.OpenLaw) (w : World) (n k : Nat) (x : Str) (CC : World → CXT) (mg : Str → Option Value) (fa : Addr) (h : Heap) : Prop :=
  ∃ (K : PySem.W.Frag) (fd : FuncData) (cs : List (Addr × Addr)) (sp : Sp), K.In h ∧ (∀ p ∈ cs, h.get? p.2 = some { cls := .none, data := .fields #[] }) ∧ (∀ p ∈ cs, K.lookup p.2 = none) ∧ (∀ p ∈ cs, PySem.W.CodeHd h p.1 p.2) ∧
    (∀ (s : Shared) (u : Value), BindsTo s fd ⟨[u], []⟩ [(x, u)]) ∧
    (∀ (H : Hp) (a : Addr) (ns : List Int), ns.length ≤ n → (∀ z ∈ ns, Builtin.Int.intBits z ≤ 1048576) → (∀ p ∈ cs, H p.2 = some (.tbl #[])) → SqL K H a (ns.map V.int) → sp [.ref a] H (fun v _ => v = .bl true) fun _ _ _ => False) ∧
    ∀ base : Heap, K.In base → base.Ns mainGlobals mg → (∀ p ∈ cs, LamX.TabB base mg p.1 p.2) → FnOk l.prog w K mg base (CC w) k fa fd [x] sp
theorem walk_w {l : PySem.W.OpenLaw} {n k : Nat} {q : Program} {loose : List Str} {XP : (Str → Option Value) → Heap → Prop} {YP : World → Heap → Prop} {d : DefRec} {CC : World → CXT} {x : Str}
    (hn : l.most = some n) (hn2 : n ≤ sizeLine) (hdf : d.params.defaults = []) (hr : Room k callerA)
    (F : ∀ (w : World) (mg : Str → Option Value) (fa : Addr) (h : Heap), YP w h → h.Ns mainGlobals mg → mg d.name = some (.ref fa) → LawF l w n k x CC mg fa h)
    (hC : ∀ (w : World) (H : Hp) (s : Shared) (e : Value) (s' : Shared), CC w [] H s (fun _ _ _ => False) e s' → False) :
    PySem.W.WalkO q loose XP YP l.row.toRowW d [] (fun f vs => PySem.call f vs) := by
  refine Att.attach_callB hn hdf fun w s₀ s₁ mg mb fa o pm cd doc a vs ns G Y ho hd hcd hmg hobj hints hlen hbits hg => ?_
  obtain ⟨K, fd, cs, sp, KX, hT, nT, C, hb, hsp, hF⟩ := F w mg fa _ Y G.T.g hmg
  exact LamX.law_callTs KX G.T.g G.T.b G.T.builtins G.T.nolimit hg hT nT C G.T.bmain hobj hints (Nat.le_trans hlen hn2) hr hF hb (fun H hH hS => hsp H a ns hlen hbits hH hS) fun H e s' => hC w H s₁ e s'
/-- the tables of the defs with lambdas -/
def tbOf (K : PySem.W.Frag) (tf : List He.Defn) : Tb := ⟨tf.map fun p => ((He.cT K p).2, (p.1 ++ ".<locals>.") ++ "<lambda>")⟩
/-- they are unlike -/
def nodB (tf : List He.Defn) (K : PySem.W.Frag) : Bool := tf.all fun p => tf.all fun q => !decide ((He.cT K p).2 = (He.cT K q).2) || decide (p = q)
def lamsB (tf : List He.Defn) (pr : List Ent) : Bool := pr.all fun e => !e.lam || (decide (e.d.qual = e.d.name) && decide ((e.d.name, none) ∈ tf))
theorem lam_ok {K : PySem.W.Frag} {base : Heap} {mg : Str → Option Value} {tf : List He.Defn} {e : Ent} {fd : FuncData} (hn : nodB tf K = true) (hq : e.d.qual = e.d.name) (hm : (e.d.name, none) ∈ tf) (T : ∀ p ∈ tf.map (He.cT K), LamX.TabB base mg p.1 p.2)
    (F : FunD K e.d.name e.d.qual e.d.params e.d.body e.d.scope [] [] (He.ga K e.d.name) fd) : @LamB0 (tbOf K tf) base mg fd.code e.d.qual := by
  obtain ⟨oc, od, dV, kV, doc, pm, an, cdv, ct, osl, rfl, lk, hcd, _, _⟩ := F.ex
  obtain ⟨c, hc⟩ := He.codeIn_ref hcd
  have e1 : He.codeOf K (e.d.name, none) = c := He.codeOf_eq (p := (e.d.name, none)) lk hc
  refine ⟨c, (He.cT K (e.d.name, none)).2, ?_, hc, ?_, fun p hp hP => ?_⟩
  · have := T _ (List.mem_map.mpr ⟨_, hm, rfl⟩)
    rw [show (He.cT K (e.d.name, none)).1 = c from e1] at this
    exact this
  · rw [hq]
    exact List.mem_map.mpr ⟨_, hm, rfl⟩
  · obtain ⟨q, hq1, rfl⟩ := List.mem_map.mp hp
    have h1 := List.all_eq_true.mp (List.all_eq_true.mp hn q hq1) _ hm
    simp only [Bool.or_eq_true, Bool.not_eq_true', decide_eq_false_iff_not, decide_eq_true_eq] at h1
    rcases h1 with h1 | h1
    · exact (h1 hP).elim
    · rw [h1, hq]
/-- the end of a law, its def the i-th of the program -/
theorem law_end {l : PySem.W.OpenLaw} {w : World} {K : PySem.W.Frag} {mg : Str → Option Value} {h : Heap} {fa : List He.Fa} {fn : List He.DefD} {tf : List He.Defn} {g : Cg} {pr : List Ent} {lf : Addr} {i : Nat} {e : Ent} (KX : K.In h) (G : h.Ns mainGlobals mg) (c : He.SaysX fa fn [] tf (nodB tf) w h K)
    (hg : g.fns = fnsOf pr) (hrf : g.refs = refsOf 0 pr) (hfit : fitAll g fa 0 pr = true) (hfg : fitG g fa = true) (hmem : ∀ e ∈ pr, e.d ∈ fn) (hb : AllB pr) (hat : AllT pr) (hlm : lamsB tf pr = true) (he : pr[i]? = some e) (hnt : e.tri = none) (hx : e.ps = ([("_law_script" : Str)] : List Str)) (hio : e.f.io = false) (hfr : e.f.fr = false)
    (hm : mg e.d.name = some (.ref lf)) (ht : ∀ ns : List Int, ns.length ≤ 63 → evF (ftAt (pr.map (·.f)) i) e.f [.fz ns] = .ok (.bl true, .non)) :
    LawF l w 63 (i + 3) "_law_script" (fun w => L2.CX l.prog w) mg lf h := by
  letI : Tb := tbOf K tf
  have hL : ∀ base : Heap, (∀ p ∈ tf.map (He.cT K), LamX.TabB base mg p.1 p.2) → ∀ e ∈ pr, e.lam = true → ∀ fd, FunD K e.d.name e.d.qual e.d.params e.d.body e.d.scope [] [] (He.ga K e.d.name) fd → @LamB0 (tbOf K tf) base mg fd.code e.d.qual := fun base T e he hz fd F => by
    have := List.all_eq_true.mp hlm e he
    simp only [hz, Bool.not_true, Bool.false_or, Bool.and_eq_true, decide_eq_true_eq] at this
    exact lam_ok c.more this.1 this.2 T F
  have f1 := fitAll_at hfit he
  rw [Nat.zero_add] at f1
  unfold fitE at f1
  rw [hnt] at f1
  simp only at f1
  unfold fitN at f1
  simp only [Bool.and_eq_true, decide_eq_true_eq, Option.isNone_iff_eq_none, List.isEmpty_iff] at f1
  obtain ⟨⟨⟨⟨⟨⟨⟨⟨a1, a2⟩, a3⟩, a4⟩, a5⟩, a6⟩, a7⟩, a8⟩, a9⟩ := f1
  have cd := c.t.d
  obtain ⟨fd, F⟩ := cd.defs (hmem e (List.mem_of_getElem? he))
  have ed : e.d.at_ = (e.d.name, none) := Prod.ext a1 a2
  have e1 : He.fAd K e.d.at_ = He.ga K e.d.name := by rw [ed]; rfl
  have e2 : e.d.dvs K = [] := by unfold He.DefD.dvs; rw [a3]; rfl
  have e3 : e.d.kws K = [] := by unfold He.DefD.kws; rw [a4]; rfl
  rw [e1, e2, e3] at F
  have hm2 := glo_at KX G cd a5
  rw [hm] at hm2
  have hlf : lf = He.ga K e.d.name := by cases hm2; rfl
  have hps : e.ps = e.N.take e.f.np := by unfold Ent.ps; rw [hnt]
  have hpl : e.ps.length = e.f.np := by rw [hps, List.length_take]; omega
  have hnp : e.f.np = 1 := by rw [← hpl, hx]; rfl
  refine ⟨K, fd, tf.map (He.cT K), @spF (tbOf K tf) K w (caOf g K) e.f.np e.f.io e.f.fr (evF (ftAt (pr.map (·.f)) i) e.f), KX, fun p hp => ?_, fun p hp => ?_, fun p hp => ?_, fun s u => ?_, fun H a ns hn _ hH hS => ?_, fun base _ _ T => ?_⟩
  · obtain ⟨q, hq, rfl⟩ := List.mem_map.mp hp
    exact c.empty q hq
  · obtain ⟨q, hq, rfl⟩ := List.mem_map.mp hp
    exact c.out q hq
  · obtain ⟨q, hq, rfl⟩ := List.mem_map.mp hp
    exact PySem.W.codeHd_of_K KX (c.hd q hq)
  · have := F.bindsA (ps := e.ps) (hb.at he) s [u] (by rw [hx]; rfl)
    rw [hx] at this
    exact this
  · rw [hio, hfr]
    refine @law_sp (tbOf K tf) w K (caOf g K) e.f.np _ hnp ns (ht ns hn) H a hS ?_
    refine @tabs_start (tbOf K tf) H (tf.map (He.cT K)) hH fun q hq => ?_
    obtain ⟨p, hp, rfl⟩ := List.mem_map.mp hq
    exact ⟨_, List.mem_map.mpr ⟨p, hp, rfl⟩, rfl⟩
  · obtain ⟨fd', F', _, _, ok, _⟩ := @prog_ok (tbOf K tf) l.prog w K mg base h fa fn g pr KX G cd hg hrf hfit hfg hmem hb hat (hL base T) i e he hnt
    have : fd' = fd := by
      obtain ⟨oc, od, dV, kV, doc, pm, an, cdv, ct, osl, r1, lk, _⟩ := F.ex
      obtain ⟨oc', od', dV', kV', doc', pm', an', cdv', ct', osl', r1', lk', _⟩ := F'.ex
      rw [lk] at lk'
      cases lk'
      rfl
    rw [this, hx, ← hlf] at ok
    exact ok
theorem cx_none (P : Program) (w : World) (H : Hp) (s : Shared) (e : Value) (s' : Shared) : L2.CX P w [] H s (fun _ _ _ => False) e s' → False := fun ⟨_, _, _, _, _, _, _, _, _, _, _, _, f⟩ => f
end Py
end
section
set_option autoImplicit false
set_option linter.all false
/-! PyK: the evaluator once more, by what follows: with the names' places known, it reduces to plain functions over D. -/
namespace Py

/-! ### what stands in the text -/
def ins (i : Nat) : List Nat → List Nat
  | [] => [i]
  | j :: js => if i < j then i :: j :: js else if i = j then j :: js else j :: ins i js
def uni : List Nat → List Nat → List Nat
  | [], b => b
  | i :: a, b => ins i (uni a b)
def dif (a b : List Nat) : List Nat := a.filter fun i => !b.contains i
def meet (a b : List Nat) : List Nat := a.filter fun i => b.contains i
theorem mem_ins {x i : Nat} : ∀ {l : List Nat}, x ∈ ins i l ↔ x = i ∨ x ∈ l
  | [] => by simp [ins]
  | j :: js => by
    unfold ins
    split
    · simp
    · split
      · rename_i h; subst h; simp
      · simp only [List.mem_cons, mem_ins (l := js)]
        exact ⟨fun h => h.elim (fun h => .inr (.inl h)) fun h => h.elim .inl fun h => .inr (.inr h), fun h => h.elim (fun h => .inr (.inl h)) fun h => h.elim .inl fun h => .inr (.inr h)⟩
theorem mem_uni {x : Nat} {b : List Nat} : ∀ {a : List Nat}, x ∈ uni a b ↔ x ∈ a ∨ x ∈ b
  | [] => by simp [uni]
  | i :: a => by simp [uni, mem_ins, mem_uni (a := a), or_assoc]
theorem mem_dif {x : Nat} {a b : List Nat} : x ∈ dif a b ↔ x ∈ a ∧ x ∉ b := by
  simp [dif]
def varsT : T → List Nat
  | .v i => [i]
  | .tu a => varsT a
  | .nil => []
  | .cons a b => uni (varsT a) (varsT b)
def lenT : T → Nat
  | .cons _ b => lenT b + 1
  | _ => 0
/-- the places that an expression may change -/
def effE (mu : List Nat) : E → List Nat
  | .nil => []
  | .cons a b => uni (effE mu a) (effE mu b)
  | .loc i => if mu.contains i = true then [i] else []
  | .bor _ => []
  | .cst _ => []
  | .bin _ a b => uni (effE mu a) (effE mu b)
  | .neg a => effE mu a
  | .not a => effE mu a
  | .cmp _ a b => uni (effE mu a) (effE mu b)
  | .chn _ _ a b c => uni (effE mu a) (uni (effE mu b) (effE mu c))
  | .and a b => uni (effE mu a) (effE mu b)
  | .or a b => uni (effE mu a) (effE mu b)
  | .ife c a b => uni (effE mu c) (uni (effE mu a) (effE mu b))
  | .tup a => effE mu a
  | .lst a => effE mu a
  | .dct a => effE mu a
  | .dup a b c => uni (effE mu a) (uni (effE mu b) (effE mu c))
  | .mrg a b => uni (effE mu a) (effE mu b)
  | .sub a b => uni (effE mu a) (effE mu b)
  | .sli a b c => uni (effE mu a) (uni (effE mu b) (effE mu c))
  | .rev a => effE mu a
  | .call _ io _ args => (match io, args with
    | true, .cons (.bor i) _ => uni [i] (effE mu args)
    | _, _ => effE mu args)
  | .blt _ a => effE mu a
  | .met _ a b => uni (effE mu a) (effE mu b)
  | .pop i a => uni [i] (effE mu a)
  | .isi a _ => effE mu a
  | .rng a => effE mu a
  | .enu a => effE mu a
  | .zip a => effE mu a
  | .lc vs _ it cnd elt => uni (effE mu it) (dif (uni (effE mu cnd) (effE mu elt)) vs)
  | .lc2 _ _ _ _ _ _ _ _ _ => []
  | .tri _ _ => []
/-- the places that an expression reads -/
def rdE : E → List Nat
  | .nil => []
  | .cons a b => uni (rdE a) (rdE b)
  | .loc i => [i]
  | .bor i => [i]
  | .cst _ => []
  | .bin _ a b => uni (rdE a) (rdE b)
  | .neg a => rdE a
  | .not a => rdE a
  | .cmp _ a b => uni (rdE a) (rdE b)
  | .chn _ _ a b c => uni (rdE a) (uni (rdE b) (rdE c))
  | .and a b => uni (rdE a) (rdE b)
  | .or a b => uni (rdE a) (rdE b)
  | .ife c a b => uni (rdE c) (uni (rdE a) (rdE b))
  | .tup a => rdE a
  | .lst a => rdE a
  | .dct a => rdE a
  | .dup a b c => uni (rdE a) (uni (rdE b) (rdE c))
  | .mrg a b => uni (rdE a) (rdE b)
  | .sub a b => uni (rdE a) (rdE b)
  | .sli a b c => uni (rdE a) (uni (rdE b) (rdE c))
  | .rev a => rdE a
  | .call _ _ _ args => rdE args
  | .blt _ a => rdE a
  | .met _ a b => uni (rdE a) (rdE b)
  | .pop i a => uni [i] (rdE a)
  | .isi a _ => rdE a
  | .rng a => rdE a
  | .enu a => rdE a
  | .zip a => rdE a
  | .lc vs _ it cnd elt => uni (rdE it) (dif (uni (rdE cnd) (rdE elt)) vs)
  | .lc2 _ _ _ _ _ _ _ _ _ => []
  | .tri _ e => rdE e
def effS (mu : List Nat) : S → List Nat
  | .nil => []
  | .cons a b => uni (effS mu a) (effS mu b)
  | .asg t e => uni (varsT t) (effE mu e)
  | .asO i e => uni [i] (effE mu e)
  | .par is es => uni (is.map (·.1)) (effE mu es)
  | .asS i k e => uni [i] (uni (effE mu k) (effE mu e))
  | .swp i k i' k' es => uni [i] (uni [i'] (uni (effE mu k) (uni (effE mu k') (effE mu es))))
  | .exp e => effE mu e
  | .app i e => uni [i] (effE mu e)
  | .rem i e => uni [i] (effE mu e)
  | .ret e => effE mu e
  | .reO e => uni (rdE e) (effE mu e)
  | .ret0 => []
  | .ite c a b => uni (effE mu c) (uni (effS mu a) (effS mu b))
  | .whl c b => uni (effE mu c) (effS mu b)
  | .for_ t it b => uni (effE mu it) (uni (varsT t) (effS mu b))
  | .rai _ e => effE mu e
  | .pas => []
/-- the places whose content an expression may change -/
def mutE : E → List Nat
  | .nil => []
  | .cons a b => uni (mutE a) (mutE b)
  | .loc _ => []
  | .bor _ => []
  | .cst _ => []
  | .bin _ a b => uni (mutE a) (mutE b)
  | .neg a => mutE a
  | .not a => mutE a
  | .cmp _ a b => uni (mutE a) (mutE b)
  | .chn _ _ a b c => uni (mutE a) (uni (mutE b) (mutE c))
  | .and a b => uni (mutE a) (mutE b)
  | .or a b => uni (mutE a) (mutE b)
  | .ife c a b => uni (mutE c) (uni (mutE a) (mutE b))
  | .tup a => mutE a
  | .lst a => mutE a
  | .dct a => mutE a
  | .dup a b c => uni (mutE a) (uni (mutE b) (mutE c))
  | .mrg a b => uni (mutE a) (mutE b)
  | .sub a b => uni (mutE a) (mutE b)
  | .sli a b c => uni (mutE a) (uni (mutE b) (mutE c))
  | .rev a => mutE a
  | .call _ io _ args => (match io, args with
    | true, .cons (.bor i) _ => uni [i] (mutE args)
    | _, _ => mutE args)
  | .blt _ a => mutE a
  | .met _ a b => uni (mutE a) (mutE b)
  | .pop i a => uni [i] (mutE a)
  | .isi a _ => mutE a
  | .rng a => mutE a
  | .enu a => mutE a
  | .zip a => mutE a
  | .lc _ _ it cnd elt => uni (mutE it) (uni (mutE cnd) (mutE elt))
  | .lc2 _ _ _ _ _ _ _ _ _ => []
  | .tri _ _ => []
def mutS : S → List Nat
  | .nil => []
  | .cons a b => uni (mutS a) (mutS b)
  | .asg _ e => mutE e
  | .asO i e => uni [i] (mutE e)
  | .par is es => uni ((is.filter (·.2)).map (·.1)) (mutE es)
  | .asS i k e => uni [i] (uni (mutE k) (mutE e))
  | .swp i k i' k' es => uni [i] (uni [i'] (uni (mutE k) (uni (mutE k') (mutE es))))
  | .exp e => mutE e
  | .app i e => uni [i] (mutE e)
  | .rem i e => uni [i] (mutE e)
  | .ret e => mutE e
  | .reO e => mutE e
  | .ret0 => []
  | .ite c a b => uni (mutE c) (uni (mutS a) (mutS b))
  | .whl c b => uni (mutE c) (mutS b)
  | .for_ _ it b => uni (mutE it) (mutS b)
  | .rai _ e => mutE e
  | .pas => []
/-- the places that are read from a statement on, if those of L are read behind it -/
def lvS (fin : List Nat) : S → List Nat → List Nat
  | .nil, L => L
  | .cons a b, L => lvS fin a (lvS fin b L)
  | .asg t e, L => uni (dif L (varsT t)) (rdE e)
  | .asO i e, L => uni (dif L [i]) (rdE e)
  | .par is es, L => uni (dif L (is.map (·.1))) (rdE es)
  | .asS i k e, L => uni [i] (uni (rdE k) (uni (rdE e) L))
  | .swp i k i' k' es, L => uni [i] (uni [i'] (uni (rdE k) (uni (rdE k') (uni (rdE es) L))))
  | .exp e, L => uni (rdE e) L
  | .app i e, L => uni [i] (uni (rdE e) L)
  | .rem i e, L => uni [i] (uni (rdE e) L)
  | .ret e, _ => uni (rdE e) fin
  | .reO e, _ => uni (rdE e) fin
  | .ret0, _ => fin
  | .ite c a b, L => uni (rdE c) (uni (lvS fin a L) (lvS fin b L))
  | .whl c b, L => uni (rdE c) (uni L (lvS fin b (uni (rdE c) L)))
  | .for_ t it b, L => uni (rdE it) (uni L (dif (lvS fin b L) (varsT t)))
  | .rai _ e, _ => rdE e
  | .pas, L => L
def noRet : S → Bool
  | .cons a b => noRet a && noRet b
  | .ite _ a b => noRet a && noRet b
  | .whl _ b => noRet b
  | .for_ _ _ b => noRet b
  | .ret _ => false
  | .reO _ => false
  | .ret0 => false
  | _ => true
def term : S → Bool
  | .cons a b => term a || term b
  | .ite _ a b => term a && term b
  | .ret _ => true
  | .reO _ => true
  | .ret0 => true
  | .rai _ _ => true
  | _ => false

/-! ### what is carried over a joint -/
inductive Kd where | imm | own | io
def Kd.mk : Kd → D → Slot
  | .imm, d => .imm d
  | .own, d => .own d
  | .io, d => .io d
def isIo : Slot → Bool
  | .io _ => true
  | _ => false
def ioAt (env : Env) (j : Nat) : Bool := match env[j]? with
  | some s => isIo s
  | none => false
def noAt (env : Env) (j : Nat) : Bool := match env[j]? with
  | some .no => true
  | _ => false
def kdAt (mu mt : List Nat) (env : Env) (j : Nat) : Kd := if (mu.contains j && (mt.contains j || ioAt env j)) = true then (match env[j]? with
  | some (.imm _) => .imm
  | some (.io _) => .io
  | _ => .own) else .imm
def getK (env : Env) (j : Nat) : Kd → R D
  | .imm => (match env[j]? with
    | some (.imm d) => .ok d
    | some (.own d) => .ok d
    | _ => .bad)
  | .own => (match env[j]? with
    | some (.own d) => .ok d
    | _ => .bad)
  | .io => (match env[j]? with
    | some (.io d) => .ok d
    | _ => .bad)
def pk (env : Env) : List (Nat × Kd) → R (List D)
  | [] => .ok []
  | (j, k) :: js => (getK env j k).bind fun d => (pk env js).bind fun ds => .ok (d :: ds)
def upk (env : Env) : List (Nat × Kd) → List D → Nat → Env
  | [], _, _ => env
  | (j, k) :: js, st, n => upk (env.set j (k.mk (st.getD n .non))) js st (n + 1)
/-- all that may have changed is forgotten, but for what is lent -/
def wipeK (env : Env) : List Nat → Env
  | [] => env
  | j :: js => if ioAt env j = true then wipeK env js else wipeK (env.set j .no) js
/-- what is carried: what may have changed and is read later, and what is lent -/
def crry (mu mt : List Nat) (env : Env) (J lv : List Nat) : List (Nat × Kd) := (J.filter fun j => lv.contains j || ioAt env j).map fun j => (j, kdAt mu mt env j)
/-- .. of what stands already (for a loop) -/
def crryL (mu mt : List Nat) (env : Env) (J lv : List Nat) : List (Nat × Kd) := (J.filter fun j => (lv.contains j && !noAt env j) || ioAt env j).map fun j => (j, kdAt mu mt env j)

inductive LR (ρ : Type) where
  | nx (st : List D)
  | rt (r : ρ)
def LR.go {ρ : Type} (q : LR ρ) (f : List D → R ρ) : R ρ := match q with
  | .nx st => f st
  | .rt r => .ok r
def foldR (F : D → List D → R (List D)) : List D → List D → R (List D)
  | [], st => .ok st
  | d :: ds, st => (F d st).bind fun st' => foldR F ds st'
def foldQ {ρ : Type} (F : D → List D → R (LR ρ)) : List D → List D → R (LR ρ)
  | [], st => .ok (.nx st)
  | d :: ds, st => (F d st).bind fun q => match q with
    | .nx st' => foldQ F ds st'
    | .rt r => .ok (.rt r)
def whileR (c : List D → R Bool) (F : List D → R (List D)) : Nat → List D → R (List D)
  | 0, _ => .bad
  | n + 1, st => (c st).bind fun k => if k = true then (F st).bind (whileR c F n) else .ok st
def whileQ {ρ : Type} (c : List D → R Bool) (F : List D → R (LR ρ)) : Nat → List D → R (LR ρ)
  | 0, _ => .bad
  | n + 1, st => (c st).bind fun k => if k = true then (F st).bind (fun q => match q with
    | .nx st' => whileQ c F n st'
    | .rt r => .ok (.rt r)) else .ok (.nx st)
def mapR (f : D → R D) : List D → R (List D)
  | [] => .ok []
  | d :: ds => (f d).calm.bind fun y => (mapR f ds).bind fun ys => .ok (y :: ys)
def filtR (f : D → R (Option D)) : List D → R (List D)
  | [] => .ok []
  | d :: ds => (f d).calm.bind fun o => (filtR f ds).bind fun ys => .ok (match o with
    | some y => y :: ys
    | none => ys)
def mapS (f : D → List D → R (Option D × List D)) : List D → List D → R (List D × List D)
  | [], st => .ok ([], st)
  | d :: ds, st => (f d st).calm.bind fun r => (mapS f ds r.2).bind fun q => .ok (match r.1 with
    | some y => y :: q.1
    | none => q.1, q.2)
def boolR : D → R Bool
  | .bl b => .ok b
  | _ => .bad
def szR (n : Nat) : R Unit := if n ≤ SZ then .ok () else .bad
def contR (d : D) : R Unit := if isCont d = true then .ok () else .bad
def unTn (n : Nat) : D → R (List D)
  | .tup ds => if (ds.length == n) = true then .ok ds else .bad
  | _ => .bad
def negR : D → R D
  | .int i => .ok (.int (-i))
  | _ => .bad
def isiR (t : Ty) (x : D) : R D := if isiOk x = true then .ok (.bl (isiD x t)) else .bad

def parSk {ρ : Type} : List (Nat × Bool) → List D → Env → (Env → R ρ) → R ρ
  | [], [], env, k => k env
  | (i, o) :: is, d :: ds, env, k => if o = true then (contR d).bind fun _ => (sto env i (.own d)).bind fun e => parSk is ds e k else (sto env i (.imm d)).bind fun e => parSk is ds e k
  | _, _, _, _ => .bad
mutual
def asgTk {ρ : Type} : T → D → Env → (Env → R ρ) → R ρ
  | .v i, d, env, k => (sto env i (.imm d)).bind k
  | .tu a, d, env, k => (unTn (lenT a) d).bind fun ds => asgTsk a 0 ds env k
  | _, _, _, _ => .bad
def asgTsk {ρ : Type} : T → Nat → List D → Env → (Env → R ρ) → R ρ
  | .nil, _, _, env, k => k env
  | .cons a b, n, ds, env, k => asgTk a (ds.getD n .non) env fun e => asgTsk b (n + 1) ds e k
  | _, _, _, _, _ => .bad
end

/-- what a lambda sees: no name that may change -/
def hideK (mu : List Nat) : Nat → Env → Env
  | _, [] => []
  | n, s :: r => (if mu.contains n = true then .no else match s with
    | .imm d => .imm d
    | _ => .no) :: hideK mu (n + 1) r
def triK (ft0 : Nat → List D → R D) (f : Nat) (r : R D) : R D := match r with
  | .ok x => ft0 f [.int 0, x]
  | .exc c d => ft0 f [.int ((c + 1 : Nat) : Int), d]
  | .bad => .bad
/-- the same of a plain function -/
def tryR (g : D → D → R D) (r : R D) : R D := match r with
  | .ok x => g (.int 0) x
  | .exc c d => g (.int ((c + 1 : Nat) : Int)) d
  | .bad => .bad

/-! ### expressions -/
section
variable (ft0 : Nat → List D → R D) (ft1 : Nat → List D → R (D × D)) (mu : List Nat)
def evk : E → (ρ : Type) → Env → (D → Env → R ρ) → R ρ
  | .nil, _, env, k => k (.lst []) env
  | .cons a b, ρ, env, k => evk a ρ env fun x e1 => evk b ρ e1 fun y e2 => (unL y).bind fun ys => k (.lst (x :: ys)) e2
  | .loc i, _, env, k => if mu.contains i = true then (match env[i]? with
    | some (.imm d) => k d env
    | some (.own d) => k d (env.set i (.imm d))
    | _ => .bad) else (match env[i]? with
    | some (.imm d) => k d env
    | _ => .bad)
  | .bor i, _, env, k => (rd env i).bind fun d => k d env
  | .cst d, _, env, k => k d env
  | .bin o a b, ρ, env, k => evk a ρ env fun x e1 => evk b ρ e1 fun y e2 => (late a x e2).bind fun x' => (binD o x' y).bind fun z => k z e2
  | .neg a, ρ, env, k => evk a ρ env fun x e1 => (negR x).bind fun z => k z e1
  | .not a, ρ, env, k => evk a ρ env fun x e1 => (boolR x).bind fun b => k (.bl (!b)) e1
  | .cmp o a b, ρ, env, k => evk a ρ env fun x e1 => evk b ρ e1 fun y e2 => (late a x e2).bind fun x' => (cmpD o x' y).bind fun z => k (.bl z) e2
  | .chn o o' a b c, ρ, env, k => evk a ρ env fun x e1 => evk b ρ e1 fun y e2 => (cmpD o x y).bind fun q =>
      (match effE mu c with
      | [] => (if q = true then evk c Bool e2 (fun z _ => cmpD o' y z) else .ok false).bind fun r => k (.bl r) e2
      | _ => .bad)
  | .and a b, ρ, env, k => evk a ρ env fun x e1 => (boolR x).bind fun c =>
      (match effE mu b with
      | [] => (if c = true then evk b Bool e1 (fun y _ => boolR y) else .ok false).bind fun z => k (.bl z) e1
      | J => (if c = true then evk b (Bool × List D) e1 (fun y e2 => (boolR y).bind fun z => (pk e2 (crry mu (mutE b) e1 J J)).bind fun st => .ok (z, st)) else (pk e1 (crry mu (mutE b) e1 J J)).bind fun st => .ok (false, st)).bind fun z => k (.bl z.1) (upk (wipeK e1 J) (crry mu (mutE b) e1 J J) z.2 0))
  | .or a b, ρ, env, k => evk a ρ env fun x e1 => (boolR x).bind fun c =>
      (match effE mu b with
      | [] => (if c = true then .ok true else evk b Bool e1 (fun y _ => boolR y)).bind fun z => k (.bl z) e1
      | J => (if c = true then (pk e1 (crry mu (mutE b) e1 J J)).bind fun st => .ok (true, st) else evk b (Bool × List D) e1 (fun y e2 => (boolR y).bind fun z => (pk e2 (crry mu (mutE b) e1 J J)).bind fun st => .ok (z, st))).bind fun z => k (.bl z.1) (upk (wipeK e1 J) (crry mu (mutE b) e1 J J) z.2 0))
  | .ife c a b, ρ, env, k => evk c ρ env fun x e1 => (boolR x).bind fun c =>
      (match uni (effE mu a) (effE mu b) with
      | [] => (if c = true then evk a D e1 (fun y _ => .ok y) else evk b D e1 (fun y _ => .ok y)).bind fun z => k z e1
      | J => (if c = true then evk a (D × List D) e1 (fun y e2 => (pk e2 (crry mu (uni (mutE a) (mutE b)) e1 J J)).bind fun st => .ok (y, st)) else evk b (D × List D) e1 (fun y e2 => (pk e2 (crry mu (uni (mutE a) (mutE b)) e1 J J)).bind fun st => .ok (y, st))).bind fun z => k z.1 (upk (wipeK e1 J) (crry mu (uni (mutE a) (mutE b)) e1 J J) z.2 0))
  | .tup es, ρ, env, k => evk es ρ env fun x e1 => (unL x).bind fun ds => (szR ds.length).bind fun _ => k (.tup ds) e1
  | .lst es, ρ, env, k => evk es ρ env fun x e1 => (unL x).bind fun ds => (szR ds.length).bind fun _ => k (.lst ds) e1
  | .dct es, ρ, env, k => evk es ρ env fun x e1 => (unL x).bind fun ds => (dctD ds).bind fun z => k z e1
  | .dup d a b, ρ, env, k => evk d ρ env fun x e1 => (dicR x).bind fun _ => evk a ρ e1 fun y e2 => evk b ρ e2 fun z e3 => (dupD x y z).bind fun q => k q e3
  | .mrg d a, ρ, env, k => evk d ρ env fun x e1 => (dicR x).bind fun _ => evk a ρ e1 fun y e2 => (mrgD x y).bind fun q => k q e2
  | .sub a i, ρ, env, k => evk a ρ env fun x e1 => evk i ρ e1 fun y e2 => (late a x e2).bind fun x' => (subsD x' y).bind fun z => k z e2
  | .sli a lo hi, ρ, env, k => evk a ρ env fun x e1 => evk lo ρ e1 fun l e2 => (partR lo l).bind fun lo' => evk hi ρ e2 fun h e3 => (partR hi h).bind fun hi' => (late a x e3).bind fun x' => (slD x' lo' hi').bind fun z => k z e3
  | .rev a, ρ, env, k => evk a ρ env fun x e1 => (revD x).bind fun z => k z e1
  | .call f io _ args, ρ, env, k => (match io, args with
    | false, as => evk as ρ env fun x e1 => (unL x).bind fun ds => (ft0 f ds).bind fun r => k r e1
    | true, .cons (.bor i) as => (rdO env i).bind fun _ => evk as ρ env fun x e1 => (unL x).bind fun ds => (rdO e1 i).bind fun c => (ft1 f (c :: ds)).bind fun r => (put e1 i r.2).bind fun e2 => k r.1 e2
    | true, _ => .bad)
  | .blt f args, ρ, env, k => evk args ρ env fun x e1 => (unL x).bind fun ds => (bltD f ds).bind fun z => k z e1
  | .met m a args, ρ, env, k => evk a ρ env fun x e1 => (metOk m x).bind fun _ => evk args ρ e1 fun y e2 => (late a x e2).bind fun x' => (metOk m x').bind fun _ => (unL y).bind fun ds => (metD m x' ds).bind fun z => k z e2
  | .pop i args, ρ, env, k => (rd env i).bind fun c0 => (unL c0).bind fun _ => evk args ρ env fun x e1 => (unL x).bind fun ds => (rd e1 i).bind fun c => (popD c ds).bind fun r => (put e1 i r.2).bind fun e2 => k r.1 e2
  | .isi a t, ρ, env, k => evk a ρ env fun x e1 => (isiR t x).bind fun z => k z e1
  | .rng args, ρ, env, k => evk args ρ env fun x e1 => (unL x).bind fun ds => (rngD ds).bind fun z => k (.lst z) e1
  | .enu a, ρ, env, k => evk a ρ env fun x e1 => (items x).bind fun ds => k (.lst (enumL 0 ds)) e1
  | .zip args, ρ, env, k => evk args ρ env fun x e1 => (zipD x).bind fun z => k (.lst z) e1
  | .lc vs t it cnd elt, ρ, env, k => if (varsT t).all (vs.contains ·) = true then evk it ρ env fun x e1 => (items x).bind fun ds =>
      (match dif (uni (effE mu cnd) (effE mu elt)) vs with
      | [] => (match cnd with
        | .nil => (mapR (fun d => asgTk t d (wipeE e1 vs) fun e2 => evk elt D e2 fun y _ => .ok y) ds).bind fun ys => (szR ys.length).bind fun _ => k (.lst ys) e1
        | _ => (filtR (fun d => asgTk t d (wipeE e1 vs) fun e2 => evk cnd (Option D) e2 fun c e3 => (boolR c).bind fun q => if q = true then evk elt (Option D) e3 (fun y _ => .ok (some y)) else .ok none) ds).bind fun ys => (szR ys.length).bind fun _ => k (.lst ys) e1)
      | J => (pk e1 (crry mu (uni (mutE cnd) (mutE elt)) e1 J J)).bind fun st0 => (mapS (fun d st => asgTk t d (wipeE (upk (wipeK e1 J) (crry mu (uni (mutE cnd) (mutE elt)) e1 J J) st 0) vs) fun e2 => (match cnd with
        | .nil => evk elt (Option D × List D) e2 fun y e3 => (pk e3 (crry mu (uni (mutE cnd) (mutE elt)) e1 J J)).bind fun st' => .ok (some y, st')
        | _ => evk cnd (Option D × List D) e2 fun c e3 => (boolR c).bind fun q => if q = true then evk elt (Option D × List D) e3 (fun y e4 => (pk e4 (crry mu (uni (mutE cnd) (mutE elt)) e1 J J)).bind fun st' => .ok (some y, st')) else (pk e3 (crry mu (uni (mutE cnd) (mutE elt)) e1 J J)).bind fun st' => .ok (none, st'))) ds st0).bind fun r => (szR r.1.length).bind fun _ => k (.lst r.1) (upk (wipeK e1 J) (crry mu (uni (mutE cnd) (mutE elt)) e1 J J) r.2 0))
    else .bad
  | .lc2 _ _ _ _ _ _ _ _ _, _, _, _ => .bad
  | .tri f e, ρ, env, k => (triK ft0 f (evk e D (hideK mu 0 env) fun y _ => .ok y)).bind fun z => k z env

/-! ### statements -/
def evSk (fin : List Nat) : S → List Nat → (ρ : Type) → Env → (Env → R ρ) → (D → Env → R ρ) → R ρ
  | .nil, _, _, env, kn, _ => kn env
  | .cons a b, lv, ρ, env, kn, kr => evSk fin a (lvS fin b lv) ρ env (fun e => evSk fin b lv ρ e kn kr) kr
  | .asg t e, _, ρ, env, kn, _ => evk ft0 ft1 mu e ρ env fun x e1 => asgTk t x e1 kn
  | .asO i e, _, ρ, env, kn, _ => evk ft0 ft1 mu e ρ env fun x e1 => (contR x).bind fun _ => if mu.contains i = true then (sto e1 i (.own x)).bind kn else .bad
  | .par is es, _, ρ, env, kn, _ => evk ft0 ft1 mu es ρ env fun x e1 => (unL x).bind fun ds => if (is.all fun p => !p.2 || mu.contains p.1) = true then parSk is ds e1 kn else .bad
  | .asS i q e, _, ρ, env, kn, _ => (rd env i).bind fun _ => evk ft0 ft1 mu e ρ env fun x e1 => evk ft0 ft1 mu q ρ e1 fun y e2 => (rd e2 i).bind fun c => (setD c y x).bind fun c' => (put e2 i c').bind kn
  | .swp i q i' q' es, _, ρ, env, kn, _ => (rd env i).bind fun _ => (rd env i').bind fun _ => evk ft0 ft1 mu (.tup es) ρ env fun x e1 => (un2 x).bind fun ab =>
      evk ft0 ft1 mu q ρ e1 fun y e2 => (rd e2 i).bind fun c => (setD c y ab.1).bind fun c1 => (put e2 i c1).bind fun e3 =>
      evk ft0 ft1 mu q' ρ e3 fun z e4 => (rd e4 i').bind fun c' => (setD c' z ab.2).bind fun c2 => (put e4 i' c2).bind kn
  | .exp e, _, ρ, env, kn, _ => evk ft0 ft1 mu e ρ env fun _ e1 => kn e1
  | .app i e, _, ρ, env, kn, _ => (rd env i).bind fun c0 => (unL c0).bind fun _ => evk ft0 ft1 mu e ρ env fun x e1 => (rd e1 i).bind fun c => (unL c).bind fun xs => (szR (xs.length + 1)).bind fun _ => (put e1 i (.lst (xs ++ [x]))).bind kn
  | .rem _ _, _, _, _, _, _ => .bad
  | .ret e, _, ρ, env, _, kr => evk ft0 ft1 mu e ρ env kr
  | .reO e, _, ρ, env, _, kr => (match e with
    | .bor i => (match env[i]? with
      | some (.own d) => kr d (env.set i .no)
      | _ => .bad)
    | e => evk ft0 ft1 mu e ρ env fun x e1 => (contR x).bind fun _ => kr x e1)
  | .ret0, _, _, env, _, kr => kr .non env
  | .ite c a b, lv, ρ, env, kn, kr => evk ft0 ft1 mu c ρ env fun x e1 => (boolR x).bind fun q =>
      if (term a || term b) = true then (if q = true then evSk fin a lv ρ e1 kn kr else evSk fin b lv ρ e1 kn kr)
      else (match uni (effS mu a) (effS mu b) with
        | J => if (noRet a && noRet b) = true then
            (if q = true then evSk fin a lv (List D) e1 (fun e => pk e (crry mu (uni (mutS a) (mutS b)) e1 J lv)) (fun _ _ => .bad) else evSk fin b lv (List D) e1 (fun e => pk e (crry mu (uni (mutS a) (mutS b)) e1 J lv)) (fun _ _ => .bad)).bind fun st => kn (upk (wipeK e1 J) (crry mu (uni (mutS a) (mutS b)) e1 J lv) st 0)
          else (if q = true then evSk fin a lv (LR ρ) e1 (fun e => (pk e (crry mu (uni (mutS a) (mutS b)) e1 J lv)).bind fun st => .ok (.nx st)) (fun d e => (kr d e).bind fun r => .ok (.rt r)) else evSk fin b lv (LR ρ) e1 (fun e => (pk e (crry mu (uni (mutS a) (mutS b)) e1 J lv)).bind fun st => .ok (.nx st)) (fun d e => (kr d e).bind fun r => .ok (.rt r))).bind fun z => z.go fun st => kn (upk (wipeK e1 J) (crry mu (uni (mutS a) (mutS b)) e1 J lv) st 0))
  | .whl c b, lv, ρ, env, kn, kr => (match effE mu c, effS mu b, uni (rdE c) (uni lv (lvS fin b (uni (rdE c) lv))) with
    | [], J, lw => (pk env (crryL mu (mutS b) env J lw)).bind fun st0 => if noRet b = true then
          (whileR (fun st => evk ft0 ft1 mu c Bool (upk (wipeK env J) (crryL mu (mutS b) env J lw) st 0) fun x _ => boolR x)
            (fun st => evSk fin b lw (List D) (upk (wipeK env J) (crryL mu (mutS b) env J lw) st 0) (fun e => pk e (crryL mu (mutS b) env J lw)) (fun _ _ => .bad)) FUEL st0).bind fun st => kn (upk (wipeK env J) (crryL mu (mutS b) env J lw) st 0)
        else (whileQ (fun st => evk ft0 ft1 mu c Bool (upk (wipeK env J) (crryL mu (mutS b) env J lw) st 0) fun x _ => boolR x)
            (fun st => evSk fin b lw (LR ρ) (upk (wipeK env J) (crryL mu (mutS b) env J lw) st 0) (fun e => (pk e (crryL mu (mutS b) env J lw)).bind fun st => .ok (.nx st)) (fun d e => (kr d e).bind fun r => .ok (.rt r))) FUEL st0).bind fun z => z.go fun st => kn (upk (wipeK env J) (crryL mu (mutS b) env J lw) st 0)
    | _, _, _ => .bad)
  | .for_ t it b, lv, ρ, env, kn, kr => evk ft0 ft1 mu it ρ env fun x e1 => (items x).bind fun ds => (match uni (varsT t) (effS mu b), uni lv (dif (lvS fin b lv) (varsT t)) with
    | J, lw => (pk e1 (crryL mu (mutS b) e1 J lw)).bind fun st0 => if noRet b = true then
          (foldR (fun d st => asgTk t d (upk (wipeK e1 J) (crryL mu (mutS b) e1 J lw) st 0) fun e2 => evSk fin b lw (List D) e2 (fun e => pk e (crryL mu (mutS b) e1 J lw)) (fun _ _ => .bad)) ds st0).bind fun st => kn (upk (wipeK e1 J) (crryL mu (mutS b) e1 J lw) st 0)
        else (foldQ (fun d st => asgTk t d (upk (wipeK e1 J) (crryL mu (mutS b) e1 J lw) st 0) fun e2 => evSk fin b lw (LR ρ) e2 (fun e => (pk e (crryL mu (mutS b) e1 J lw)).bind fun st => .ok (.nx st)) (fun d e => (kr d e).bind fun r => .ok (.rt r))) ds st0).bind fun z => z.go fun st => kn (upk (wipeK e1 J) (crryL mu (mutS b) e1 J lw) st 0))
  | .rai c a, _, ρ, env, _, _ => evk ft0 ft1 mu a ρ env fun x _ => .exc c x
  | .pas, _, _, env, kn, _ => kn env
end

/-- a def that lends nothing -/
def evk0 (ft0 : Nat → List D → R D) (ft1 : Nat → List D → R (D × D)) (mu : List Nat) (f : Fn) (args : List D) : R D :=
  if (f.io || !(args.length == f.np)) = true then .bad else evSk ft0 ft1 mu [] f.body [] D (env0 f args) (fun _ => if f.fr = true then .bad else .ok .non) (fun d _ => .ok d)
/-- a def that changes its first parameter -/
def evk1 (ft0 : Nat → List D → R D) (ft1 : Nat → List D → R (D × D)) (mu : List Nat) (f : Fn) (args : List D) : R (D × D) :=
  if (!f.io || !(args.length == f.np) || !mu.contains 0) = true then .bad else evSk ft0 ft1 mu [0] f.body [0] (D × D) (env0 f args) (fun e => if f.fr = true then .bad else (ioOut f e).bind fun c => .ok (.non, c)) (fun d e => (ioOut f e).bind fun c => .ok (d, c))
end Py
end
section
set_option autoImplicit false
set_option linter.all false
/-! PyKs: PyK refines PyCore. -/
namespace Py
variable {α β γ δ : Type}
def LeR (P : α → β → Prop) : R α → R β → Prop
  | .bad, _ => True
  | .exc c d, r => r = .exc c d
  | .ok a, r => ∃ b, r = .ok b ∧ P a b
theorem LeR.ok {P : α → β → Prop} {a : α} {b : β} (h : P a b) : LeR P (.ok a) (.ok b) := ⟨b, rfl, h⟩
theorem LeR.bad {P : α → β → Prop} {r : R β} : LeR P .bad r := trivial
theorem LeR.bind {P : α → β → Prop} {Q : γ → δ → Prop} {m : R α} {m' : R β} {f : α → R γ} {f' : β → R δ} (h : LeR P m m') (hf : ∀ a b, P a b → LeR Q (f a) (f' b)) : LeR Q (m.bind f) (m'.bind f') := by
  cases m with
  | ok a => obtain ⟨b, rfl, p⟩ := h; exact hf a b p
  | exc c d => cases (show m' = .exc c d from h); exact rfl
  | bad => exact trivial
theorem LeR.refl {P : α → α → Prop} (hp : ∀ a, P a a) {m : R α} : LeR P m m := by
  cases m with
  | ok a => exact ⟨a, rfl, hp a⟩
  | exc c d => exact rfl
  | bad => exact trivial
theorem LeR.same {Q : γ → δ → Prop} {m : R α} {f : α → R γ} {f' : α → R δ} (hf : ∀ a, m = .ok a → LeR Q (f a) (f' a)) : LeR Q (m.bind f) (m.bind f') := by
  cases m with
  | ok a => exact hf a rfl
  | exc c d => exact rfl
  | bad => exact trivial
theorem LeR.mono {P Q : α → β → Prop} {m : R α} {m' : R β} (h : LeR P m m') (hpq : ∀ a b, P a b → Q a b) : LeR Q m m' := by
  cases m with
  | ok a => obtain ⟨b, rfl, p⟩ := h; exact ⟨b, rfl, hpq _ _ p⟩
  | exc c d => exact h
  | bad => exact trivial
theorem LeR.eq {m m' : R α} (h : LeR (fun a b => a = b) m m') : m = .bad ∨ m' = m := by
  cases m with
  | ok a => obtain ⟨b, rfl, rfl⟩ := h; exact .inr rfl
  | exc c d => exact .inr h
  | bad => exact .inl rfl
theorem LeR.calm {P : α → β → Prop} {m : R α} {m' : R β} (h : LeR P m m') : LeR P m.calm m'.calm := by
  cases m with
  | ok a => obtain ⟨b, rfl, p⟩ := h; exact ⟨b, rfl, p⟩
  | exc c d => exact trivial
  | bad => exact trivial
theorem R.bind_assoc {m : R α} {f : α → R β} {g : β → R γ} : (m.bind f).bind g = m.bind fun a => (f a).bind g := by cases m <;> rfl
theorem LeR.ite {P : α → β → Prop} {c : Prop} [Decidable c] {a b : R α} {a' b' : R β} (h1 : c → LeR P a a') (h2 : ¬c → LeR P b b') : LeR P (if c then a else b) (if c then a' else b') := by
  by_cases h : c
  · rw [if_pos h, if_pos h]; exact h1 h
  · rw [if_neg h, if_neg h]; exact h2 h

/-! ### environments -/
structure SubE (ek en : Env) : Prop where
  len : ek.length = en.length
  at_ : ∀ (j : Nat) (s : Slot), ek[j]? = some s → en[j]? = some s ∨ (s = .no ∧ ∃ s', en[j]? = some s' ∧ isIo s' = false) ∨ ∃ d, s = .imm d ∧ en[j]? = some (.own d)
def soft : Slot → Bool
  | .no => true
  | .imm _ => true
  | _ => false
def Inv (mu : List Nat) (en : Env) : Prop := ∀ (j : Nat) (s : Slot), en[j]? = some s → mu.contains j = false → soft s = true
structure FrE (J : List Nat) (e e' : Env) : Prop where
  len : e'.length = e.length
  same : ∀ j, j ∉ J → e'[j]? = e[j]?
  io : ∀ (j : Nat) (s s' : Slot), e[j]? = some s → e'[j]? = some s' → isIo s' = isIo s
theorem FrE.refl {J : List Nat} {e : Env} : FrE J e e := ⟨rfl, fun _ _ => rfl, fun j s s' h h' => by rw [h] at h'; cases h'; rfl⟩
theorem FrE.trans {J J' : List Nat} {e e' e'' : Env} (h : FrE J e e') (h' : FrE J' e' e'') : FrE (uni J J') e e'' := by
  refine ⟨h'.len.trans h.len, fun j hj => ?_, fun j s s' hs hs' => ?_⟩
  · have := mt mem_uni.mpr hj
    rw [h'.same j fun z => this (.inr z), h.same j fun z => this (.inl z)]
  · have hl : j < e.length := (List.getElem?_eq_some_iff.mp hs).1
    have : e'[j]? = some (e'[j]'(by rw [h.len]; exact hl)) := List.getElem?_eq_getElem _
    rw [h'.io j _ s' this hs', h.io j s _ hs this]
theorem FrE.mono {J J' : List Nat} {e e' : Env} (h : FrE J e e') (hs : ∀ j ∈ J, j ∈ J') : FrE J' e e' := ⟨h.len, fun j hj => h.same j fun z => hj (hs j z), h.io⟩
theorem FrE.nil {e e' : Env} (h : FrE [] e e') : e' = e := List.ext_getElem? fun j => h.same j (by simp)
theorem set_get {e : Env} {i j : Nat} {s : Slot} : (e.set i s)[j]? = if i = j then (if i < e.length then some s else none) else e[j]? := by
  rw [List.getElem?_set]
theorem SubE.set {ek en : Env} (h : SubE ek en) {i : Nat} {s : Slot} : SubE (ek.set i s) (en.set i s) := by
  refine ⟨by simp [h.len], fun j t ht => ?_⟩
  rw [set_get] at ht ⊢
  split at ht
  · rename_i e
    rw [if_pos e]
    split at ht
    · rename_i l
      rw [h.len] at l
      rw [if_pos l]
      exact .inl ht
    · cases ht
  · rename_i e
    rw [if_neg e]
    exact h.at_ j t ht
theorem Inv.set {mu : List Nat} {en : Env} (h : Inv mu en) {i : Nat} {s : Slot} (hs : mu.contains i = false → soft s = true) : Inv mu (en.set i s) := by
  intro j t ht hj
  rw [set_get] at ht
  split at ht
  · rename_i e
    subst e
    split at ht
    · cases ht; exact hs hj
    · cases ht
  · exact h j t ht hj
theorem FrE.set {en : Env} {i : Nat} {s : Slot} (hio : ∀ t, en[i]? = some t → isIo s = isIo t) : FrE [i] en (en.set i s) := by
  refine ⟨by simp, fun j hj => ?_, fun j t t' ht ht' => ?_⟩
  · rw [set_get, if_neg (fun e => hj (by simp [e]))]
  · rw [set_get] at ht'
    split at ht'
    · rename_i e
      subst e
      split at ht'
      · cases ht'; exact hio t ht
      · cases ht'
    · rw [ht] at ht'; cases ht'; rfl
theorem SubE.get {ek en : Env} (h : SubE ek en) {j : Nat} {s : Slot} (hs : ek[j]? = some s) (hn : s ≠ .no) (hm : ∀ d, s ≠ .imm d) : en[j]? = some s := by
  rcases h.at_ j s hs with h | h | ⟨d, h, _⟩
  · exact h
  · exact absurd h.1 hn
  · exact absurd h (hm d)
theorem SubE.geti {ek en : Env} (h : SubE ek en) {j : Nat} {d : D} (hs : ek[j]? = some (.imm d)) : en[j]? = some (.imm d) ∨ en[j]? = some (.own d) := by
  rcases h.at_ j _ hs with h | h | ⟨d', h, h'⟩
  · exact .inl h
  · cases h.1
  · cases h; exact .inr h'
theorem rd_le {ek en : Env} (h : SubE ek en) {i : Nat} {d : D} (hd : rd ek i = .ok d) : rd en i = .ok d := by
  unfold rd at hd ⊢
  split at hd
  · rename_i e
    rcases h.geti e with e | e
    · rw [e]; exact hd
    · rw [e]; exact hd
  · rename_i e; rw [h.get e (by simp) (by simp)]; exact hd
  · rename_i e; rw [h.get e (by simp) (by simp)]; exact hd
  · cases hd
theorem rd_noexcK {en : Env} {i : Nat} {c : Nat} {d : D} : rd en i ≠ .exc c d := by
  unfold rd; split <;> simp
theorem rd_LeR {ek en : Env} (h : SubE ek en) {i : Nat} : LeR (fun a b => a = b) (rd ek i) (rd en i) := by
  cases e : rd ek i with
  | ok d => rw [rd_le h e]; exact ⟨d, rfl, rfl⟩
  | exc c d => exact absurd e rd_noexcK
  | bad => exact trivial
theorem rdO_LeR {ek en : Env} (h : SubE ek en) {i : Nat} : LeR (fun a b => a = b) (rdO ek i) (rdO en i) := by
  unfold rdO
  split
  · rename_i e; rw [h.get e (by simp) (by simp)]; exact ⟨_, rfl, rfl⟩
  · rename_i e; rw [h.get e (by simp) (by simp)]; exact ⟨_, rfl, rfl⟩
  · exact trivial
theorem late_LeR {ek en : Env} (h : SubE ek en) {a : E} {d : D} : LeR (fun a b => a = b) (late a d ek) (late a d en) := by
  unfold late
  split
  · exact rd_LeR h
  · exact ⟨_, rfl, rfl⟩
/-- what stands behind a step -/
structure Nx (mu J : List Nat) (en ek' en' : Env) : Prop where
  sub : SubE ek' en'
  inv : Inv mu en'
  fr : FrE J en en'
theorem sto_LeR {mu : List Nat} {ek en : Env} (h : SubE ek en) (hi : Inv mu en) {i : Nat} {s : Slot} (hs : mu.contains i = false → soft s = true) (hn : isIo s = false) :
    LeR (Nx mu [i] en) (sto ek i s) (sto en i s) := by
  unfold sto
  have key : ∀ t, ek[i]? = some t → isIo t = false → LeR (Nx mu [i] en) (.ok (ek.set i s)) (match en[i]? with | some (.io _) => .bad | some _ => .ok (en.set i s) | none => .bad) := by
    intro t ht hio
    have : ∃ t', en[i]? = some t' ∧ isIo t' = false := by
      rcases h.at_ i t ht with e | ⟨rfl, e⟩ | ⟨d, rfl, e⟩
      · exact ⟨t, e, hio⟩
      · exact e
      · exact ⟨_, e, rfl⟩
    obtain ⟨t', e', ho⟩ := this
    have r : (match en[i]? with | some (.io _) => R.bad | some _ => .ok (en.set i s) | none => .bad) = .ok (en.set i s) := by
      rw [e']
      cases t' <;> first | rfl | cases ho
    rw [r]
    exact ⟨_, rfl, h.set, hi.set hs, FrE.set fun u hu => by rw [e'] at hu; cases hu; rw [hn, ho]⟩
  split
  · exact trivial
  · rename_i t hne e
    refine key t e ?_
    cases t with
    | io d => exact absurd rfl (hne d)
    | _ => rfl
  · exact trivial
theorem put_LeR {mu : List Nat} {ek en : Env} (h : SubE ek en) (hi : Inv mu en) {i : Nat} {d : D} :
    LeR (Nx mu [i] en) (put ek i d) (put en i d) := by
  unfold put
  split
  · rename_i x e
    have e' := h.get e (by simp) (by simp)
    rw [e']
    refine ⟨_, rfl, h.set, hi.set fun z => ?_, FrE.set fun u hu => by rw [e'] at hu; cases hu; rfl⟩
    have := hi i _ e' z
    cases this
  · rename_i x e
    have e' := h.get e (by simp) (by simp)
    rw [e']
    refine ⟨_, rfl, h.set, hi.set fun z => ?_, FrE.set fun u hu => by rw [e'] at hu; cases hu; rfl⟩
    have := hi i _ e' z
    cases this
  · exact trivial

/-! ### joints -/
theorem getK_ok {e : Env} {j : Nat} {k : Kd} {d : D} (h : getK e j k = .ok d) : e[j]? = some (k.mk d) ∨ (k.mk d = .imm d ∧ e[j]? = some (.own d)) := by
  cases k <;> (simp only [getK] at h; split at h <;> first | (rename_i e; cases h; exact .inl e) | (rename_i e; cases h; exact .inr ⟨rfl, e⟩) | cases h)
theorem getK_noexc {e : Env} {j : Nat} {k : Kd} {c : Nat} {d : D} : getK e j k ≠ .exc c d := by
  cases k <;> (simp only [getK]; split <;> simp)
theorem pk_noexc {e : Env} {c : Nat} {d : D} : ∀ {L : List (Nat × Kd)}, pk e L ≠ .exc c d
  | [], h => by cases h
  | (j, k) :: js, h => by
    unfold pk at h
    cases e1 : getK e j k with
    | ok x =>
      rw [e1] at h
      simp only [R.bind] at h
      cases e2 : pk e js with
      | ok y => rw [e2] at h; cases h
      | exc c d => exact pk_noexc e2
      | bad => rw [e2] at h; cases h
    | exc c d => exact getK_noexc e1
    | bad => rw [e1] at h; cases h
theorem mk_ne {k : Kd} {d : D} : k.mk d ≠ .no := by cases k <;> simp [Kd.mk]
/-- what upk puts stands in the environment from which it was taken -/
theorem upk_get {e : Env} : ∀ {L : List (Nat × Kd)} {st pre : List D} {b : Env}, pk e L = .ok st → ∀ j s, (upk b L (pre ++ st) pre.length)[j]? = some s → (∃ p ∈ L, p.1 = j ∧ (e[j]? = some s ∨ ∃ d, s = .imm d ∧ e[j]? = some (.own d))) ∨ ((∀ p ∈ L, p.1 ≠ j) ∧ b[j]? = some s)
  | [], st, pre, b, _, j, s, h => .inr ⟨by simp, h⟩
  | (i, k) :: L, st, pre, b, hp, j, s, h => by
    unfold pk at hp
    cases e1 : getK e i k with
    | ok x =>
      rw [e1] at hp
      simp only [R.bind] at hp
      cases e2 : pk e L with
      | ok y =>
        rw [e2] at hp
        cases hp
        have e3 : (pre ++ x :: y).getD pre.length .non = x := by simp [List.getD]
        have e4 : pre ++ x :: y = (pre ++ [x]) ++ y := by simp
        unfold upk at h
        rw [e3, e4] at h
        have hl : (pre ++ [x]).length = pre.length + 1 := by simp
        rw [← hl] at h
        rcases upk_get e2 j s h with ⟨p, hp, he, hs⟩ | ⟨hn, hb⟩
        · exact .inl ⟨p, .tail _ hp, he, hs⟩
        · rw [set_get] at hb
          split at hb
          · rename_i e5
            subst e5
            split at hb
            · cases hb
              exact .inl ⟨(i, k), .head _, rfl, (getK_ok e1).imp id fun h => ⟨_, h⟩⟩
            · cases hb
          · rename_i e5
            refine .inr ⟨fun p hp => ?_, hb⟩
            rcases List.mem_cons.mp hp with rfl | hp
            · exact e5
            · exact hn p hp
      | exc c d => rw [e2] at hp; cases hp
      | bad => rw [e2] at hp; cases hp
    | exc c d => rw [e1] at hp; cases hp
    | bad => rw [e1] at hp; cases hp
theorem upk_len : ∀ {L : List (Nat × Kd)} {st : List D} {n : Nat} {b : Env}, (upk b L st n).length = b.length
  | [], _, _, _ => rfl
  | (j, k) :: L, st, n, b => by unfold upk; rw [upk_len]; simp
theorem wipeK_len : ∀ {J : List Nat} {b : Env}, (wipeK b J).length = b.length
  | [], _ => rfl
  | j :: J, b => by unfold wipeK; split <;> rw [wipeK_len]; simp
theorem wipeK_get : ∀ {J : List Nat} {b : Env} {j : Nat} {s : Slot}, (wipeK b J)[j]? = some s → (s = .no ∧ ∃ s', b[j]? = some s' ∧ isIo s' = false) ∨ (b[j]? = some s ∧ (j ∈ J → isIo s = true))
  | [], b, j, s, h => .inr ⟨h, by simp⟩
  | i :: J, b, j, s, h => by
    unfold wipeK at h
    split at h
    · rename_i hi
      rcases wipeK_get h with h | ⟨h, q⟩
      · exact .inl h
      · refine .inr ⟨h, fun z => ?_⟩
        rcases List.mem_cons.mp z with rfl | z
        · unfold ioAt at hi; rw [h] at hi; exact hi
        · exact q z
    · rename_i hi
      rcases wipeK_get h with ⟨rfl, s', h2, q⟩ | ⟨h2, q⟩
      · rw [set_get] at h2
        split at h2
        · rename_i e
          subst e
          split at h2
          · rename_i hl
            refine .inl ⟨rfl, b[i], List.getElem?_eq_getElem hl, ?_⟩
            unfold ioAt at hi
            rw [List.getElem?_eq_getElem hl] at hi
            simpa using hi
          · cases h2
        · exact .inl ⟨rfl, s', h2, q⟩
      · rw [set_get] at h2
        split at h2
        · rename_i e
          subst e
          split at h2
          · rename_i hl
            cases h2
            refine .inl ⟨rfl, b[i], List.getElem?_eq_getElem hl, ?_⟩
            unfold ioAt at hi
            rw [List.getElem?_eq_getElem hl] at hi
            simpa using hi
          · cases h2
        · rename_i hne
          refine .inr ⟨h2, fun z => ?_⟩
          rcases List.mem_cons.mp z with rfl | z
          · exact absurd rfl hne
          · exact q z
/-- a joint: from the environment at its start and the one at a branch's end -/
theorem SubE.join {J : List Nat} {L : List (Nat × Kd)} {e1 n1 ek en : Env} {st : List D} (h1 : SubE e1 n1) (h2 : SubE ek en) (hf : FrE J n1 en)
    (hL : ∀ j ∈ J, ioAt e1 j = true → ∃ p ∈ L, p.1 = j) (hp : pk ek L = .ok st) : SubE (upk (wipeK e1 J) L st 0) en := by
  refine ⟨by rw [upk_len, wipeK_len, h1.len, hf.len], fun j s hs => ?_⟩
  rcases upk_get (pre := []) hp j s hs with ⟨p, hpm, he, hs'⟩ | ⟨hn, hb⟩
  · rcases hs' with hs' | ⟨d, rfl, hs'⟩
    · exact h2.at_ j s hs'
    · exact .inr (.inr ⟨d, rfl, h2.get hs' (by simp) (by simp)⟩)
  · have lift : ∀ s', n1[j]? = some s' → isIo s' = false → ∃ s'', en[j]? = some s'' ∧ isIo s'' = false := by
      intro s' a b
      have hl : j < en.length := by rw [hf.len]; exact (List.getElem?_eq_some_iff.mp a).1
      exact ⟨en[j], List.getElem?_eq_getElem hl, by rw [hf.io j s' _ a (List.getElem?_eq_getElem hl), b]⟩
    rcases wipeK_get hb with ⟨rfl, s', a, b⟩ | ⟨a, b⟩
    · refine .inr (.inl ⟨rfl, ?_⟩)
      rcases h1.at_ j s' a with c | ⟨rfl, s'', c, d⟩ | ⟨d, rfl, c⟩
      · exact lift s' c b
      · exact lift s'' c d
      · exact lift _ c rfl
    · by_cases hj : j ∈ J
      · have hio : ioAt e1 j = true := by unfold ioAt; rw [a]; exact b hj
        obtain ⟨p, hp1, hp2⟩ := hL j hj hio
        exact absurd hp2 (hn p hp1)
      · rcases h1.at_ j s a with c | ⟨rfl, s'', c, d⟩ | ⟨d, rfl, c⟩
        · exact .inl (by rw [hf.same j hj]; exact c)
        · exact .inr (.inl ⟨rfl, lift s'' c d⟩)
        · exact .inr (.inr ⟨d, rfl, by rw [hf.same j hj]; exact c⟩)
theorem crry_io {mu mt : List Nat} {e : Env} {J lv : List Nat} : ∀ j ∈ J, ioAt e j = true → ∃ p ∈ crry mu mt e J lv, p.1 = j := by
  intro j hj hio
  exact ⟨(j, kdAt mu mt e j), by simp only [crry, List.mem_map, List.mem_filter]; exact ⟨j, ⟨hj, by rw [hio]; simp⟩, rfl⟩, rfl⟩
theorem crryL_io {mu mt : List Nat} {e : Env} {J lv : List Nat} : ∀ j ∈ J, ioAt e j = true → ∃ p ∈ crryL mu mt e J lv, p.1 = j := by
  intro j hj hio
  exact ⟨(j, kdAt mu mt e j), by simp only [crryL, List.mem_map, List.mem_filter]; exact ⟨j, ⟨hj, by rw [hio]; simp⟩, rfl⟩, rfl⟩
end Py
end
section
set_option autoImplicit false
set_option linter.all false
/-! PyKe: expressions. -/
namespace Py
section
variable (ft : Ft) (ft0 : Nat → List D → R D) (ft1 : Nat → List D → R (D × D)) (mu : List Nat)
def SndE (e : E) : Prop := ∀ (α β : Type) (P : α → β → Prop) (ek en : Env) (k : D → Env → R α) (k' : D × Env → R β), SubE ek en → Inv mu en →
  (∀ d ek' en', Nx mu (effE mu e) en ek' en' → LeR P (k d ek') (k' (d, en'))) → LeR P (evk ft0 ft1 mu e α ek k) ((ev ft e en).bind k')
end
section
variable {ft : Ft} {ft0 : Nat → List D → R D} {ft1 : Nat → List D → R (D × D)} {mu : List Nat}
theorem Nx.refl {J : List Nat} {ek en : Env} (h : SubE ek en) (hi : Inv mu en) : Nx mu J en ek en := ⟨h, hi, .refl⟩
theorem Nx.trans {J J' : List Nat} {e0 ek1 e1 ek2 e2 : Env} (h : Nx mu J e0 ek1 e1) (h' : Nx mu J' e1 ek2 e2) : Nx mu (uni J J') e0 ek2 e2 := ⟨h'.sub, h'.inv, h.fr.trans h'.fr⟩
theorem Nx.mono {J J' : List Nat} {e0 ek1 e1 : Env} (h : Nx mu J e0 ek1 e1) (hs : ∀ j ∈ J, j ∈ J') : Nx mu J' e0 ek1 e1 := ⟨h.sub, h.inv, h.fr.mono hs⟩
/-- an expression alone -/
theorem SndE.run {e : E} (h : SndE ft ft0 ft1 mu e) {α : Type} {Q : α → D × Env → Prop} {ek en : Env} (hs : SubE ek en) (hi : Inv mu en) {k : D → Env → R α}
    (hk : ∀ d ek' en', Nx mu (effE mu e) en ek' en' → LeR Q (k d ek') (.ok (d, en'))) : LeR Q (evk ft0 ft1 mu e α ek k) (ev ft e en) := by
  have := h α (D × Env) Q ek en k (fun p => .ok p) hs hi hk
  have e2 : ((ev ft e en).bind fun p => .ok p) = ev ft e en := by cases ev ft e en <;> rfl
  rw [e2] at this
  exact this
theorem LeR.map {α β : Type} {P : α → β → Prop} {m : R α} {g : α → β} (h : ∀ a, P a (g a)) : LeR P m (m.bind fun a => .ok (g a)) := by
  cases m with
  | ok a => exact ⟨_, rfl, h a⟩
  | exc c d => exact rfl
  | bad => exact trivial
theorem boolR_eq {x : D} {e : Env} : bool (x, e) = (boolR x).bind fun b => .ok (b, e) := by cases x <;> rfl
theorem unL_self {x : D} : LeR (fun a b => a = b) (unL x) (unL x) := .refl fun _ => rfl

theorem snd_nil : SndE ft ft0 ft1 mu .nil := fun α β P ek en k k' hs hi hk => hk _ _ _ (.refl hs hi)
theorem snd_cons {a b : E} (ha : SndE ft ft0 ft1 mu a) (hb : SndE ft ft0 ft1 mu b) : SndE ft ft0 ft1 mu (.cons a b) := by
  intro α β P ek en k k' hs hi hk
  simp only [evk, ev, R.bind_assoc, R.bind_ok]
  refine ha _ _ _ _ _ _ _ hs hi fun x e1 n1 x1 => hb _ _ _ _ _ _ _ x1.sub x1.inv fun y e2 n2 x2 => .same fun ys _ => hk _ _ _ (x1.trans x2)
theorem snd_loc {i : Nat} : SndE ft ft0 ft1 mu (.loc i) := by
  intro α β P ek en k k' hs hi hk
  simp only [evk, ev]
  by_cases hm : mu.contains i = true
  · rw [if_pos hm]
    split
    · rename_i d e
      rcases hs.geti e with e' | e'
      · rw [e']
        exact hk _ _ _ (.refl hs hi)
      · rw [e']
        have h1 : SubE ek (en.set i (.imm d)) := by
          refine ⟨by simp [hs.len], fun j s hj => ?_⟩
          rw [set_get]
          by_cases hij : i = j
          · subst hij
            rw [e] at hj; cases hj
            exact .inl (by simp [← hs.len, (List.getElem?_eq_some_iff.mp e).1])
          · rw [if_neg hij]; exact hs.at_ j s hj
        refine hk _ _ _ ⟨h1, hi.set fun z => (by rw [hm] at z; cases z), ?_⟩
        refine (FrE.set fun u hu => by rw [e'] at hu; cases hu; rfl).mono fun j hj => ?_
        simp only [effE, if_pos hm]; exact hj
    · rename_i d e
      have e' := hs.get e (by simp) (by simp)
      rw [e']
      refine hk _ _ _ ⟨hs.set, hi.set fun z => (by rw [hm] at z; cases z), ?_⟩
      refine (FrE.set fun u hu => by rw [e'] at hu; cases hu; rfl).mono fun j hj => ?_
      simp only [effE, if_pos hm]; exact hj
    · exact trivial
  · rw [if_neg hm]
    split
    · rename_i d e
      rcases hs.geti e with e' | e'
      · rw [e']
        exact hk _ _ _ (.refl hs hi)
      · have := hi i _ e' (by simpa using hm)
        cases this
    · exact trivial
theorem snd_bor {i : Nat} : SndE ft ft0 ft1 mu (.bor i) := by
  intro α β P ek en k k' hs hi hk
  simp only [evk, ev, R.bind_assoc, R.bind_ok]
  exact (rd_LeR hs).bind fun a b e => by subst e; exact hk _ _ _ (.refl hs hi)
theorem snd_cst {d : D} : SndE ft ft0 ft1 mu (.cst d) := fun α β P ek en k k' hs hi hk => by simp only [evk, ev, R.bind_ok]; exact hk _ _ _ (.refl hs hi)
theorem snd_bin {o : BO} {a b : E} (ha : SndE ft ft0 ft1 mu a) (hb : SndE ft ft0 ft1 mu b) : SndE ft ft0 ft1 mu (.bin o a b) := by
  intro α β P ek en k k' hs hi hk
  simp only [evk, ev, R.bind_assoc, R.bind_ok]
  exact ha _ _ _ _ _ _ _ hs hi fun x e1 n1 x1 => hb _ _ _ _ _ _ _ x1.sub x1.inv fun y e2 n2 x2 => (late_LeR x2.sub).bind fun u v e => by
    subst e; exact .same fun z _ => hk _ _ _ (x1.trans x2)
theorem snd_neg {a : E} (ha : SndE ft ft0 ft1 mu a) : SndE ft ft0 ft1 mu (.neg a) := by
  intro α β P ek en k k' hs hi hk
  simp only [evk, ev, R.bind_assoc, R.bind_ok]
  refine ha _ _ _ _ _ _ _ hs hi fun x e1 n1 x1 => ?_
  cases x <;> first | exact trivial | exact hk _ _ _ x1
theorem snd_not {a : E} (ha : SndE ft ft0 ft1 mu a) : SndE ft ft0 ft1 mu (.not a) := by
  intro α β P ek en k k' hs hi hk
  simp only [evk, ev, R.bind_assoc, R.bind_ok]
  refine ha _ _ _ _ _ _ _ hs hi fun x e1 n1 x1 => ?_
  cases x <;> first | exact trivial | exact hk _ _ _ x1
theorem snd_cmp {o : CO} {a b : E} (ha : SndE ft ft0 ft1 mu a) (hb : SndE ft ft0 ft1 mu b) : SndE ft ft0 ft1 mu (.cmp o a b) := by
  intro α β P ek en k k' hs hi hk
  simp only [evk, ev, R.bind_assoc, R.bind_ok]
  exact ha _ _ _ _ _ _ _ hs hi fun x e1 n1 x1 => hb _ _ _ _ _ _ _ x1.sub x1.inv fun y e2 n2 x2 => (late_LeR x2.sub).bind fun u v e => by
    subst e; exact .same fun z _ => hk _ _ _ (x1.trans x2)
theorem mem_uni_l {x : Nat} {a b : List Nat} (h : x ∈ a) : x ∈ uni a b := mem_uni.mpr (.inl h)
theorem mem_uni_r {x : Nat} {a b : List Nat} (h : x ∈ b) : x ∈ uni a b := mem_uni.mpr (.inr h)
theorem uni_assoc_mem {x : Nat} {a b c : List Nat} (h : x ∈ uni (uni a b) c) : x ∈ uni a (uni b c) := by
  simp only [mem_uni] at h ⊢; exact or_assoc.mp h
theorem snd_chn {o o' : CO} {a b c : E} (ha : SndE ft ft0 ft1 mu a) (hb : SndE ft ft0 ft1 mu b) (hc : SndE ft ft0 ft1 mu c) : SndE ft ft0 ft1 mu (.chn o o' a b c) := by
  intro α β P ek en k k' hs hi hk
  simp only [evk, ev, R.bind_assoc, R.bind_ok]
  refine ha _ _ _ _ _ _ _ hs hi fun x e1 n1 x1 => hb _ _ _ _ _ _ _ x1.sub x1.inv fun y e2 n2 x2 => .same fun q _ => ?_
  split
  · rename_i J hJ
    have hJ' : effE mu c = [] := hJ
    refine LeR.bind (P := fun r p => p.1 = .bl r ∧ p.2 = n2) ?_ fun r p hp => ?_
    · refine .ite (fun _ => ?_) fun _ => ⟨_, rfl, rfl, rfl⟩
      refine hc _ _ _ _ _ _ _ x2.sub x2.inv fun z e3 n3 x3 => ?_
      have : n3 = n2 := (hJ' ▸ x3.fr).nil
      subst this
      exact LeR.map fun r => ⟨rfl, rfl⟩
    · obtain ⟨p1, p2⟩ := p
      obtain ⟨rfl, rfl⟩ := hp
      exact hk _ _ _ ((x1.trans x2).mono fun j hj => by simp only [effE, mem_uni] at hj ⊢; exact hj.elim .inl fun h => .inr (.inl h))
  · exact trivial

/-- a branch with what is carried -/
theorem SndE.branch {e : E} (h : SndE ft ft0 ft1 mu e) {mt J lv : List Nat} {e1 n1 : Env} (hs : SubE e1 n1) (hi : Inv mu n1) (hJ : ∀ j ∈ effE mu e, j ∈ J) {γ : Type} {g : D → R γ} :
    LeR (fun z p => g p.1 = .ok z.1 ∧ Nx mu J n1 (upk (wipeK e1 J) (crry mu mt e1 J lv) z.2 0) p.2)
      (evk ft0 ft1 mu e (γ × List D) e1 fun y e2 => (g y).calm.bind fun z => (pk e2 (crry mu mt e1 J lv)).bind fun st => .ok (z, st)) (ev ft e n1) := by
  refine h.run hs hi fun d e2 n2 x2 => ?_
  cases hg : g d with
  | ok z =>
    show LeR _ ((pk e2 _).bind _) _
    cases hp : pk e2 (crry mu mt e1 J lv) with
    | ok st => exact ⟨_, rfl, hg, SubE.join hs x2.sub (x2.fr.mono hJ) crry_io hp, x2.inv, x2.fr.mono hJ⟩
    | exc c d => exact absurd hp pk_noexc
    | bad => exact trivial
  | exc c d => exact trivial
  | bad => exact trivial
theorem SndE.stay {e : E} {mt J lv : List Nat} {e1 n1 : Env} (hs : SubE e1 n1) (hi : Inv mu n1) {γ : Type} {z : γ} {d : D} {g : D → R γ} (hg : g d = .ok z) :
    LeR (fun z p => g p.1 = .ok z.1 ∧ Nx mu J n1 (upk (wipeK e1 J) (crry mu mt e1 J lv) z.2 0) p.2)
      ((pk e1 (crry mu mt e1 J lv)).bind fun st => .ok (z, st)) (.ok (d, n1)) := by
  cases hp : pk e1 (crry mu mt e1 J lv) with
  | ok st => exact ⟨_, rfl, hg, SubE.join hs hs .refl crry_io hp, hi, .refl⟩
  | exc c d => exact absurd hp pk_noexc
  | bad => exact trivial
theorem SndE.pure {e : E} (h : SndE ft ft0 ft1 mu e) {e1 n1 : Env} (hs : SubE e1 n1) (hi : Inv mu n1) (hJ : effE mu e = []) {γ : Type} {g : D → R γ} :
    LeR (fun z p => g p.1 = .ok z ∧ p.2 = n1) (evk ft0 ft1 mu e γ e1 fun y _ => (g y).calm) (ev ft e n1) := by
  refine h.run hs hi fun d e2 n2 x2 => ?_
  have : n2 = n1 := (hJ ▸ x2.fr).nil
  cases hg : g d with
  | ok z => exact ⟨_, rfl, hg, this⟩
  | exc c d => exact trivial
  | bad => exact trivial
theorem boolR_calm {y : D} : (boolR y).calm = boolR y := by cases y <;> rfl
theorem boolR_ok {y : D} {b : Bool} (h : boolR y = .ok b) : y = .bl b := by cases y <;> cases h <;> rfl
theorem bool_bind {β : Type} {x : D} {e : Env} {f : Bool × Env → R β} : (bool (x, e)).bind f = (boolR x).bind fun b => f (b, e) := by cases x <;> rfl
theorem snd_and {a b : E} (ha : SndE ft ft0 ft1 mu a) (hb : SndE ft ft0 ft1 mu b) : SndE ft ft0 ft1 mu (.and a b) := by
  intro α β P ek en k k' hs hi hk
  simp only [evk, ev, R.bind_assoc]
  refine ha _ _ _ _ _ _ _ hs hi fun x e1 n1 x1 => ?_
  rw [bool_bind]
  refine .same fun c _ => ?_
  split
  · rename_i hJ
    refine LeR.bind (P := fun z p => p = (.bl z, n1)) ?_ fun z p hp => by subst hp; exact hk _ _ _ (x1.mono fun j hj => mem_uni_l hj)
    refine .ite (fun _ => ?_) fun _ => ⟨_, rfl, rfl⟩
    refine (hb.pure x1.sub x1.inv hJ (g := boolR)).mono ?_ |> fun h => by simpa only [boolR_calm] using h
    rintro z ⟨p1, p2⟩ ⟨h1, h2⟩
    cases boolR_ok h1; cases h2; rfl
  · rename_i J _
    refine LeR.bind (P := fun z p => boolR p.1 = .ok z.1 ∧ Nx mu (effE mu b) n1 (upk (wipeK e1 (effE mu b)) (crry mu (mutE b) e1 (effE mu b) (effE mu b)) z.2 0) p.2) ?_ ?_
    · refine .ite (fun _ => ?_) fun _ => SndE.stay (e := b) (g := boolR) x1.sub x1.inv rfl
      have := hb.branch (mt := mutE b) (J := effE mu b) (lv := effE mu b) x1.sub x1.inv (fun _ h => h) (g := boolR)
      simpa only [boolR_calm] using this
    · rintro ⟨z, st⟩ ⟨p1, p2⟩ ⟨h1, h2⟩
      cases boolR_ok h1
      exact hk _ _ _ (x1.trans h2)
theorem snd_or {a b : E} (ha : SndE ft ft0 ft1 mu a) (hb : SndE ft ft0 ft1 mu b) : SndE ft ft0 ft1 mu (.or a b) := by
  intro α β P ek en k k' hs hi hk
  simp only [evk, ev, R.bind_assoc]
  refine ha _ _ _ _ _ _ _ hs hi fun x e1 n1 x1 => ?_
  rw [bool_bind]
  refine .same fun c _ => ?_
  split
  · rename_i hJ
    refine LeR.bind (P := fun z p => p = (.bl z, n1)) ?_ fun z p hp => by subst hp; exact hk _ _ _ (x1.mono fun j hj => mem_uni_l hj)
    refine .ite (fun _ => ⟨_, rfl, rfl⟩) fun _ => ?_
    refine (hb.pure x1.sub x1.inv hJ (g := boolR)).mono ?_ |> fun h => by simpa only [boolR_calm] using h
    rintro z ⟨p1, p2⟩ ⟨h1, h2⟩
    cases boolR_ok h1; cases h2; rfl
  · rename_i J _
    refine LeR.bind (P := fun z p => boolR p.1 = .ok z.1 ∧ Nx mu (effE mu b) n1 (upk (wipeK e1 (effE mu b)) (crry mu (mutE b) e1 (effE mu b) (effE mu b)) z.2 0) p.2) ?_ ?_
    · refine .ite (fun _ => SndE.stay (e := b) (g := boolR) x1.sub x1.inv rfl) fun _ => ?_
      have := hb.branch (mt := mutE b) (J := effE mu b) (lv := effE mu b) x1.sub x1.inv (fun _ h => h) (g := boolR)
      simpa only [boolR_calm] using this
    · rintro ⟨z, st⟩ ⟨p1, p2⟩ ⟨h1, h2⟩
      cases boolR_ok h1
      exact hk _ _ _ (x1.trans h2)
theorem snd_ife {c a b : E} (hc : SndE ft ft0 ft1 mu c) (ha : SndE ft ft0 ft1 mu a) (hb : SndE ft ft0 ft1 mu b) : SndE ft ft0 ft1 mu (.ife c a b) := by
  intro α β P ek en k k' hs hi hk
  simp only [evk, ev, R.bind_assoc]
  refine hc _ _ _ _ _ _ _ hs hi fun x e1 n1 x1 => ?_
  rw [bool_bind]
  refine .same fun q _ => ?_
  split
  · rename_i hJ
    have hJa : effE mu a = [] := List.eq_nil_iff_forall_not_mem.mpr fun j hj => by have := mem_uni_l (b := effE mu b) hj; rw [hJ] at this; cases this
    have hJb : effE mu b = [] := List.eq_nil_iff_forall_not_mem.mpr fun j hj => by have := mem_uni_r (a := effE mu a) hj; rw [hJ] at this; cases this
    refine LeR.bind (P := fun z p => R.ok p.1 = .ok z ∧ p.2 = n1) ?_ fun z p hp => ?_
    · exact .ite (fun _ => ha.pure x1.sub x1.inv hJa (g := fun d => .ok d)) fun _ => hb.pure x1.sub x1.inv hJb (g := fun d => .ok d)
    · obtain ⟨p1, p2⟩ := p
      obtain ⟨h1, rfl⟩ := hp
      cases h1
      exact hk _ _ _ (x1.mono fun j hj => mem_uni_l hj)
  · rename_i J _
    refine LeR.bind (P := fun z p => R.ok p.1 = .ok z.1 ∧ Nx mu (uni (effE mu a) (effE mu b)) n1 (upk (wipeK e1 (uni (effE mu a) (effE mu b))) (crry mu (uni (mutE a) (mutE b)) e1 (uni (effE mu a) (effE mu b)) (uni (effE mu a) (effE mu b))) z.2 0) p.2) ?_ ?_
    · exact .ite (fun _ => ha.branch x1.sub x1.inv (fun _ h => mem_uni_l h) (g := fun d => .ok d)) fun _ => hb.branch x1.sub x1.inv (fun _ h => mem_uni_r h) (g := fun d => .ok d)
    · rintro ⟨z, st⟩ ⟨p1, p2⟩ ⟨h1, h2⟩
      cases h1
      exact hk _ _ _ (x1.trans h2)
theorem szR_le {β : Type} {n : Nat} {f : Unit → R β} : ((szR n).bind f) = if n ≤ SZ then f () else .bad := by
  unfold szR; split <;> rfl
theorem LeR.sz {α β : Type} {P : α → β → Prop} {n : Nat} {f : Unit → R α} {r : R β} (h : n ≤ SZ → LeR P (f ()) r) : LeR P ((szR n).bind f) (if n ≤ SZ then r else .bad) := by
  rw [szR_le]; exact .ite h fun _ => trivial
theorem ite_bind {α β : Type} {c : Prop} [Decidable c] {x y : R α} {f : α → R β} : (if c then x else y).bind f = if c then x.bind f else y.bind f := by split <;> rfl
theorem snd_tup {a : E} (ha : SndE ft ft0 ft1 mu a) : SndE ft ft0 ft1 mu (.tup a) := by
  intro α β P ek en k k' hs hi hk
  simp only [evk, ev, R.bind_assoc]
  refine ha _ _ _ _ _ _ _ hs hi fun x e1 n1 x1 => .same fun ds _ => ?_
  rw [ite_bind]
  exact .sz fun _ => hk _ _ _ x1
theorem snd_lst {a : E} (ha : SndE ft ft0 ft1 mu a) : SndE ft ft0 ft1 mu (.lst a) := by
  intro α β P ek en k k' hs hi hk
  simp only [evk, ev, R.bind_assoc]
  refine ha _ _ _ _ _ _ _ hs hi fun x e1 n1 x1 => .same fun ds _ => ?_
  rw [ite_bind]
  exact .sz fun _ => hk _ _ _ x1
theorem snd_sub {a b : E} (ha : SndE ft ft0 ft1 mu a) (hb : SndE ft ft0 ft1 mu b) : SndE ft ft0 ft1 mu (.sub a b) := by
  intro α β P ek en k k' hs hi hk
  simp only [evk, ev, R.bind_assoc, R.bind_ok]
  exact ha _ _ _ _ _ _ _ hs hi fun x e1 n1 x1 => hb _ _ _ _ _ _ _ x1.sub x1.inv fun y e2 n2 x2 => (late_LeR x2.sub).bind fun u v e => by
    subst e; exact .same fun z _ => hk _ _ _ (x1.trans x2)
theorem snd_sli {a b c : E} (ha : SndE ft ft0 ft1 mu a) (hb : SndE ft ft0 ft1 mu b) (hc : SndE ft ft0 ft1 mu c) : SndE ft ft0 ft1 mu (.sli a b c) := by
  intro α β P ek en k k' hs hi hk
  simp only [evk, ev, R.bind_assoc, R.bind_ok]
  exact ha _ _ _ _ _ _ _ hs hi fun x e1 n1 x1 => hb _ _ _ _ _ _ _ x1.sub x1.inv fun y e2 n2 x2 => .same fun lo _ => hc _ _ _ _ _ _ _ x2.sub x2.inv fun y e3 n3 x3 => .same fun hi _ => (late_LeR x3.sub).bind fun u v e => by
    subst e; exact .same fun z _ => hk _ _ _ (((x1.trans x2).trans x3).mono fun j hj => uni_assoc_mem hj)
theorem snd_dct {a : E} (ha : SndE ft ft0 ft1 mu a) : SndE ft ft0 ft1 mu (.dct a) := by
  intro α β P ek en k k' hs hi hk
  simp only [evk, ev, R.bind_assoc, R.bind_ok]
  exact ha _ _ _ _ _ _ _ hs hi fun x e1 n1 x1 => .same fun z _ => .same fun z _ => hk _ _ _ x1
theorem snd_dup {a b c : E} (ha : SndE ft ft0 ft1 mu a) (hb : SndE ft ft0 ft1 mu b) (hc : SndE ft ft0 ft1 mu c) : SndE ft ft0 ft1 mu (.dup a b c) := by
  intro α β P ek en k k' hs hi hk
  simp only [evk, ev, R.bind_assoc, R.bind_ok]
  exact ha _ _ _ _ _ _ _ hs hi fun x e1 n1 x1 => .same fun _ _ => hb _ _ _ _ _ _ _ x1.sub x1.inv fun y e2 n2 x2 => hc _ _ _ _ _ _ _ x2.sub x2.inv fun z e3 n3 x3 => .same fun q _ => hk _ _ _ (((x1.trans x2).trans x3).mono fun j hj => uni_assoc_mem hj)
theorem snd_mrg {a b : E} (ha : SndE ft ft0 ft1 mu a) (hb : SndE ft ft0 ft1 mu b) : SndE ft ft0 ft1 mu (.mrg a b) := by
  intro α β P ek en k k' hs hi hk
  simp only [evk, ev, R.bind_assoc, R.bind_ok]
  exact ha _ _ _ _ _ _ _ hs hi fun x e1 n1 x1 => .same fun _ _ => hb _ _ _ _ _ _ _ x1.sub x1.inv fun y e2 n2 x2 => .same fun q _ => hk _ _ _ (x1.trans x2)
theorem snd_rev {a : E} (ha : SndE ft ft0 ft1 mu a) : SndE ft ft0 ft1 mu (.rev a) := by
  intro α β P ek en k k' hs hi hk
  simp only [evk, ev, R.bind_assoc, R.bind_ok]
  exact ha _ _ _ _ _ _ _ hs hi fun x e1 n1 x1 => .same fun z _ => hk _ _ _ x1
theorem snd_call0 (h0 : ∀ f ds, LeR (fun a b => a = b.1) (ft0 f ds) (ft f ds)) {f : Nat} {fr : Bool} {a : E} (ha : SndE ft ft0 ft1 mu a) : SndE ft ft0 ft1 mu (.call f false fr a) := by
  intro α β P ek en k k' hs hi hk
  simp only [evk, ev, R.bind_assoc, R.bind_ok]
  exact ha _ _ _ _ _ _ _ hs hi fun x e1 n1 x1 => .same fun z _ => (h0 f z).bind fun u v e => by
    subst e; exact hk _ _ _ (x1.mono fun j hj => by simpa only [effE] using hj)
theorem snd_call1 (h1 : ∀ f ds, LeR (fun a b => a = b) (ft1 f ds) (ft f ds)) {f i : Nat} {fr : Bool} {a : E} (ha : SndE ft ft0 ft1 mu a) : SndE ft ft0 ft1 mu (.call f true fr (.cons (.bor i) a)) := by
  intro α β P ek en k k' hs hi hk
  simp only [evk, ev, R.bind_assoc, R.bind_ok]
  refine (rdO_LeR hs).bind fun _ _ _ => ha _ _ _ _ _ _ _ hs hi fun x e1 n1 x1 => .same fun z _ => (rdO_LeR x1.sub).bind fun c c' e => ?_
  subst e
  refine (h1 f _).bind fun u v e => ?_
  subst e
  refine (put_LeR x1.sub x1.inv).bind fun e2 n2 x2 => hk _ _ _ ((x1.trans x2).mono fun j hj => ?_)
  simp only [effE, mem_uni] at hj ⊢
  exact hj.elim (fun h => .inr (.inr h)) .inl
theorem snd_blt {f : BF} {a : E} (ha : SndE ft ft0 ft1 mu a) : SndE ft ft0 ft1 mu (.blt f a) := by
  intro α β P ek en k k' hs hi hk
  simp only [evk, ev, R.bind_assoc, R.bind_ok]
  exact ha _ _ _ _ _ _ _ hs hi fun x e1 n1 x1 => .same fun z _ => .same fun z _ => hk _ _ _ x1
theorem snd_met {m : MF} {a b : E} (ha : SndE ft ft0 ft1 mu a) (hb : SndE ft ft0 ft1 mu b) : SndE ft ft0 ft1 mu (.met m a b) := by
  intro α β P ek en k k' hs hi hk
  simp only [evk, ev, R.bind_assoc, R.bind_ok]
  exact ha _ _ _ _ _ _ _ hs hi fun x e1 n1 x1 => .same fun _ _ => hb _ _ _ _ _ _ _ x1.sub x1.inv fun y e2 n2 x2 => (late_LeR x2.sub).bind fun u v e => by
    subst e; exact .same fun _ _ => .same fun _ _ => .same fun z _ => hk _ _ _ (x1.trans x2)
theorem snd_pop {i : Nat} {a : E} (ha : SndE ft ft0 ft1 mu a) : SndE ft ft0 ft1 mu (.pop i a) := by
  intro α β P ek en k k' hs hi hk
  simp only [evk, ev, R.bind_assoc, R.bind_ok]
  refine (rd_LeR hs).bind fun _ _ e => ?_
  subst e
  refine .same fun _ _ => ha _ _ _ _ _ _ _ hs hi fun x e1 n1 x1 => .same fun z _ => (rd_LeR x1.sub).bind fun c c' e => ?_
  subst e
  refine .same fun r _ => (put_LeR x1.sub x1.inv).bind fun e2 n2 x2 => hk _ _ _ ((x1.trans x2).mono fun j hj => ?_)
  simp only [effE, mem_uni] at hj ⊢
  exact hj.elim .inr .inl
theorem snd_isi {t : Ty} {a : E} (ha : SndE ft ft0 ft1 mu a) : SndE ft ft0 ft1 mu (.isi a t) := by
  intro α β P ek en k k' hs hi hk
  simp only [evk, ev, R.bind_assoc, R.bind_ok]
  refine ha _ _ _ _ _ _ _ hs hi fun x e1 n1 x1 => ?_
  show LeR P ((if isiOk x = true then _ else _ : R D).bind _) _
  rw [ite_bind, ite_bind]
  exact .ite (fun _ => hk _ _ _ x1) fun _ => trivial
theorem snd_rng {a : E} (ha : SndE ft ft0 ft1 mu a) : SndE ft ft0 ft1 mu (.rng a) := by
  intro α β P ek en k k' hs hi hk
  simp only [evk, ev, R.bind_assoc, R.bind_ok]
  exact ha _ _ _ _ _ _ _ hs hi fun x e1 n1 x1 => .same fun z _ => .same fun z _ => hk _ _ _ x1
theorem snd_enu {a : E} (ha : SndE ft ft0 ft1 mu a) : SndE ft ft0 ft1 mu (.enu a) := by
  intro α β P ek en k k' hs hi hk
  simp only [evk, ev, R.bind_assoc, R.bind_ok]
  exact ha _ _ _ _ _ _ _ hs hi fun x e1 n1 x1 => .same fun z _ => hk _ _ _ x1
theorem snd_zip {a : E} (ha : SndE ft ft0 ft1 mu a) : SndE ft ft0 ft1 mu (.zip a) := by
  intro α β P ek en k k' hs hi hk
  simp only [evk, ev, R.bind_assoc, R.bind_ok]
  exact ha _ _ _ _ _ _ _ hs hi fun x e1 n1 x1 => .same fun z _ => hk _ _ _ x1
end
end Py
end
section
set_option autoImplicit false
set_option linter.all false
/-! PyKl: targets, blocks; every expression. -/
namespace Py
section
variable {ft : Ft} {ft0 : Nat → List D → R D} {ft1 : Nat → List D → R (D × D)} {mu : List Nat}
mutual
theorem asgTk_snd : ∀ (t : T) {α β : Type} {P : α → β → Prop} {d : D} {ek en : Env} {k : Env → R α} {k' : Env → R β}, SubE ek en → Inv mu en →
    (∀ ek' en', Nx mu (varsT t) en ek' en' → LeR P (k ek') (k' en')) → LeR P (asgTk t d ek k) ((asgT t d en).bind k')
  | .v i, _, _, _, d, ek, en, k, k', hs, hi, hk => by
    simp only [asgTk, asgT]
    exact (sto_LeR hs hi (fun _ => rfl) rfl).bind fun a b x => hk _ _ x
  | .tu a, _, _, _, d, ek, en, k, k', hs, hi, hk => by
    simp only [asgTk, asgT]
    cases d with
    | tup ds =>
      simp only [unTn]
      by_cases hl : (ds.length == lenT a) = true
      · rw [if_pos hl]
        exact asgTsk_snd a (pre := []) (by simpa using hl) hs hi hk
      · rw [if_neg hl]; exact trivial
    | _ => exact trivial
  | .nil, _, _, _, d, ek, en, k, k', hs, hi, hk => by simp only [asgTk]; exact trivial
  | .cons _ _, _, _, _, d, ek, en, k, k', hs, hi, hk => by simp only [asgTk]; exact trivial
theorem asgTsk_snd : ∀ (t : T) {α β : Type} {P : α → β → Prop} {pre ds : List D} {ek en : Env} {k : Env → R α} {k' : Env → R β}, ds.length = lenT t → SubE ek en → Inv mu en →
    (∀ ek' en', Nx mu (varsT t) en ek' en' → LeR P (k ek') (k' en')) → LeR P (asgTsk t pre.length (pre ++ ds) ek k) ((asgTs t ds en).bind k')
  | .nil, _, _, _, pre, ds, ek, en, k, k', hl, hs, hi, hk => by
    have : ds = [] := List.length_eq_zero_iff.mp hl
    subst this
    simp only [asgTsk, asgTs]
    exact hk _ _ (.refl hs hi)
  | .cons a b, _, _, _, pre, ds, ek, en, k, k', hl, hs, hi, hk => by
    cases ds with
    | nil => exact absurd hl.symm (Nat.succ_ne_zero _)
    | cons d ds =>
      simp only [asgTsk, asgTs, R.bind_assoc]
      have e3 : (pre ++ d :: ds).getD pre.length .non = d := by simp [List.getD]
      have e4 : pre ++ d :: ds = (pre ++ [d]) ++ ds := by simp
      have hl2 : (pre ++ [d]).length = pre.length + 1 := by simp
      rw [e3]
      refine asgTk_snd a hs hi fun e1 n1 x1 => ?_
      rw [e4, ← hl2]
      exact asgTsk_snd b (Nat.succ.inj hl) x1.sub x1.inv fun e2 n2 x2 => hk _ _ (x1.trans x2)
  | .v i, _, _, _, pre, ds, ek, en, k, k', hl, hs, hi, hk => by simp only [asgTsk]; exact trivial
  | .tu _, _, _, _, pre, ds, ek, en, k, k', hl, hs, hi, hk => by simp only [asgTsk]; exact trivial
end

theorem wipeE_get {e : Env} {j : Nat} : ∀ {vs : List Nat}, (wipeE e vs)[j]? = if j ∈ vs then (if j < e.length then some .no else none) else e[j]?
  | [] => by simp [wipeE]
  | v :: vs => by
    have hl : (wipeE e vs).length = e.length := by
      clear wipeE_get
      induction vs with
      | nil => rfl
      | cons v vs ih => simp [wipeE, ih]
    simp only [wipeE, set_get, hl, wipeE_get (vs := vs), List.mem_cons]
    by_cases h : v = j
    · subst h; simp
    · have h' : j ≠ v := fun z => h z.symm
      simp [h, h']
theorem wipeE_len {e : Env} : ∀ {vs : List Nat}, (wipeE e vs).length = e.length
  | [] => rfl
  | v :: vs => by simp [wipeE, wipeE_len]
theorem back_len {e0 e1 : Env} : ∀ {vs : List Nat}, (back e0 e1 vs).length = e1.length
  | [] => rfl
  | v :: vs => by simp [back, back_len]
theorem back_get {e0 e1 : Env} {j : Nat} : ∀ {vs : List Nat}, (back e0 e1 vs)[j]? = if j ∈ vs then (if j < e1.length then some (e0.getD j .no) else none) else e1[j]?
  | [] => by simp [back]
  | v :: vs => by
    simp only [back, set_get, back_len, back_get (vs := vs), List.mem_cons]
    by_cases h : v = j
    · subst h; simp
    · have h' : j ≠ v := fun z => h z.symm
      simp [h, h']
theorem SubE.wipe {ek en : Env} (h : SubE ek en) {vs : List Nat} : SubE (wipeE ek vs) (wipeE en vs) := by
  refine ⟨by rw [wipeE_len, wipeE_len, h.len], fun j s hs => ?_⟩
  rw [wipeE_get] at hs ⊢
  by_cases hj : j ∈ vs
  · rw [if_pos hj] at hs ⊢
    rw [← h.len]; exact .inl hs
  · rw [if_neg hj] at hs ⊢
    exact h.at_ j s hs
theorem Inv.wipe {en : Env} (h : Inv mu en) {vs : List Nat} : Inv mu (wipeE en vs) := by
  intro j s hs hj
  rw [wipeE_get] at hs
  split at hs
  · split at hs
    · cases hs; rfl
    · cases hs
  · exact h j s hs hj
theorem SubE.back {ek en e3 n3 : Env} (h : SubE ek en) (h3 : SubE e3 n3) (hl : n3.length = en.length) {vs : List Nat} : SubE (back ek e3 vs) (back en n3 vs) := by
  refine ⟨by rw [back_len, back_len, h3.len], fun j s hs => ?_⟩
  rw [back_get] at hs ⊢
  by_cases hj : j ∈ vs
  · rw [if_pos hj] at hs ⊢
    rw [← h3.len]
    split at hs
    · rename_i hlt
      rw [if_pos hlt]
      have h1 : j < ek.length := by rw [h.len, ← hl, ← h3.len]; exact hlt
      have h2 : j < en.length := by rw [← h.len]; exact h1
      cases hs
      have := h.at_ j ek[j] (List.getElem?_eq_getElem h1)
      simpa [List.getD, List.getElem?_eq_getElem h1, List.getElem?_eq_getElem h2] using this
    · cases hs
  · rw [if_neg hj] at hs ⊢
    exact h3.at_ j s hs
theorem Inv.back {en n3 : Env} (h : Inv mu en) (h3 : Inv mu n3) (hl : n3.length = en.length) {vs : List Nat} : Inv mu (back en n3 vs) := by
  intro j s hs hj
  rw [back_get] at hs
  split at hs
  · split at hs
    · rename_i hlt
      cases hs
      have h2 : j < en.length := by rw [← hl]; exact hlt
      have := h j en[j] (List.getElem?_eq_getElem h2) hj
      simpa [List.getD, List.getElem?_eq_getElem h2] using this
    · cases hs
  · exact h3 j s hs hj
theorem FrE.back {J : List Nat} {en n3 : Env} {vs : List Nat} (h : FrE J (wipeE en vs) n3) : FrE (dif J vs) en (back en n3 vs) := by
  have hl : n3.length = en.length := h.len.trans wipeE_len
  refine ⟨by rw [back_len, hl], fun j hj => ?_, fun j s s' hs hs' => ?_⟩
  · rw [back_get]
    by_cases hv : j ∈ vs
    · rw [if_pos hv, hl]
      by_cases h2 : j < en.length
      · rw [if_pos h2, List.getElem?_eq_getElem h2]
        simp [List.getD, List.getElem?_eq_getElem h2]
      · rw [if_neg h2, List.getElem?_eq_none (Nat.le_of_not_lt h2)]
    · rw [if_neg hv, h.same j (fun z => hj (mem_dif.mpr ⟨z, hv⟩)), wipeE_get, if_neg hv]
  · rw [back_get] at hs'
    by_cases hv : j ∈ vs
    · rw [if_pos hv] at hs'
      split at hs'
      · cases hs'
        simp [List.getD, hs]
      · cases hs'
    · rw [if_neg hv] at hs'
      exact h.io j s s' (by rw [wipeE_get, if_neg hv]; exact hs) hs'
theorem mapR_le {f : D → R D} {F : D → Env → R (Option D × Env)} {n1 : Env} (h : ∀ d, LeR (fun y r => r = (some y, n1)) (f d).calm (F d n1)) : ∀ (ds : List D), LeR (fun ys r => r = (ys, n1)) (mapR f ds) (mapL F ds n1)
  | [] => ⟨_, rfl, rfl⟩
  | d :: ds => by
    unfold mapR mapL
    refine (h d).bind fun y r e => ?_
    subst e
    exact (mapR_le h ds).bind fun ys r e => by subst e; exact ⟨_, rfl, rfl⟩
theorem filtR_le {f : D → R (Option D)} {F : D → Env → R (Option D × Env)} {n1 : Env} (h : ∀ d, LeR (fun y r => r = (y, n1)) (f d).calm (F d n1)) : ∀ (ds : List D), LeR (fun ys r => r = (ys, n1)) (filtR f ds) (mapL F ds n1)
  | [] => ⟨_, rfl, rfl⟩
  | d :: ds => by
    unfold filtR mapL
    refine (h d).bind fun y r e => ?_
    subst e
    exact (filtR_le h ds).bind fun ys r e => by subst e; exact ⟨_, rfl, rfl⟩
theorem mapS_le {f : D → List D → R (Option D × List D)} {F : D → Env → R (Option D × Env)} {I : List D → Env → Prop}
    (h : ∀ d st n, I st n → LeR (fun p r => p.1 = r.1 ∧ I p.2 r.2) (f d st).calm (F d n)) : ∀ (ds : List D) {st : List D} {n : Env}, I st n → LeR (fun p r => p.1 = r.1 ∧ I p.2 r.2) (mapS f ds st) (mapL F ds n)
  | [], st, n, hI => ⟨_, rfl, rfl, hI⟩
  | d :: ds, st, n, hI => by
    unfold mapS mapL
    refine (h d st n hI).bind fun p r e => ?_
    obtain ⟨p1, p2⟩ := p
    obtain ⟨r1, r2⟩ := r
    obtain ⟨e1, e2⟩ := e
    cases e1
    exact (mapS_le h ds e2).bind fun ys r e => ⟨_, rfl, by cases p1 <;> simp [e.1], e.2⟩
theorem pk_back {e0 e3 : Env} {vs : List Nat} : ∀ {L : List (Nat × Kd)}, (∀ p ∈ L, p.1 ∉ vs) → pk (back e0 e3 vs) L = pk e3 L
  | [], _ => rfl
  | (j, k) :: L, h => by
    have hj : (back e0 e3 vs)[j]? = e3[j]? := by rw [back_get, if_neg (h (j, k) (.head _))]
    have : getK (back e0 e3 vs) j k = getK e3 j k := by cases k <;> simp only [getK, hj]
    unfold pk
    rw [this, pk_back fun p hp => h p (.tail _ hp)]
theorem LeR.calm_of {α β : Type} {P : α → β → Prop} {m : R α} {m' : R β} (h : LeR P m m') : LeR P m.calm m'.calm := h.calm
theorem LeR.bindR {α β γ : Type} {P : α → β → Prop} {Q : α → γ → Prop} {m : R α} {m' : R β} {f : β → R γ} (h : LeR P m m') (hf : ∀ a b, P a b → LeR Q (.ok a) (f b)) : LeR Q m (m'.bind f) := by
  have := h.bind (f := fun a => .ok a) (f' := f) hf
  have e : (m.bind fun a => .ok a) = m := by cases m <;> rfl
  rw [e] at this
  exact this
/-- a block's turn, up to the end of the element -/
theorem snd_lc {vs : List Nat} {t : T} {it cnd elt : E} (hit : SndE ft ft0 ft1 mu it) (hc : SndE ft ft0 ft1 mu cnd) (he : SndE ft ft0 ft1 mu elt) : SndE ft ft0 ft1 mu (.lc vs t it cnd elt) := by
  intro α β P ek en k k' hs hi hk
  simp only [evk, ev, R.bind_assoc]
  by_cases ht : (varsT t).all (vs.contains ·) = true
  case neg => rw [if_neg ht]; exact trivial
  rw [if_pos ht]
  have ht' : ∀ j ∈ varsT t, j ∈ vs := fun j hj => by simpa using List.all_eq_true.mp ht j hj
  have sub3 : ∀ {J3 : List Nat} {j : Nat}, j ∈ dif (uni (varsT t) J3) vs → j ∈ dif J3 vs := by
    intro J3 j hj
    simp only [mem_dif, mem_uni] at hj ⊢
    exact ⟨hj.1.elim (fun h => absurd (ht' j h) hj.2) id, hj.2⟩
  refine hit _ _ _ _ _ _ _ hs hi fun x e1 n1 x1 => .same fun ds _ => ?_
  split
  · rename_i hJ
    split
    · refine LeR.bind (P := fun ys r => r = (ys, n1)) (mapR_le (fun d => LeR.calm ?_) ds) fun ys r e => ?_
      · refine asgTk_snd t x1.sub.wipe x1.inv.wipe fun e2 n2 x2 => he _ _ _ _ _ _ _ x2.sub x2.inv fun y e3 n3 x3 => ⟨_, rfl, ?_⟩
        have : back n1 n3 vs = n1 := ((FrE.back (x2.trans x3).fr).mono (J' := []) fun j hj => by
          have := sub3 hj
          rw [← hJ]
          simp only [mem_dif, mem_uni] at this ⊢
          exact ⟨.inr this.1, this.2⟩).nil
        simp [this]
      · subst e
        rw [ite_bind]
        exact .sz fun _ => hk _ _ _ (x1.mono fun j hj => mem_uni_l hj)
    · rename_i hne
      refine LeR.bind (P := fun ys r => r = (ys, n1)) (filtR_le (fun d => LeR.calm ?_) ds) fun ys r e => ?_
      · refine asgTk_snd t x1.sub.wipe x1.inv.wipe fun e2 n2 x2 => ?_
        try (split <;> try exact (hne rfl).elim)
        · refine hc _ _ _ _ _ _ _ x2.sub x2.inv fun c e3 n3 x3 => ?_
          rw [bool_bind]
          refine .same fun q _ => .ite (fun _ => he _ _ _ _ _ _ _ x3.sub x3.inv fun y e4 n4 x4 => ⟨_, rfl, ?_⟩) fun _ => ⟨_, rfl, ?_⟩
          · have : back n1 n4 vs = n1 := ((FrE.back ((x2.trans x3).trans x4).fr).mono (J' := []) fun j hj => by
              rw [← hJ]
              simp only [mem_dif, mem_uni] at hj ⊢
              refine ⟨?_, hj.2⟩
              rcases hj.1 with (h | h) | h
              · exact absurd (ht' j h) hj.2
              · exact .inl h
              · exact .inr h).nil
            simp [this]
          · have : back n1 n3 vs = n1 := ((FrE.back (x2.trans x3).fr).mono (J' := []) fun j hj => by
              rw [← hJ]
              simp only [mem_dif, mem_uni] at hj ⊢
              refine ⟨?_, hj.2⟩
              rcases hj.1 with h | h
              · exact absurd (ht' j h) hj.2
              · exact .inl h).nil
            simp [this]
      · subst e
        rw [ite_bind]
        exact .sz fun _ => hk _ _ _ (x1.mono fun j hj => mem_uni_l hj)
  · rename_i J _
    generalize hJ : dif (uni (effE mu cnd) (effE mu elt)) vs = J
    generalize hL : crry mu (uni (mutE cnd) (mutE elt)) e1 J J = L
    have hio : ∀ j ∈ J, ioAt e1 j = true → ∃ p ∈ L, p.1 = j := hL ▸ crry_io
    have hLv : ∀ p ∈ L, p.1 ∉ vs := by
      intro p hp
      rw [← hL] at hp
      simp only [crry, List.mem_map, List.mem_filter] at hp
      obtain ⟨j, ⟨h1, _⟩, rfl⟩ := hp
      rw [← hJ] at h1
      exact (mem_dif.mp h1).2
    cases hp : pk e1 L with
    | exc c d => exact absurd hp pk_noexc
    | bad => exact trivial
    | ok st0 =>
      show LeR P ((mapS _ ds st0).bind _) _
      refine LeR.bind (P := fun p r => p.1 = r.1 ∧ Nx mu J n1 (upk (wipeK e1 J) L p.2 0) r.2) (mapS_le (I := fun st n => Nx mu J n1 (upk (wipeK e1 J) L st 0) n) (fun d st n hI => LeR.calm ?_) ds ⟨SubE.join x1.sub x1.sub .refl hio hp, x1.inv, .refl⟩) ?_
      · refine asgTk_snd t hI.sub.wipe hI.inv.wipe fun e2 n2 x2 => ?_
        have fin : ∀ {J3 : List Nat} {e3 n3 : Env} {o : Option D}, Nx mu J3 (wipeE n vs) e3 n3 → (∀ j ∈ dif J3 vs, j ∈ J) →
            LeR (fun p r => p.1 = r.1 ∧ Nx mu J n1 (upk (wipeK e1 J) L p.2 0) r.2) ((pk e3 L).bind fun st' => .ok (o, st')) (.ok (o, back n n3 vs)) := by
          intro J3 e3 n3 o x3 h3
          cases hp3 : pk e3 L with
          | exc c d => exact absurd hp3 pk_noexc
          | bad => exact trivial
          | ok st' =>
            have hl : n3.length = n.length := x3.fr.len.trans wipeE_len
            have f3 : FrE J n1 (back n n3 vs) := (hI.fr.trans (FrE.back x3.fr)).mono fun j hj => by
              simp only [mem_uni] at hj
              exact hj.elim id (h3 j)
            exact ⟨_, rfl, rfl, SubE.join x1.sub (hI.sub.back x3.sub hl) f3 hio (by rw [pk_back hLv, hp3]), hI.inv.back x3.inv hl, f3⟩
        have f1 : ∀ {J3 : List Nat}, (∀ j ∈ J3, j ∈ uni (effE mu cnd) (effE mu elt)) → ∀ j ∈ dif (uni (varsT t) J3) vs, j ∈ J := by
          intro J3 h3 j hj
          have := mem_dif.mp (sub3 hj)
          rw [← hJ]
          exact mem_dif.mpr ⟨h3 j this.1, this.2⟩
        split
        · exact he _ _ _ _ _ _ _ x2.sub x2.inv fun y e3 n3 x3 => fin (x2.trans x3) (f1 fun j hj => mem_uni_r hj)
        · rename_i hne
          try (split <;> try exact (hne rfl).elim)
          refine hc _ _ _ _ _ _ _ x2.sub x2.inv fun c e3 n3 x3 => ?_
          rw [bool_bind]
          refine .same fun q _ => .ite (fun _ => he _ _ _ _ _ _ _ x3.sub x3.inv fun y e4 n4 x4 => fin (x2.trans (x3.trans x4)) (f1 fun j hj => hj)) fun _ => fin (x2.trans x3) (f1 fun j hj => mem_uni_l hj)
      · rintro ⟨ys, st⟩ ⟨r1, r2⟩ ⟨e1, x2⟩
        cases e1
        rw [ite_bind]
        refine .sz fun _ => hk _ _ _ ((x1.trans x2).mono fun j hj => ?_)
        rw [← hJ] at hj
        exact hj
theorem snd_bad {e : E} (h : ∀ ρ env k, evk ft0 ft1 mu e ρ env k = .bad) : SndE ft ft0 ft1 mu e := by
  intro α β P ek en k k' hs hi hk
  rw [h]; exact trivial
theorem hideK_len {e : Env} : ∀ {n : Nat}, (hideK mu n e).length = e.length := by
  induction e with
  | nil => intro n; rfl
  | cons a r ih => intro n; simp only [hideK, List.length_cons, ih]
theorem hideK_get {e : Env} : ∀ {n j : Nat} {s : Slot}, (hideK mu n e)[j]? = some s → ∃ t, e[j]? = some t ∧ ((s = .no) ∨ (mu.contains (n + j) = false ∧ s = t ∧ ∃ d, t = .imm d)) := by
  induction e with
  | nil => intro n j s h; simp [hideK] at h
  | cons a r ih =>
    intro n j s h
    cases j with
    | zero =>
      simp only [hideK, List.getElem?_cons_zero, Option.some.injEq] at h
      refine ⟨a, rfl, ?_⟩
      by_cases hm : mu.contains n = true
      · rw [if_pos hm] at h; exact .inl h.symm
      · rw [if_neg hm] at h
        cases a with
        | imm d => exact .inr ⟨by simpa using hm, h.symm, d, rfl⟩
        | no => exact .inl h.symm
        | own d => exact .inl h.symm
        | io d => exact .inl h.symm
    | succ j =>
      simp only [hideK, List.getElem?_cons_succ] at h
      obtain ⟨t, h1, h2⟩ := ih h
      refine ⟨t, by simpa using h1, ?_⟩
      have e : n + 1 + j = n + (j + 1) := by omega
      rw [e] at h2
      exact h2
theorem hide_get {e : Env} {j : Nat} : (hide e)[j]? = (e[j]?).map fun s => match s with
    | .imm d => .imm d
    | _ => .no := by unfold hide; rw [List.getElem?_map] <;> rfl
theorem SubE.hide {ek en : Env} (h : SubE ek en) (hi : Inv mu en) : SubE (hideK mu 0 ek) (hide en) := by
  refine ⟨by rw [hideK_len, h.len]; simp [Py.hide], fun j s hs => ?_⟩
  obtain ⟨t, ht, q⟩ := hideK_get hs
  rw [Nat.zero_add] at q
  have hl : j < en.length := by rw [← h.len]; exact (List.getElem?_eq_some_iff.mp ht).1
  rcases q with rfl | ⟨hm, rfl, d, rfl⟩
  · refine .inr (.inl ⟨rfl, ?_⟩)
    rw [hide_get, List.getElem?_eq_getElem hl]
    cases en[j] <;> exact ⟨_, rfl, rfl⟩
  · refine .inl ?_
    rw [hide_get]
    rcases h.geti ht with e | e
    · rw [e]; rfl
    · cases hi j _ e hm
theorem Inv.hide {en : Env} : Inv mu (hide en) := by
  intro j s hs _
  rw [hide_get] at hs
  cases h : en[j]? with
  | none => rw [h] at hs; cases hs
  | some t => rw [h] at hs; cases t <;> cases hs <;> rfl
theorem snd_tri (h0 : ∀ f ds, LeR (fun a b => a = b.1) (ft0 f ds) (ft f ds)) {f : Nat} {e : E} (he : SndE ft ft0 ft1 mu e) : SndE ft ft0 ft1 mu (.tri f e) := by
  intro α β P ek en k k' hs hi hk
  simp only [evk, ev]
  have key : LeR (fun a p => a = p.1) (evk ft0 ft1 mu e D (hideK mu 0 ek) fun y _ => .ok y) (ev ft e (hide en)) := by
    have := he D (D × Env) (fun a p => a = p.1) (hideK mu 0 ek) (hide en) (fun y _ => .ok y) (fun p => .ok p) (hs.hide hi) Inv.hide fun d e1 n1 x1 => ⟨_, rfl, rfl⟩
    have e2 : ((ev ft e (hide en)).bind fun p => .ok p) = ev ft e (hide en) := by cases ev ft e (hide en) <;> rfl
    rw [e2] at this
    exact this
  have fin : ∀ ds, LeR P ((ft0 f ds).bind fun z => k z ek) (((ft f ds).bind fun z => R.ok (z.1, en)).bind k') := fun ds => by
    rw [R.bind_assoc]
    exact (h0 f ds).bind fun a b q => by subst q; exact hk _ _ _ (.refl hs hi)
  cases q : evk ft0 ft1 mu e D (hideK mu 0 ek) fun y _ => .ok y with
  | bad => exact trivial
  | exc c d =>
    rw [q] at key
    rw [show ev ft e (hide en) = .exc c d from key]
    exact fin _
  | ok x =>
    rw [q] at key
    obtain ⟨b, e1, rfl⟩ := key
    rw [e1]
    exact fin _
theorem sndE (h0 : ∀ f ds, LeR (fun a b => a = b.1) (ft0 f ds) (ft f ds)) (h1 : ∀ f ds, LeR (fun a b => a = b) (ft1 f ds) (ft f ds)) : ∀ (e : E), SndE ft ft0 ft1 mu e
  | .nil => snd_nil
  | .cons a b => snd_cons (sndE h0 h1 a) (sndE h0 h1 b)
  | .loc i => snd_loc
  | .bor i => snd_bor
  | .cst d => snd_cst
  | .bin o a b => snd_bin (sndE h0 h1 a) (sndE h0 h1 b)
  | .neg a => snd_neg (sndE h0 h1 a)
  | .not a => snd_not (sndE h0 h1 a)
  | .cmp o a b => snd_cmp (sndE h0 h1 a) (sndE h0 h1 b)
  | .chn o o' a b c => snd_chn (sndE h0 h1 a) (sndE h0 h1 b) (sndE h0 h1 c)
  | .and a b => snd_and (sndE h0 h1 a) (sndE h0 h1 b)
  | .or a b => snd_or (sndE h0 h1 a) (sndE h0 h1 b)
  | .ife c a b => snd_ife (sndE h0 h1 c) (sndE h0 h1 a) (sndE h0 h1 b)
  | .tup a => snd_tup (sndE h0 h1 a)
  | .lst a => snd_lst (sndE h0 h1 a)
  | .dct a => snd_dct (sndE h0 h1 a)
  | .dup a b c => snd_dup (sndE h0 h1 a) (sndE h0 h1 b) (sndE h0 h1 c)
  | .mrg a b => snd_mrg (sndE h0 h1 a) (sndE h0 h1 b)
  | .sub a b => snd_sub (sndE h0 h1 a) (sndE h0 h1 b)
  | .sli a b c => snd_sli (sndE h0 h1 a) (sndE h0 h1 b) (sndE h0 h1 c)
  | .rev a => snd_rev (sndE h0 h1 a)
  | .call f false fr a => snd_call0 h0 (sndE h0 h1 a)
  | .call f true fr (.cons (.bor i) a) => snd_call1 h1 (sndE h0 h1 a)
  | .call f true fr a => by
    by_cases h : ∃ i as, a = .cons (.bor i) as
    · obtain ⟨i, as, rfl⟩ := h
      exact snd_call1 h1 (sndE h0 h1 as)
    · refine snd_bad fun _ _ _ => ?_
      unfold evk
      split
      · rename_i h2; cases h2
      · exact absurd ⟨_, _, rfl⟩ h
      · rfl
  | .blt f a => snd_blt (sndE h0 h1 a)
  | .met m a b => snd_met (sndE h0 h1 a) (sndE h0 h1 b)
  | .pop i a => snd_pop (sndE h0 h1 a)
  | .isi a t => snd_isi (sndE h0 h1 a)
  | .rng a => snd_rng (sndE h0 h1 a)
  | .enu a => snd_enu (sndE h0 h1 a)
  | .zip a => snd_zip (sndE h0 h1 a)
  | .lc vs t it cnd elt => snd_lc (sndE h0 h1 it) (sndE h0 h1 cnd) (sndE h0 h1 elt)
  | .lc2 .. => snd_bad fun _ _ _ => rfl
  | .tri f e => snd_tri h0 (sndE h0 h1 e)
end
end Py
end
section
set_option autoImplicit false
set_option linter.all false
/-! PyKt: statements, defs, the table of defs. -/
namespace Py
def SR.run {β : Type} (s : SR) (kn : Env → R β) (kr : D → Env → R β) : R β := match s with
  | .nx e => kn e
  | .rt d e => kr d e
  | .ex c d => .exc c d
  | .bad => .bad
theorem run_ofR {α β : Type} {r : R α} {f : α → SR} {kn : Env → R β} {kr : D → Env → R β} : (SR.ofR r f).run kn kr = r.bind fun a => (f a).run kn kr := by cases r <;> rfl
theorem run_thn {β : Type} {s : SR} {f : Env → SR} {kn : Env → R β} {kr : D → Env → R β} : (s.thn f).run kn kr = s.run (fun e => (f e).run kn kr) kr := by cases s <;> rfl
theorem run_nx {β : Type} {e : Env} {kn : Env → R β} {kr : D → Env → R β} : (SR.nx e).run kn kr = kn e := rfl
theorem run_rt {β : Type} {d : D} {e : Env} {kn : Env → R β} {kr : D → Env → R β} : (SR.rt d e).run kn kr = kr d e := rfl
theorem run_bad {β : Type} {kn : Env → R β} {kr : D → Env → R β} : SR.bad.run kn kr = .bad := rfl
theorem run_ite {β : Type} {c : Prop} [Decidable c] {x y : SR} {kn : Env → R β} {kr : D → Env → R β} : (if c then x else y).run kn kr = if c then x.run kn kr else y.run kn kr := by split <;> rfl
theorem bind_okr {α : Type} {m : R α} : (m.bind fun a => .ok a) = m := by cases m <;> rfl
/-- where a branch ends: behind it, or with the def's end -/
def SR.sumR {β : Type} (s : SR) (kr : D → Env → R β) : R (Env ⊕ β) := s.run (fun e => .ok (.inl e)) fun d e => (kr d e).bind fun r => .ok (.inr r)
def elimS {β γ : Type} (f : Env → R γ) (g : β → R γ) : Env ⊕ β → R γ
  | .inl e => f e
  | .inr r => g r
theorem run_sumR {β : Type} {s : SR} {kn : Env → R β} {kr : D → Env → R β} : s.run kn kr = (s.sumR kr).bind (elimS kn fun r => .ok r) := by
  cases s with
  | rt d e =>
    show kr d e = ((kr d e).bind _).bind _
    rw [R.bind_assoc]
    exact bind_okr.symm
  | _ => rfl
theorem sumR_thn {β : Type} {s : SR} {f : Env → SR} {kr : D → Env → R β} : (s.thn f).sumR kr = (s.sumR kr).bind (elimS (fun e => (f e).sumR kr) fun r => .ok (.inr r)) := by
  cases s with
  | rt d e =>
    show (kr d e).bind _ = ((kr d e).bind _).bind _
    rw [R.bind_assoc]; rfl
  | _ => rfl
theorem LeR.of_ok {α β : Type} {P : α → β → Prop} {a : α} {r : R β} (h : LeR P (.ok a) r) : ∃ b, r = .ok b ∧ P a b := h
section
variable (ft : Ft) (ft0 : Nat → List D → R D) (ft1 : Nat → List D → R (D × D)) (mu fin : List Nat)
def SndS (s : S) : Prop := ∀ (lv : List Nat) (α β : Type) (P : α → β → Prop) (ek en : Env) (kn : Env → R α) (kn' : Env → R β) (kr : D → Env → R α) (kr' : D → Env → R β), SubE ek en → Inv mu en →
  (∀ ek' en', Nx mu (effS mu s) en ek' en' → LeR P (kn ek') (kn' en')) → (∀ d ek' en', SubE ek' en' → LeR P (kr d ek') (kr' d en')) →
  LeR P (evSk ft0 ft1 mu fin s lv α ek kn kr) ((evS ft s en).run kn' kr')
end
section
variable {ft : Ft} {ft0 : Nat → List D → R D} {ft1 : Nat → List D → R (D × D)} {mu fin : List Nat}
/-- a branch that is left at its end only -/
theorem SndS.branch {s : S} (h : SndS ft ft0 ft1 mu fin s) {lv : List Nat} {J : List Nat} {L : List (Nat × Kd)} {ek en e1 n1 : Env} (hs : SubE ek en) (hi : Inv mu en) (h1 : SubE e1 n1) (hf : FrE J n1 en)
    (hJ : ∀ j ∈ effS mu s, j ∈ J) (hio : ∀ j ∈ J, ioAt e1 j = true → ∃ p ∈ L, p.1 = j) {β : Type} {kr' : D → Env → R β} :
    LeR (fun st q => ∃ e, q = .inl e ∧ Nx mu J n1 (upk (wipeK e1 J) L st 0) e)
      (evSk ft0 ft1 mu fin s lv (List D) ek (fun e => pk e L) fun _ _ => .bad) ((evS ft s en).sumR kr') := by
  refine h _ _ _ _ _ _ _ _ _ _ hs hi (fun e2 n2 x2 => ?_) fun _ _ _ _ => trivial
  have f2 : FrE J n1 n2 := (hf.trans x2.fr).mono fun j hj => (mem_uni.mp hj).elim id (hJ j)
  cases hp : pk e2 L with
  | ok st => exact ⟨_, rfl, _, rfl, SubE.join h1 x2.sub f2 hio hp, x2.inv, f2⟩
  | exc c d => exact absurd hp pk_noexc
  | bad => exact trivial
def RL (mu J : List Nat) (L : List (Nat × Kd)) (e1 n1 : Env) {α β : Type} (P : α → β → Prop) (z : LR α) (q : Env ⊕ β) : Prop :=
  (∃ st e, z = .nx st ∧ q = .inl e ∧ Nx mu J n1 (upk (wipeK e1 J) L st 0) e) ∨ ∃ r r', z = .rt r ∧ q = .inr r' ∧ P r r'
/-- .. or with the def's end -/
theorem SndS.branchQ {s : S} (h : SndS ft ft0 ft1 mu fin s) {lv : List Nat} {J : List Nat} {L : List (Nat × Kd)} {ek en e1 n1 : Env} (hs : SubE ek en) (hi : Inv mu en) (h1 : SubE e1 n1) (hf : FrE J n1 en)
    (hJ : ∀ j ∈ effS mu s, j ∈ J) (hio : ∀ j ∈ J, ioAt e1 j = true → ∃ p ∈ L, p.1 = j) {α β : Type} {P : α → β → Prop} {kr : D → Env → R α} {kr' : D → Env → R β} (hr : ∀ d ek' en', SubE ek' en' → LeR P (kr d ek') (kr' d en')) :
    LeR (RL mu J L e1 n1 P) (evSk ft0 ft1 mu fin s lv (LR α) ek (fun e => (pk e L).bind fun st => .ok (.nx st)) fun d e => (kr d e).bind fun r => .ok (.rt r)) ((evS ft s en).sumR kr') := by
  refine h _ _ _ _ _ _ _ _ _ _ hs hi (fun e2 n2 x2 => ?_) fun d ek' en' hs' => (hr d ek' en' hs').bind fun a b p => ⟨_, rfl, .inr ⟨_, _, rfl, rfl, p⟩⟩
  have f2 : FrE J n1 n2 := (hf.trans x2.fr).mono fun j hj => (mem_uni.mp hj).elim id (hJ j)
  cases hp : pk e2 L with
  | ok st => exact ⟨_, rfl, .inl ⟨_, _, rfl, rfl, SubE.join h1 x2.sub f2 hio hp, x2.inv, f2⟩⟩
  | exc c d => exact absurd hp pk_noexc
  | bad => exact trivial
theorem joinN {J : List Nat} {L : List (Nat × Kd)} {e1 n1 : Env} {α β : Type} {P : α → β → Prop} {m : R (List D)} {s : SR} {kn : Env → R α} {kn' : Env → R β} {kr' : D → Env → R β}
    (h : LeR (fun st q => ∃ e, q = .inl e ∧ Nx mu J n1 (upk (wipeK e1 J) L st 0) e) m (s.sumR kr')) (hk : ∀ ek' en', Nx mu J n1 ek' en' → LeR P (kn ek') (kn' en')) :
    LeR P (m.bind fun st => kn (upk (wipeK e1 J) L st 0)) (s.run kn' kr') := by
  rw [run_sumR]
  refine h.bind fun st q hq => ?_
  obtain ⟨e, rfl, x⟩ := hq
  exact hk _ _ x
theorem joinQ {J : List Nat} {L : List (Nat × Kd)} {e1 n1 : Env} {α β : Type} {P : α → β → Prop} {m : R (LR α)} {s : SR} {kn : Env → R α} {kn' : Env → R β} {kr' : D → Env → R β}
    (h : LeR (RL mu J L e1 n1 P) m (s.sumR kr')) (hk : ∀ ek' en', Nx mu J n1 ek' en' → LeR P (kn ek') (kn' en')) :
    LeR P (m.bind fun z => z.go fun st => kn (upk (wipeK e1 J) L st 0)) (s.run kn' kr') := by
  rw [run_sumR]
  refine h.bind fun z q hq => ?_
  rcases hq with ⟨st, e, rfl, rfl, x⟩ | ⟨r, r', rfl, rfl, p⟩
  · exact hk _ _ x
  · exact ⟨_, rfl, p⟩
theorem foldR_le {β : Type} {I : List D → Env → Prop} {F : D → List D → R (List D)} {F' : D → Env → SR} {kr' : D → Env → R β}
    (h : ∀ d st n, I st n → LeR (fun st q => ∃ e, q = .inl e ∧ I st e) (F d st) ((F' d n).sumR kr')) : ∀ (ds : List D) {st : List D} {n : Env}, I st n → LeR (fun st q => ∃ e, q = .inl e ∧ I st e) (foldR F ds st) ((forL F' ds n).sumR kr')
  | [], st, n, hI => ⟨_, rfl, _, rfl, hI⟩
  | d :: ds, st, n, hI => by
    unfold foldR forL
    rw [sumR_thn]
    refine (h d st n hI).bind fun st' q hq => ?_
    obtain ⟨e, rfl, hI'⟩ := hq
    exact foldR_le h ds hI'
theorem foldQ_le {α β : Type} {P : α → β → Prop} {I : List D → Env → Prop} {F : D → List D → R (LR α)} {F' : D → Env → SR} {kr' : D → Env → R β}
    (h : ∀ d st n, I st n → LeR (fun z q => (∃ st e, z = .nx st ∧ q = .inl e ∧ I st e) ∨ ∃ r r', z = .rt r ∧ q = .inr r' ∧ P r r') (F d st) ((F' d n).sumR kr')) : ∀ (ds : List D) {st : List D} {n : Env}, I st n →
      LeR (fun z q => (∃ st e, z = .nx st ∧ q = .inl e ∧ I st e) ∨ ∃ r r', z = .rt r ∧ q = .inr r' ∧ P r r') (foldQ F ds st) ((forL F' ds n).sumR kr')
  | [], st, n, hI => ⟨_, rfl, .inl ⟨_, _, rfl, rfl, hI⟩⟩
  | d :: ds, st, n, hI => by
    unfold foldQ forL
    rw [sumR_thn]
    refine (h d st n hI).bind fun z q hq => ?_
    rcases hq with ⟨st, e, rfl, rfl, hI'⟩ | ⟨r, r', rfl, rfl, p⟩
    · exact foldQ_le h ds hI'
    · exact ⟨_, rfl, .inr ⟨_, _, rfl, rfl, p⟩⟩
theorem whileR_le {β : Type} {I : List D → Env → Prop} {c : List D → R Bool} {F : List D → R (List D)} {c' : Env → R (Bool × Env)} {F' : Env → SR} {kr' : D → Env → R β}
    (hc : ∀ st n, I st n → LeR (fun b p => p = (b, n)) (c st) (c' n)) (h : ∀ st n, I st n → LeR (fun st q => ∃ e, q = .inl e ∧ I st e) (F st) ((F' n).sumR kr')) : ∀ (m : Nat) {st : List D} {n : Env}, I st n →
      LeR (fun st q => ∃ e, q = .inl e ∧ I st e) (whileR c F m st) ((whileL c' F' m n).sumR kr')
  | 0, st, n, hI => trivial
  | m + 1, st, n, hI => by
    unfold whileR whileL
    unfold SR.sumR
    rw [run_ofR]
    refine (hc st n hI).bind fun b p hp => ?_
    subst hp
    rw [run_ite]
    refine .ite (fun _ => ?_) fun _ => ⟨_, rfl, _, rfl, hI⟩
    show LeR _ _ (((F' n).thn _).sumR kr')
    rw [sumR_thn]
    refine (h st n hI).bind fun st' q hq => ?_
    obtain ⟨e, rfl, hI'⟩ := hq
    exact whileR_le hc h m hI'
theorem whileQ_le {α β : Type} {P : α → β → Prop} {I : List D → Env → Prop} {c : List D → R Bool} {F : List D → R (LR α)} {c' : Env → R (Bool × Env)} {F' : Env → SR} {kr' : D → Env → R β}
    (hc : ∀ st n, I st n → LeR (fun b p => p = (b, n)) (c st) (c' n)) (h : ∀ st n, I st n → LeR (fun z q => (∃ st e, z = .nx st ∧ q = .inl e ∧ I st e) ∨ ∃ r r', z = .rt r ∧ q = .inr r' ∧ P r r') (F st) ((F' n).sumR kr')) : ∀ (m : Nat) {st : List D} {n : Env}, I st n →
      LeR (fun z q => (∃ st e, z = .nx st ∧ q = .inl e ∧ I st e) ∨ ∃ r r', z = .rt r ∧ q = .inr r' ∧ P r r') (whileQ c F m st) ((whileL c' F' m n).sumR kr')
  | 0, st, n, hI => trivial
  | m + 1, st, n, hI => by
    unfold whileQ whileL
    unfold SR.sumR
    rw [run_ofR]
    refine (hc st n hI).bind fun b p hp => ?_
    subst hp
    rw [run_ite]
    refine .ite (fun _ => ?_) fun _ => ⟨_, rfl, .inl ⟨_, _, rfl, rfl, hI⟩⟩
    show LeR _ _ (((F' n).thn _).sumR kr')
    rw [sumR_thn]
    refine (h st n hI).bind fun z q hq => ?_
    rcases hq with ⟨st, e, rfl, rfl, hI'⟩ | ⟨r, r', rfl, rfl, p⟩
    · exact whileQ_le hc h m hI'
    · exact ⟨_, rfl, .inr ⟨_, _, rfl, rfl, p⟩⟩
theorem parSk_eq {ρ : Type} : ∀ (is : List (Nat × Bool)) (ds : List D) (env : Env) (k : Env → R ρ), parSk is ds env k = (parS is ds env).bind k
  | [], [], _, _ => rfl
  | [], _ :: _, _, _ => rfl
  | _ :: _, [], _, _ => rfl
  | (i, o) :: is, d :: ds, env, k => by
    unfold parSk parS
    cases o with
    | true =>
      show (contR d).bind _ = (if isCont d = true then _ else _ : R Env).bind k
      unfold contR
      by_cases h : isCont d = true
      · rw [if_pos h, if_pos h]
        show (sto env i (.own d)).bind _ = ((sto env i (.own d)).bind _).bind k
        rw [R.bind_assoc]
        congr 1
        funext e
        exact parSk_eq is ds e k
      · rw [if_neg h, if_neg h]; rfl
    | false =>
      show (sto env i (.imm d)).bind _ = ((sto env i (.imm d)).bind _).bind k
      rw [R.bind_assoc]
      congr 1
      funext e
      exact parSk_eq is ds e k
theorem parS_le : ∀ (is : List (Nat × Bool)) (ds : List D) {α β : Type} {P : α → β → Prop} {ek en : Env} {kn : Env → R α} {kn' : Env → R β}, (is.all fun p => !p.2 || mu.contains p.1) = true → SubE ek en → Inv mu en →
    (∀ ek' en', Nx mu (is.map (·.1)) en ek' en' → LeR P (kn ek') (kn' en')) → LeR P ((parS is ds ek).bind kn) ((parS is ds en).bind kn')
  | [], [], _, _, _, ek, en, _, _, _, hs, hi, hk => hk _ _ (.refl hs hi)
  | [], _ :: _, _, _, _, ek, en, _, _, _, hs, hi, hk => trivial
  | _ :: _, [], _, _, _, ek, en, _, _, _, hs, hi, hk => trivial
  | (i, o) :: is, d :: ds, α, β, P, ek, en, kn, kn', hm, hs, hi, hk => by
    simp only [List.all_cons, Bool.and_eq_true] at hm
    have go : ∀ {s : Slot}, (mu.contains i = false → soft s = true) → isIo s = false → LeR P (((sto ek i s).bind (parS is ds)).bind kn) (((sto en i s).bind (parS is ds)).bind kn') := by
      intro s h1 h2
      rw [R.bind_assoc, R.bind_assoc]
      refine (sto_LeR hs hi h1 h2).bind fun e1 n1 x1 => parS_le is ds hm.2 x1.sub x1.inv fun e2 n2 x2 => hk _ _ ((x1.trans x2).mono fun j hj => ?_)
      simp only [mem_uni, List.mem_cons, List.map_cons, List.not_mem_nil, or_false] at hj ⊢
      exact hj
    unfold parS
    by_cases ho : o = true
    · subst ho
      simp only [if_true]
      by_cases hc : isCont d = true
      · rw [if_pos hc, if_pos hc]
        exact go (fun z => by rw [z] at hm; cases hm.1) rfl
      · rw [if_neg hc, if_neg hc]; exact trivial
    · rw [if_neg ho, if_neg ho]
      exact go (fun _ => rfl) rfl
variable (h0 : ∀ f ds, LeR (fun a b => a = b.1) (ft0 f ds) (ft f ds)) (h1 : ∀ f ds, LeR (fun a b => a = b) (ft1 f ds) (ft f ds))
include h0 h1
theorem sndS : ∀ (s : S), SndS ft ft0 ft1 mu fin s
  | .nil => fun lv α β P ek en kn kn' kr kr' hs hi hk hr => hk _ _ (.refl hs hi)
  | .cons a b => fun lv α β P ek en kn kn' kr kr' hs hi hk hr => by
    simp only [evSk, evS, run_thn]
    exact sndS a _ _ _ _ _ _ _ _ _ _ hs hi (fun e1 n1 x1 => sndS b _ _ _ _ _ _ _ _ _ _ x1.sub x1.inv (fun e2 n2 x2 => hk _ _ (x1.trans x2)) hr) hr
  | .asg t e => fun lv α β P ek en kn kn' kr kr' hs hi hk hr => by
    simp only [evSk, evS, run_ofR, run_nx]
    refine sndE h0 h1 e _ _ _ _ _ _ _ hs hi fun x e1 n1 x1 => asgTk_snd t x1.sub x1.inv fun e2 n2 x2 => hk _ _ ((x1.trans x2).mono fun j hj => ?_)
    simp only [effS, mem_uni] at hj ⊢; exact hj.symm
  | .asO i e => fun lv α β P ek en kn kn' kr kr' hs hi hk hr => by
    simp only [evSk, evS, run_ofR]
    refine sndE h0 h1 e _ _ _ _ _ _ _ hs hi fun x e1 n1 x1 => ?_
    unfold contR
    rw [ite_bind, run_ite]
    refine .ite (fun _ => ?_) fun _ => trivial
    rw [run_ofR]
    by_cases hm : mu.contains i = true
    · simp only [R.bind_ok]
      rw [if_pos hm]
      refine (sto_LeR x1.sub x1.inv (fun z => by rw [hm] at z; cases z) rfl).bind fun e2 n2 x2 => hk _ _ ((x1.trans x2).mono fun j hj => ?_)
      simp only [effS, mem_uni] at hj ⊢; exact hj.symm
    · simp only [R.bind_ok]
      rw [if_neg hm]; exact trivial
  | .par is es => fun lv α β P ek en kn kn' kr kr' hs hi hk hr => by
    simp only [evSk, evS, run_ofR, run_nx]
    refine sndE h0 h1 es _ _ _ _ _ _ _ hs hi fun x e1 n1 x1 => .same fun ds _ => ?_
    split
    · rename_i hm
      rw [parSk_eq]
      refine parS_le is ds hm x1.sub x1.inv fun e2 n2 x2 => hk _ _ ((x1.trans x2).mono fun j hj => ?_)
      simp only [effS, mem_uni] at hj ⊢; exact hj.symm
    · exact trivial
  | .asS i q e => fun lv α β P ek en kn kn' kr kr' hs hi hk hr => by
    simp only [evSk, evS, run_ofR, run_nx]
    refine (rd_LeR hs).bind fun _ _ _ => sndE h0 h1 e _ _ _ _ _ _ _ hs hi fun x e1 n1 x1 => sndE h0 h1 q _ _ _ _ _ _ _ x1.sub x1.inv fun y e2 n2 x2 => (rd_LeR x2.sub).bind fun c c' ec => ?_
    subst ec
    refine .same fun c2 _ => (put_LeR x2.sub x2.inv).bind fun e3 n3 x3 => hk _ _ (((x1.trans x2).trans x3).mono fun j hj => ?_)
    simp only [effS, mem_uni] at hj ⊢
    rcases hj with (h | h) | h
    · exact .inr (.inr h)
    · exact .inr (.inl h)
    · exact .inl h
  | .swp i q i' q' es => fun lv α β P ek en kn kn' kr kr' hs hi hk hr => by
    simp only [evSk, evS, run_ofR, run_nx]
    refine (rd_LeR hs).bind fun _ _ _ => (rd_LeR hs).bind fun _ _ _ => snd_tup (sndE h0 h1 es) _ _ _ _ _ _ _ hs hi fun x e1 n1 x1 => .same fun ab _ =>
      sndE h0 h1 q _ _ _ _ _ _ _ x1.sub x1.inv fun y e2 n2 x2 => (rd_LeR x2.sub).bind fun c c' ec => ?_
    subst ec
    refine .same fun c2 _ => (put_LeR x2.sub x2.inv).bind fun e3 n3 x3 => sndE h0 h1 q' _ _ _ _ _ _ _ x3.sub x3.inv fun z e4 n4 x4 => (rd_LeR x4.sub).bind fun c c' ec => ?_
    subst ec
    refine .same fun c2 _ => (put_LeR x4.sub x4.inv).bind fun e5 n5 x5 => hk _ _ (((((x1.trans x2).trans x3).trans x4).trans x5).mono fun j hj => ?_)
    simp only [effS, effE, mem_uni] at hj ⊢
    rcases hj with (((h | h) | h) | h) | h
    · exact .inr (.inr (.inr (.inr h)))
    · exact .inr (.inr (.inl h))
    · exact .inl h
    · exact .inr (.inr (.inr (.inl h)))
    · exact .inr (.inl h)
  | .exp e => fun lv α β P ek en kn kn' kr kr' hs hi hk hr => by
    simp only [evSk, evS, run_ofR, run_nx]
    exact sndE h0 h1 e _ _ _ _ _ _ _ hs hi fun x e1 n1 x1 => hk _ _ x1
  | .app i e => fun lv α β P ek en kn kn' kr kr' hs hi hk hr => by
    simp only [evSk, evS, run_ofR, run_nx]
    refine (rd_LeR hs).bind fun c0 c0' ec => ?_
    subst ec
    refine .same fun _ _ => sndE h0 h1 e _ _ _ _ _ _ _ hs hi fun x e1 n1 x1 => (rd_LeR x1.sub).bind fun c c' ec => ?_
    subst ec
    cases c with
    | lst xs =>
      show LeR P ((szR (xs.length + 1)).bind _) (SR.run (if xs.length < SZ then _ else _) _ _)
      rw [run_ite, run_ofR]
      refine .sz fun _ => (put_LeR x1.sub x1.inv).bind fun e2 n2 x2 => hk _ _ ((x1.trans x2).mono fun j hj => ?_)
      simp only [effS, mem_uni] at hj ⊢; exact hj.symm
    | _ => exact trivial
  | .rem i e => fun lv α β P ek en kn kn' kr kr' hs hi hk hr => trivial
  | .ret e => fun lv α β P ek en kn kn' kr kr' hs hi hk hr => by
    simp only [evSk, evS, run_ofR, run_rt]
    exact sndE h0 h1 e _ _ _ _ _ _ _ hs hi fun x e1 n1 x1 => hr _ _ _ x1.sub
  | .reO e => fun lv α β P ek en kn kn' kr kr' hs hi hk hr => by
    have gen : LeR P (evk ft0 ft1 mu e α ek fun x e1 => (contR x).bind fun _ => kr x e1) ((SR.ofR (ev ft e en) fun x => if isCont x.1 = true then .rt x.1 x.2 else .bad).run kn' kr') := by
      rw [run_ofR]
      refine sndE h0 h1 e _ _ _ _ _ _ _ hs hi fun x e1 n1 x1 => ?_
      unfold contR
      rw [ite_bind, run_ite]
      exact .ite (fun _ => hr _ _ _ x1.sub) fun _ => trivial
    by_cases hb : ∃ i, e = .bor i
    · obtain ⟨i, rfl⟩ := hb
      simp only [evSk, evS]
      split
      · rename_i d hd
        have hd' := hs.get hd (by simp) (by simp)
        have ho : ownAt en i = true := by unfold ownAt; rw [hd']
        have hr' : rd en i = .ok d := by unfold rd; rw [hd']
        rw [if_pos ho, hr']
        exact hr _ _ _ hs.set
      · exact trivial
    · have e1 : evSk ft0 ft1 mu fin (.reO e) lv α ek kn kr = evk ft0 ft1 mu e α ek fun x e1 => (contR x).bind fun _ => kr x e1 := by
        cases e <;> first | rfl | exact absurd ⟨_, rfl⟩ hb
      have e2 : evS ft (.reO e) en = SR.ofR (ev ft e en) fun x => if isCont x.1 = true then .rt x.1 x.2 else .bad := by
        cases e <;> first | rfl | exact absurd ⟨_, rfl⟩ hb
      rw [e1, e2]
      exact gen
  | .ret0 => fun lv α β P ek en kn kn' kr kr' hs hi hk hr => hr _ _ _ hs
  | .ite c a b => fun lv α β P ek en kn kn' kr kr' hs hi hk hr => by
    simp only [evSk, evS, run_ofR]
    refine sndE h0 h1 c _ _ _ _ _ _ _ hs hi fun x e1 n1 x1 => ?_
    rw [bool_bind]
    refine .same fun q _ => ?_
    have sa := sndS a
    have sb := sndS b
    split
    · rw [run_ite]
      refine .ite (fun _ => sa _ _ _ _ _ _ _ _ _ _ x1.sub x1.inv (fun e2 n2 x2 => hk _ _ ((x1.trans x2).mono fun j hj => ?_)) hr) fun _ => sb _ _ _ _ _ _ _ _ _ _ x1.sub x1.inv (fun e2 n2 x2 => hk _ _ ((x1.trans x2).mono fun j hj => ?_)) hr
      · simp only [effS, mem_uni] at hj ⊢; exact hj.elim .inl fun h => .inr (.inl h)
      · simp only [effS, mem_uni] at hj ⊢; exact hj.elim .inl fun h => .inr (.inr h)
    · have hk' : ∀ ek' en', Nx mu (uni (effS mu a) (effS mu b)) n1 ek' en' → LeR P (kn ek') (kn' en') := fun e2 n2 x2 => hk _ _ ((x1.trans x2).mono fun j hj => hj)
      split
      · refine joinN (kr' := kr') ?_ hk'
        rw [show (if q = true then evS ft a n1 else evS ft b n1).sumR kr' = if q = true then (evS ft a n1).sumR kr' else (evS ft b n1).sumR kr' from by split <;> rfl]
        exact .ite (fun _ => sa.branch x1.sub x1.inv x1.sub .refl (fun _ h => mem_uni_l h) crry_io) fun _ => sb.branch x1.sub x1.inv x1.sub .refl (fun _ h => mem_uni_r h) crry_io
      · refine joinQ (kr' := kr') ?_ hk'
        rw [show (if q = true then evS ft a n1 else evS ft b n1).sumR kr' = if q = true then (evS ft a n1).sumR kr' else (evS ft b n1).sumR kr' from by split <;> rfl]
        exact .ite (fun _ => sa.branchQ x1.sub x1.inv x1.sub .refl (fun _ h => mem_uni_l h) crry_io hr) fun _ => sb.branchQ x1.sub x1.inv x1.sub .refl (fun _ h => mem_uni_r h) crry_io hr
  | .whl c b => fun lv α β P ek en kn kn' kr kr' hs hi hk hr => by
    have sb := sndS b
    simp only [evSk, evS]
    split
    · rename_i hc
      generalize hlw : uni (rdE c) (uni lv (lvS fin b (uni (rdE c) lv))) = lw
      generalize hL : crryL mu (mutS b) ek (effS mu b) lw = L
      have hio : ∀ j ∈ (effS mu b), ioAt ek j = true → ∃ p ∈ L, p.1 = j := hL ▸ crryL_io
      cases hp : pk ek L with
      | exc c d => exact absurd hp pk_noexc
      | bad => exact trivial
      | ok st0 =>
        simp only [R.bind_ok]
        have hc' : effE mu c = [] := hc
        have hI0 : Nx mu (effS mu b) en (upk (wipeK ek (effS mu b)) L st0 0) en := ⟨SubE.join hs hs .refl hio hp, hi, .refl⟩
        have hk' : ∀ ek' en', Nx mu (effS mu b) en ek' en' → LeR P (kn ek') (kn' en') := fun e2 n2 x2 => hk _ _ (x2.mono fun j hj => mem_uni_r hj)
        have hcd : ∀ st n, Nx mu (effS mu b) en (upk (wipeK ek (effS mu b)) L st 0) n → LeR (fun b p => p = (b, n)) (evk ft0 ft1 mu c Bool (upk (wipeK ek (effS mu b)) L st 0) fun x _ => boolR x) ((ev ft c n).bind bool) := by
          intro st n x
          refine sndE h0 h1 c _ _ _ _ _ _ _ x.sub x.inv fun y e2 n2 x2 => ?_
          have : n2 = n := (hc' ▸ x2.fr).nil
          subst this
          cases y <;> first | exact trivial | exact ⟨_, rfl, rfl⟩
        split
        · exact joinN (kr' := kr') (whileR_le (I := fun st n => Nx mu (effS mu b) en (upk (wipeK ek (effS mu b)) L st 0) n) hcd (fun st n x => sb.branch x.sub x.inv hs x.fr (fun _ h => h) hio) _ hI0) hk'
        · exact joinQ (kr' := kr') (whileQ_le (I := fun st n => Nx mu (effS mu b) en (upk (wipeK ek (effS mu b)) L st 0) n) hcd (fun st n x => sb.branchQ x.sub x.inv hs x.fr (fun _ h => h) hio hr) _ hI0) hk'
    · exact trivial
  | .for_ t it b => fun lv α β P ek en kn kn' kr kr' hs hi hk hr => by
    have sb := sndS b
    simp only [evSk, evS, run_ofR]
    refine sndE h0 h1 it _ _ _ _ _ _ _ hs hi fun x e1 n1 x1 => .same fun ds _ => ?_
    generalize hJ : uni (varsT t) (effS mu b) = J
    generalize hlw : uni lv (dif (lvS fin b lv) (varsT t)) = lw
    generalize hL : crryL mu (mutS b) e1 J lw = L
    have hio : ∀ j ∈ J, ioAt e1 j = true → ∃ p ∈ L, p.1 = j := hL ▸ crryL_io
    cases hp : pk e1 L with
    | exc c d => exact absurd hp pk_noexc
    | bad => exact trivial
    | ok st0 =>
      simp only [R.bind_ok]
      have hI0 : Nx mu J n1 (upk (wipeK e1 J) L st0 0) n1 := ⟨SubE.join x1.sub x1.sub .refl hio hp, x1.inv, .refl⟩
      have hk' : ∀ ek' en', Nx mu J n1 ek' en' → LeR P (kn ek') (kn' en') := fun e2 n2 x2 => hk _ _ ((x1.trans x2).mono fun j hj => by rw [← hJ] at hj; exact hj)
      have hJt : ∀ j ∈ varsT t, j ∈ J := fun j h => by rw [← hJ]; exact mem_uni_l h
      have hJb : ∀ j ∈ effS mu b, j ∈ J := fun j h => by rw [← hJ]; exact mem_uni_r h
      split
      · refine joinN (kr' := kr') (foldR_le (I := fun st n => Nx mu J n1 (upk (wipeK e1 J) L st 0) n) (fun d st n x => ?_) _ hI0) hk'
        unfold SR.sumR
        rw [run_ofR]
        exact asgTk_snd t x.sub x.inv fun e2 n2 x2 => sb.branch x2.sub x2.inv x1.sub ((x.fr.trans x2.fr).mono fun j hj => (mem_uni.mp hj).elim id (hJt j)) hJb hio
      · refine joinQ (kr' := kr') (foldQ_le (I := fun st n => Nx mu J n1 (upk (wipeK e1 J) L st 0) n) (fun d st n x => ?_) _ hI0) hk'
        unfold SR.sumR
        rw [run_ofR]
        exact asgTk_snd t x.sub x.inv fun e2 n2 x2 => sb.branchQ x2.sub x2.inv x1.sub ((x.fr.trans x2.fr).mono fun j hj => (mem_uni.mp hj).elim id (hJt j)) hJb hio hr
  | .rai c e => fun lv α β P ek en kn kn' kr kr' hs hi hk hr => by
    simp only [evSk, evS, run_ofR]
    exact sndE h0 h1 e _ _ _ _ _ _ _ hs hi fun x e1 n1 x1 => rfl
  | .pas => fun lv α β P ek en kn kn' kr kr' hs hi hk hr => hk _ _ (.refl hs hi)
omit h0 h1
theorem evF_run {f : Fn} {args : List D} : evF ft f args = if args.length = f.np then (evS ft f.body (env0 f args)).run (fun env => if f.fr = true then .bad else (ioOut f env).bind fun c => .ok (.non, c)) (fun d env => (ioOut f env).bind fun c => .ok (d, c)) else .bad := by
  unfold evF
  split
  · cases evS ft f.body (env0 f args) <;> rfl
  · rfl
theorem inv_imm {f : Fn} {args : List D} (hio : f.io = false) : Inv mu (env0 f args) := by
  intro j s hs hj
  simp only [env0, hio] at hs
  rw [List.getElem?_append] at hs
  split at hs
  · rw [List.getElem?_map] at hs
    cases h : args[j]? with
    | none => rw [h] at hs; cases hs
    | some d => rw [h] at hs; cases hs; rfl
  · rw [List.getElem?_replicate] at hs
    split at hs
    · cases hs; rfl
    · cases hs
theorem inv_io {f : Fn} {args : List D} (hm : mu.contains 0 = true) : Inv mu (env0 f args) := by
  by_cases hio : f.io = false
  · exact inv_imm hio
  have hio : f.io = true := by simpa using hio
  cases args with
  | nil =>
    intro j s hs hj
    simp only [env0, hio] at hs
    rw [List.getElem?_append] at hs
    split at hs
    · simp at hs
    · rw [List.getElem?_replicate] at hs
      split at hs
      · cases hs; rfl
      · cases hs
  | cons a as =>
    intro j s hs hj
    simp only [env0, hio] at hs
    cases j with
    | zero => rw [hm] at hj; cases hj
    | succ j =>
      simp only [List.cons_append, List.getElem?_cons_succ] at hs
      rw [List.getElem?_append] at hs
      split at hs
      · rw [List.getElem?_map] at hs
        cases h : as[j]? with
        | none => rw [h] at hs; cases hs
        | some d => rw [h] at hs; cases hs; rfl
      · rw [List.getElem?_replicate] at hs
        split at hs
        · cases hs; rfl
        · cases hs
theorem SubE.refl {e : Env} : SubE e e := ⟨rfl, fun _ _ h => .inl h⟩
include h0 h1
theorem evk0_le {f : Fn} {args : List D} : LeR (fun a b => b = (a, .non)) (evk0 ft0 ft1 mu f args) (evF ft f args) := by
  unfold evk0
  split
  · exact trivial
  · rename_i h
    simp only [Bool.or_eq_true, not_or, Bool.not_eq_true, Bool.not_eq_false', beq_iff_eq] at h
    rw [evF_run, if_pos h.2]
    have hio : ∀ e, ioOut f e = .ok .non := fun e => by unfold ioOut; rw [h.1]; rfl
    refine sndS h0 h1 f.body _ _ _ _ _ _ _ _ _ _ .refl (inv_imm h.1) (fun e2 n2 x2 => ?_) fun d e2 n2 x2 => ?_
    · split
      · exact trivial
      · rw [hio]; exact ⟨_, rfl, rfl⟩
    · rw [hio]; exact ⟨_, rfl, rfl⟩
theorem evk1_le {f : Fn} {args : List D} : LeR (fun a b => a = b) (evk1 ft0 ft1 mu f args) (evF ft f args) := by
  unfold evk1
  split
  · exact trivial
  · rename_i h
    simp only [Bool.or_eq_true, not_or, Bool.not_eq_true, Bool.not_eq_false', beq_iff_eq] at h
    rw [evF_run, if_pos h.1.2]
    have hio : ∀ e2 n2, SubE e2 n2 → LeR (fun a b => a = b) (ioOut f e2) (ioOut f n2) := by
      intro e2 n2 x2
      unfold ioOut
      rw [h.1.1]
      simp only [if_true]
      have hh : ∀ e : Env, e.head? = e[0]? := fun e => by cases e <;> rfl
      rw [hh, hh]
      split
      · rename_i d hd
        rw [x2.get hd (by simp) (by simp)]
        exact ⟨_, rfl, rfl⟩
      · exact trivial
    refine sndS h0 h1 f.body _ _ _ _ _ _ _ _ _ _ .refl (inv_io h.2) (fun e2 n2 x2 => ?_) fun d e2 n2 x2 => ?_
    · refine .ite (fun _ => trivial) fun _ => (hio _ _ x2.sub).bind fun a b e => by subst e; exact ⟨_, rfl, rfl⟩
    · exact (hio _ _ x2).bind fun a b e => by subst e; exact ⟨_, rfl, rfl⟩
end

/-! ### the table -/
def Cur (α : Type) : Nat → Type
  | 0 => α
  | n + 1 => D → Cur α n
def app {α : Type} : (n : Nat) → Cur (R α) n → List D → R α
  | 0, f, [] => f
  | n + 1, f, d :: ds => app n (f d) ds
  | _, _, _ => .bad
def eqC {α : Type} : (n : Nat) → Cur (R α) n → (List D → R α) → Prop
  | 0, f, g => f = g []
  | n + 1, f, g => ∀ d, eqC n (f d) fun ds => g (d :: ds)
theorem app_eq {α : Type} : ∀ (n : Nat) {f : Cur (R α) n} {g : List D → R α}, eqC n f g → ∀ ds, app n f ds = .bad ∨ app n f ds = g ds
  | 0, f, g, h, [] => .inr h
  | 0, f, g, h, _ :: _ => .inl rfl
  | n + 1, f, g, h, [] => .inl rfl
  | n + 1, f, g, h, d :: ds => app_eq n (h d) ds
inductive En where
  | f0 (np : Nat) (g : Cur (R D) np)
  | f1 (np : Nat) (g : Cur (R (D × D)) np)
def En.ap0 : En → List D → R D
  | .f0 np g, ds => app np g ds
  | _, _ => .bad
def En.ap1 : En → List D → R (D × D)
  | .f1 np g, ds => app np g ds
  | _, _ => .bad
def T0 : List (Nat × En) → Nat → List D → R D
  | [], _, _ => .bad
  | (j, e) :: es, i, ds => if (i == j) = true then e.ap0 ds else T0 es i ds
def T1 : List (Nat × En) → Nat → List D → R (D × D)
  | [], _, _ => .bad
  | (j, e) :: es, i, ds => if (i == j) = true then e.ap1 ds else T1 es i ds
structure Good (es : List (Nat × En)) (fs : List Fn) (n : Nat) : Prop where
  t0 : ∀ f ds, LeR (fun a b => b = (a, .non)) (T0 es f ds) (ftAt fs n f ds)
  t1 : ∀ f ds, LeR (fun a b => a = b) (T1 es f ds) (ftAt fs n f ds)
theorem tab_ge : ∀ (l : List Fn) (i : Nat), l.length ≤ i → tab l i = fun _ => .bad
  | [], i, _ => rfl
  | f :: l, i, h => by
    funext ds
    have : i ≠ l.length := by simp at h; omega
    simp only [tab]
    rw [if_neg this, tab_ge l i (by simp at h; omega)]
theorem ftAt_ge {fs : List Fn} {n i : Nat} (h : n ≤ i) : ftAt fs n i = fun _ => .bad := tab_ge _ _ (by simp; omega)
theorem good_nil {fs : List Fn} {n : Nat} : Good [] fs n := ⟨fun _ _ => trivial, fun _ _ => trivial⟩
theorem LeR.bad_r {α β : Type} {P : α → β → Prop} {m : R α} (h : LeR P m (.bad : R β)) : m = .bad := by
  cases m with
  | ok a => obtain ⟨b, e, _⟩ := h; cases e
  | exc c d => cases (show R.bad = R.exc c d from h)
  | bad => rfl
theorem ftAt_step {fs : List Fn} {n i : Nat} {f : Fn} (hf : fs[n]? = some f) (h : i ≠ n) : ftAt fs (n + 1) i = ftAt fs n i := by
  by_cases hi : i < n
  · have hl : i < fs.length := by have := (List.getElem?_eq_some_iff.mp hf).1; omega
    rw [ftAt_lt (List.getElem?_eq_getElem hl) hi, ftAt_lt (List.getElem?_eq_getElem hl) (by omega)]
  · rw [ftAt_ge (by omega), ftAt_ge (by omega)]
theorem Good.h0 {es : List (Nat × En)} {fs : List Fn} {n : Nat} (h : Good es fs n) : ∀ f ds, LeR (fun a b => a = b.1) (T0 es f ds) (ftAt fs n f ds) := fun f ds => (h.t0 f ds).mono fun a b e => by rw [e]
theorem Good.step0 {es : List (Nat × En)} {fs : List Fn} {n np : Nat} (h : Good es fs n) {f : Fn} (hf : fs[n]? = some f) (mu : List Nat) {g : Cur (R D) np} (hg : eqC np g (evk0 (T0 es) (T1 es) mu f)) : Good ((n, .f0 np g) :: es) fs (n + 1) := by
  refine ⟨fun i ds => ?_, fun i ds => ?_⟩
  · unfold T0
    by_cases hi : i = n
    · subst hi
      simp only [beq_self_eq_true, if_true]
      rw [ftAt_lt hf (Nat.lt_succ_self i)]
      rcases app_eq np hg ds with e | e
      · show LeR _ (app np g ds) _; rw [e]; exact trivial
      · show LeR _ (app np g ds) _; rw [e]; exact evk0_le h.h0 h.t1
    · rw [if_neg (by simpa using hi), ftAt_step hf hi]
      exact h.t0 i ds
  · unfold T1
    by_cases hi : i = n
    · subst hi
      simp only [beq_self_eq_true, if_true]
      exact trivial
    · rw [if_neg (by simpa using hi), ftAt_step hf hi]
      exact h.t1 i ds
theorem Good.step1 {es : List (Nat × En)} {fs : List Fn} {n np : Nat} (h : Good es fs n) {f : Fn} (hf : fs[n]? = some f) (mu : List Nat) {g : Cur (R (D × D)) np} (hg : eqC np g (evk1 (T0 es) (T1 es) mu f)) : Good ((n, .f1 np g) :: es) fs (n + 1) := by
  refine ⟨fun i ds => ?_, fun i ds => ?_⟩
  · unfold T0
    by_cases hi : i = n
    · subst hi
      simp only [beq_self_eq_true, if_true]
      exact trivial
    · rw [if_neg (by simpa using hi), ftAt_step hf hi]
      exact h.t0 i ds
  · unfold T1
    by_cases hi : i = n
    · subst hi
      simp only [beq_self_eq_true, if_true]
      rw [ftAt_lt hf (Nat.lt_succ_self i)]
      rcases app_eq np hg ds with e | e
      · show LeR _ (app np g ds) _; rw [e]; exact trivial
      · show LeR _ (app np g ds) _; rw [e]; exact evk1_le h.h0 h.t1
    · rw [if_neg (by simpa using hi), ftAt_step hf hi]
      exact h.t1 i ds
/-- the law's end -/
theorem Good.last {es : List (Nat × En)} {fs : List Fn} {n : Nat} (h : Good es fs n) (mu : List Nat) {f : Fn} {ds : List D} {r : D} (hg : evk0 (T0 es) (T1 es) mu f ds = .ok r) : evF (ftAt fs n) f ds = .ok (r, .non) := by
  have := evk0_le h.h0 h.t1 (f := f) (args := ds) (mu := mu)
  rw [hg] at this
  obtain ⟨b, e, rfl⟩ := this
  exact e
end Py
end
section
set_option autoImplicit false
set_option linter.all false
/-! PyLem: laws about PyK's functions on data. -/
namespace Py
abbrev nD (n : Nat) : D := .int (n : Int)
abbrev nz (n : Nat) : Int := n
abbrev nT (l : List Nat) : D := .tup (l.map nD)
abbrev nL (l : List Nat) : D := .lst (l.map nD)
inductive F2 {α β : Type} (Q : α → β → Prop) : List α → List β → Prop
  | nil : F2 Q [] []
  | cons {a : α} {b : β} {as : List α} {bs : List β} : Q a b → F2 Q as bs → F2 Q (a :: as) (b :: bs)
section
variable {α β γ σ ρ : Type}
theorem bind_of {m : R α} {f : α → R β} {a : α} {r : R β} (h : m = .ok a) (h' : f a = r) : m.bind f = r := by rw [h]; exact h'
theorem bind_ex {m : R α} {f : α → R β} {P : β → Prop} (h : ∃ a, m = .ok a ∧ ∃ b, f a = .ok b ∧ P b) : ∃ b, m.bind f = .ok b ∧ P b := by
  obtain ⟨a, e, b, e', p⟩ := h; exact ⟨b, by rw [e]; exact e', p⟩
@[simp] theorem calm_ok {a : α} : (R.ok a).calm = .ok a := rfl
@[simp] theorem bind_okself {m : R α} : (m.bind fun a => .ok a) = m := by cases m <;> rfl
theorem mapR_enc {e : α → D} {f : D → R D} {g : α → D} : ∀ {xs : List α}, (∀ x ∈ xs, f (e x) = .ok (g x)) → mapR f (xs.map e) = .ok (xs.map g)
  | [], _ => rfl
  | x :: xs, h => by
    simp only [List.map_cons, mapR, h x (.head _), calm_ok, R.bind, mapR_enc (fun y hy => h y (.tail _ hy))]
theorem mapR_id {f : D → R D} {g : D → D} : ∀ {xs : List D}, (∀ x ∈ xs, f x = .ok (g x)) → mapR f xs = .ok (xs.map g)
  | [], _ => rfl
  | x :: xs, h => by
    simp only [List.map_cons, mapR, h x (.head _), calm_ok, R.bind, mapR_id (fun y hy => h y (.tail _ hy))]
theorem filtR_enc {e : α → D} {f : D → R (Option D)} {p : α → Bool} {g : α → D} : ∀ {xs : List α}, (∀ x ∈ xs, f (e x) = .ok (if p x = true then some (g x) else none)) → filtR f (xs.map e) = .ok ((xs.filter p).map g)
  | [], _ => rfl
  | x :: xs, h => by
    simp only [List.map_cons, filtR, h x (.head _), calm_ok, R.bind, filtR_enc (fun y hy => h y (.tail _ hy)), List.filter_cons]
    split
    · rename_i y hy; split at hy <;> cases hy; rename_i hp; rw [if_pos hp]; rfl
    · rename_i hy; split at hy <;> cases hy; rename_i hp; rw [if_neg hp]
theorem foldR_enc {e : α → D} {m : σ → List D} {F : D → List D → R (List D)} {g : σ → α → σ} : ∀ {xs : List α} {s : σ}, (∀ x ∈ xs, ∀ s, F (e x) (m s) = .ok (m (g s x))) → foldR F (xs.map e) (m s) = .ok (m (xs.foldl g s))
  | [], s, _ => rfl
  | x :: xs, s, h => by
    simp only [List.map_cons, foldR, h x (.head _), R.bind, List.foldl_cons]
    exact foldR_enc fun y hy => h y (.tail _ hy)
theorem foldR_inv {e : α → D} {F : D → List D → R (List D)} {I : List α → List D → Prop} : ∀ (post pre : List α) {st : List D},
    (∀ p x q st, pre ++ post = p ++ x :: q → I p st → ∃ st', F (e x) st = .ok st' ∧ I (p ++ [x]) st') → I pre st → ∃ st', foldR F (post.map e) st = .ok st' ∧ I (pre ++ post) st'
  | [], pre, st, _, h0 => ⟨st, rfl, by simpa using h0⟩
  | x :: post, pre, st, h, h0 => by
    obtain ⟨st1, e1, h1⟩ := h pre x post st rfl h0
    obtain ⟨st2, e2, h2⟩ := foldR_inv post (pre ++ [x]) (fun p y q st' hp hI => h p y q st' (by simpa using hp) hI) h1
    exact ⟨st2, by simp only [List.map_cons, foldR, e1, R.bind, e2], by simpa using h2⟩
theorem foldQ_inv {e : α → D} {F : D → List D → R (LR ρ)} {I : List α → List D → Prop} : ∀ (post pre : List α) {st : List D},
    (∀ p x q st, pre ++ post = p ++ x :: q → I p st → ∃ st', F (e x) st = .ok (.nx st') ∧ I (p ++ [x]) st') → I pre st → ∃ st', foldQ F (post.map e) st = .ok (.nx st') ∧ I (pre ++ post) st'
  | [], pre, st, _, h0 => ⟨st, rfl, by simpa using h0⟩
  | x :: post, pre, st, h, h0 => by
    obtain ⟨st1, e1, h1⟩ := h pre x post st rfl h0
    obtain ⟨st2, e2, h2⟩ := foldQ_inv post (pre ++ [x]) (fun p y q st' hp hI => h p y q st' (by simpa using hp) hI) h1
    exact ⟨st2, by simp only [List.map_cons, foldQ, e1, R.bind, e2], by simpa using h2⟩
/-- a loop that carries nothing and finds nothing -/
theorem foldQ_none {e : α → D} {F : D → List D → R (LR ρ)} : ∀ {xs : List α}, (∀ x ∈ xs, F (e x) [] = .ok (.nx [])) → foldQ F (xs.map e) [] = .ok (.nx [])
  | [], _ => rfl
  | x :: xs, h => by
    simp only [List.map_cons, foldQ, h x (.head _), R.bind]
    exact foldQ_none fun y hy => h y (.tail _ hy)
theorem foldQ_find {e : α → D} {F : D → List D → R (LR ρ)} {p : α → Bool} {r : α → ρ} : ∀ {xs : List α}, (∀ x ∈ xs, F (e x) [] = .ok (if p x = true then .rt (r x) else .nx [])) →
    foldQ F (xs.map e) [] = .ok (match xs.find? p with | some x => .rt (r x) | none => .nx [])
  | [], _ => rfl
  | x :: xs, h => by
    simp only [List.map_cons, foldQ, h x (.head _), R.bind, List.find?_cons]
    by_cases hp : p x = true
    · simp [hp]
    · simp only [hp, Bool.not_eq_true, if_false]
      rw [if_neg (by simp)]
      exact foldQ_find fun y hy => h y (.tail _ hy)
/-- a block that carries something: each turn gives an item and keeps I -/
theorem mapS_inv {e : α → D} {f : D → List D → R (Option D × List D)} {I : List D → Prop} {Q : α → D → Prop} : ∀ {xs : List α} {st : List D},
    (∀ x ∈ xs, ∀ st, I st → ∃ y st', f (e x) st = .ok (some y, st') ∧ I st' ∧ Q x y) → I st → ∃ ys st', mapS f (xs.map e) st = .ok (ys, st') ∧ I st' ∧ F2 Q xs ys
  | [], st, _, h0 => ⟨[], st, rfl, h0, .nil⟩
  | x :: xs, st, h, h0 => by
    obtain ⟨y, st1, e1, h1, q1⟩ := h x (.head _) st h0
    obtain ⟨ys, st2, e2, h2, q2⟩ := mapS_inv (fun y hy => h y (.tail _ hy)) h1
    exact ⟨y :: ys, st2, by simp only [List.map_cons, mapS, e1, calm_ok, R.bind, e2], h2, .cons q1 q2⟩
theorem mapS_enc {e : α → D} {f : D → List D → R (Option D × List D)} {g : α → D} {st : List D} : ∀ {xs : List α},
    (∀ x ∈ xs, f (e x) st = .ok (some (g x), st)) → mapS f (xs.map e) st = .ok (xs.map g, st)
  | [], _ => rfl
  | x :: xs, h => by
    simp only [List.map_cons, mapS, h x (.head _), calm_ok, R.bind, mapS_enc fun y hy => h y (.tail _ hy)]
theorem szR_ok {n : Nat} (h : n ≤ SZ) : szR n = .ok () := if_pos h
end
theorem rng_nat {n : Nat} (h : n ≤ SZ) : rngD [nD n] = .ok ((List.range n).map nD) := by
  simp only [rngD]
  rw [if_pos ⟨by simp only [BIG]; omega, by have : SZ = 16777216 := rfl; omega⟩]
  simp [rangeL]
theorem lrng_nat {n : Nat} (h : n ≤ SZ) : bltD .lrng [nD n] = .ok (nL (List.range n)) := by
  show (rngD [nD n]).bind _ = _
  rw [rng_nat h]; rfl
theorem ltup_nat {n : Nat} (h : n ≤ SZ) : bltD .ltup [nD n] = .ok (nT (List.range n)) := by
  show (rngD [nD n]).bind _ = _
  rw [rng_nat h]; rfl
theorem ixn_nat {n i : Nat} (h : i < n) : ixn n (i : Int) = some i := by
  simp only [ixn]
  rw [if_pos (by omega), if_pos (by omega)]
  simp
theorem at_nat {xs : List D} {i : Nat} {d : D} (h : xs[i]? = some d) : atD xs (i : Int) = .ok d := by
  simp only [atD]
  rw [ixn_nat (List.getElem?_eq_some_iff.mp h).1]
  simp [R.ofO, h]
theorem sub_tup {xs : List D} {i : Nat} {d : D} (h : xs[i]? = some d) : subsD (.tup xs) (nD i) = .ok d := at_nat h
theorem sub_lst {xs : List D} {i : Nat} {d : D} (h : xs[i]? = some d) : subsD (.lst xs) (nD i) = .ok d := at_nat h
theorem sub_tup0 {xs : List D} {d : D} (h : xs[0]? = some d) : subsD (.tup xs) (.int 0) = .ok d := sub_tup (i := 0) h
theorem sub_lst0 {xs : List D} {d : D} (h : xs[0]? = some d) : subsD (.lst xs) (.int 0) = .ok d := sub_lst (i := 0) h
theorem set_lst {xs : List D} {i : Nat} {d : D} (h : i < xs.length) : setD (.lst xs) (nD i) d = .ok (.lst (xs.set i d)) := by
  simp only [setD]
  rw [ixn_nat h]
theorem len_tup {xs : List D} : bltD .len [.tup xs] = .ok (nD xs.length) := rfl
theorem len_lst {xs : List D} : bltD .len [.lst xs] = .ok (nD xs.length) := rfl
theorem len_set {xs : List D} : bltD .len [.set xs] = .ok (nD xs.length) := rfl
theorem shal_int {n : Nat} {i : Int} : shal n (.int i) = true := by cases n <;> rfl
theorem eq_int {a b : Int} : cmpD .eq (.int a) (.int b) = .ok (decide (a = b)) := rfl
theorem ne_int {a b : Int} : cmpD .ne (.int a) (.int b) = .ok (!decide (a = b)) := rfl
theorem eq_nat {a b : Nat} : cmpD .eq (nD a) (nD b) = .ok (decide (a = b)) := by
  rw [eq_int]; congr 1; exact decide_eq_decide.mpr (by omega)
theorem ne_nat {a b : Nat} : cmpD .ne (nD a) (nD b) = .ok (!decide (a = b)) := by
  rw [ne_int]; congr 2; exact decide_eq_decide.mpr (by omega)
theorem lt_int {a b : Int} : cmpD .lt (.int a) (.int b) = .ok (decide (a < b)) := rfl
theorem le_int {a b : Int} : cmpD .le (.int a) (.int b) = .ok (decide (a ≤ b)) := rfl
theorem gt_int {a b : Int} : cmpD .gt (.int a) (.int b) = .ok (decide (b < a)) := rfl
theorem ge_int {a b : Int} : cmpD .ge (.int a) (.int b) = .ok (decide (b ≤ a)) := rfl
/-- all flat numbers -/
theorem shal_nats {n : Nat} {l : List Nat} : (l.map nD).all (shal n) = true := by
  simp only [List.all_map, List.all_eq_true]
  exact fun x _ => shal_int
theorem eqDs_nats : ∀ {a b : List Nat}, eqDs (a.map nD) (b.map nD) = decide (a = b)
  | [], [] => rfl
  | [], _ :: _ => rfl
  | _ :: _, [] => rfl
  | x :: a, y :: b => by
    simp only [List.map_cons, eqDs, eqDs_nats (a := a) (b := b), eqD]
    by_cases h : x = y
    · subst h; simp
    · have : ¬((x : Int) = (y : Int)) := by omega
      simp [h, this]
theorem eq_nT {a b : List Nat} : cmpD .eq (nT a) (nT b) = .ok (decide (a = b)) := by
  simp only [cmpD, eqR, nT, shal, shal_nats, Bool.and_self, if_true, eqD, eqDs_nats]
theorem eq_nL {a b : List Nat} : cmpD .eq (nL a) (nL b) = .ok (decide (a = b)) := by
  simp only [cmpD, eqR, nL, shal, shal_nats, Bool.and_self, if_true, eqD, eqDs_nats]
theorem ne_nT {a b : List Nat} : cmpD .ne (nT a) (nT b) = .ok (!decide (a = b)) := by
  have : cmpD .ne (nT a) (nT b) = (cmpD .eq (nT a) (nT b)).neg := rfl
  rw [this, eq_nT]; rfl
theorem ne_nL {a b : List Nat} : cmpD .ne (nL a) (nL b) = .ok (!decide (a = b)) := by
  have : cmpD .ne (nL a) (nL b) = (cmpD .eq (nL a) (nL b)).neg := rfl
  rw [this, eq_nL]; rfl
theorem ints_mapD : ∀ {l : List Int}, intsD (l.map .int) = some l
  | [] => rfl
  | x :: l => by simp [intsD, ints_mapD (l := l)]
theorem ints_nats {l : List Nat} : intsD (l.map nD) = some (l.map nz) := by
  have : l.map nD = (l.map nz).map D.int := by simp
  rw [this, ints_mapD]
theorem bls_mapD : ∀ {l : List Bool}, bls (l.map .bl) = some l
  | [] => rfl
  | x :: l => by simp [bls, bls_mapD (l := l)]
theorem all_bl {l : List Bool} : bltD .all [.lst (l.map .bl)] = .ok (.bl (l.all id)) := by
  simp only [bltD, bls_mapD]
theorem any_bl {l : List Bool} : bltD .any [.lst (l.map .bl)] = .ok (.bl (l.any id)) := by
  simp only [bltD, bls_mapD]
/-- all(..) over a block -/
theorem all_enc {α : Type} {xs : List α} {p : α → Bool} : bltD .all [.lst (xs.map fun x => .bl (p x))] = .ok (.bl (xs.all p)) := by
  have : (xs.map fun x => D.bl (p x)) = (xs.map p).map .bl := by simp
  rw [this, all_bl]; simp [List.all_map]
theorem once_len_le : ∀ {l : List Int}, (once l).length ≤ l.length
  | [] => Nat.le_refl _
  | x :: xs => by
    simp only [once]; split
    · have := once_len_le (l := xs); simp; omega
    · have := once_len_le (l := xs); simp; omega
theorem once_len_eq : ∀ {l : List Int}, (once l).length = l.length ↔ l.Nodup
  | [] => by simp [once]
  | x :: xs => by
    simp only [once, List.nodup_cons]
    split
    · rename_i h
      constructor
      · intro e; have := once_len_le (l := xs); simp at e; omega
      · intro e; exact absurd h e.1
    · rename_i h
      simp only [List.length_cons, Nat.add_right_cancel_iff, once_len_eq (l := xs)]
      exact ⟨fun e => ⟨h, e⟩, fun e => e.2⟩
theorem nodup_cast {l : List Nat} : (l.map nz).Nodup ↔ l.Nodup := by
  constructor
  · intro h; exact (List.pairwise_map.mp h).imp fun hab e => hab (by rw [e])
  · intro h
    exact List.pairwise_map.mpr (h.imp fun hab e => hab (by simp only [nz] at e; omega))
theorem once_nats {l : List Nat} : (once (l.map nz)).length = l.length ↔ l.Nodup := by
  have := once_len_eq (l := l.map nz)
  rw [List.length_map] at this
  rw [this, nodup_cast]
theorem set_nT {l : List Nat} (h : l.length ≤ 1000) : bltD .set [nT l] = .ok (.set ((once (l.map nz)).map .int)) := by
  simp only [bltD, seqOf, Option.bind_some, ints_nats, List.length_map]
  rw [if_pos h]
theorem set_nL {l : List Nat} (h : l.length ≤ 1000) : bltD .set [nL l] = .ok (.set ((once (l.map nz)).map .int)) := by
  simp only [bltD, seqOf, Option.bind_some, ints_nats, List.length_map]
  rw [if_pos h]
theorem enumL_enc {α : Type} {e : α → D} : ∀ {xs : List α} {i : Nat}, enumL i (xs.map e) = (xs.zipIdx i).map fun p => .tup [nD p.2, e p.1]
  | [], _ => rfl
  | x :: xs, i => by simp only [List.map_cons, enumL, List.zipIdx_cons, enumL_enc (xs := xs)]
theorem zip2_enc {α β : Type} {e : α → D} {f : β → D} : ∀ {xs : List α} {ys : List β}, zip2 (xs.map e) (ys.map f) = (xs.zip ys).map fun p => .tup [e p.1, f p.2]
  | [], _ => by simp [zip2]
  | _ :: _, [] => by simp [zip2]
  | x :: xs, y :: ys => by simp [zip2, zip2_enc (xs := xs) (ys := ys)]
theorem unT2 {a b : D} : unTn 2 (.tup [a, b]) = .ok [a, b] := rfl
theorem mul_ok {a b : Int} (h : -(2 ^ 64) < a ∧ a < 2 ^ 64 ∨ -(2 ^ 64) < b ∧ b < 2 ^ 64) : binD .mul (.int a) (.int b) = .ok (.int (a * b)) := by
  simp only [binD, mulD]
  rw [if_pos (by simpa [small] using h)]
theorem mod_ok {a b : Int} (h : 0 < b) : binD .mod (.int a) (.int b) = .ok (.int (a % b)) := by
  simp only [binD, modD]
  rw [if_pos h]
theorem div_ok {a b : Int} (h : 0 < b) (h2 : b < 1073741824) : binD .div (.int a) (.int b) = .ok (.int (a / b)) := by
  simp only [binD, divD]
  rw [if_pos ⟨h, h2⟩]
theorem add_int {a b : Int} : binD .add (.int a) (.int b) = .ok (.int (a + b)) := rfl
theorem sub_int {a b : Int} : binD .sub (.int a) (.int b) = .ok (.int (a - b)) := rfl
theorem add_lst {a b : List D} (h : a.length + b.length ≤ SZ) : binD .add (.lst a) (.lst b) = .ok (.lst (a ++ b)) := by
  simp only [binD, addD]; rw [if_pos h]
theorem add_tup {a b : List D} (h : a.length + b.length ≤ SZ) : binD .add (.tup a) (.tup b) = .ok (.tup (a ++ b)) := by
  simp only [binD, addD]; rw [if_pos h]
theorem get_enc {α : Type} {e : α → D} {a : α} {r : List α} {k : Nat} (h : k < r.length) : (r.map e)[k]? = some (e (r.getD k a)) := by
  simp [h]
theorem sub_tupE {α : Type} {e : α → D} {r : List α} {k : Nat} (a : α) (h : k < r.length) : subsD (.tup (r.map e)) (nD k) = .ok (e (r.getD k a)) := sub_tup (get_enc h)
theorem sub_lstE {α : Type} {e : α → D} {r : List α} {k : Nat} (a : α) (h : k < r.length) : subsD (.lst (r.map e)) (nD k) = .ok (e (r.getD k a)) := sub_lst (get_enc h)
theorem add_nat {a b : Nat} : binD .add (nD a) (nD b) = .ok (nD (a + b)) := by rw [add_int]; simp [nD]
theorem add_1nat {b : Nat} : binD .add (.int 1) (nD b) = .ok (nD (1 + b)) := add_nat (a := 1)
theorem F2.len {α β : Type} {Q : α → β → Prop} {xs : List α} {ys : List β} (h : F2 Q xs ys) : ys.length = xs.length := by
  induction h with
  | nil => rfl
  | cons _ _ ih => simp [ih]
theorem F2.choose {α β γ : Type} {e : γ → β} {Q : α → γ → Prop} {xs : List α} {ys : List β} (h : F2 (fun x y => ∃ z, y = e z ∧ Q x z) xs ys) : ∃ zs, ys = zs.map e ∧ F2 Q xs zs := by
  induction h with
  | nil => exact ⟨[], rfl, .nil⟩
  | cons h _ ih =>
    obtain ⟨z, rfl, q⟩ := h
    obtain ⟨zs, rfl, qs⟩ := ih
    exact ⟨z :: zs, rfl, .cons q qs⟩
theorem F2.all {α β : Type} {Q : β → Prop} {xs : List α} {ys : List β} (h : F2 (fun _ y => Q y) xs ys) : ∀ y ∈ ys, Q y := by
  induction h with
  | nil => intro y hy; cases hy
  | cons q _ ih =>
    intro y hy
    rcases List.mem_cons.mp hy with rfl | hy
    · exact q
    · exact ih y hy
theorem set_last {xs : List D} {d : D} (h : 0 < xs.length) : setD (.lst xs) (.int (-1)) d = .ok (.lst (xs.set (xs.length - 1) d)) := by
  simp only [setD, ixn]
  rw [if_neg (by omega), if_pos (by omega)]
  have : ((-1 : Int) + (xs.length : Int)).toNat = xs.length - 1 := by omega
  simp only [this]
end Py
end
section
set_option autoImplicit false
set_option linter.all false
set_option maxRecDepth 100000
set_option maxHeartbeats 0
namespace Lw
open Py
def c_is_whole : Fn := ⟨3, 3, false, false, (.cons (.ret (.and (.isi (.loc 0) .int) (.and (.not (.isi (.loc 0) .bool)) (.chn .le .le (.loc 1) (.loc 0) (.loc 2)))))
  .nil)⟩
def c_is_tuple_of : Fn := ⟨3, 3, false, false, (.cons (.ret (.and (.isi (.loc 0) .tuple) (.chn .le .le (.loc 1) (.blt .len (.cons (.loc 0) .nil)) (.loc 2))))
  .nil)⟩
def c_fits_row : Fn := ⟨3, 4, false, false, (.cons (.ite (.or (.not (.call 1 false false (.cons (.loc 0) (.cons (.loc 1) (.cons (.loc 2) .nil))))) (.not (.blt .all (.cons (.lc [3] (.v 3) (.loc 0) .nil (.call 0 false false (.cons (.loc 3) (.cons (.cst (.int 0)) (.cons (.bin .sub (.blt .len (.cons (.loc 0) .nil)) (.cst (.int 1))) .nil))))) .nil)))) (.cons (.ret (.cst (.bl false)))
  .nil) .nil)
  (.cons (.ret (.cmp .eq (.blt .len (.cons (.blt .set (.cons (.loc 0) .nil)) .nil)) (.blt .len (.cons (.loc 0) .nil))))
  .nil))⟩
def c_fits_change : Fn := ⟨2, 5, false, false, (.cons (.ite (.or (.not (.isi (.loc 1) .tuple)) (.not (.blt .all (.cons (.lc [4] (.v 4) (.loc 1) .nil (.call 0 false false (.cons (.loc 4) (.cons (.cst (.int 0)) (.cons (.bin .sub (.loc 0) (.cst (.int 2))) .nil))))) .nil)))) (.cons (.ret (.cst (.bl false)))
  .nil) .nil)
  (.cons (.ret (.blt .all (.cons (.lc [2, 3] (.tu (.cons (.v 2) (.cons (.v 3) .nil))) (.zip (.cons (.loc 1) (.cons (.sli (.loc 1) (.cst (.int 1)) .nil) .nil))) .nil (.cmp .lt (.bin .add (.loc 2) (.cst (.int 1))) (.loc 3))) .nil)))
  .nil))⟩
def c_rounds_of : Fn := ⟨1, 1, false, false, (.cons (.ret (.blt .ltup (.cons (.loc 0) .nil)))
  .nil)⟩
def c_changed : Fn := ⟨2, 3, false, false, (.cons (.for_ (.v 2) (.loc 1) (.cons (.asg (.v 0) (.bin .add (.bin .add (.sli (.loc 0) .nil (.loc 2)) (.tup (.cons (.sub (.loc 0) (.bin .add (.loc 2) (.cst (.int 1)))) (.cons (.sub (.loc 0) (.loc 2)) .nil)))) (.sli (.loc 0) (.bin .add (.loc 2) (.cst (.int 2))) .nil)))
  .nil))
  (.cons (.ret (.loc 0))
  .nil))⟩
def c_acted : Fn := ⟨2, 3, false, false, (.cons (.ret (.blt .tuple (.cons (.lc [2] (.v 2) (.loc 1) .nil (.sub (.loc 0) (.loc 2))) .nil)))
  .nil)⟩
def c_need_bells : Fn := ⟨1, 1, false, false, (.cons (.ite (.not (.call 0 false false (.cons (.loc 0) (.cons (.cst (.int 2)) (.cons (.cst (.int 6)) .nil))))) (.cons (.rai 0 .nil)
  .nil) .nil)
  .nil)⟩
def c_need_row : Fn := ⟨3, 3, false, false, (.cons (.ite (.not (.call 2 false false (.cons (.loc 0) (.cons (.loc 1) (.cons (.loc 2) .nil))))) (.cons (.rai 1 .nil)
  .nil) .nil)
  .nil)⟩
def c_followed_by : Fn := ⟨2, 2, false, false, (.cons (.exp (.call 8 false false (.cons (.loc 0) (.cons (.cst (.int 2)) (.cons (.cst (.int 6)) .nil)))))
  (.cons (.exp (.call 8 false false (.cons (.loc 1) (.cons (.blt .len (.cons (.loc 0) .nil)) (.cons (.blt .len (.cons (.loc 0) .nil)) .nil)))))
  (.cons (.ret (.call 6 false false (.cons (.loc 0) (.cons (.loc 1) .nil))))
  .nil)))⟩
def c_fits_lead : Fn := ⟨2, 3, false, false, (.cons (.ret (.and (.call 1 false false (.cons (.loc 1) (.cons (.cst (.int 1)) (.cons (.cst (.int 24)) .nil)))) (.blt .all (.cons (.lc [2] (.v 2) (.loc 1) .nil (.call 3 false false (.cons (.loc 0) (.cons (.loc 2) .nil)))) .nil))))
  .nil)⟩
def c_need_lead : Fn := ⟨2, 2, false, false, (.cons (.ite (.not (.call 10 false false (.cons (.loc 0) (.cons (.loc 1) .nil)))) (.cons (.rai 2 .nil)
  .nil) .nil)
  .nil)⟩
def c_rows_by : Fn := ⟨2, 4, false, false, (.cons (.asg (.v 2) (.lst .nil))
  (.cons (.for_ (.v 3) (.loc 1) (.cons (.asg (.v 0) (.call 5 false false (.cons (.loc 0) (.cons (.loc 3) .nil))))
  (.cons (.asg (.v 2) (.bin .add (.loc 2) (.lst (.cons (.loc 0) .nil))))
  .nil)))
  (.cons (.ret (.loc 2))
  .nil)))⟩
def c_acting : Fn := ⟨2, 2, false, false, (.cons (.ret (.sub (.call 12 false false (.cons (.call 4 false false (.cons (.loc 0) .nil)) (.cons (.loc 1) .nil))) (.neg (.cst (.int 1)))))
  .nil)⟩
def c_is_lead : Fn := ⟨2, 2, false, false, (.cons (.exp (.call 7 false false (.cons (.loc 0) .nil)))
  (.cons (.ret (.call 10 false false (.cons (.loc 0) (.cons (.loc 1) .nil))))
  .nil))⟩
def c_rows_rung : Fn := ⟨2, 2, false, false, (.cons (.exp (.call 8 false false (.cons (.loc 0) (.cons (.cst (.int 2)) (.cons (.cst (.int 6)) .nil)))))
  (.cons (.exp (.call 11 false false (.cons (.blt .len (.cons (.loc 0) .nil)) (.cons (.loc 1) .nil))))
  (.cons (.ret (.call 12 false false (.cons (.loc 0) (.cons (.loc 1) .nil))))
  .nil)))⟩
def c_led_to : Fn := ⟨2, 2, false, false, (.cons (.exp (.call 8 false false (.cons (.loc 0) (.cons (.cst (.int 2)) (.cons (.cst (.int 6)) .nil)))))
  (.cons (.exp (.call 11 false false (.cons (.blt .len (.cons (.loc 0) .nil)) (.cons (.loc 1) .nil))))
  (.cons (.ret (.sub (.call 12 false false (.cons (.loc 0) (.cons (.loc 1) .nil))) (.neg (.cst (.int 1)))))
  .nil)))⟩
def c_acting_row : Fn := ⟨2, 2, false, false, (.cons (.exp (.call 7 false false (.cons (.loc 0) .nil)))
  (.cons (.exp (.call 11 false false (.cons (.loc 0) (.cons (.loc 1) .nil))))
  (.cons (.ret (.call 13 false false (.cons (.loc 0) (.cons (.loc 1) .nil))))
  .nil)))⟩
def c__law_cup : Fn := ⟨1, 2, false, true, (.cons (.asg (.v 1) (.blt .abs (.cons (.sub (.bin .add (.blt .list (.cons (.loc 0) .nil)) (.lst (.cons (.cst (.int 0)) .nil))) (.cst (.int 0))) .nil)))
  (.cons (.reO (.lst (.cons (.ife (.cmp .ge (.loc 1) (.bin .pow (.cst (.int 10)) (.cst (.int 18)))) (.bin .div (.loc 1) (.cst (.int 29))) (.cst (.int 0))) (.cons (.bin .add (.bin .mod (.blt .int (.cons (.bin .add (.bin .mul (.loc 1) (.cst (.int 229))) (.cst (.int 1709))) .nil)) (.cst (.int 2077503719))) (.cst (.int 109))) .nil))))
  .nil))⟩
def c__law_roll : Fn := ⟨2, 4, true, false, (.cons (.ite (.cmp .gt (.sub (.bor 0) (.cst (.int 0))) (.cst (.int 0))) (.cons (.asg (.v 3) (.bin .mod (.blt .int (.cons (.sub (.bor 0) (.cst (.int 0))) .nil)) (.loc 1)))
  (.cons (.asS 0 (.cst (.int 0)) (.bin .div (.sub (.bor 0) (.cst (.int 0))) (.loc 1)))
  (.cons (.ret (.loc 3))
  .nil))) .nil)
  (.cons (.asS 0 (.cst (.int 1)) (.bin .mod (.blt .int (.cons (.bin .add (.bin .mul (.sub (.bor 0) (.cst (.int 1))) (.cst (.int 30911))) (.cst (.int 7901))) .nil)) (.cst (.int 2147483423))))
  (.cons (.asg (.v 2) (.bin .mod (.blt .int (.cons (.bin .mul (.sub (.bor 0) (.cst (.int 1))) (.bin .add (.sub (.bor 0) (.cst (.int 1))) (.cst (.int 179)))) .nil)) (.cst (.int 2147483587))))
  (.cons (.ret (.bin .mod (.blt .int (.cons (.bin .div (.loc 2) (.cst (.int 751))) .nil)) (.loc 1)))
  .nil))))⟩
def c__law_some : Fn := ⟨2, 2, true, false, (.cons (.ret (.sub (.loc 1) (.call 19 true false (.cons (.bor 0) (.cons (.blt .len (.cons (.loc 1) .nil)) .nil)))))
  .nil)⟩
def c__law_changes : Fn := ⟨1, 4, false, false, (.cons (.asg (.v 1) (.lst (.cons (.tup .nil) .nil)))
  (.cons (.for_ (.v 2) (.rng (.cons (.bin .sub (.loc 0) (.cst (.int 1))) .nil)) (.cons (.asg (.v 1) (.bin .add (.loc 1) (.lc [3] (.v 3) (.loc 1) (.or (.cmp .eq (.loc 3) (.tup .nil)) (.cmp .lt (.sub (.loc 3) (.neg (.cst (.int 1)))) (.bin .sub (.loc 2) (.cst (.int 1))))) (.bin .add (.loc 3) (.tup (.cons (.loc 2) .nil))))))
  .nil))
  (.cons (.ret (.blt .sorted (.cons (.loc 1) .nil)))
  .nil)))⟩
def c__law_change : Fn := ⟨2, 3, true, false, (.cons (.asg (.v 2) (.call 21 false false (.cons (.loc 1) .nil)))
  (.cons (.ret (.call 20 true false (.cons (.bor 0) (.cons (.bin .add (.bin .mul (.sli (.loc 2) (.cst (.int 1)) .nil) (.cst (.int 3))) (.loc 2)) .nil))))
  .nil))⟩
def c__law_lead : Fn := ⟨3, 4, true, false, (.cons (.ret (.blt .tuple (.cons (.lc [3] (.v 3) (.rng (.cons (.bin .add (.cst (.int 1)) (.call 19 true false (.cons (.bor 0) (.cons (.loc 2) .nil)))) .nil)) .nil (.call 22 true false (.cons (.bor 0) (.cons (.loc 1) .nil)))) .nil)))
  .nil)⟩
def c__law_row : Fn := ⟨2, 4, true, false, (.cons (.par [(2, true), (3, false)] (.cons (.blt .lrng (.cons (.loc 1) .nil)) (.cons (.tup .nil) .nil)))
  (.cons (.whl (.cmp .ne (.bor 2) (.lst .nil)) (.cons (.asg (.v 3) (.bin .add (.loc 3) (.tup (.cons (.pop 2 (.cons (.call 19 true false (.cons (.bor 0) (.cons (.blt .len (.cons (.bor 2) .nil)) .nil))) .nil)) .nil))))
  .nil))
  (.cons (.ret (.loc 3))
  .nil)))⟩
def c__law_behind : Fn := ⟨2, 4, false, false, (.cons (.asO 2 (.blt .list (.cons (.loc 0) .nil)))
  (.cons (.for_ (.v 3) (.loc 1) (.cons (.swp 2 (.loc 3) 2 (.bin .add (.loc 3) (.cst (.int 1))) (.cons (.sub (.loc 0) (.bin .add (.loc 3) (.cst (.int 1)))) (.cons (.sub (.loc 0) (.loc 3)) .nil)))
  .nil))
  (.cons (.ret (.blt .tuple (.cons (.bor 2) .nil)))
  .nil)))⟩
def c__law_rung : Fn := ⟨2, 4, false, false, (.cons (.asO 2 (.lst (.cons (.loc 0) .nil)))
  (.cons (.for_ (.v 3) (.loc 1) (.cons (.app 2 (.call 25 false false (.cons (.sub (.bor 2) (.neg (.cst (.int 1)))) (.cons (.loc 3) .nil))))
  .nil))
  (.cons (.ret (.sli (.bor 2) (.cst (.int 1)) .nil))
  .nil)))⟩
def c__law_led : Fn := ⟨2, 2, false, false, (.cons (.ret (.sub (.call 26 false false (.cons (.loc 0) (.cons (.loc 1) .nil))) (.neg (.cst (.int 1)))))
  .nil)⟩
def c__law_rounds : Fn := ⟨1, 1, false, false, (.cons (.ret (.blt .ltup (.cons (.loc 0) .nil)))
  .nil)⟩
def c__law_bent_change : Fn := ⟨2, 5, true, false, (.cons (.asg (.v 2) (.call 20 true false (.cons (.bor 0) (.cons (.lst (.cons (.neg (.cst (.int 1))) (.cons (.cst (.int 0)) (.cons (.cst (.int 1)) (.cons (.cst (.int 2)) (.cons (.cst (.int 3)) (.cons (.cst (.int 4)) (.cons (.cst (.int 5)) (.cons (.cst .non) (.cons (.cst (.bl true)) (.cons (.cst (.str [48])) (.cons (.tup (.cons (.cst (.int 0)) .nil)) .nil)))))))))))) .nil))))
  (.cons (.asg (.v 3) (.call 19 true false (.cons (.bor 0) (.cons (.bin .add (.blt .len (.cons (.loc 1) .nil)) (.cst (.int 1))) .nil))))
  (.cons (.asg (.v 4) (.lst (.cons (.bin .add (.bin .add (.sli (.loc 1) .nil (.loc 3)) (.tup (.cons (.loc 2) .nil))) (.sli (.loc 1) (.bin .add (.loc 3) (.cst (.int 1))) .nil)) (.cons (.bin .add (.bin .add (.sli (.loc 1) .nil (.loc 3)) (.tup (.cons (.loc 2) .nil))) (.sli (.loc 1) (.loc 3) .nil)) (.cons (.rev (.loc 1)) (.cons (.blt .list (.cons (.loc 1) .nil)) (.cons (.sli (.loc 1) (.cst (.int 1)) .nil) (.cons (.loc 2) (.cons (.bin .add (.loc 1) (.loc 1)) .nil)))))))))
  (.cons (.ret (.call 20 true false (.cons (.bor 0) (.cons (.loc 4) .nil))))
  .nil))))⟩
def c__law_bent_lead : Fn := ⟨2, 4, true, false, (.cons (.asg (.v 2) (.call 19 true false (.cons (.bor 0) (.cons (.blt .len (.cons (.loc 1) .nil)) .nil))))
  (.cons (.asg (.v 3) (.bin .add (.bin .add (.sli (.loc 1) .nil (.loc 2)) (.tup (.cons (.call 29 true false (.cons (.bor 0) (.cons (.sub (.loc 1) (.loc 2)) .nil))) .nil))) (.sli (.loc 1) (.bin .add (.loc 2) (.cst (.int 1))) .nil)))
  (.cons (.ret (.call 20 true false (.cons (.bor 0) (.cons (.lst (.cons (.loc 3) (.cons (.loc 3) (.cons (.loc 3) (.cons (.bin .add (.sli (.loc 1) .nil (.loc 2)) (.sli (.loc 1) (.bin .add (.loc 2) (.cst (.int 1))) .nil)) (.cons (.blt .list (.cons (.loc 1) .nil)) (.cons (.bin .mul (.loc 1) (.cst (.int 9))) (.cons (.cst .non) (.cons (.tup .nil) (.cons (.sub (.loc 1) (.loc 2)) .nil)))))))))) .nil))))
  .nil)))⟩
def c__law_are_whole : Fn := ⟨3, 4, false, false, (.cons (.ite (.not (.isi (.loc 0) .tuple)) (.cons (.ret (.cst (.bl false)))
  .nil) .nil)
  (.cons (.ret (.cmp .eq (.lc [3] (.v 3) (.loc 0) (.or (.isi (.loc 3) .bool) (.or (.not (.isi (.loc 3) .int)) (.not (.chn .le .le (.loc 1) (.loc 3) (.loc 2))))) (.cst (.int 1))) (.lst .nil)))
  .nil))⟩
def c__law_is_change : Fn := ⟨2, 3, false, false, (.cons (.ite (.not (.call 31 false false (.cons (.loc 1) (.cons (.cst (.int 0)) (.cons (.bin .sub (.loc 0) (.cst (.int 2))) .nil))))) (.cons (.ret (.cst (.bl false)))
  .nil) .nil)
  (.cons (.ret (.cmp .eq (.lc [2] (.v 2) (.rng (.cons (.cst (.int 1)) (.cons (.blt .len (.cons (.loc 1) .nil)) .nil))) (.cmp .lt (.sub (.loc 1) (.loc 2)) (.bin .add (.sub (.loc 1) (.bin .sub (.loc 2) (.cst (.int 1)))) (.cst (.int 2)))) (.cst (.int 1))) (.lst .nil)))
  .nil))⟩
def c__law_is_lead : Fn := ⟨2, 3, false, false, (.cons (.ite (.or (.not (.isi (.loc 1) .tuple)) (.not (.chn .le .le (.cst (.int 1)) (.blt .len (.cons (.loc 1) .nil)) (.cst (.int 24))))) (.cons (.ret (.cst (.bl false)))
  .nil) .nil)
  (.cons (.ret (.cmp .eq (.lc [2] (.v 2) (.loc 1) (.not (.call 32 false false (.cons (.loc 0) (.cons (.loc 2) .nil)))) (.cst (.int 1))) (.lst .nil)))
  .nil))⟩
def c__law_refusal : Fn := ⟨2, 2, false, false, (.cons (.ite (.cmp .eq (.loc 0) (.cst (.int 0))) (.cons (.ret (.cst (.str []))) .nil) .nil)
  (.cons (.ite (.cmp .eq (.loc 0) (.cst (.int 1))) (.cons (.ret (.cst (.str [98, 101, 108, 108, 115]))) .nil) .nil)
  (.cons (.ite (.cmp .eq (.loc 0) (.cst (.int 2))) (.cons (.ret (.cst (.str [114, 111, 119]))) .nil) .nil)
  (.cons (.ite (.cmp .eq (.loc 0) (.cst (.int 3))) (.cons (.ret (.cst (.str [108, 101, 97, 100]))) .nil) .nil)
  (.cons (.exp (.neg (.cst .non))) .nil)))))⟩
def c__law_right : Fn := ⟨2, 11, true, false, (.cons (.asg (.tu (.cons (.v 6) (.cons (.v 7) .nil))) (.tup (.cons (.call 23 true false (.cons (.bor 0) (.cons (.loc 1) (.cons (.cst (.int 8)) .nil)))) (.cons (.call 24 true false (.cons (.bor 0) (.cons (.loc 1) .nil))) .nil))))
  (.cons (.asg (.v 2) (.call 26 false false (.cons (.loc 7) (.cons (.loc 6) .nil))))
  (.cons (.ite (.or (.cmp .nis (.call 14 false false (.cons (.loc 1) (.cons (.loc 6) .nil))) (.cst (.bl true))) (.or (.cmp .ne (.call 15 false false (.cons (.loc 7) (.cons (.loc 6) .nil))) (.loc 2)) (.cmp .ne (.call 16 false false (.cons (.loc 7) (.cons (.loc 6) .nil))) (.sub (.loc 2) (.neg (.cst (.int 1))))))) (.cons (.ret (.cst (.bl false)))
  .nil) .nil)
  (.cons (.asg (.v 3) (.call 17 false false (.cons (.loc 1) (.cons (.loc 6) .nil))))
  (.cons (.ite (.or (.cmp .ne (.loc 3) (.call 27 false false (.cons (.call 28 false false (.cons (.loc 1) .nil)) (.cons (.loc 6) .nil)))) (.cmp .ne (.call 9 false false (.cons (.loc 7) (.cons (.loc 3) .nil))) (.sub (.loc 2) (.neg (.cst (.int 1)))))) (.cons (.ret (.cst (.bl false)))
  .nil) .nil)
  (.cons (.ite (.cmp .ne (.lc [10] (.v 10) (.call 15 false false (.cons (.call 28 false false (.cons (.loc 1) .nil)) (.cons (.loc 6) .nil))) .nil (.call 9 false false (.cons (.loc 7) (.cons (.loc 10) .nil)))) (.loc 2)) (.cons (.ret (.cst (.bl false)))
  .nil) .nil)
  (.cons (.asg (.v 4) (.call 23 true false (.cons (.bor 0) (.cons (.loc 1) (.cons (.cst (.int 8)) .nil)))))
  (.cons (.ite (.cmp .ne (.call 17 false false (.cons (.loc 1) (.cons (.bin .add (.loc 6) (.loc 4)) .nil))) (.call 9 false false (.cons (.loc 3) (.cons (.call 17 false false (.cons (.loc 1) (.cons (.loc 4) .nil))) .nil)))) (.cons (.ret (.cst (.bl false)))
  .nil) .nil)
  (.cons (.ite (.cmp .ne (.call 9 false false (.cons (.loc 3) (.cons (.call 17 false false (.cons (.loc 1) (.cons (.rev (.loc 6)) .nil))) .nil))) (.call 28 false false (.cons (.loc 1) .nil))) (.cons (.ret (.cst (.bl false)))
  .nil) .nil)
  (.cons (.for_ (.v 5) (.rng (.cons (.cst (.int 2)) .nil)) (.cons (.asg (.v 8) (.call 30 true false (.cons (.bor 0) (.cons (.loc 6) .nil))))
  (.cons (.asg (.v 9) (.call 14 false false (.cons (.loc 1) (.cons (.loc 8) .nil))))
  (.cons (.ite (.or (.not (.isi (.loc 9) .bool)) (.cmp .ne (.loc 9) (.call 33 false false (.cons (.loc 1) (.cons (.loc 8) .nil))))) (.cons (.ret (.cst (.bl false)))
  .nil) .nil)
  .nil))))
  (.cons (.ret (.cst (.bl true)))
  .nil)))))))))))⟩
def c_law : Fn := ⟨1, 6, false, false, (.cons (.asO 1 (.call 18 false true (.cons (.loc 0) .nil)))
  (.cons (.for_ (.v 2) (.tup (.cons (.cst (.int 2)) (.cons (.cst (.int 3)) (.cons (.cst (.int 4)) (.cons (.cst (.int 5)) (.cons (.cst (.int 6)) .nil)))))) (.cons (.ite (.not (.call 35 true false (.cons (.bor 1) (.cons (.loc 2) .nil)))) (.cons (.ret (.cst (.bl false)))
  .nil) .nil)
  .nil))
  (.cons (.asg (.v 3) (.tup (.cons (.tup (.cons (.cst (.int 0)) .nil)) (.cons (.tup (.cons (.cst (.int 1)) .nil)) .nil))))
  (.cons (.ite (.or (.cmp .ne (.call 15 false false (.cons (.tup (.cons (.cst (.int 0)) (.cons (.cst (.int 1)) (.cons (.cst (.int 2)) .nil)))) (.cons (.loc 3) .nil))) (.lst (.cons (.tup (.cons (.cst (.int 1)) (.cons (.cst (.int 0)) (.cons (.cst (.int 2)) .nil)))) (.cons (.tup (.cons (.cst (.int 1)) (.cons (.cst (.int 2)) (.cons (.cst (.int 0)) .nil)))) .nil)))) (.or (.cmp .ne (.call 16 false false (.cons (.tup (.cons (.cst (.int 2)) (.cons (.cst (.int 0)) (.cons (.cst (.int 1)) .nil)))) (.cons (.loc 3) .nil))) (.tup (.cons (.cst (.int 0)) (.cons (.cst (.int 1)) (.cons (.cst (.int 2)) .nil))))) (.cmp .ne (.call 17 false false (.cons (.cst (.int 3)) (.cons (.loc 3) .nil))) (.tup (.cons (.cst (.int 1)) (.cons (.cst (.int 2)) (.cons (.cst (.int 0)) .nil))))))) (.cons (.ret (.cst (.bl false)))
  .nil) .nil)
  (.cons (.ite (.or (.cmp .ne (.call 16 false false (.cons (.tup (.cons (.cst (.int 0)) (.cons (.cst (.int 1)) (.cons (.cst (.int 2)) (.cons (.cst (.int 3)) .nil))))) (.cons (.tup (.cons (.tup (.cons (.cst (.int 0)) (.cons (.cst (.int 2)) .nil))) .nil)) .nil))) (.tup (.cons (.cst (.int 1)) (.cons (.cst (.int 0)) (.cons (.cst (.int 3)) (.cons (.cst (.int 2)) .nil)))))) (.cmp .ne (.call 15 false false (.cons (.tup (.cons (.cst (.int 3)) (.cons (.cst (.int 2)) (.cons (.cst (.int 1)) (.cons (.cst (.int 0)) .nil))))) (.cons (.tup (.cons (.tup (.cons (.cst (.int 0)) (.cons (.cst (.int 2)) .nil))) (.cons (.tup .nil) .nil))) .nil))) (.bin .mul (.lst (.cons (.tup (.cons (.cst (.int 2)) (.cons (.cst (.int 3)) (.cons (.cst (.int 0)) (.cons (.cst (.int 1)) .nil))))) .nil)) (.cst (.int 2))))) (.cons (.ret (.cst (.bl false)))
  .nil) .nil)
  (.cons (.ite (.or (.cmp .nis (.call 14 false false (.cons (.cst (.int 2)) (.cons (.bin .mul (.tup (.cons (.tup .nil) .nil)) (.cst (.int 24))) .nil))) (.cst (.bl true))) (.or (.cmp .nis (.call 14 false false (.cons (.cst (.int 2)) (.cons (.bin .mul (.tup (.cons (.tup .nil) .nil)) (.cst (.int 25))) .nil))) (.cst (.bl false))) (.or (.cmp .nis (.call 14 false false (.cons (.cst (.int 3)) (.cons (.tup (.cons (.tup (.cons (.cst (.int 2)) .nil)) .nil)) .nil))) (.cst (.bl false))) (.cmp .nis (.call 14 false false (.cons (.cst (.int 4)) (.cons (.tup (.cons (.tup (.cons (.cst (.int 2)) .nil)) .nil)) .nil))) (.cst (.bl true)))))) (.cons (.ret (.cst (.bl false)))
  .nil) .nil)
  (.cons (.for_ (.v 4) (.tup (.cons (.cst .non) (.cons (.tup .nil) (.cons (.tup (.cons (.tup (.cons (.cst (.int 0)) (.cons (.cst (.int 1)) .nil))) .nil)) (.cons (.lst (.cons (.tup (.cons (.cst (.int 0)) .nil)) .nil)) (.cons (.tup (.cons (.cst (.int 0)) .nil)) (.cons (.tup (.cons (.tup (.cons (.cst (.int 2)) .nil)) .nil)) (.cons (.tup (.cons (.tup (.cons (.cst (.bl true)) .nil)) .nil)) (.cons (.bin .mul (.tup (.cons (.tup (.cons (.cst (.int 0)) .nil)) .nil)) (.cst (.int 25))) .nil))))))))) (.cons (.asO 5 (.lst (.cons (.tri 34 (.call 15 false false (.cons (.tup (.cons (.cst (.int 0)) (.cons (.cst (.int 1)) (.cons (.cst (.int 2)) .nil)))) (.cons (.loc 4) .nil)))) .nil)))
  (.cons (.app 5 (.tri 34 (.call 16 false false (.cons (.tup (.cons (.cst (.int 0)) (.cons (.cst (.int 1)) (.cons (.cst (.int 2)) .nil)))) (.cons (.loc 4) .nil)))))
  (.cons (.app 5 (.tri 34 (.call 17 false false (.cons (.cst (.int 3)) (.cons (.loc 4) .nil)))))
  (.cons (.ite (.or (.cmp .ne (.bor 5) (.bin .mul (.lst (.cons (.cst (.str [108, 101, 97, 100])) .nil)) (.cst (.int 3)))) (.cmp .nis (.call 14 false false (.cons (.cst (.int 3)) (.cons (.loc 4) .nil))) (.cst (.bl false)))) (.cons (.ret (.cst (.bl false)))
  .nil) .nil)
  .nil)))))
  (.cons (.for_ (.v 4) (.tup (.cons (.cst .non) (.cons (.tup (.cons (.cst (.int 0)) .nil)) (.cons (.tup (.cons (.cst (.int 0)) (.cons (.cst (.int 2)) .nil))) (.cons (.tup (.cons (.cst (.int 0)) (.cons (.cst (.int 1)) (.cons (.cst (.int 1)) .nil)))) .nil))))) (.cons (.asO 5 (.lst (.cons (.tri 34 (.call 15 false false (.cons (.loc 4) (.cons (.cst .non) .nil)))) .nil)))
  (.cons (.app 5 (.tri 34 (.call 16 false false (.cons (.loc 4) (.cons (.cst .non) .nil)))))
  (.cons (.ite (.cmp .ne (.bor 5) (.bin .mul (.lst (.cons (.cst (.str [114, 111, 119])) .nil)) (.cst (.int 2)))) (.cons (.ret (.cst (.bl false)))
  .nil) .nil)
  .nil))))
  (.cons (.asO 5 (.lst (.cons (.tri 34 (.call 17 false false (.cons (.cst (.int 1)) (.cons (.cst .non) .nil)))) .nil)))
  (.cons (.app 5 (.tri 34 (.call 14 false false (.cons (.cst (.int 7)) (.cons (.loc 3) .nil)))))
  (.cons (.ret (.cmp .eq (.bor 5) (.bin .mul (.lst (.cons (.cst (.str [98, 101, 108, 108, 115])) .nil)) (.cst (.int 2)))))
  .nil)))))))))))⟩
def fs : List Fn := [c_is_whole, c_is_tuple_of, c_fits_row, c_fits_change, c_rounds_of, c_changed, c_acted, c_need_bells, c_need_row, c_followed_by, c_fits_lead, c_need_lead, c_rows_by, c_acting, c_is_lead, c_rows_rung, c_led_to, c_acting_row, c__law_cup, c__law_roll, c__law_some, c__law_changes, c__law_change, c__law_lead, c__law_row, c__law_behind, c__law_rung, c__law_led, c__law_rounds, c__law_bent_change, c__law_bent_lead, c__law_are_whole, c__law_is_change, c__law_is_lead, c__law_refusal, c__law_right, c_law]
end Lw
end
section
set_option autoImplicit false
set_option linter.all false
set_option maxRecDepth 100000
set_option maxHeartbeats 0
namespace Lw
open Py
def s_is_whole (v_value v_low v_high : D) : R D :=
  (isiR .int v_value).bind fun x1 =>
  (boolR x1).bind fun c2 =>
  (if c2 = true then (isiR .bool v_value).bind fun x3 =>
    (boolR x3).bind fun c4 =>
    (if (!c4) = true then (cmpD .le v_low v_value).bind fun c5 =>
      (if c5 = true then cmpD .le v_value v_high else .ok false : R _).bind fun c6 =>
      .ok c6 else .ok false : R _).bind fun c7 =>
    .ok c7 else .ok false : R _).bind fun c8 =>
  .ok (.bl c8)
def s_is_tuple_of (v_value v_low v_high : D) : R D :=
  (isiR .tuple v_value).bind fun x1 =>
  (boolR x1).bind fun c2 =>
  (if c2 = true then (bltD .len [v_value]).bind fun x3 =>
    (cmpD .le v_low x3).bind fun c4 =>
    (if c4 = true then cmpD .le x3 v_high else .ok false : R _).bind fun c5 =>
    .ok c5 else .ok false : R _).bind fun c6 =>
  .ok (.bl c6)
def s_fits_row (v_value v_low v_high : D) : R D :=
  (s_is_tuple_of v_value v_low v_high).bind fun r1 =>
  (boolR r1).bind fun c2 =>
  (if (!c2) = true then .ok true else (items v_value).bind fun l3 =>
    (mapR (fun d4 => (bltD .len [v_value]).bind fun x5 =>
      (binD .sub x5 (.int 1)).bind fun x6 =>
      (s_is_whole d4 (.int 0) x6).bind fun r7 =>
      .ok r7) l3).bind fun l8 =>
    (szR l8.length).bind fun u9 =>
    (bltD .all [(.lst l8)]).bind fun x10 =>
    (boolR x10).bind fun c11 =>
    .ok (!c11) : R _).bind fun c12 =>
  if c12 = true then .ok (.bl false) else
  (bltD .set [v_value]).bind fun x13 =>
  (bltD .len [x13]).bind fun x14 =>
  (bltD .len [v_value]).bind fun x15 =>
  (cmpD .eq x14 x15).bind fun c16 =>
  .ok (.bl c16)
def s_fits_change (v_bells v_value : D) : R D :=
  (isiR .tuple v_value).bind fun x1 =>
  (boolR x1).bind fun c2 =>
  (if (!c2) = true then .ok true else (items v_value).bind fun l3 =>
    (mapR (fun d4 => (binD .sub v_bells (.int 2)).bind fun x5 =>
      (s_is_whole d4 (.int 0) x5).bind fun r6 =>
      .ok r6) l3).bind fun l7 =>
    (szR l7.length).bind fun u8 =>
    (bltD .all [(.lst l7)]).bind fun x9 =>
    (boolR x9).bind fun c10 =>
    .ok (!c10) : R _).bind fun c11 =>
  if c11 = true then .ok (.bl false) else
  (partR (.loc 0) (.int 1)).bind fun o12 =>
  (slD v_value o12 none).bind fun x13 =>
  (zipD (.lst [v_value, x13])).bind fun l14 =>
  (mapR (fun d15 => (unTn 2 d15).bind fun l16 =>
    (binD .add (l16.getD 0 .non) (.int 1)).bind fun x17 =>
    (cmpD .lt x17 (l16.getD 1 .non)).bind fun c18 =>
    .ok (.bl c18)) l14).bind fun l19 =>
  (szR l19.length).bind fun u20 =>
  (bltD .all [(.lst l19)]).bind fun x21 =>
  .ok x21
def s_rounds_of (v_bells : D) : R D :=
  (bltD .ltup [v_bells]).bind fun x1 =>
  .ok x1
def s_changed (v_row v_change : D) : R D :=
  (items v_change).bind fun l1 =>
  (foldR (fun d2 s3 =>
      (partR (.loc 0) d2).bind fun o5 =>
    (slD (s3.getD 0 .non) none o5).bind fun x6 =>
    (binD .add d2 (.int 1)).bind fun x7 =>
    (subsD (s3.getD 0 .non) x7).bind fun x8 =>
    (subsD (s3.getD 0 .non) d2).bind fun x9 =>
    (binD .add x6 (.tup [x8, x9])).bind fun x10 =>
    (binD .add d2 (.int 2)).bind fun x11 =>
    (partR (.loc 0) x11).bind fun o12 =>
    (slD (s3.getD 0 .non) o12 none).bind fun x13 =>
    (binD .add x10 x13).bind fun x14 =>
    .ok [x14]) l1 [v_row]).bind fun s15 =>
  .ok (s15.getD 0 .non)
def s_acted (v_row v_other : D) : R D :=
  (items v_other).bind fun l1 =>
  (mapR (fun d2 => (subsD v_row d2).bind fun x3 =>
    .ok x3) l1).bind fun l4 =>
  (szR l4.length).bind fun u5 =>
  .ok (.tup l4)
def s_need_bells (v_value : D) : R D :=
  (s_is_whole v_value (.int 2) (.int 6)).bind fun r1 =>
  (boolR r1).bind fun c2 =>
  if (!c2) = true then .exc 0 (.lst []) else
  .ok .non
def s_need_row (v_value v_low v_high : D) : R D :=
  (s_fits_row v_value v_low v_high).bind fun r1 =>
  (boolR r1).bind fun c2 =>
  if (!c2) = true then .exc 1 (.lst []) else
  .ok .non
def s_followed_by (v_row v_other : D) : R D :=
  (s_need_row v_row (.int 2) (.int 6)).bind fun r1 =>
  (bltD .len [v_row]).bind fun x2 =>
  (bltD .len [v_row]).bind fun x3 =>
  (s_need_row v_other x2 x3).bind fun r4 =>
  (s_acted v_row v_other).bind fun r5 =>
  .ok r5
def s_fits_lead (v_bells v_value : D) : R D :=
  (s_is_tuple_of v_value (.int 1) (.int 24)).bind fun r1 =>
  (boolR r1).bind fun c2 =>
  (if c2 = true then (items v_value).bind fun l3 =>
    (mapR (fun d4 => (s_fits_change v_bells d4).bind fun r5 =>
      .ok r5) l3).bind fun l6 =>
    (szR l6.length).bind fun u7 =>
    (bltD .all [(.lst l6)]).bind fun x8 =>
    boolR x8 else .ok false : R _).bind fun c9 =>
  .ok (.bl c9)
def s_need_lead (v_bells v_value : D) : R D :=
  (s_fits_lead v_bells v_value).bind fun r1 =>
  (boolR r1).bind fun c2 =>
  if (!c2) = true then .exc 2 (.lst []) else
  .ok .non
def s_rows_by (v_row v_lead : D) : R D :=
  (items v_lead).bind fun l1 =>
  (foldR (fun d2 s3 =>
      (s_changed (s3.getD 0 .non) d2).bind fun r5 =>
    (binD .add (s3.getD 1 .non) (.lst [r5])).bind fun x6 =>
    .ok [r5, x6]) l1 [v_row, (.lst [])]).bind fun s7 =>
  .ok (s7.getD 1 .non)
def s_acting (v_bells v_lead : D) : R D :=
  (s_rounds_of v_bells).bind fun r1 =>
  (s_rows_by r1 v_lead).bind fun r2 =>
  (negR (.int 1)).bind fun x3 =>
  (subsD r2 x3).bind fun x4 =>
  .ok x4
def s_is_lead (v_bells v_value : D) : R D :=
  (s_need_bells v_bells).bind fun r1 =>
  (s_fits_lead v_bells v_value).bind fun r2 =>
  .ok r2
def s_rows_rung (v_row v_lead : D) : R D :=
  (s_need_row v_row (.int 2) (.int 6)).bind fun r1 =>
  (bltD .len [v_row]).bind fun x2 =>
  (s_need_lead x2 v_lead).bind fun r3 =>
  (s_rows_by v_row v_lead).bind fun r4 =>
  .ok r4
def s_led_to (v_row v_lead : D) : R D :=
  (s_need_row v_row (.int 2) (.int 6)).bind fun r1 =>
  (bltD .len [v_row]).bind fun x2 =>
  (s_need_lead x2 v_lead).bind fun r3 =>
  (s_rows_by v_row v_lead).bind fun r4 =>
  (negR (.int 1)).bind fun x5 =>
  (subsD r4 x5).bind fun x6 =>
  .ok x6
def s_acting_row (v_bells v_lead : D) : R D :=
  (s_need_bells v_bells).bind fun r1 =>
  (s_need_lead v_bells v_lead).bind fun r2 =>
  (s_acting v_bells v_lead).bind fun r3 =>
  .ok r3
def s__law_cup (v__law_script : D) : R D :=
  (bltD .list [v__law_script]).bind fun x1 =>
  (binD .add x1 (.lst [(.int 0)])).bind fun x2 =>
  (subsD x2 (.int 0)).bind fun x3 =>
  (bltD .abs [x3]).bind fun x4 =>
  (binD .pow (.int 10) (.int 18)).bind fun x5 =>
  (cmpD .ge x4 x5).bind fun c6 =>
  (if c6 = true then (binD .div x4 (.int 29)).bind fun x7 =>
    .ok x7 else .ok (.int 0) : R _).bind fun x8 =>
  (binD .mul x4 (.int 229)).bind fun x9 =>
  (binD .add x9 (.int 1709)).bind fun x10 =>
  (bltD .int [x10]).bind fun x11 =>
  (binD .mod x11 (.int 2077503719)).bind fun x12 =>
  (binD .add x12 (.int 109)).bind fun x13 =>
  .ok (.lst [x8, x13])
def s__law_roll (v__law_cup_here v__law_many : D) : R (D × D) :=
  (subsD v__law_cup_here (.int 0)).bind fun x1 =>
  (cmpD .gt x1 (.int 0)).bind fun c2 =>
  if c2 = true then (subsD v__law_cup_here (.int 0)).bind fun x3 =>
    (bltD .int [x3]).bind fun x4 =>
    (binD .mod x4 v__law_many).bind fun x5 =>
    (subsD v__law_cup_here (.int 0)).bind fun x6 =>
    (binD .div x6 v__law_many).bind fun x7 =>
    (setD v__law_cup_here (.int 0) x7).bind fun x8 =>
    .ok (x5, x8) else
  (subsD v__law_cup_here (.int 1)).bind fun x9 =>
  (binD .mul x9 (.int 30911)).bind fun x10 =>
  (binD .add x10 (.int 7901)).bind fun x11 =>
  (bltD .int [x11]).bind fun x12 =>
  (binD .mod x12 (.int 2147483423)).bind fun x13 =>
  (setD v__law_cup_here (.int 1) x13).bind fun x14 =>
  (subsD x14 (.int 1)).bind fun x15 =>
  (subsD x14 (.int 1)).bind fun x16 =>
  (binD .add x16 (.int 179)).bind fun x17 =>
  (binD .mul x15 x17).bind fun x18 =>
  (bltD .int [x18]).bind fun x19 =>
  (binD .mod x19 (.int 2147483587)).bind fun x20 =>
  (binD .div x20 (.int 751)).bind fun x21 =>
  (bltD .int [x21]).bind fun x22 =>
  (binD .mod x22 v__law_many).bind fun x23 =>
  .ok (x23, x14)
def s__law_some (v__law_cup_here v__law_things : D) : R (D × D) :=
  (bltD .len [v__law_things]).bind fun x1 =>
  (s__law_roll v__law_cup_here x1).bind fun r2 =>
  (subsD v__law_things r2.1).bind fun x3 =>
  .ok (x3, r2.2)
def s__law_changes (v__law_bells : D) : R D :=
  (binD .sub v__law_bells (.int 1)).bind fun x1 =>
  (rngD [x1]).bind fun l2 =>
  (foldR (fun d3 s4 =>
      (items (s4.getD 0 .non)).bind fun l6 =>
    (filtR (fun d7 => (cmpD .eq d7 (.tup [])).bind fun c8 =>
      (if c8 = true then .ok true else (negR (.int 1)).bind fun x9 =>
        (subsD d7 x9).bind fun x10 =>
        (binD .sub d3 (.int 1)).bind fun x11 =>
        (cmpD .lt x10 x11).bind fun c12 =>
        .ok c12 : R _).bind fun c13 =>
      if c13 = true then (binD .add d7 (.tup [d3])).bind fun x14 =>
        .ok (some x14) else .ok none) l6).bind fun l15 =>
    (szR l15.length).bind fun u16 =>
    (binD .add (s4.getD 0 .non) (.lst l15)).bind fun x17 =>
    .ok [x17]) l2 [(.lst [(.tup [])])]).bind fun s18 =>
  (bltD .sorted [(s18.getD 0 .non)]).bind fun x19 =>
  .ok x19
def s__law_change (v__law_cup_here v__law_bells : D) : R (D × D) :=
  (s__law_changes v__law_bells).bind fun r1 =>
  (partR (.loc 0) (.int 1)).bind fun o2 =>
  (slD r1 o2 none).bind fun x3 =>
  (binD .mul x3 (.int 3)).bind fun x4 =>
  (binD .add x4 r1).bind fun x5 =>
  (s__law_some v__law_cup_here x5).bind fun r6 =>
  .ok (r6.1, r6.2)
def s__law_lead (v__law_cup_here v__law_bells v__law_most : D) : R (D × D) :=
  (s__law_roll v__law_cup_here v__law_most).bind fun r1 =>
  (binD .add (.int 1) r1.1).bind fun x2 =>
  (rngD [x2]).bind fun l3 =>
  (mapS (fun d4 s5 => (s__law_change (s5.getD 0 .non) v__law_bells).bind fun r6 =>
    .ok (some r6.1, [r6.2])) l3 [r1.2]).bind fun r7 =>
  (szR r7.1.length).bind fun u8 =>
  .ok ((.tup r7.1), (r7.2.getD 0 .non))
def s__law_row (v__law_cup_here v__law_bells : D) : R (D × D) :=
  (bltD .lrng [v__law_bells]).bind fun x1 =>
  (contR x1).bind fun u2 =>
  (whileR (fun s3 => (cmpD .ne (s3.getD 1 .non) (.lst [])).bind fun c6 =>
    .ok c6)
    (fun s4 => (unL (s4.getD 1 .non)).bind fun u7 =>
    (bltD .len [(s4.getD 1 .non)]).bind fun x8 =>
    (s__law_roll (s4.getD 0 .non) x8).bind fun r9 =>
    (popD (s4.getD 1 .non) [r9.1]).bind fun r10 =>
    (binD .add (s4.getD 2 .non) (.tup [r10.1])).bind fun x11 =>
    .ok [r9.2, r10.2, x11]) FUEL [v__law_cup_here, x1, (.tup [])]).bind fun s12 =>
  .ok ((s12.getD 2 .non), (s12.getD 0 .non))
def s__law_behind (v__law_row_here v__law_change_here : D) : R D :=
  (bltD .list [v__law_row_here]).bind fun x1 =>
  (contR x1).bind fun u2 =>
  (items v__law_change_here).bind fun l3 =>
  (foldR (fun d4 s5 =>
      (binD .add d4 (.int 1)).bind fun x7 =>
    (subsD v__law_row_here x7).bind fun x8 =>
    (subsD v__law_row_here d4).bind fun x9 =>
    (setD (s5.getD 0 .non) d4 x8).bind fun x10 =>
    (binD .add d4 (.int 1)).bind fun x11 =>
    (setD x10 x11 x9).bind fun x12 =>
    .ok [x12]) l3 [x1]).bind fun s13 =>
  (bltD .tuple [(s13.getD 0 .non)]).bind fun x14 =>
  .ok x14
def s__law_rung (v__law_row_here v__law_lead_here : D) : R D :=
  (items v__law_lead_here).bind fun l1 =>
  (foldR (fun d2 s3 =>
      (unL (s3.getD 0 .non)).bind fun u5 =>
    (negR (.int 1)).bind fun x6 =>
    (subsD (s3.getD 0 .non) x6).bind fun x7 =>
    (s__law_behind x7 d2).bind fun r8 =>
    (unL (s3.getD 0 .non)).bind fun l9 =>
    (szR (l9.length + 1)).bind fun u10 =>
    .ok [(.lst (l9 ++ [r8]))]) l1 [(.lst [v__law_row_here])]).bind fun s11 =>
  (partR (.loc 0) (.int 1)).bind fun o12 =>
  (slD (s11.getD 0 .non) o12 none).bind fun x13 =>
  .ok x13
def s__law_led (v__law_row_here v__law_lead_here : D) : R D :=
  (s__law_rung v__law_row_here v__law_lead_here).bind fun r1 =>
  (negR (.int 1)).bind fun x2 =>
  (subsD r1 x2).bind fun x3 =>
  .ok x3
def s__law_rounds (v__law_bells : D) : R D :=
  (bltD .ltup [v__law_bells]).bind fun x1 =>
  .ok x1
def s__law_bent_change (v__law_cup_here v__law_change_here : D) : R (D × D) :=
  (negR (.int 1)).bind fun x1 =>
  (s__law_some v__law_cup_here (.lst [x1, (.int 0), (.int 1), (.int 2), (.int 3), (.int 4), (.int 5), .non, (.bl true), (.str [48]), (.tup [(.int 0)])])).bind fun r2 =>
  (bltD .len [v__law_change_here]).bind fun x3 =>
  (binD .add x3 (.int 1)).bind fun x4 =>
  (s__law_roll r2.2 x4).bind fun r5 =>
  (partR (.loc 0) r5.1).bind fun o6 =>
  (slD v__law_change_here none o6).bind fun x7 =>
  (binD .add x7 (.tup [r2.1])).bind fun x8 =>
  (binD .add r5.1 (.int 1)).bind fun x9 =>
  (partR (.loc 0) x9).bind fun o10 =>
  (slD v__law_change_here o10 none).bind fun x11 =>
  (binD .add x8 x11).bind fun x12 =>
  (partR (.loc 0) r5.1).bind fun o13 =>
  (slD v__law_change_here none o13).bind fun x14 =>
  (binD .add x14 (.tup [r2.1])).bind fun x15 =>
  (partR (.loc 0) r5.1).bind fun o16 =>
  (slD v__law_change_here o16 none).bind fun x17 =>
  (binD .add x15 x17).bind fun x18 =>
  (revD v__law_change_here).bind fun x19 =>
  (bltD .list [v__law_change_here]).bind fun x20 =>
  (partR (.loc 0) (.int 1)).bind fun o21 =>
  (slD v__law_change_here o21 none).bind fun x22 =>
  (binD .add v__law_change_here v__law_change_here).bind fun x23 =>
  (s__law_some r5.2 (.lst [x12, x18, x19, x20, x22, r2.1, x23])).bind fun r24 =>
  .ok (r24.1, r24.2)
def s__law_bent_lead (v__law_cup_here v__law_lead_here : D) : R (D × D) :=
  (bltD .len [v__law_lead_here]).bind fun x1 =>
  (s__law_roll v__law_cup_here x1).bind fun r2 =>
  (partR (.loc 0) r2.1).bind fun o3 =>
  (slD v__law_lead_here none o3).bind fun x4 =>
  (subsD v__law_lead_here r2.1).bind fun x5 =>
  (s__law_bent_change r2.2 x5).bind fun r6 =>
  (binD .add x4 (.tup [r6.1])).bind fun x7 =>
  (binD .add r2.1 (.int 1)).bind fun x8 =>
  (partR (.loc 0) x8).bind fun o9 =>
  (slD v__law_lead_here o9 none).bind fun x10 =>
  (binD .add x7 x10).bind fun x11 =>
  (partR (.loc 0) r2.1).bind fun o12 =>
  (slD v__law_lead_here none o12).bind fun x13 =>
  (binD .add r2.1 (.int 1)).bind fun x14 =>
  (partR (.loc 0) x14).bind fun o15 =>
  (slD v__law_lead_here o15 none).bind fun x16 =>
  (binD .add x13 x16).bind fun x17 =>
  (bltD .list [v__law_lead_here]).bind fun x18 =>
  (binD .mul v__law_lead_here (.int 9)).bind fun x19 =>
  (subsD v__law_lead_here r2.1).bind fun x20 =>
  (s__law_some r6.2 (.lst [x11, x11, x11, x17, x18, x19, .non, (.tup []), x20])).bind fun r21 =>
  .ok (r21.1, r21.2)
def s__law_are_whole (v__law_value v__law_low v__law_high : D) : R D :=
  (isiR .tuple v__law_value).bind fun x1 =>
  (boolR x1).bind fun c2 =>
  if (!c2) = true then .ok (.bl false) else
  (items v__law_value).bind fun l3 =>
  (filtR (fun d4 => (isiR .bool d4).bind fun x5 =>
    (boolR x5).bind fun c6 =>
    (if c6 = true then .ok true else (isiR .int d4).bind fun x7 =>
      (boolR x7).bind fun c8 =>
      (if (!c8) = true then .ok true else (cmpD .le v__law_low d4).bind fun c9 =>
        (if c9 = true then cmpD .le d4 v__law_high else .ok false : R _).bind fun c10 =>
        .ok (!c10) : R _).bind fun c11 =>
      .ok c11 : R _).bind fun c12 =>
    if c12 = true then .ok (some (.int 1)) else .ok none) l3).bind fun l13 =>
  (szR l13.length).bind fun u14 =>
  (cmpD .eq (.lst l13) (.lst [])).bind fun c15 =>
  .ok (.bl c15)
def s__law_is_change (v__law_bells v__law_value : D) : R D :=
  (binD .sub v__law_bells (.int 2)).bind fun x1 =>
  (s__law_are_whole v__law_value (.int 0) x1).bind fun r2 =>
  (boolR r2).bind fun c3 =>
  if (!c3) = true then .ok (.bl false) else
  (bltD .len [v__law_value]).bind fun x4 =>
  (rngD [(.int 1), x4]).bind fun l5 =>
  (filtR (fun d6 => (subsD v__law_value d6).bind fun x7 =>
    (binD .sub d6 (.int 1)).bind fun x8 =>
    (subsD v__law_value x8).bind fun x9 =>
    (binD .add x9 (.int 2)).bind fun x10 =>
    (cmpD .lt x7 x10).bind fun c11 =>
    if c11 = true then .ok (some (.int 1)) else .ok none) l5).bind fun l12 =>
  (szR l12.length).bind fun u13 =>
  (cmpD .eq (.lst l12) (.lst [])).bind fun c14 =>
  .ok (.bl c14)
def s__law_is_lead (v__law_bells v__law_value : D) : R D :=
  (isiR .tuple v__law_value).bind fun x1 =>
  (boolR x1).bind fun c2 =>
  (if (!c2) = true then .ok true else (bltD .len [v__law_value]).bind fun x3 =>
    (cmpD .le (.int 1) x3).bind fun c4 =>
    (if c4 = true then cmpD .le x3 (.int 24) else .ok false : R _).bind fun c5 =>
    .ok (!c5) : R _).bind fun c6 =>
  if c6 = true then .ok (.bl false) else
  (items v__law_value).bind fun l7 =>
  (filtR (fun d8 => (s__law_is_change v__law_bells d8).bind fun r9 =>
    (boolR r9).bind fun c10 =>
    if (!c10) = true then .ok (some (.int 1)) else .ok none) l7).bind fun l11 =>
  (szR l11.length).bind fun u12 =>
  (cmpD .eq (.lst l11) (.lst [])).bind fun c13 =>
  .ok (.bl c13)
def s__law_refusal (v_c v_d : D) : R D :=
  (cmpD .eq v_c (.int 0)).bind fun c1 =>
  if c1 = true then .ok (.str []) else
  (cmpD .eq v_c (.int 1)).bind fun c2 =>
  if c2 = true then .ok (.str [98, 101, 108, 108, 115]) else
  (cmpD .eq v_c (.int 2)).bind fun c3 =>
  if c3 = true then .ok (.str [114, 111, 119]) else
  (cmpD .eq v_c (.int 3)).bind fun c4 =>
  if c4 = true then .ok (.str [108, 101, 97, 100]) else
  (negR .non).bind fun x5 =>
  .ok .non
def s__law_right (v__law_cup_here v__law_bells : D) : R (D × D) :=
  (s__law_lead v__law_cup_here v__law_bells (.int 8)).bind fun r1 =>
  (s__law_row r1.2 v__law_bells).bind fun r2 =>
  (s__law_rung r2.1 r1.1).bind fun r3 =>
  (s_is_lead v__law_bells r1.1).bind fun r4 =>
  (cmpD .nis r4 (.bl true)).bind fun c5 =>
  (if c5 = true then .ok true else (s_rows_rung r2.1 r1.1).bind fun r6 =>
    (cmpD .ne r6 r3).bind fun c7 =>
    (if c7 = true then .ok true else (s_led_to r2.1 r1.1).bind fun r8 =>
      (negR (.int 1)).bind fun x9 =>
      (subsD r3 x9).bind fun x10 =>
      (cmpD .ne r8 x10).bind fun c11 =>
      .ok c11 : R _).bind fun c12 =>
    .ok c12 : R _).bind fun c13 =>
  if c13 = true then .ok ((.bl false), r2.2) else
  (s_acting_row v__law_bells r1.1).bind fun r14 =>
  (s__law_rounds v__law_bells).bind fun r15 =>
  (s__law_led r15 r1.1).bind fun r16 =>
  (cmpD .ne r14 r16).bind fun c17 =>
  (if c17 = true then .ok true else (s_followed_by r2.1 r14).bind fun r18 =>
    (negR (.int 1)).bind fun x19 =>
    (subsD r3 x19).bind fun x20 =>
    (cmpD .ne r18 x20).bind fun c21 =>
    .ok c21 : R _).bind fun c22 =>
  if c22 = true then .ok ((.bl false), r2.2) else
  (s__law_rounds v__law_bells).bind fun r23 =>
  (s_rows_rung r23 r1.1).bind fun r24 =>
  (items r24).bind fun l25 =>
  (mapR (fun d26 => (s_followed_by r2.1 d26).bind fun r27 =>
    .ok r27) l25).bind fun l28 =>
  (szR l28.length).bind fun u29 =>
  (cmpD .ne (.lst l28) r3).bind fun c30 =>
  if c30 = true then .ok ((.bl false), r2.2) else
  (s__law_lead r2.2 v__law_bells (.int 8)).bind fun r31 =>
  (binD .add r1.1 r31.1).bind fun x32 =>
  (s_acting_row v__law_bells x32).bind fun r33 =>
  (s_acting_row v__law_bells r31.1).bind fun r34 =>
  (s_followed_by r14 r34).bind fun r35 =>
  (cmpD .ne r33 r35).bind fun c36 =>
  if c36 = true then .ok ((.bl false), r31.2) else
  (revD r1.1).bind fun x37 =>
  (s_acting_row v__law_bells x37).bind fun r38 =>
  (s_followed_by r14 r38).bind fun r39 =>
  (s__law_rounds v__law_bells).bind fun r40 =>
  (cmpD .ne r39 r40).bind fun c41 =>
  if c41 = true then .ok ((.bl false), r31.2) else
  (rngD [(.int 2)]).bind fun l42 =>
  (foldQ (fun d43 s44 =>
      (s__law_bent_lead (s44.getD 0 .non) r1.1).bind fun r46 =>
    (s_is_lead v__law_bells r46.1).bind fun r47 =>
    (isiR .bool r47).bind fun x48 =>
    (boolR x48).bind fun c49 =>
    (if (!c49) = true then .ok true else (s__law_is_lead v__law_bells r46.1).bind fun r50 =>
      (cmpD .ne r47 r50).bind fun c51 =>
      .ok c51 : R _).bind fun c52 =>
    if c52 = true then .ok (.rt ((.bl false), r46.2)) else
    .ok (.nx [r46.2])) l42 [r31.2]).bind fun z53 =>
  z53.go fun s45 =>
  .ok ((.bl true), (s45.getD 0 .non))
def s_law (v__law_script : D) : R D :=
  (s__law_cup v__law_script).bind fun r1 =>
  (contR r1).bind fun u2 =>
  (foldQ (fun d3 s4 =>
      (s__law_right (s4.getD 0 .non) d3).bind fun r6 =>
    (boolR r6.1).bind fun c7 =>
    if (!c7) = true then .ok (.rt (.bl false)) else
    .ok (.nx [r6.2])) [(.int 2), (.int 3), (.int 4), (.int 5), (.int 6)] [r1]).bind fun z8 =>
  z8.go fun s5 =>
  (s_rows_rung (.tup [(.int 0), (.int 1), (.int 2)]) (.tup [(.tup [(.int 0)]), (.tup [(.int 1)])])).bind fun r9 =>
  (cmpD .ne r9 (.lst [(.tup [(.int 1), (.int 0), (.int 2)]), (.tup [(.int 1), (.int 2), (.int 0)])])).bind fun c10 =>
  (if c10 = true then .ok true else (s_led_to (.tup [(.int 2), (.int 0), (.int 1)]) (.tup [(.tup [(.int 0)]), (.tup [(.int 1)])])).bind fun r11 =>
    (cmpD .ne r11 (.tup [(.int 0), (.int 1), (.int 2)])).bind fun c12 =>
    (if c12 = true then .ok true else (s_acting_row (.int 3) (.tup [(.tup [(.int 0)]), (.tup [(.int 1)])])).bind fun r13 =>
      (cmpD .ne r13 (.tup [(.int 1), (.int 2), (.int 0)])).bind fun c14 =>
      .ok c14 : R _).bind fun c15 =>
    .ok c15 : R _).bind fun c16 =>
  if c16 = true then .ok (.bl false) else
  (s_led_to (.tup [(.int 0), (.int 1), (.int 2), (.int 3)]) (.tup [(.tup [(.int 0), (.int 2)])])).bind fun r17 =>
  (cmpD .ne r17 (.tup [(.int 1), (.int 0), (.int 3), (.int 2)])).bind fun c18 =>
  (if c18 = true then .ok true else (s_rows_rung (.tup [(.int 3), (.int 2), (.int 1), (.int 0)]) (.tup [(.tup [(.int 0), (.int 2)]), (.tup [])])).bind fun r19 =>
    (binD .mul (.lst [(.tup [(.int 2), (.int 3), (.int 0), (.int 1)])]) (.int 2)).bind fun x20 =>
    (cmpD .ne r19 x20).bind fun c21 =>
    .ok c21 : R _).bind fun c22 =>
  if c22 = true then .ok (.bl false) else
  (binD .mul (.tup [(.tup [])]) (.int 24)).bind fun x23 =>
  (s_is_lead (.int 2) x23).bind fun r24 =>
  (cmpD .nis r24 (.bl true)).bind fun c25 =>
  (if c25 = true then .ok true else (binD .mul (.tup [(.tup [])]) (.int 25)).bind fun x26 =>
    (s_is_lead (.int 2) x26).bind fun r27 =>
    (cmpD .nis r27 (.bl false)).bind fun c28 =>
    (if c28 = true then .ok true else (s_is_lead (.int 3) (.tup [(.tup [(.int 2)])])).bind fun r29 =>
      (cmpD .nis r29 (.bl false)).bind fun c30 =>
      (if c30 = true then .ok true else (s_is_lead (.int 4) (.tup [(.tup [(.int 2)])])).bind fun r31 =>
        (cmpD .nis r31 (.bl true)).bind fun c32 =>
        .ok c32 : R _).bind fun c33 =>
      .ok c33 : R _).bind fun c34 =>
    .ok c34 : R _).bind fun c35 =>
  if c35 = true then .ok (.bl false) else
  (binD .mul (.tup [(.tup [(.int 0)])]) (.int 25)).bind fun x36 =>
  (foldQ (fun d37 s38 =>
      (tryR s__law_refusal ((s_rows_rung (.tup [(.int 0), (.int 1), (.int 2)]) d37).bind fun r40 =>
      .ok r40)).bind fun w41 =>
    (tryR s__law_refusal ((s_led_to (.tup [(.int 0), (.int 1), (.int 2)]) d37).bind fun r42 =>
      .ok r42)).bind fun w43 =>
    (szR ([w41].length + 1)).bind fun u44 =>
    (tryR s__law_refusal ((s_acting_row (.int 3) d37).bind fun r45 =>
      .ok r45)).bind fun w46 =>
    (szR (([w41] ++ [w43]).length + 1)).bind fun u47 =>
    (binD .mul (.lst [(.str [108, 101, 97, 100])]) (.int 3)).bind fun x48 =>
    (cmpD .ne (.lst (([w41] ++ [w43]) ++ [w46])) x48).bind fun c49 =>
    (if c49 = true then .ok true else (s_is_lead (.int 3) d37).bind fun r50 =>
      (cmpD .nis r50 (.bl false)).bind fun c51 =>
      .ok c51 : R _).bind fun c52 =>
    if c52 = true then .ok (.rt (.bl false)) else
    .ok (.nx [])) [.non, (.tup []), (.tup [(.tup [(.int 0), (.int 1)])]), (.lst [(.tup [(.int 0)])]), (.tup [(.int 0)]), (.tup [(.tup [(.int 2)])]), (.tup [(.tup [(.bl true)])]), x36] []).bind fun z53 =>
  z53.go fun s39 =>
  (foldQ (fun d54 s55 =>
      (tryR s__law_refusal ((s_rows_rung d54 .non).bind fun r57 =>
      .ok r57)).bind fun w58 =>
    (tryR s__law_refusal ((s_led_to d54 .non).bind fun r59 =>
      .ok r59)).bind fun w60 =>
    (szR ([w58].length + 1)).bind fun u61 =>
    (binD .mul (.lst [(.str [114, 111, 119])]) (.int 2)).bind fun x62 =>
    (cmpD .ne (.lst ([w58] ++ [w60])) x62).bind fun c63 =>
    if c63 = true then .ok (.rt (.bl false)) else
    .ok (.nx [])) [.non, (.tup [(.int 0)]), (.tup [(.int 0), (.int 2)]), (.tup [(.int 0), (.int 1), (.int 1)])] []).bind fun z64 =>
  z64.go fun s56 =>
  (tryR s__law_refusal ((s_acting_row (.int 1) .non).bind fun r65 =>
    .ok r65)).bind fun w66 =>
  (tryR s__law_refusal ((s_is_lead (.int 7) (.tup [(.tup [(.int 0)]), (.tup [(.int 1)])])).bind fun r67 =>
    .ok r67)).bind fun w68 =>
  (szR ([w66].length + 1)).bind fun u69 =>
  (binD .mul (.lst [(.str [98, 101, 108, 108, 115])]) (.int 2)).bind fun x70 =>
  (cmpD .eq (.lst ([w66] ++ [w68])) x70).bind fun c71 =>
  .ok (.bl c71)
end Lw
end
section
set_option autoImplicit false
set_option linter.all false
set_option maxRecDepth 100000
set_option maxHeartbeats 0
namespace Lw
open Py
theorem k_is_whole : eqC 3 s_is_whole (evk0 (T0 ([] : List (Nat × En))) (T1 ([] : List (Nat × En))) [] c_is_whole) := by
  intro a0 a1 a2
  show s_is_whole a0 a1 a2 = evk0 (T0 ([] : List (Nat × En))) (T1 ([] : List (Nat × En))) [] c_is_whole [a0, a1, a2]
  kernel_rfl
def t_is_whole : List (Nat × En) := (0, .f0 3 s_is_whole) :: ([] : List (Nat × En))
theorem g_is_whole : Good t_is_whole fs 1 := Good.step0 good_nil (by rfl) [] k_is_whole
theorem k_is_tuple_of : eqC 3 s_is_tuple_of (evk0 (T0 t_is_whole) (T1 t_is_whole) [] c_is_tuple_of) := by
  intro a0 a1 a2
  show s_is_tuple_of a0 a1 a2 = evk0 (T0 t_is_whole) (T1 t_is_whole) [] c_is_tuple_of [a0, a1, a2]
  kernel_rfl
def t_is_tuple_of : List (Nat × En) := (1, .f0 3 s_is_tuple_of) :: t_is_whole
theorem g_is_tuple_of : Good t_is_tuple_of fs 2 := Good.step0 g_is_whole (by rfl) [] k_is_tuple_of
theorem k_fits_row : eqC 3 s_fits_row (evk0 (T0 t_is_tuple_of) (T1 t_is_tuple_of) [] c_fits_row) := by
  intro a0 a1 a2
  show s_fits_row a0 a1 a2 = evk0 (T0 t_is_tuple_of) (T1 t_is_tuple_of) [] c_fits_row [a0, a1, a2]
  kernel_rfl
def t_fits_row : List (Nat × En) := (2, .f0 3 s_fits_row) :: t_is_tuple_of
theorem g_fits_row : Good t_fits_row fs 3 := Good.step0 g_is_tuple_of (by rfl) [] k_fits_row
theorem k_fits_change : eqC 2 s_fits_change (evk0 (T0 t_fits_row) (T1 t_fits_row) [] c_fits_change) := by
  intro a0 a1
  show s_fits_change a0 a1 = evk0 (T0 t_fits_row) (T1 t_fits_row) [] c_fits_change [a0, a1]
  kernel_rfl
def t_fits_change : List (Nat × En) := (3, .f0 2 s_fits_change) :: t_fits_row
theorem g_fits_change : Good t_fits_change fs 4 := Good.step0 g_fits_row (by rfl) [] k_fits_change
theorem k_rounds_of : eqC 1 s_rounds_of (evk0 (T0 t_fits_change) (T1 t_fits_change) [] c_rounds_of) := by
  intro a0
  show s_rounds_of a0 = evk0 (T0 t_fits_change) (T1 t_fits_change) [] c_rounds_of [a0]
  kernel_rfl
def t_rounds_of : List (Nat × En) := (4, .f0 1 s_rounds_of) :: t_fits_change
theorem g_rounds_of : Good t_rounds_of fs 5 := Good.step0 g_fits_change (by rfl) [] k_rounds_of
theorem k_changed : eqC 2 s_changed (evk0 (T0 t_rounds_of) (T1 t_rounds_of) [] c_changed) := by
  intro a0 a1
  show s_changed a0 a1 = evk0 (T0 t_rounds_of) (T1 t_rounds_of) [] c_changed [a0, a1]
  kernel_rfl
def t_changed : List (Nat × En) := (5, .f0 2 s_changed) :: t_rounds_of
theorem g_changed : Good t_changed fs 6 := Good.step0 g_rounds_of (by rfl) [] k_changed
theorem k_acted : eqC 2 s_acted (evk0 (T0 t_changed) (T1 t_changed) [] c_acted) := by
  intro a0 a1
  show s_acted a0 a1 = evk0 (T0 t_changed) (T1 t_changed) [] c_acted [a0, a1]
  kernel_rfl
def t_acted : List (Nat × En) := (6, .f0 2 s_acted) :: t_changed
theorem g_acted : Good t_acted fs 7 := Good.step0 g_changed (by rfl) [] k_acted
theorem k_need_bells : eqC 1 s_need_bells (evk0 (T0 t_acted) (T1 t_acted) [] c_need_bells) := by
  intro a0
  show s_need_bells a0 = evk0 (T0 t_acted) (T1 t_acted) [] c_need_bells [a0]
  kernel_rfl
def t_need_bells : List (Nat × En) := (7, .f0 1 s_need_bells) :: t_acted
theorem g_need_bells : Good t_need_bells fs 8 := Good.step0 g_acted (by rfl) [] k_need_bells
theorem k_need_row : eqC 3 s_need_row (evk0 (T0 t_need_bells) (T1 t_need_bells) [] c_need_row) := by
  intro a0 a1 a2
  show s_need_row a0 a1 a2 = evk0 (T0 t_need_bells) (T1 t_need_bells) [] c_need_row [a0, a1, a2]
  kernel_rfl
def t_need_row : List (Nat × En) := (8, .f0 3 s_need_row) :: t_need_bells
theorem g_need_row : Good t_need_row fs 9 := Good.step0 g_need_bells (by rfl) [] k_need_row
theorem k_followed_by : eqC 2 s_followed_by (evk0 (T0 t_need_row) (T1 t_need_row) [] c_followed_by) := by
  intro a0 a1
  show s_followed_by a0 a1 = evk0 (T0 t_need_row) (T1 t_need_row) [] c_followed_by [a0, a1]
  kernel_rfl
def t_followed_by : List (Nat × En) := (9, .f0 2 s_followed_by) :: t_need_row
theorem g_followed_by : Good t_followed_by fs 10 := Good.step0 g_need_row (by rfl) [] k_followed_by
theorem k_fits_lead : eqC 2 s_fits_lead (evk0 (T0 t_followed_by) (T1 t_followed_by) [] c_fits_lead) := by
  intro a0 a1
  show s_fits_lead a0 a1 = evk0 (T0 t_followed_by) (T1 t_followed_by) [] c_fits_lead [a0, a1]
  kernel_rfl
def t_fits_lead : List (Nat × En) := (10, .f0 2 s_fits_lead) :: t_followed_by
theorem g_fits_lead : Good t_fits_lead fs 11 := Good.step0 g_followed_by (by rfl) [] k_fits_lead
theorem k_need_lead : eqC 2 s_need_lead (evk0 (T0 t_fits_lead) (T1 t_fits_lead) [] c_need_lead) := by
  intro a0 a1
  show s_need_lead a0 a1 = evk0 (T0 t_fits_lead) (T1 t_fits_lead) [] c_need_lead [a0, a1]
  kernel_rfl
def t_need_lead : List (Nat × En) := (11, .f0 2 s_need_lead) :: t_fits_lead
theorem g_need_lead : Good t_need_lead fs 12 := Good.step0 g_fits_lead (by rfl) [] k_need_lead
theorem k_rows_by : eqC 2 s_rows_by (evk0 (T0 t_need_lead) (T1 t_need_lead) [] c_rows_by) := by
  intro a0 a1
  show s_rows_by a0 a1 = evk0 (T0 t_need_lead) (T1 t_need_lead) [] c_rows_by [a0, a1]
  kernel_rfl
def t_rows_by : List (Nat × En) := (12, .f0 2 s_rows_by) :: t_need_lead
theorem g_rows_by : Good t_rows_by fs 13 := Good.step0 g_need_lead (by rfl) [] k_rows_by
theorem k_acting : eqC 2 s_acting (evk0 (T0 t_rows_by) (T1 t_rows_by) [] c_acting) := by
  intro a0 a1
  show s_acting a0 a1 = evk0 (T0 t_rows_by) (T1 t_rows_by) [] c_acting [a0, a1]
  kernel_rfl
def t_acting : List (Nat × En) := (13, .f0 2 s_acting) :: t_rows_by
theorem g_acting : Good t_acting fs 14 := Good.step0 g_rows_by (by rfl) [] k_acting
theorem k_is_lead : eqC 2 s_is_lead (evk0 (T0 t_acting) (T1 t_acting) [] c_is_lead) := by
  intro a0 a1
  show s_is_lead a0 a1 = evk0 (T0 t_acting) (T1 t_acting) [] c_is_lead [a0, a1]
  kernel_rfl
def t_is_lead : List (Nat × En) := (14, .f0 2 s_is_lead) :: t_acting
theorem g_is_lead : Good t_is_lead fs 15 := Good.step0 g_acting (by rfl) [] k_is_lead
theorem k_rows_rung : eqC 2 s_rows_rung (evk0 (T0 t_is_lead) (T1 t_is_lead) [] c_rows_rung) := by
  intro a0 a1
  show s_rows_rung a0 a1 = evk0 (T0 t_is_lead) (T1 t_is_lead) [] c_rows_rung [a0, a1]
  kernel_rfl
def t_rows_rung : List (Nat × En) := (15, .f0 2 s_rows_rung) :: t_is_lead
theorem g_rows_rung : Good t_rows_rung fs 16 := Good.step0 g_is_lead (by rfl) [] k_rows_rung
theorem k_led_to : eqC 2 s_led_to (evk0 (T0 t_rows_rung) (T1 t_rows_rung) [] c_led_to) := by
  intro a0 a1
  show s_led_to a0 a1 = evk0 (T0 t_rows_rung) (T1 t_rows_rung) [] c_led_to [a0, a1]
  kernel_rfl
def t_led_to : List (Nat × En) := (16, .f0 2 s_led_to) :: t_rows_rung
theorem g_led_to : Good t_led_to fs 17 := Good.step0 g_rows_rung (by rfl) [] k_led_to
theorem k_acting_row : eqC 2 s_acting_row (evk0 (T0 t_led_to) (T1 t_led_to) [] c_acting_row) := by
  intro a0 a1
  show s_acting_row a0 a1 = evk0 (T0 t_led_to) (T1 t_led_to) [] c_acting_row [a0, a1]
  kernel_rfl
def t_acting_row : List (Nat × En) := (17, .f0 2 s_acting_row) :: t_led_to
theorem g_acting_row : Good t_acting_row fs 18 := Good.step0 g_led_to (by rfl) [] k_acting_row
theorem k__law_cup : eqC 1 s__law_cup (evk0 (T0 t_acting_row) (T1 t_acting_row) [] c__law_cup) := by
  intro a0
  show s__law_cup a0 = evk0 (T0 t_acting_row) (T1 t_acting_row) [] c__law_cup [a0]
  kernel_rfl
def t__law_cup : List (Nat × En) := (18, .f0 1 s__law_cup) :: t_acting_row
theorem g__law_cup : Good t__law_cup fs 19 := Good.step0 g_acting_row (by rfl) [] k__law_cup
theorem k__law_roll : eqC 2 s__law_roll (evk1 (T0 t__law_cup) (T1 t__law_cup) [0] c__law_roll) := by
  intro a0 a1
  show s__law_roll a0 a1 = evk1 (T0 t__law_cup) (T1 t__law_cup) [0] c__law_roll [a0, a1]
  kernel_rfl
def t__law_roll : List (Nat × En) := (19, .f1 2 s__law_roll) :: t__law_cup
theorem g__law_roll : Good t__law_roll fs 20 := Good.step1 g__law_cup (by rfl) [0] k__law_roll
theorem k__law_some : eqC 2 s__law_some (evk1 (T0 t__law_roll) (T1 t__law_roll) [0] c__law_some) := by
  intro a0 a1
  show s__law_some a0 a1 = evk1 (T0 t__law_roll) (T1 t__law_roll) [0] c__law_some [a0, a1]
  kernel_rfl
def t__law_some : List (Nat × En) := (20, .f1 2 s__law_some) :: t__law_roll
theorem g__law_some : Good t__law_some fs 21 := Good.step1 g__law_roll (by rfl) [0] k__law_some
theorem k__law_changes : eqC 1 s__law_changes (evk0 (T0 t__law_some) (T1 t__law_some) [] c__law_changes) := by
  intro a0
  show s__law_changes a0 = evk0 (T0 t__law_some) (T1 t__law_some) [] c__law_changes [a0]
  kernel_rfl
def t__law_changes : List (Nat × En) := (21, .f0 1 s__law_changes) :: t__law_some
theorem g__law_changes : Good t__law_changes fs 22 := Good.step0 g__law_some (by rfl) [] k__law_changes
theorem k__law_change : eqC 2 s__law_change (evk1 (T0 t__law_changes) (T1 t__law_changes) [0] c__law_change) := by
  intro a0 a1
  show s__law_change a0 a1 = evk1 (T0 t__law_changes) (T1 t__law_changes) [0] c__law_change [a0, a1]
  kernel_rfl
def t__law_change : List (Nat × En) := (22, .f1 2 s__law_change) :: t__law_changes
theorem g__law_change : Good t__law_change fs 23 := Good.step1 g__law_changes (by rfl) [0] k__law_change
theorem k__law_lead : eqC 3 s__law_lead (evk1 (T0 t__law_change) (T1 t__law_change) [0] c__law_lead) := by
  intro a0 a1 a2
  show s__law_lead a0 a1 a2 = evk1 (T0 t__law_change) (T1 t__law_change) [0] c__law_lead [a0, a1, a2]
  kernel_rfl
def t__law_lead : List (Nat × En) := (23, .f1 3 s__law_lead) :: t__law_change
theorem g__law_lead : Good t__law_lead fs 24 := Good.step1 g__law_change (by rfl) [0] k__law_lead
theorem k__law_row : eqC 2 s__law_row (evk1 (T0 t__law_lead) (T1 t__law_lead) [0, 2] c__law_row) := by
  intro a0 a1
  show s__law_row a0 a1 = evk1 (T0 t__law_lead) (T1 t__law_lead) [0, 2] c__law_row [a0, a1]
  kernel_rfl
def t__law_row : List (Nat × En) := (24, .f1 2 s__law_row) :: t__law_lead
theorem g__law_row : Good t__law_row fs 25 := Good.step1 g__law_lead (by rfl) [0, 2] k__law_row
theorem k__law_behind : eqC 2 s__law_behind (evk0 (T0 t__law_row) (T1 t__law_row) [2] c__law_behind) := by
  intro a0 a1
  show s__law_behind a0 a1 = evk0 (T0 t__law_row) (T1 t__law_row) [2] c__law_behind [a0, a1]
  kernel_rfl
def t__law_behind : List (Nat × En) := (25, .f0 2 s__law_behind) :: t__law_row
theorem g__law_behind : Good t__law_behind fs 26 := Good.step0 g__law_row (by rfl) [2] k__law_behind
theorem k__law_rung : eqC 2 s__law_rung (evk0 (T0 t__law_behind) (T1 t__law_behind) [2] c__law_rung) := by
  intro a0 a1
  show s__law_rung a0 a1 = evk0 (T0 t__law_behind) (T1 t__law_behind) [2] c__law_rung [a0, a1]
  kernel_rfl
def t__law_rung : List (Nat × En) := (26, .f0 2 s__law_rung) :: t__law_behind
theorem g__law_rung : Good t__law_rung fs 27 := Good.step0 g__law_behind (by rfl) [2] k__law_rung
theorem k__law_led : eqC 2 s__law_led (evk0 (T0 t__law_rung) (T1 t__law_rung) [] c__law_led) := by
  intro a0 a1
  show s__law_led a0 a1 = evk0 (T0 t__law_rung) (T1 t__law_rung) [] c__law_led [a0, a1]
  kernel_rfl
def t__law_led : List (Nat × En) := (27, .f0 2 s__law_led) :: t__law_rung
theorem g__law_led : Good t__law_led fs 28 := Good.step0 g__law_rung (by rfl) [] k__law_led
theorem k__law_rounds : eqC 1 s__law_rounds (evk0 (T0 t__law_led) (T1 t__law_led) [] c__law_rounds) := by
  intro a0
  show s__law_rounds a0 = evk0 (T0 t__law_led) (T1 t__law_led) [] c__law_rounds [a0]
  kernel_rfl
def t__law_rounds : List (Nat × En) := (28, .f0 1 s__law_rounds) :: t__law_led
theorem g__law_rounds : Good t__law_rounds fs 29 := Good.step0 g__law_led (by rfl) [] k__law_rounds
theorem k__law_bent_change : eqC 2 s__law_bent_change (evk1 (T0 t__law_rounds) (T1 t__law_rounds) [0] c__law_bent_change) := by
  intro a0 a1
  show s__law_bent_change a0 a1 = evk1 (T0 t__law_rounds) (T1 t__law_rounds) [0] c__law_bent_change [a0, a1]
  kernel_rfl
def t__law_bent_change : List (Nat × En) := (29, .f1 2 s__law_bent_change) :: t__law_rounds
theorem g__law_bent_change : Good t__law_bent_change fs 30 := Good.step1 g__law_rounds (by rfl) [0] k__law_bent_change
theorem k__law_bent_lead : eqC 2 s__law_bent_lead (evk1 (T0 t__law_bent_change) (T1 t__law_bent_change) [0] c__law_bent_lead) := by
  intro a0 a1
  show s__law_bent_lead a0 a1 = evk1 (T0 t__law_bent_change) (T1 t__law_bent_change) [0] c__law_bent_lead [a0, a1]
  kernel_rfl
def t__law_bent_lead : List (Nat × En) := (30, .f1 2 s__law_bent_lead) :: t__law_bent_change
theorem g__law_bent_lead : Good t__law_bent_lead fs 31 := Good.step1 g__law_bent_change (by rfl) [0] k__law_bent_lead
theorem k__law_are_whole : eqC 3 s__law_are_whole (evk0 (T0 t__law_bent_lead) (T1 t__law_bent_lead) [] c__law_are_whole) := by
  intro a0 a1 a2
  show s__law_are_whole a0 a1 a2 = evk0 (T0 t__law_bent_lead) (T1 t__law_bent_lead) [] c__law_are_whole [a0, a1, a2]
  kernel_rfl
def t__law_are_whole : List (Nat × En) := (31, .f0 3 s__law_are_whole) :: t__law_bent_lead
theorem g__law_are_whole : Good t__law_are_whole fs 32 := Good.step0 g__law_bent_lead (by rfl) [] k__law_are_whole
theorem k__law_is_change : eqC 2 s__law_is_change (evk0 (T0 t__law_are_whole) (T1 t__law_are_whole) [] c__law_is_change) := by
  intro a0 a1
  show s__law_is_change a0 a1 = evk0 (T0 t__law_are_whole) (T1 t__law_are_whole) [] c__law_is_change [a0, a1]
  kernel_rfl
def t__law_is_change : List (Nat × En) := (32, .f0 2 s__law_is_change) :: t__law_are_whole
theorem g__law_is_change : Good t__law_is_change fs 33 := Good.step0 g__law_are_whole (by rfl) [] k__law_is_change
theorem k__law_is_lead : eqC 2 s__law_is_lead (evk0 (T0 t__law_is_change) (T1 t__law_is_change) [] c__law_is_lead) := by
  intro a0 a1
  show s__law_is_lead a0 a1 = evk0 (T0 t__law_is_change) (T1 t__law_is_change) [] c__law_is_lead [a0, a1]
  kernel_rfl
def t__law_is_lead : List (Nat × En) := (33, .f0 2 s__law_is_lead) :: t__law_is_change
theorem g__law_is_lead : Good t__law_is_lead fs 34 := Good.step0 g__law_is_change (by rfl) [] k__law_is_lead
theorem k__law_refusal : eqC 2 s__law_refusal (evk0 (T0 t__law_is_lead) (T1 t__law_is_lead) [] c__law_refusal) := by
  intro a0 a1
  show s__law_refusal a0 a1 = evk0 (T0 t__law_is_lead) (T1 t__law_is_lead) [] c__law_refusal [a0, a1]
  kernel_rfl
def t__law_refusal : List (Nat × En) := (34, .f0 2 s__law_refusal) :: t__law_is_lead
theorem g__law_refusal : Good t__law_refusal fs 35 := Good.step0 g__law_is_lead (by rfl) [] k__law_refusal
theorem k__law_right : eqC 2 s__law_right (evk1 (T0 t__law_refusal) (T1 t__law_refusal) [0] c__law_right) := by
  intro a0 a1
  show s__law_right a0 a1 = evk1 (T0 t__law_refusal) (T1 t__law_refusal) [0] c__law_right [a0, a1]
  kernel_rfl
def t__law_right : List (Nat × En) := (35, .f1 2 s__law_right) :: t__law_refusal
theorem g__law_right : Good t__law_right fs 36 := Good.step1 g__law_refusal (by rfl) [0] k__law_right
theorem k_law : eqC 1 s_law (evk0 (T0 t__law_right) (T1 t__law_right) [1, 5] c_law) := by
  intro a0
  show s_law a0 = evk0 (T0 t__law_right) (T1 t__law_right) [1, 5] c_law [a0]
  kernel_rfl
def t_law : List (Nat × En) := (36, .f0 1 s_law) :: t__law_right
theorem g_law : Good t_law fs 37 := Good.step0 g__law_right (by rfl) [1, 5] k_law
end Lw
end
section
set_option autoImplicit false
set_option linter.all false
set_option maxRecDepth 100000
/-! M_base: more laws about data, for all laws. -/
namespace Lw
open Py
theorem SZe : SZ = 16777216 := rfl
theorem add_nat1 {a : Nat} : binD .add (nD a) (.int 1) = .ok (nD (a + 1)) := add_nat (b := 1)
theorem lt_nat {a b : Nat} : cmpD .lt (nD a) (nD b) = .ok (decide (a < b)) := by
  rw [lt_int]; congr 1; exact decide_eq_decide.mpr (by omega)
theorem memD_nat {x : Nat} : ∀ {l : List Nat}, memD (nD x) (l.map nD) = decide (x ∈ l)
  | [] => rfl
  | y :: l => by
    have ih := memD_nat (x := x) (l := l)
    unfold memD at ih ⊢
    simp only [List.map_cons, List.any_cons, ih, eqD]
    by_cases h : x = y
    · subst h; simp
    · have h' : ¬ ((y : Int) = (x : Int)) := by omega
      simp [h, h']
theorem mem_nL {x : Nat} {l : List Nat} : cmpD .mem (nD x) (nL l) = .ok (decide (x ∈ l)) := by
  simp only [cmpD, inD, nL, shal_int, shal_nats, Bool.and_self, if_true, memD_nat]
theorem mem_nT {x : Nat} {l : List Nat} : cmpD .mem (nD x) (nT l) = .ok (decide (x ∈ l)) := by
  simp only [cmpD, inD, nT, shal_int, shal_nats, Bool.and_self, if_true, memD_nat]
theorem sub_nT {l : List Nat} {k : Nat} (h : k < l.length) : subsD (nT l) (nD k) = .ok (nD (l.getD k 0)) := sub_tupE 0 h
theorem any_enc {α : Type} {xs : List α} {p : α → Bool} : bltD .any [.lst (xs.map fun x => .bl (p x))] = .ok (.bl (xs.any p)) := by
  have : (xs.map fun x => D.bl (p x)) = (xs.map p).map .bl := by simp
  rw [this, any_bl]; simp [List.any_map]
theorem six_nat {n d k : Nat} : six n d (some (k : Int)) = min k n := by
  show (if (k : Int) < 0 then ((k : Int) + n).toNat else min (k : Int).toNat n) = _
  rw [if_neg (by omega), Int.toNat_natCast]
theorem cut_from {α : Type} {xs : List α} {k : Nat} : cutL xs (some (k : Int)) none = xs.drop k := by
  show (xs.drop (six xs.length 0 (some (k : Int)))).take (xs.length - six xs.length 0 (some (k : Int))) = _
  rw [six_nat]
  by_cases h : k ≤ xs.length
  · rw [Nat.min_eq_left h]
    exact List.take_of_length_le (by simp)
  · rw [Nat.min_eq_right (by omega), List.drop_of_length_le (Nat.le_refl _), List.drop_of_length_le (by omega)]; simp
theorem cut_to {α : Type} {xs : List α} {k : Nat} : cutL xs none (some (k : Int)) = xs.take k := by
  show (xs.drop 0).take (six xs.length xs.length (some (k : Int)) - 0) = _
  rw [six_nat, List.drop_zero, Nat.sub_zero]
  by_cases h : k ≤ xs.length
  · rw [Nat.min_eq_left h]
  · rw [Nat.min_eq_right (by omega), List.take_of_length_le (Nat.le_refl _), List.take_of_length_le (by omega)]
theorem sl_tup_from {xs : List D} {k : Nat} : slD (.tup xs) (some (k : Int)) none = .ok (.tup (xs.drop k)) := by simp only [slD, cut_from]
theorem sl_tup_to {xs : List D} {k : Nat} : slD (.tup xs) none (some (k : Int)) = .ok (.tup (xs.take k)) := by simp only [slD, cut_to]
theorem sl_lst_from {xs : List D} {k : Nat} : slD (.lst xs) (some (k : Int)) none = .ok (.lst (xs.drop k)) := by simp only [slD, cut_from]
theorem sl_lst_to {xs : List D} {k : Nat} : slD (.lst xs) none (some (k : Int)) = .ok (.lst (xs.take k)) := by simp only [slD, cut_to]
theorem part_int {i : Int} : partR (.loc 0) (.int i) = .ok (some i) := rfl
theorem sub_last {xs : List D} {d : D} (h : xs.getLast? = some d) : subsD (.lst xs) (.int (-1)) = .ok d := by
  have hl : 0 < xs.length := by
    cases xs with
    | nil => simp at h
    | cons => simp
  simp only [subsD, atD, ixn]
  rw [if_neg (by omega), if_pos (by omega)]
  have e : ((-1 : Int) + (xs.length : Int)).toNat = xs.length - 1 := by omega
  rw [e]
  rw [List.getLast?_eq_getElem?] at h
  simp [R.ofO, h]
theorem sub_lastT {xs : List D} {d : D} (h : xs.getLast? = some d) : subsD (.tup xs) (.int (-1)) = .ok d := sub_last (xs := xs) h
theorem all_true {α : Type} {xs : List α} : bltD .all [.lst (xs.map fun _ => .bl true)] = .ok (.bl true) := by
  have := all_enc (xs := xs) (p := fun _ => true)
  rw [this]; simp
theorem eqDs_app {a b : List Nat} : eqD (nT a) (nT b) = decide (a = b) := by simp only [nT, eqD, eqDs_nats]
theorem shal_nT {n : Nat} {l : List Nat} : shal (n + 1) (nT l) = true := by simp only [nT, shal, shal_nats]
theorem memD_nTs {x : List Nat} : ∀ {l : List (List Nat)}, memD (nT x) (l.map nT) = decide (x ∈ l)
  | [] => rfl
  | y :: l => by
    have ih := memD_nTs (x := x) (l := l)
    unfold memD at ih ⊢
    simp only [List.map_cons, List.any_cons, ih, eqDs_app]
    by_cases h : y = x
    · subst h; simp
    · have h' : ¬ x = y := fun e => h e.symm
      simp [h, h']
theorem mem_nTs {x : List Nat} {l : List (List Nat)} : cmpD .mem (nT x) (.lst (l.map nT)) = .ok (decide (x ∈ l)) := by
  have h1 : shal DEEP (nT x) = true := shal_nT
  have h2 : (l.map nT).all (shal DEEP) = true := by
    rw [List.all_map, List.all_eq_true]; exact fun y _ => shal_nT
  show (if (shal DEEP (nT x) && (l.map nT).all (shal DEEP)) = true then R.ok (memD (nT x) (l.map nT)) else .bad) = _
  rw [h1, h2, memD_nTs]; rfl
theorem nmem_nTs {x : List Nat} {l : List (List Nat)} : cmpD .nmem (nT x) (.lst (l.map nT)) = .ok (!decide (x ∈ l)) := by
  have : cmpD .nmem (nT x) (.lst (l.map nT)) = (cmpD .mem (nT x) (.lst (l.map nT))).neg := rfl
  rw [this, mem_nTs]; rfl
theorem filter_none {α : Type} {e : α → D} {f : D → R (Option D)} {xs : List α} (h : ∀ x ∈ xs, f (e x) = .ok none) : filtR f (xs.map e) = .ok [] := by
  have := filtR_enc (e := e) (f := f) (p := fun _ => false) (g := fun _ => D.non) (xs := xs) (fun x hx => by rw [h x hx]; rfl)
  rw [this]; simp
theorem eq_lst0 : cmpD .eq (.lst []) (.lst []) = .ok true := rfl
theorem ne_lst0 : cmpD .ne (.lst []) (.lst []) = .ok false := rfl
theorem indexL_nat {x : Nat} : ∀ {l : List Nat} {p : Nat}, l.Nodup → l[p]? = some x → indexL (nD x) (l.map nD) = some p
  | [], p, _, h => by simp at h
  | y :: l, 0, _, h => by
    simp at h; subst h
    simp [indexL, eqD]
  | y :: l, p + 1, hn, h => by
    obtain ⟨h1, h2⟩ := List.nodup_cons.mp hn
    have h' : l[p]? = some x := by simpa using h
    have hx : x ∈ l := List.mem_of_getElem? h'
    have hne : ¬ y = x := fun e => h1 (e ▸ hx)
    have hne' : ¬ ((y : Int) = (x : Int)) := by omega
    simp only [List.map_cons, indexL, eqD, hne', decide_false, Bool.false_eq_true, if_false, indexL_nat h2 h', Option.map_some]
theorem index_ok {x p : Nat} {l : List Nat} (hn : l.Nodup) (h : l[p]? = some x) : metD .indexT (nT l) [nD x] = .ok (nD p) := by
  simp only [metD, nT, shal_int, shal, shal_nats, Bool.and_self, if_true, indexL_nat hn h]
theorem indexLs_ok {x p : Nat} {l : List Nat} (hn : l.Nodup) (h : l[p]? = some x) : metD .index (nL l) [nD x] = .ok (nD p) := by
  simp only [metD, seqOf, nL, shal_int, shal, shal_nats, Bool.and_self, if_true, indexL_nat hn h]
theorem mul_nat {a b : Nat} (h : b < 1000) : binD .mul (nD a) (nD b) = .ok (nD (a * b)) := by
  rw [mul_ok (.inr (by omega))]; simp [nD]
theorem sub_nat1 {p : Nat} : binD .sub (nD p) (.int 1) = .ok (.int ((p : Int) - 1)) := rfl
theorem sort_mem {l : List Int} {x : Int} : x ∈ sortI l ↔ x ∈ l := by
  have ins : ∀ {l : List Int} {x y : Int}, x ∈ insI y l ↔ x = y ∨ x ∈ l := by
    intro l
    induction l with
    | nil => intro x y; simp [insI]
    | cons z l ih =>
      intro x y
      unfold insI
      split
      · simp
      · simp only [List.mem_cons, ih]
        constructor
        · rintro (h | h | h) <;> simp [h]
        · rintro (h | h | h) <;> simp [h]
  induction l with
  | nil => simp [sortI]
  | cons y l ih => simp only [sortI, ins, ih, List.mem_cons]
theorem sort_perm : ∀ (l : List Int), (sortI l).Perm l := by
  have ins : ∀ (l : List Int) (y : Int), (insI y l).Perm (y :: l) := by
    intro l
    induction l with
    | nil => intro y; exact .refl _
    | cons z l ih =>
      intro y
      unfold insI
      split
      · exact .refl _
      · exact ((ih y).cons z).trans (.swap y z l)
  intro l
  induction l with
  | nil => exact .refl _
  | cons y l ih => exact (ins _ y).trans (ih.cons y)
theorem sort_pw : ∀ (l : List Int), (sortI l).Pairwise (· ≤ ·) := by
  have ins : ∀ (l : List Int) (y : Int), l.Pairwise (· ≤ ·) → (insI y l).Pairwise (· ≤ ·) := by
    intro l
    induction l with
    | nil => intro y _; simp [insI]
    | cons z l ih =>
      intro y h
      obtain ⟨h1, h2⟩ := List.pairwise_cons.mp h
      unfold insI
      split
      · rename_i hy
        refine List.pairwise_cons.mpr ⟨fun w hw => ?_, h⟩
        rcases List.mem_cons.mp hw with e | hw
        · omega
        · have := h1 w hw; omega
      · rename_i hy
        refine List.pairwise_cons.mpr ⟨fun w hw => ?_, ih y h2⟩
        have : w = y ∨ w ∈ l := by
          have p : (insI y l).Perm (y :: l) := by
            clear ih h h1 h2 hy hw
            induction l with
            | nil => exact .refl _
            | cons z l ih =>
              unfold insI
              split
              · exact .refl _
              · exact ((ih).cons z).trans (.swap y z l)
          simpa using p.mem_iff.mp hw
        rcases this with e | hw
        · omega
        · exact h1 w hw
  intro l
  induction l with
  | nil => exact .nil
  | cons y l ih => exact ins _ y ih
theorem pw_eq : ∀ {a b : List Int}, a.Pairwise (· < ·) → b.Pairwise (· < ·) → (∀ x, x ∈ a ↔ x ∈ b) → a = b
  | [], [], _, _, _ => rfl
  | [], y :: b, _, _, h => by have := (h y).mpr List.mem_cons_self; cases this
  | x :: a, [], _, _, h => by have := (h x).mp List.mem_cons_self; cases this
  | x :: a, y :: b, ha, hb, h => by
    obtain ⟨a1, a2⟩ := List.pairwise_cons.mp ha
    obtain ⟨b1, b2⟩ := List.pairwise_cons.mp hb
    have e : x = y := by
      rcases List.mem_cons.mp ((h x).mp List.mem_cons_self) with e | hx
      · exact e
      · rcases List.mem_cons.mp ((h y).mpr List.mem_cons_self) with e | hy
        · exact e.symm
        · have := a1 y hy; have := b1 x hx; omega
    subst e
    refine congrArg (x :: ·) (pw_eq a2 b2 fun z => ⟨fun hz => ?_, fun hz => ?_⟩)
    · rcases List.mem_cons.mp ((h z).mp (List.mem_cons_of_mem _ hz)) with e | h'
      · have := a1 z hz; omega
      · exact h'
    · rcases List.mem_cons.mp ((h z).mpr (List.mem_cons_of_mem _ hz)) with e | h'
      · have := b1 z hz; omega
      · exact h'
theorem lt_of_nodup {l : List Int} (h : l.Pairwise (· ≤ ·)) (n : l.Nodup) : l.Pairwise (· < ·) := (h.and n).imp fun {a b} h => (by have := h.1; have := h.2; omega)
/-- lists of as many places, a permutation of the first numbers -/
structure Pm (n : Nat) (p : List Nat) : Prop where
  len : p.length = n
  nodup : p.Nodup
  lt : ∀ {x : Nat}, x ∈ p ↔ x < n
theorem Pm.range {n : Nat} : Pm n (List.range n) := ⟨by simp, List.nodup_range, by simp⟩
theorem Pm.perm {n : Nat} {p q : List Nat} (h : Pm n q) (e : p.Perm q) : Pm n p := ⟨e.length_eq.trans h.len, e.nodup_iff.mpr h.nodup, fun {x} => by rw [e.mem_iff]; exact h.lt⟩
theorem Pm.getD {n : Nat} {p : List Nat} (h : Pm n p) {i : Nat} (hi : i < n) : p.getD i 0 < n := by
  have hl : i < p.length := by rw [h.len]; exact hi
  have : p.getD i 0 ∈ p := by simp [List.getD, hl]
  exact h.lt.mp this
theorem sub_len : ∀ {a b : List Nat}, a.Nodup → (∀ x ∈ a, x ∈ b) → a.length ≤ b.length
  | [], b, _, _ => Nat.zero_le _
  | x :: a, b, h, hs => by
    obtain ⟨h1, h2⟩ := List.nodup_cons.mp h
    have hx : x ∈ b := hs x List.mem_cons_self
    have ih := sub_len (a := a) (b := b.erase x) h2 fun y hy => by
      have hne : y ≠ x := fun e => h1 (e ▸ hy)
      exact (List.mem_erase_of_ne hne).mpr (hs y (List.mem_cons_of_mem _ hy))
    have hl := List.length_erase_of_mem hx
    have : 0 < b.length := List.length_pos_of_mem hx
    simp only [List.length_cons]
    omega
/-- nodup, all below n, n of them: a permutation -/
theorem Pm.of {n : Nat} {p : List Nat} (hl : p.length = n) (hn : p.Nodup) (hlt : ∀ x ∈ p, x < n) : Pm n p := by
  refine ⟨hl, hn, fun {x} => ⟨hlt x, fun hx => ?_⟩⟩
  by_cases hm : x ∈ p
  · exact hm
  · have := sub_len (a := x :: p) (b := List.range n) (List.nodup_cons.mpr ⟨hm, hn⟩) fun y hy => by
      rcases List.mem_cons.mp hy with rfl | hy
      · simpa using hx
      · simpa using hlt y hy
    simp only [List.length_cons, List.length_range] at this
    omega
/-- the place at which a number stands -/
theorem Pm.idx {n : Nat} {p : List Nat} (h : Pm n p) {x : Nat} (hx : x < n) : p.idxOf x < n ∧ p[p.idxOf x]? = some x := by
  have hm : x ∈ p := h.lt.mpr hx
  have := List.idxOf_lt_length_iff.mpr hm
  refine ⟨by rw [← h.len]; exact this, ?_⟩
  rw [List.getElem?_eq_getElem this]
  simp
theorem Pm.idx_of {n : Nat} {p : List Nat} (h : Pm n p) {i : Nat} (hi : i < n) : p.idxOf (p.getD i 0) = i := by
  have hl : i < p.length := by rw [h.len]; exact hi
  have e : p.getD i 0 = p[i] := by simp [List.getD, hl]
  rw [e]
  exact h.nodup.idxOf_getElem i hl
/-- row, followed by another one; undone -/
def compN (p q : List Nat) : List Nat := q.map fun i => p.getD i 0
def invN (p : List Nat) : List Nat := (List.range p.length).map fun x => p.idxOf x
end Lw
end
section
set_option autoImplicit false
set_option linter.all false
set_option maxRecDepth 100000
/-! M_whole: is_whole, is_tuple_of, at any value. -/
namespace Lw
open Py
def wholeB (lo hi : Int) : D → Bool
  | .int i => decide (lo ≤ i) && decide (i ≤ hi)
  | _ => false
def lenB (lo hi : Int) : D → Bool
  | .tup xs => decide (lo ≤ (xs.length : Int)) && decide ((xs.length : Int) ≤ hi)
  | _ => false
theorem whole_eq {d : D} {lo hi : Int} (h : isiOk d = true) : s_is_whole d (.int lo) (.int hi) = .ok (.bl (wholeB lo hi d)) := by
  cases d with
  | int i => by_cases h1 : lo ≤ i <;> simp [s_is_whole, isiR, isiOk, isiD, boolR, wholeB, le_int, h1]
  | dic => cases h
  | set => cases h
  | fz => cases h
  | _ => rfl
theorem tuple_of_eq {d : D} {lo hi : Int} (h : isiOk d = true) : s_is_tuple_of d (.int lo) (.int hi) = .ok (.bl (lenB lo hi d)) := by
  cases d with
  | tup xs => by_cases h1 : lo ≤ (xs.length : Int) <;> simp [s_is_tuple_of, isiR, isiOk, isiD, boolR, lenB, len_tup, le_int, nD, h1]
  | dic => cases h
  | set => cases h
  | fz => cases h
  | _ => rfl
end Lw
end
section
set_option autoImplicit false
set_option linter.all false
set_option maxRecDepth 100000
/-! M_fitrow: fits_row, need_row, need_bells at any value. -/
namespace Lw
open Py
def okL (xs : List D) : Prop := ∀ x ∈ xs, isiOk x = true
/-- a value whose items, if it is a tuple, may be asked what they are -/
def okT : D → Prop
  | .tup xs => okL xs
  | d => isiOk d = true
theorem okT.ok {d : D} (h : okT d) : isiOk d = true := by cases d <;> first | rfl | exact h
def intsOf (xs : List D) : List Int := xs.filterMap fun d => match d with
  | .int i => some i
  | _ => none
theorem intsOf_map {ns : List Int} : intsOf (ns.map .int) = ns := by
  unfold intsOf
  rw [List.filterMap_map]
  exact List.filterMap_some
theorem wholes_map {lo hi : Int} : ∀ {xs : List D}, xs.all (wholeB lo hi) = true → xs = (intsOf xs).map .int ∧ ∀ i ∈ intsOf xs, lo ≤ i ∧ i ≤ hi
  | [], _ => ⟨rfl, fun i hi => by cases hi⟩
  | x :: xs, h => by
    simp only [List.all_cons, Bool.and_eq_true] at h
    obtain ⟨e, b⟩ := wholes_map h.2
    cases x with
    | int i =>
      simp only [wholeB, Bool.and_eq_true, decide_eq_true_eq] at h
      refine ⟨?_, fun j hj => ?_⟩
      · show D.int i :: xs = .int i :: (intsOf xs).map .int
        rw [← e]
      · have hj : j = i ∨ j ∈ intsOf xs := by simpa [intsOf] using hj
        rcases hj with rfl | hj
        · exact h.1
        · exact b j hj
    | _ => simp [wholeB] at h
theorem intsOf_len {xs : List D} {lo hi : Int} (h : xs.all (wholeB lo hi) = true) : (intsOf xs).length = xs.length := by
  have := congrArg List.length (wholes_map h).1
  simpa using this.symm
def rowB (lo hi : Int) : D → Bool
  | .tup xs => decide (lo ≤ (xs.length : Int)) && decide ((xs.length : Int) ≤ hi) && (xs.all (wholeB 0 ((xs.length : Int) - 1)) && decide (intsOf xs).Nodup)
  | _ => false
theorem set_ints {ns : List Int} (h : ns.length ≤ 1000) : bltD .set [.tup (ns.map .int)] = .ok (.set ((once ns).map .int)) := by
  simp only [bltD, seqOf, Option.bind_some, ints_mapD]
  rw [if_pos h]
theorem fits_row_eq {v : D} {lo hi : Int} (h : okT v) (hh : hi ≤ 1000) : s_fits_row v (.int lo) (.int hi) = .ok (.bl (rowB lo hi v)) := by
  have hz := SZe
  unfold s_fits_row
  refine bind_of (tuple_of_eq h.ok) (bind_of (a := lenB lo hi v) rfl ?_)
  by_cases hl : lenB lo hi v = true
  · cases v with
    | tup xs =>
      have hl' := hl
      simp only [lenB, Bool.and_eq_true, decide_eq_true_eq] at hl'
      simp only [hl, Bool.not_true, Bool.false_eq_true, if_false]
      have hm : mapR (fun d4 => (bltD .len [D.tup xs]).bind fun x5 => (binD .sub x5 (.int 1)).bind fun x6 => (s_is_whole d4 (.int 0) x6).bind fun r7 => .ok r7) xs = .ok (xs.map fun d => .bl (wholeB 0 ((xs.length : Int) - 1) d)) :=
        mapR_id fun x hx => bind_of len_tup (bind_of sub_int (bind_of (whole_eq (h x hx)) rfl))
      refine bind_of (a := !(xs.all (wholeB 0 ((xs.length : Int) - 1)))) (bind_of (a := xs) rfl (bind_of hm (bind_of (szR_ok (by simp; omega)) (bind_of all_enc (bind_of (a := xs.all (wholeB 0 ((xs.length : Int) - 1))) rfl rfl))))) ?_
      by_cases ha : xs.all (wholeB 0 ((xs.length : Int) - 1)) = true
      · simp only [ha, Bool.not_true, Bool.false_eq_true, if_false]
        obtain ⟨e, b⟩ := wholes_map ha
        have el := intsOf_len ha
        refine bind_of (a := .set ((once (intsOf xs)).map .int)) ?_ (bind_of len_set (bind_of len_tup (bind_of eq_nat ?_)))
        · rw [e, intsOf_map]; exact set_ints (by omega)
        · have e2 : decide (((once (intsOf xs)).map D.int).length = xs.length) = decide (intsOf xs).Nodup := by
            refine decide_eq_decide.mpr ?_
            rw [List.length_map, ← el]
            exact once_len_eq
          rw [e2]
          simp only [rowB, hl'.1, hl'.2, ha, decide_true, Bool.true_and]
      · have ha' : xs.all (wholeB 0 ((xs.length : Int) - 1)) = false := by simpa using ha
        simp only [ha', Bool.not_false, if_true, rowB, Bool.false_and, Bool.and_false]
    | _ => cases hl
  · have hl' : lenB lo hi v = false := by simpa using hl
    simp only [hl', Bool.not_false, if_true]
    refine bind_of (a := true) rfl ?_
    have : rowB lo hi v = false := by
      cases v with
      | tup xs =>
        have q : (decide (lo ≤ (xs.length : Int)) && decide ((xs.length : Int) ≤ hi)) = false := hl'
        simp only [rowB, q, Bool.false_and]
      | _ => rfl
    rw [this]
    rfl
theorem need_row_eq {v : D} {lo hi : Int} {K : R D} (h : okT v) (hh : hi ≤ 1000) (hk : s_need_row v (.int lo) (.int hi) = (s_fits_row v (.int lo) (.int hi)).bind fun r1 => (boolR r1).bind fun c2 => if (!c2) = true then K else .ok .non) :
    s_need_row v (.int lo) (.int hi) = if rowB lo hi v = true then .ok .non else K := by
  rw [hk, fits_row_eq h hh]
  cases rowB lo hi v <;> rfl
/-- a row -/
theorem okL_nat {l : List Nat} : okL (l.map nD) := fun x hx => by
  obtain ⟨n, _, rfl⟩ := List.mem_map.mp hx
  rfl
theorem intsOf_nat {l : List Nat} : intsOf (l.map nD) = l.map nz := by
  have : l.map nD = (l.map nz).map D.int := by simp
  rw [this, intsOf_map]
theorem row_pm {n : Nat} {p : List Nat} (h : Pm n p) {lo hi : Int} (h1 : lo ≤ (n : Int)) (h2 : (n : Int) ≤ hi) : rowB lo hi (nT p) = true := by
  simp only [rowB, nT, List.length_map, h.len, h1, h2, decide_true, Bool.true_and, Bool.and_eq_true, decide_eq_true_eq, intsOf_nat, nodup_cast]
  refine ⟨List.all_eq_true.mpr fun x hx => ?_, h.nodup⟩
  obtain ⟨y, hy, rfl⟩ := List.mem_map.mp hx
  have := h.lt.mp hy
  simp only [wholeB, Bool.and_eq_true, decide_eq_true_eq]
  omega
end Lw
end
section
set_option autoImplicit false
set_option linter.all false
set_option maxRecDepth 100000
/-! M_chs: changes. -/
namespace Lw
open Py
/-! changes of b bells -/
def chs : Nat → List (List Nat)
  | 2 => [[], [0]]
  | 3 => [[], [0], [1]]
  | 4 => [[], [0], [0, 2], [1], [2]]
  | 5 => [[], [0], [0, 2], [0, 3], [1], [1, 3], [2], [3]]
  | 6 => [[], [0], [0, 2], [0, 2, 4], [0, 3], [0, 4], [1], [1, 3], [1, 4], [2], [2, 4], [3], [4]]
  | _ => []
/-- the place to which a change leads -/
def pie (c : List Nat) (x : Nat) : Nat := if x ∈ c then x + 1 else if 0 < x ∧ x - 1 ∈ c then x - 1 else x
def Gap (c : List Nat) : Prop := ∀ z ∈ c, z + 1 ∉ c
theorem chs_gap {b : Nat} {c : List Nat} (h : c ∈ chs b) : Gap c ∧ ∀ z ∈ c, z + 1 < b := by
  have key : ∀ b ∈ [2, 3, 4, 5, 6], ((chs b).all fun c => c.all fun z => !c.contains (z + 1) && decide (z + 1 < b)) = true := by decide +kernel
  by_cases hb : b ∈ [2, 3, 4, 5, 6]
  · have := key b hb
    simp only [List.all_eq_true, Bool.and_eq_true, Bool.not_eq_true', decide_eq_true_eq] at this
    exact ⟨fun z hz e => by have := (this c h z hz).1; simp [e] at this, fun z hz => (this c h z hz).2⟩
  · have : chs b = [] := by
      simp only [List.mem_cons, List.not_mem_nil, or_false, not_or] at hb
      unfold chs
      split <;> first | rfl | omega
    rw [this] at h; cases h
theorem pie_invol {c : List Nat} (g : Gap c) (x : Nat) : pie c (pie c x) = x := by
  unfold pie
  by_cases h : x ∈ c
  · rw [if_pos h, if_neg (g x h), if_pos ⟨by omega, by simpa using h⟩]; omega
  · rw [if_neg h]
    by_cases h2 : 0 < x ∧ x - 1 ∈ c
    · rw [if_pos h2, if_pos h2.2]; omega
    · rw [if_neg h2, if_neg h, if_neg h2]
theorem pie_lt {b : Nat} {c : List Nat} (h : ∀ z ∈ c, z + 1 < b) {x : Nat} (hx : x < b) : pie c x < b := by
  unfold pie
  split
  · exact h _ (by assumption)
  · split <;> omega
def Bs (b : Nat) : Prop := b = 2 ∨ b = 3 ∨ b = 4 ∨ b = 5 ∨ b = 6
theorem Bs.le {b : Nat} (h : Bs b) : 2 ≤ b ∧ b ≤ 6 := by rcases h with rfl | rfl | rfl | rfl | rfl <;> omega
theorem chs_len {b : Nat} (hb : Bs b) : (chs b).length ≤ 13 ∧ ∀ c ∈ chs b, c.length ≤ 3 := by
  rcases hb with rfl | rfl | rfl | rfl | rfl <;> decide +kernel
def behN (row c : List Nat) : List Nat := c.foldl (fun f z => (f.set z (row.getD (z + 1) 0)).set (z + 1) (row.getD z 0)) row
theorem behN_eq {b : Nat} (hb : Bs b) {row c : List Nat} (hr : row.length = b) (hc : c ∈ chs b) : behN row c = (List.range b).map fun p => row.getD (pie c p) 0 := by
  rcases hb with rfl | rfl | rfl | rfl | rfl
  · match row, hr with
    | [x0, x1], _ => simp only [chs, List.mem_cons, List.not_mem_nil, or_false] at hc; rcases hc with rfl | rfl <;> rfl
  · match row, hr with
    | [x0, x1, x2], _ => simp only [chs, List.mem_cons, List.not_mem_nil, or_false] at hc; rcases hc with rfl | rfl | rfl <;> rfl
  · match row, hr with
    | [x0, x1, x2, x3], _ => simp only [chs, List.mem_cons, List.not_mem_nil, or_false] at hc; rcases hc with rfl | rfl | rfl | rfl | rfl <;> rfl
  · match row, hr with
    | [x0, x1, x2, x3, x4], _ => simp only [chs, List.mem_cons, List.not_mem_nil, or_false] at hc; rcases hc with rfl | rfl | rfl | rfl | rfl | rfl | rfl | rfl <;> rfl
  · match row, hr with
    | [x0, x1, x2, x3, x4, x5], _ => simp only [chs, List.mem_cons, List.not_mem_nil, or_false] at hc; rcases hc with rfl | rfl | rfl | rfl | rfl | rfl | rfl | rfl | rfl | rfl | rfl | rfl | rfl <;> rfl
theorem behN_len {row : List Nat} : ∀ {c f : List Nat}, (c.foldl (fun f z => (f.set z (row.getD (z + 1) 0)).set (z + 1) (row.getD z 0)) f).length = f.length
  | [], _ => rfl
  | z :: c, f => by rw [List.foldl_cons, behN_len]; simp
def rowsN (row : List Nat) : List (List Nat) → List (List Nat)
  | [] => [row]
  | c :: cs => row :: rowsN (behN row c) cs
def endN (row : List Nat) (cs : List (List Nat)) : List Nat := cs.foldl behN row
theorem rows_snoc : ∀ {cs : List (List Nat)} {row c : List Nat}, rowsN row (cs ++ [c]) = rowsN row cs ++ [behN (endN row cs) c]
  | [], _, _ => rfl
  | d :: cs, row, c => by
    show row :: rowsN (behN row d) (cs ++ [c]) = _
    rw [rows_snoc]; rfl
theorem rows_last : ∀ {cs : List (List Nat)} {row : List Nat}, (rowsN row cs).getLast? = some (endN row cs)
  | [], _ => rfl
  | d :: cs, row => by
    show (row :: rowsN (behN row d) cs).getLast? = _
    rw [List.getLast?_cons, rows_last]; rfl
theorem rows_len : ∀ {cs : List (List Nat)} {row : List Nat}, (rowsN row cs).length = cs.length + 1
  | [], _ => rfl
  | d :: cs, row => by simp only [rowsN, List.length_cons, rows_len]
theorem rows_head {cs : List (List Nat)} {row : List Nat} : rowsN row cs = row :: (rowsN row cs).drop 1 := by cases cs <;> rfl
theorem end_len {b : Nat} (hb : Bs b) : ∀ {cs : List (List Nat)} {row : List Nat}, row.length = b → (∀ c ∈ cs, c ∈ chs b) → (endN row cs).length = b
  | [], _, h, _ => h
  | d :: cs, row, h, hc => by
    show (endN (behN row d) cs).length = b
    exact end_len hb (by rw [behN, behN_len]; exact h) fun c hc' => hc c (List.mem_cons_of_mem _ hc')
theorem beh_nodup {b : Nat} (hb : Bs b) {row c : List Nat} (hr : row.length = b) (hn : row.Nodup) (hc : c ∈ chs b) : (behN row c).Nodup ∧ (behN row c).length = b ∧ ∀ p, p < b → (behN row c)[pie c p]? = row[p]? := by
  obtain ⟨g, hl⟩ := chs_gap hc
  rw [behN_eq hb hr hc]
  refine ⟨?_, by simp, fun p hp => ?_⟩
  · refine List.pairwise_map.mpr (List.Pairwise.imp_of_mem (fun {i j} hi hj hij e => hij ?_) List.nodup_range)
    have hi' : pie c i < b := pie_lt hl (by simpa using hi)
    have hj' : pie c j < b := pie_lt hl (by simpa using hj)
    have : row[pie c i]'(by omega) = row[pie c j]'(by omega) := by
      simpa [List.getD, hr, hi', hj'] using e
    have := (List.getElem_inj hn).mp this
    rw [← pie_invol g i, this, pie_invol g j]
  · have h1 : pie c p < b := pie_lt hl hp
    rw [List.getElem?_map, List.getElem?_range h1]
    simp [pie_invol g, List.getD, hr, hp]
end Lw
end
section
set_option autoImplicit false
set_option linter.all false
set_option maxRecDepth 100000
/-! M_fitch: fits_change at any value. -/
namespace Lw
open Py
def gapsB (l : List Int) : Bool := (l.zip (l.drop 1)).all fun p => decide (p.1 + 1 < p.2)
def chgB (b : Int) : D → Bool
  | .tup xs => xs.all (wholeB 0 (b - 2)) && gapsB (intsOf xs)
  | _ => false
abbrev fewT (v : D) : Prop := ∀ xs, v = .tup xs → xs.length ≤ 1000
theorem gaps_run {ns : List Int} (hl : ns.length ≤ 1000) : ((zipD (.lst [.tup (ns.map .int), .tup ((ns.map D.int).drop 1)])).bind fun l14 =>
  (mapR (fun d15 => (unTn 2 d15).bind fun l16 =>
    (binD .add (l16.getD 0 .non) (.int 1)).bind fun x17 =>
    (cmpD .lt x17 (l16.getD 1 .non)).bind fun c18 =>
    .ok (.bl c18)) l14).bind fun l19 =>
  (szR l19.length).bind fun u20 =>
  (bltD .all [(.lst l19)]).bind fun x21 =>
  .ok x21) = .ok (.bl (gapsB ns)) := by
  have hz := SZe
  have e1 : zipD (.lst [.tup (ns.map .int), .tup ((ns.map D.int).drop 1)]) = .ok ((ns.zip (ns.drop 1)).map fun p => .tup [.int p.1, .int p.2]) := by
    show R.ok (zip2 (ns.map .int) ((ns.map D.int).drop 1)) = _
    rw [← List.map_drop, zip2_enc]
  refine bind_of e1 ?_
  refine bind_of (mapR_enc (g := fun p => .bl (decide (p.1 + 1 < p.2))) fun p _ => bind_of unT2 (bind_of add_int (bind_of lt_int rfl))) ?_
  refine bind_of (szR_ok (by simp; omega)) ?_
  exact bind_of all_enc rfl
theorem fits_change_eq {v : D} {b : Int} (h : okT v) (hw : fewT v) : s_fits_change (.int b) v = .ok (.bl (chgB b v)) := by
  have hz := SZe
  unfold s_fits_change
  cases v with
  | tup xs =>
    have hl : xs.length ≤ 1000 := hw xs rfl
    refine bind_of (a := .bl true) rfl (bind_of (a := true) rfl ?_)
    have hm : mapR (fun d4 => (binD .sub (.int b) (.int 2)).bind fun x5 => (s_is_whole d4 (.int 0) x5).bind fun r6 => .ok r6) xs = .ok (xs.map fun d => .bl (wholeB 0 (b - 2) d)) :=
      mapR_id fun x hx => bind_of sub_int (bind_of (whole_eq (h x hx)) rfl)
    simp only [Bool.not_true, Bool.false_eq_true, if_false]
    refine bind_of (a := !(xs.all (wholeB 0 (b - 2)))) (bind_of (a := xs) rfl (bind_of hm (bind_of (szR_ok (by simp; omega)) (bind_of all_enc (bind_of (a := xs.all (wholeB 0 (b - 2))) rfl rfl))))) ?_
    by_cases ha : xs.all (wholeB 0 (b - 2)) = true
    · simp only [ha, Bool.not_true, Bool.false_eq_true, if_false]
      refine bind_of part_int (bind_of (sl_tup_from (k := 1)) ?_)
      have e := (wholes_map ha).1
      have el := intsOf_len ha
      have := gaps_run (ns := intsOf xs) (by omega)
      rw [← e] at this
      rw [this]
      simp only [chgB, ha, Bool.true_and]
    · have ha' : xs.all (wholeB 0 (b - 2)) = false := by simpa using ha
      simp only [ha', Bool.not_false, if_true, chgB, Bool.false_and]
  | dic => cases h
  | set => cases h
  | fz => cases h
  | _ => rfl
theorem chs_fits {b : Nat} (hb : Bs b) {c : List Nat} (hc : c ∈ chs b) : chgB (b : Int) (nT c) = true := by
  have key : ∀ b ∈ [2, 3, 4, 5, 6], ((chs b).all fun c => chgB (b : Int) (nT c)) = true := by decide +kernel
  exact List.all_eq_true.mp (key b (by rcases hb with rfl | rfl | rfl | rfl | rfl <;> simp)) c hc
theorem okT_nat {l : List Nat} : okT (nT l) := okL_nat
theorem fewT_nat {l : List Nat} (h : l.length ≤ 1000) : fewT (nT l) := fun xs e => by cases e; simpa using h
end Lw
end
section
set_option autoImplicit false
set_option linter.all false
set_option maxRecDepth 100000
/-! M_more: more about values of any kind. -/
namespace Lw
open Py
theorem eqDs_ints : ∀ {a b : List Int}, eqDs (a.map .int) (b.map .int) = decide (a = b)
  | [], [] => rfl
  | [], _ :: _ => rfl
  | _ :: _, [] => rfl
  | x :: a, y :: b => by
    simp only [List.map_cons, eqDs, eqDs_ints (a := a) (b := b), eqD]
    by_cases h : x = y <;> simp [h]
theorem shal_ints {n : Nat} {l : List Int} : (l.map D.int).all (shal n) = true := by
  simp only [List.all_map, List.all_eq_true]
  exact fun x _ => shal_int
theorem eq_ints {a b : List Int} : cmpD .eq (.lst (a.map .int)) (.lst (b.map .int)) = .ok (decide (a = b)) := by
  simp only [cmpD, eqR, shal, shal_ints, Bool.and_self, if_true, eqD, eqDs_ints]
def allW (lo hi : Int) : D → Bool
  | .tup xs => xs.all (wholeB lo hi)
  | _ => false
theorem none_eq {α : Type} {xs : List α} {p : α → Bool} : cmpD .eq (.lst ((xs.filter p).map fun _ => .int 1)) (.lst []) = .ok (xs.all fun x => !p x) := by
  have : (xs.filter p).map (fun _ => D.int 1) = ((xs.filter p).map fun _ => (1 : Int)).map .int := by simp
  rw [this]
  have := eq_ints (a := (xs.filter p).map fun _ => (1 : Int)) (b := [])
  rw [show (D.lst []) = .lst (([] : List Int).map .int) from rfl, this]
  congr 1
  rw [Bool.eq_iff_iff]
  simp [List.filter_eq_nil_iff]
def simD : D → Prop := fun v => okT v ∧ fewT v
theorem sim_tup {xs : List D} (h : okL xs) (hl : xs.length ≤ 1000) : simD (.tup xs) := ⟨h, fun ys e => by cases e; exact hl⟩
theorem sim_lst {xs : List D} : simD (.lst xs) := ⟨rfl, fun ys e => by cases e⟩
theorem okL_app {a b : List D} (ha : okL a) (hb : okL b) : okL (a ++ b) := fun x hx => (List.mem_append.mp hx).elim (ha x) (hb x)
theorem okL_one {d : D} (h : isiOk d = true) : okL [d] := fun x hx => by
  have : x = d := by simpa using hx
  subst this; exact h
theorem okL_sub {a b : List D} (hb : okL b) (h : ∀ x ∈ a, x ∈ b) : okL a := fun x hx => hb x (h x hx)
def oddP (d : D) : Prop := simD d ∧ isiOk d = true
theorem odd_of {l : List D} (h : l.all (fun d => match d with | .tup xs => xs.all isiOk && decide (xs.length ≤ 1000) | d => isiOk d) = true) : ∀ d ∈ l, oddP d := fun d hd => by
  have := List.all_eq_true.mp h d hd
  cases d with
  | tup xs =>
    simp only [Bool.and_eq_true, decide_eq_true_eq] at this
    exact ⟨sim_tup (fun x hx => List.all_eq_true.mp this.1 x hx) this.2, rfl⟩
  | _ => exact ⟨⟨this, fun ys e => by cases e⟩, this⟩
theorem take_okL {l : List Nat} {k : Nat} : okL ((l.map nD).take k) := okL_sub okL_nat fun x hx => List.mem_of_mem_take hx
theorem drop_okL {l : List Nat} {k : Nat} : okL ((l.map nD).drop k) := okL_sub okL_nat fun x hx => List.mem_of_mem_drop hx
theorem sl_to {l : List Nat} {k : Nat} : slD (nT l) none (some (k : Int)) = .ok (.tup ((l.map nD).take k)) := sl_tup_to
theorem sl_from {l : List Nat} {k : Nat} : slD (nT l) (some (k : Int)) none = .ok (.tup ((l.map nD).drop k)) := sl_tup_from
theorem is_bl (b : Bool) : cmpD .nis (.bl b) (.bl true) = .ok (!b) := by cases b <;> rfl
theorem eq_bl (a b : Bool) : cmpD .eq (.bl a) (.bl b) = .ok (a == b) := by cases a <;> cases b <;> rfl
theorem ne_bl (a : Bool) : cmpD .ne (.bl a) (.bl a) = .ok false := by cases a <;> rfl
end Lw
end
section
set_option autoImplicit false
set_option linter.all false
set_option maxRecDepth 100000
/-! M_lead: fits_lead at any value. -/
namespace Lw
open Py
def okLead : D → Prop
  | .tup xs => ∀ x ∈ xs, simD x
  | d => isiOk d = true
theorem okLead.ok {d : D} (h : okLead d) : isiOk d = true := by cases d <;> first | rfl | exact h
def leadB (b : Int) : D → Bool
  | .tup xs => decide (1 ≤ (xs.length : Int)) && decide ((xs.length : Int) ≤ 24) && xs.all (chgB b)
  | _ => false
theorem fits_lead_eq {v : D} {b : Int} (h : okLead v) : s_fits_lead (.int b) v = .ok (.bl (leadB b v)) := by
  have hz := SZe
  unfold s_fits_lead
  refine bind_of (tuple_of_eq h.ok) (bind_of (a := lenB 1 24 v) rfl ?_)
  cases v with
  | tup xs =>
    by_cases hl : lenB 1 24 (.tup xs) = true
    · have hl' := hl
      simp only [lenB, Bool.and_eq_true, decide_eq_true_eq] at hl'
      simp only [hl, if_true]
      refine bind_of (a := xs.all (chgB b)) (bind_of (a := xs) rfl (bind_of (mapR_id fun x hx => bind_of (fits_change_eq (h x hx).1 (h x hx).2) rfl) (bind_of (szR_ok (by simp; omega)) (bind_of all_enc rfl)))) ?_
      simp only [leadB, hl'.1, hl'.2, decide_true, Bool.true_and]
    · have hl' : lenB 1 24 (.tup xs) = false := by simpa using hl
      have q : (decide (1 ≤ (xs.length : Int)) && decide ((xs.length : Int) ≤ 24)) = false := hl'
      simp only [hl', Bool.false_eq_true, if_false, leadB, q, Bool.false_and]
      rfl
  | dic => cases h
  | set => cases h
  | fz => cases h
  | _ => rfl
theorem lead_sim {cs : List (List Nat)} (h : ∀ c ∈ cs, c.length ≤ 1000) : okLead (.tup (cs.map nT)) := fun x hx => by
  obtain ⟨c, hc, rfl⟩ := List.mem_map.mp hx
  exact ⟨okT_nat, fewT_nat (h c hc)⟩
theorem lead_fits {b : Nat} (hb : Bs b) {cs : List (List Nat)} (hc : ∀ c ∈ cs, c ∈ chs b) (h1 : 1 ≤ cs.length) (h2 : cs.length ≤ 24) : leadB (b : Int) (.tup (cs.map nT)) = true := by
  have a1 : (1 : Int) ≤ (cs.length : Int) := by omega
  have a2 : (cs.length : Int) ≤ 24 := by omega
  simp only [leadB, List.length_map, a1, a2, decide_true, Bool.true_and, List.all_map, List.all_eq_true]
  exact fun c h => chs_fits hb (hc c h)
end Lw
end
section
set_option autoImplicit false
set_option linter.all false
set_option maxRecDepth 100000
/-! M_acts: rows followed by others, undone. -/
namespace Lw
open Py
theorem getD_of {l : List Nat} {i : Nat} (h : i < l.length) : l.getD i 0 = l[i] := by simp [List.getD, h]
theorem comp_len {p q : List Nat} : (compN p q).length = q.length := by simp [compN]
theorem inv_len {p : List Nat} : (invN p).length = p.length := by simp [invN]
theorem comp_get {p q : List Nat} {i : Nat} (h : i < q.length) : (compN p q).getD i 0 = p.getD (q.getD i 0) 0 := by simp [compN, List.getD, h]
theorem inv_get {n : Nat} {p : List Nat} (h : Pm n p) {i : Nat} (hi : i < n) : (invN p).getD i 0 = p.idxOf i := by
  have : i < p.length := by rw [h.len]; exact hi
  simp [invN, List.getD, this]
theorem idx_get {n : Nat} {p : List Nat} (h : Pm n p) {i : Nat} (hi : i < n) : p.getD (p.idxOf i) 0 = i := by
  have := (h.idx hi).2
  simp [List.getD, this]
theorem ext_getD {a b : List Nat} (hl : a.length = b.length) (h : ∀ i < a.length, a.getD i 0 = b.getD i 0) : a = b := by
  refine List.ext_getElem hl fun i h1 h2 => ?_
  have := h i h1
  rwa [getD_of h1, getD_of h2] at this
theorem inj_of {n : Nat} {p : List Nat} (h : Pm n p) {i j : Nat} (hi : i < n) (hj : j < n) (e : p.getD i 0 = p.getD j 0) : i = j := by
  rw [← h.idx_of hi, ← h.idx_of hj, e]
theorem Pm.of_get {n : Nat} {p : List Nat} (hl : p.length = n) (hlt : ∀ i < n, p.getD i 0 < n) (hinj : ∀ i < n, ∀ j < n, p.getD i 0 = p.getD j 0 → i = j) : Pm n p := by
  refine .of hl ?_ fun x hx => ?_
  · rw [List.nodup_iff_pairwise_ne, List.pairwise_iff_getElem]
    intro i j hi hj hij e
    have := hinj i (by omega) j (by omega) (by rw [getD_of hi, getD_of hj, e])
    omega
  · obtain ⟨i, hi, rfl⟩ := List.mem_iff_getElem.mp hx
    rw [← getD_of hi]
    exact hlt i (by omega)
theorem Pm.comp {n : Nat} {p q : List Nat} (hp : Pm n p) (hq : Pm n q) : Pm n (compN p q) := by
  refine .of_get (by rw [comp_len, hq.len]) (fun i hi => ?_) fun i hi j hj e => ?_
  · rw [comp_get (by rw [hq.len]; exact hi)]; exact hp.getD (hq.getD hi)
  · rw [comp_get (by rw [hq.len]; exact hi), comp_get (by rw [hq.len]; exact hj)] at e
    exact inj_of hq hi hj (inj_of hp (hq.getD hi) (hq.getD hj) e)
theorem Pm.inv {n : Nat} {p : List Nat} (hp : Pm n p) : Pm n (invN p) := by
  refine .of_get (by rw [inv_len, hp.len]) (fun i hi => ?_) fun i hi j hj e => ?_
  · rw [inv_get hp hi]; exact (hp.idx hi).1
  · rw [inv_get hp hi, inv_get hp hj] at e
    rw [← idx_get hp hi, ← idx_get hp hj, e]
theorem comp_inv {n : Nat} {p : List Nat} (hp : Pm n p) : compN p (invN p) = List.range n := by
  refine ext_getD (by rw [comp_len, inv_len, hp.len]; simp) fun i hi => ?_
  rw [comp_len, inv_len, hp.len] at hi
  rw [comp_get (by rw [inv_len, hp.len]; exact hi), inv_get hp hi, idx_get hp hi]
  simp [List.getD, hi]
theorem inv_comp {n : Nat} {p : List Nat} (hp : Pm n p) : compN (invN p) p = List.range n := by
  refine ext_getD (by rw [comp_len, hp.len]; simp) fun i hi => ?_
  rw [comp_len, hp.len] at hi
  rw [comp_get (by rw [hp.len]; exact hi), inv_get hp (hp.getD hi), hp.idx_of hi]
  simp [List.getD, hi]
theorem inv_of_comp {n : Nat} {p q : List Nat} (hp : Pm n p) (hq : Pm n q) : invN (compN p q) = compN (invN q) (invN p) := by
  have hc := hp.comp hq
  refine ext_getD (by rw [inv_len, comp_len, comp_len, inv_len, hq.len, hp.len]) fun i hi => ?_
  rw [inv_len, hc.len] at hi
  have hi1 : p.idxOf i < n := (hp.idx hi).1
  have hi2 : q.idxOf (p.idxOf i) < n := (hq.idx hi1).1
  rw [inv_get hc hi, comp_get (by rw [inv_len, hp.len]; exact hi), inv_get hp hi, inv_get hq hi1]
  refine inj_of hc (hc.idx hi).1 hi2 ?_
  rw [idx_get hc hi, comp_get (by rw [hq.len]; exact hi2), idx_get hq hi1, idx_get hp hi]
theorem comp_assoc {n : Nat} {p q r : List Nat} (hq : q.length = n) (hr : ∀ i ∈ r, i < n) : compN (compN p q) r = compN p (compN q r) := by
  unfold compN
  rw [List.map_map]
  refine List.map_congr_left fun i hi => ?_
  have := hr i hi
  simp [List.getD, hq, this]
theorem comp_range {n : Nat} {p : List Nat} (hp : p.length = n) : compN p (List.range n) = p := by
  refine ext_getD (by rw [comp_len]; simp [hp]) fun i hi => ?_
  rw [comp_len, List.length_range] at hi
  rw [comp_get (by simpa using hi)]
  simp [List.getD, hi]
theorem range_comp {n : Nat} {p : List Nat} (hp : ∀ i ∈ p, i < n) : compN (List.range n) p = p := by
  have : p.map (fun i => (List.range n).getD i 0) = p.map id := List.map_congr_left fun i hi => by
    have := hp i hi
    simp [List.getD, this]
  unfold compN
  rw [this, List.map_id]
/-- the row behind a change has the same bells -/
theorem Pm.beh {b : Nat} (hb : Bs b) {p c : List Nat} (hp : Pm b p) (hc : c ∈ chs b) : Pm b (behN p c) := by
  obtain ⟨n1, n2, n3⟩ := beh_nodup hb hp.len hp.nodup hc
  refine .of n2 n1 fun x hx => ?_
  rw [behN_eq hb hp.len hc] at hx
  obtain ⟨i, hi, rfl⟩ := List.mem_map.mp hx
  exact hp.getD (pie_lt (chs_gap hc).2 (by simpa using hi))
theorem beh_beh {b : Nat} (hb : Bs b) {p c : List Nat} (hp : p.length = b) (hc : c ∈ chs b) : behN (behN p c) c = p := by
  obtain ⟨g, hl⟩ := chs_gap hc
  have h1 : (behN p c).length = b := by rw [behN, behN_len]; exact hp
  rw [behN_eq hb h1 hc, behN_eq hb hp hc]
  refine ext_getD (by simp [hp]) fun i hi => ?_
  have hi : i < b := by simpa using hi
  have h2 : pie c i < b := pie_lt hl hi
  simp [List.getD, hi, h2, pie_invol g]
/-- the rows behind changes act by the right -/
theorem beh_comp {b : Nat} (hb : Bs b) {p c : List Nat} (hp : p.length = b) (hc : c ∈ chs b) : behN p c = compN p (behN (List.range b) c) := by
  obtain ⟨g, hl⟩ := chs_gap hc
  rw [behN_eq hb hp hc, behN_eq hb (by simp) hc]
  unfold compN
  rw [List.map_map]
  refine List.map_congr_left fun i hi => ?_
  have hi : i < b := by simpa using hi
  have h2 : pie c i < b := pie_lt hl hi
  simp [List.getD, h2]
end Lw
end
section
set_option autoImplicit false
set_option linter.all false
set_option maxRecDepth 100000
/-! M_changed: changed. -/
namespace Lw
open Py
def swN (f : List Nat) (z : Nat) : List Nat := f.take z ++ [f.getD (z + 1) 0, f.getD z 0] ++ f.drop (z + 2)
theorem swN_len {f : List Nat} {z : Nat} (h : z + 1 < f.length) : (swN f z).length = f.length := by
  simp only [swN, List.length_append, List.length_take, List.length_cons, List.length_nil, List.length_drop]; omega
theorem swN_eq {b : Nat} (hb : Bs b) {row c : List Nat} (hr : row.length = b) (hc : c ∈ chs b) : c.foldl swN row = behN row c := by
  rcases hb with rfl | rfl | rfl | rfl | rfl
  · match row, hr with
    | [x0, x1], _ => simp only [chs, List.mem_cons, List.not_mem_nil, or_false] at hc; rcases hc with rfl | rfl <;> rfl
  · match row, hr with
    | [x0, x1, x2], _ => simp only [chs, List.mem_cons, List.not_mem_nil, or_false] at hc; rcases hc with rfl | rfl | rfl <;> rfl
  · match row, hr with
    | [x0, x1, x2, x3], _ => simp only [chs, List.mem_cons, List.not_mem_nil, or_false] at hc; rcases hc with rfl | rfl | rfl | rfl | rfl <;> rfl
  · match row, hr with
    | [x0, x1, x2, x3, x4], _ => simp only [chs, List.mem_cons, List.not_mem_nil, or_false] at hc; rcases hc with rfl | rfl | rfl | rfl | rfl | rfl | rfl | rfl <;> rfl
  · match row, hr with
    | [x0, x1, x2, x3, x4, x5], _ => simp only [chs, List.mem_cons, List.not_mem_nil, or_false] at hc; rcases hc with rfl | rfl | rfl | rfl | rfl | rfl | rfl | rfl | rfl | rfl | rfl | rfl | rfl <;> rfl
theorem changed_ok {b : Nat} (hb : Bs b) {row c : List Nat} (hr : row.length = b) (hc : c ∈ chs b) : s_changed (nT row) (nT c) = .ok (nT (behN row c)) := by
  obtain ⟨g, hl⟩ := chs_gap hc
  have hz := SZe
  have h6 := hb.le
  unfold s_changed
  refine bind_of (a := c.map nD) rfl ?_
  obtain ⟨st, e, hst⟩ := foldR_inv (e := nD) (F := fun d2 s3 =>
      (partR (.loc 0) d2).bind fun o5 =>
    (slD (s3.getD 0 .non) none o5).bind fun x6 =>
    (binD .add d2 (.int 1)).bind fun x7 =>
    (subsD (s3.getD 0 .non) x7).bind fun x8 =>
    (subsD (s3.getD 0 .non) d2).bind fun x9 =>
    (binD .add x6 (.tup [x8, x9])).bind fun x10 =>
    (binD .add d2 (.int 2)).bind fun x11 =>
    (partR (.loc 0) x11).bind fun o12 =>
    (slD (s3.getD 0 .non) o12 none).bind fun x13 =>
    (binD .add x10 x13).bind fun x14 =>
    .ok [x14]) (I := fun p st => st = [nT (p.foldl swN row)] ∧ (p.foldl swN row).length = b) c [] (st := [nT row]) (by
      rintro p z q _ hp ⟨rfl, hlen⟩
      have hz : z + 1 < b := hl z (by
        have : z ∈ [] ++ c := by rw [hp]; simp
        simpa using this)
      refine ⟨[nT (swN (p.foldl swN row) z)], ?_, by rw [List.foldl_append]; exact ⟨rfl, by show (swN _ z).length = b; rw [swN_len (by omega)]; exact hlen⟩⟩
      generalize p.foldl swN row = f at hlen
      refine bind_of part_int ?_
      refine bind_of sl_tup_to ?_
      refine bind_of add_nat1 ?_
      refine bind_of (sub_nT (by omega)) ?_
      refine bind_of (sub_nT (by omega)) ?_
      refine bind_of (add_tup (by simp only [List.length_take, List.length_map, List.length_cons, List.length_nil]; omega)) ?_
      refine bind_of (add_nat (b := 2)) ?_
      refine bind_of part_int ?_
      refine bind_of (sl_tup_from (k := z + 2)) ?_
      refine bind_of (add_tup (by simp only [List.length_append, List.length_take, List.length_drop, List.length_map, List.length_cons, List.length_nil]; omega)) ?_
      simp [nT, swN, List.map_take, List.map_drop]) ⟨rfl, hr⟩
  refine bind_of e ?_
  rw [hst.1]
  show R.ok (nT (([] ++ c).foldl swN row)) = _
  rw [List.nil_append, swN_eq hb hr hc]
end Lw
end
section
set_option autoImplicit false
set_option linter.all false
set_option maxRecDepth 100000
/-! M_rungs: rows rung, in plain lists; equality of a value with itself. -/
namespace Lw
open Py
mutual
theorem eqD_refl : ∀ (n : Nat) (d : D), shal n d = true → eqD d d = true
  | n, .non, _ => rfl
  | n, .bl b, _ => by cases b <;> rfl
  | n, .int i, _ => by simp [eqD]
  | n, .str s, _ => by simp [eqD]
  | 0, .tup xs, h => by simp [shal] at h
  | 0, .lst xs, h => by simp [shal] at h
  | n + 1, .tup xs, h => by simp only [eqD]; exact eqDs_refl n xs (by simpa [shal] using h)
  | n + 1, .lst xs, h => by simp only [eqD]; exact eqDs_refl n xs (by simpa [shal] using h)
  | n, .set xs, h => by cases n <;> simp [shal] at h
  | n, .dic ks vs, h => by cases n <;> simp [shal] at h
  | n, .fz xs, h => by cases n <;> simp [shal] at h
theorem eqDs_refl : ∀ (n : Nat) (ds : List D), (∀ d ∈ ds, shal n d = true) → eqDs ds ds = true
  | _, [], _ => rfl
  | n, d :: ds, h => by simp only [eqDs, eqD_refl n d (h d List.mem_cons_self), eqDs_refl n ds (fun e he => h e (List.mem_cons_of_mem _ he)), Bool.and_self]
end
theorem eq_self {d : D} (h : shal DEEP d = true) : cmpD .eq d d = .ok true := by
  simp only [cmpD, eqR, h, Bool.and_self, if_true, eqD_refl DEEP d h]
theorem ne_same {d : D} (h : shal DEEP d = true) : cmpD .ne d d = .ok false := by
  have : cmpD .ne d d = (cmpD .eq d d).neg := rfl
  rw [this, eq_self h]; rfl
theorem shal_nTs {n : Nat} {l : List (List Nat)} : shal (n + 2) (.lst (l.map nT)) = true := by
  simp only [shal, List.all_map, List.all_eq_true]
  exact fun x _ => shal_nT
theorem shal_nTt {n : Nat} {l : List (List Nat)} : shal (n + 2) (.tup (l.map nT)) = true := by
  simp only [shal, List.all_map, List.all_eq_true]
  exact fun x _ => shal_nT
theorem ne_rows {l : List (List Nat)} : cmpD .ne (.lst (l.map nT)) (.lst (l.map nT)) = .ok false := ne_same shal_nTs
theorem ne_row {l : List Nat} : cmpD .ne (nT l) (nT l) = .ok false := ne_same shal_nT
/-- the rows that are rung -/
def rgN (row : List Nat) (cs : List (List Nat)) : List (List Nat) := (rowsN row cs).drop 1
theorem rgN_cons {row c : List Nat} {cs : List (List Nat)} : rgN row (c :: cs) = behN row c :: rgN (behN row c) cs := by
  show rowsN (behN row c) cs = _
  rw [rows_head]; rfl
theorem rgN_len {row : List Nat} {cs : List (List Nat)} : (rgN row cs).length = cs.length := by simp [rgN, rows_len]
theorem rgN_snoc {cs : List (List Nat)} {row c : List Nat} : rgN row (cs ++ [c]) = rgN row cs ++ [behN (endN row cs) c] := by
  unfold rgN
  rw [rows_snoc, List.drop_append]
  simp [rows_len]
theorem rgN_last {row : List Nat} : ∀ {cs : List (List Nat)}, cs ≠ [] → (rgN row cs).getLast? = some (endN row cs) := by
  intro cs h
  have e := rows_last (cs := cs) (row := row)
  have hl := rows_len (cs := cs) (row := row)
  cases cs with
  | nil => exact (h rfl).elim
  | cons c cs =>
    have h2 : rowsN row (c :: cs) = row :: rgN row (c :: cs) := rfl
    rw [h2] at e
    rw [rgN_cons] at e ⊢
    rw [List.getLast?_cons_cons] at e
    exact e
theorem endN_append {row : List Nat} {cs ds : List (List Nat)} : endN row (cs ++ ds) = endN (endN row cs) ds := by simp [endN]
section
variable {b : Nat} (hb : Bs b)
include hb
theorem Pm.endN : ∀ {cs : List (List Nat)} {p : List Nat}, Pm b p → (∀ c ∈ cs, c ∈ chs b) → Pm b (endN p cs)
  | [], _, h, _ => h
  | c :: cs, p, h, hc => Pm.endN (cs := cs) (h.beh hb (hc c List.mem_cons_self)) fun d hd => hc d (List.mem_cons_of_mem _ hd)
theorem rgN_pm : ∀ {cs : List (List Nat)} {p : List Nat}, Pm b p → (∀ c ∈ cs, c ∈ chs b) → ∀ r ∈ rgN p cs, Pm b r
  | [], _, h, _, r, hr => by cases hr
  | c :: cs, p, h, hc, r, hr => by
    rw [rgN_cons] at hr
    rcases List.mem_cons.mp hr with rfl | hr
    · exact h.beh hb (hc c List.mem_cons_self)
    · exact rgN_pm (cs := cs) (h.beh hb (hc c List.mem_cons_self)) (fun d hd => hc d (List.mem_cons_of_mem _ hd)) r hr
/-- what comes of a row is it followed by what comes of another -/
theorem endN_comp : ∀ {cs : List (List Nat)} {p q : List Nat}, p.length = b → Pm b q → (∀ c ∈ cs, c ∈ chs b) → endN (compN p q) cs = compN p (endN q cs)
  | [], _, _, _, _, _ => rfl
  | c :: cs, p, q, hp, hq, hc => by
    have hcc := hc c List.mem_cons_self
    have e : behN (compN p q) c = compN p (behN q c) := by
      rw [beh_comp hb (by rw [comp_len]; exact hq.len) hcc, beh_comp hb hq.len hcc]
      exact comp_assoc hq.len fun i hi => (Pm.range.beh hb hcc).lt.mp hi
    show endN (behN (compN p q) c) cs = compN p (endN (behN q c) cs)
    rw [e]
    exact endN_comp hp (hq.beh hb hcc) fun d hd => hc d (List.mem_cons_of_mem _ hd)
theorem rgN_comp : ∀ {cs : List (List Nat)} {p q : List Nat}, p.length = b → Pm b q → (∀ c ∈ cs, c ∈ chs b) → rgN (compN p q) cs = (rgN q cs).map (compN p)
  | [], _, _, _, _, _ => rfl
  | c :: cs, p, q, hp, hq, hc => by
    have hcc := hc c List.mem_cons_self
    have e : behN (compN p q) c = compN p (behN q c) := by
      rw [beh_comp hb (by rw [comp_len]; exact hq.len) hcc, beh_comp hb hq.len hcc]
      exact comp_assoc hq.len fun i hi => (Pm.range.beh hb hcc).lt.mp hi
    rw [rgN_cons, rgN_cons, e, List.map_cons, rgN_comp hp (hq.beh hb hcc) fun d hd => hc d (List.mem_cons_of_mem _ hd)]
/-- by the row by which a lead acts -/
theorem endN_act {cs : List (List Nat)} {p : List Nat} (hp : p.length = b) (hc : ∀ c ∈ cs, c ∈ chs b) : endN p cs = compN p (endN (List.range b) cs) := by
  have := endN_comp hb (cs := cs) hp Pm.range hc
  rwa [comp_range hp] at this
theorem rgN_act {cs : List (List Nat)} {p : List Nat} (hp : p.length = b) (hc : ∀ c ∈ cs, c ∈ chs b) : rgN p cs = (rgN (List.range b) cs).map (compN p) := by
  have := rgN_comp hb (cs := cs) hp Pm.range hc
  rwa [comp_range hp] at this
/-- a lead rung back -/
theorem endN_back : ∀ {cs : List (List Nat)} {p : List Nat}, p.length = b → (∀ c ∈ cs, c ∈ chs b) → endN (endN p cs) cs.reverse = p
  | [], _, _, _ => rfl
  | c :: cs, p, hp, hc => by
    have hcc := hc c List.mem_cons_self
    have h1 : (behN p c).length = b := by rw [behN, behN_len]; exact hp
    show endN (endN (behN p c) cs) (c :: cs).reverse = p
    rw [List.reverse_cons, endN_append, endN_back h1 fun d hd => hc d (List.mem_cons_of_mem _ hd)]
    exact beh_beh hb hp hcc
end
end Lw
end
section
set_option autoImplicit false
set_option linter.all false
set_option maxRecDepth 100000
/-! M_rowsby: rows_by. -/
namespace Lw
open Py
theorem rows_by_ok {b : Nat} (hb : Bs b) {row : List Nat} {cs : List (List Nat)} (hr : row.length = b) (hc : ∀ c ∈ cs, c ∈ chs b) (hl : cs.length ≤ 10000) : s_rows_by (nT row) (.tup (cs.map nT)) = .ok (.lst ((rgN row cs).map nT)) := by
  have hz := SZe
  unfold s_rows_by
  refine bind_of (a := cs.map nT) rfl ?_
  obtain ⟨st, e, hst⟩ := foldR_inv (e := nT) (F := fun d2 s3 =>
      (s_changed (s3.getD 0 .non) d2).bind fun r5 =>
    (binD .add (s3.getD 1 .non) (.lst [r5])).bind fun x6 =>
    .ok [r5, x6]) (I := fun p st => st = [nT (endN row p), .lst ((rgN row p).map nT)]) cs [] (st := [nT row, .lst []]) (by
      rintro p c q _ hp rfl
      have hcc : ∀ d, d ∈ p ++ c :: q → d ∈ chs b := fun d hd => hc d (by rw [← hp] at hd; simpa using hd)
      have hlen := congrArg List.length hp
      simp only [List.nil_append, List.length_append, List.length_cons] at hlen
      refine ⟨_, ?_, rfl⟩
      refine bind_of (changed_ok hb (end_len hb hr fun d hd => hcc d (List.mem_append_left _ hd)) (hcc c (by simp))) ?_
      refine bind_of (add_lst (by simp only [List.length_map, rgN_len, List.length_cons, List.length_nil]; omega)) ?_
      rw [rgN_snoc, endN_append]
      simp [endN]) rfl
  refine bind_of e ?_
  rw [hst]
  rfl
end Lw
end
section
set_option autoImplicit false
set_option linter.all false
set_option maxRecDepth 100000
/-! M_needrow: need_row. -/
namespace Lw
open Py
theorem need_row_ok {n : Nat} {p : List Nat} (h : Pm n p) {lo hi : Int} (h1 : lo ≤ (n : Int)) (h2 : (n : Int) ≤ hi) (hh : hi ≤ 1000) : s_need_row (nT p) (.int lo) (.int hi) = .ok .non := by
  rw [need_row_eq okT_nat hh rfl, row_pm h h1 h2, if_pos rfl]
end Lw
end
section
set_option autoImplicit false
set_option linter.all false
set_option maxRecDepth 100000
/-! M_needbells: need_bells. -/
namespace Lw
open Py
theorem need_bells_ok {b : Nat} (hb : Bs b) : s_need_bells (nD b) = .ok .non := by
  rcases hb with rfl | rfl | rfl | rfl | rfl <;> rfl
end Lw
end
section
set_option autoImplicit false
set_option linter.all false
set_option maxRecDepth 100000
/-! M_leads: need_lead, rounds_of, acting, and what is asked of leads. -/
namespace Lw
open Py
theorem rounds_of_ok {b : Nat} (hb : b ≤ 1000) : s_rounds_of (nD b) = .ok (nT (List.range b)) := by
  have hz := SZe
  unfold s_rounds_of
  exact bind_of (ltup_nat (by omega)) rfl
theorem sub_lastR {l : List (List Nat)} {r : List Nat} (h : l.getLast? = some r) : subsD (.lst (l.map nT)) (.int (-1)) = .ok (nT r) := sub_last (by rw [List.getLast?_map, h]; rfl)
/-- a lead -/
structure Ld (b : Nat) (cs : List (List Nat)) : Prop where
  ne : cs ≠ []
  few : cs.length ≤ 24
  ch : ∀ c ∈ cs, c ∈ chs b
section
variable {b : Nat} (hb : Bs b)
include hb
theorem Ld.one {cs : List (List Nat)} (h : Ld b cs) : 1 ≤ cs.length := by
  have := h.ne
  cases cs with
  | nil => exact (this rfl).elim
  | cons => simp
theorem need_lead_ok {cs : List (List Nat)} (h : Ld b cs) : s_need_lead (nD b) (.tup (cs.map nT)) = .ok .non := by
  unfold s_need_lead
  refine bind_of (fits_lead_eq (lead_sim fun c hc => by have := (chs_len hb).2 c (h.ch c hc); omega)) ?_
  rw [lead_fits hb h.ch (h.one hb) h.few]
  exact bind_of (a := true) rfl rfl
theorem acting_ok {cs : List (List Nat)} (h : Ld b cs) : s_acting (nD b) (.tup (cs.map nT)) = .ok (nT (endN (List.range b) cs)) := by
  have h6 := hb.le
  unfold s_acting
  refine bind_of (rounds_of_ok (by omega)) ?_
  refine bind_of (rows_by_ok hb (by simp) h.ch (by have := h.few; omega)) ?_
  refine bind_of (a := .int (-1)) rfl ?_
  exact bind_of (sub_lastR (rgN_last h.ne)) rfl
end
end Lw
end
section
set_option autoImplicit false
set_option linter.all false
set_option maxRecDepth 100000
/-! M_acted: acted. -/
namespace Lw
open Py
theorem acted_ok {p q : List Nat} (h : ∀ i ∈ q, i < p.length) (hl : q.length ≤ SZ) : s_acted (nT p) (nT q) = .ok (nT (compN p q)) := by
  unfold s_acted
  refine bind_of (a := q.map nD) rfl ?_
  refine bind_of (mapR_enc (g := fun i => nD (p.getD i 0)) fun i hi => bind_of (sub_nT (h i hi)) rfl) ?_
  refine bind_of (szR_ok (by simpa using hl)) ?_
  simp [nT, compN]
theorem acted_pm {n : Nat} {p q : List Nat} (hp : Pm n p) (hq : Pm n q) (hn : n ≤ 1000) : s_acted (nT p) (nT q) = .ok (nT (compN p q)) :=
  acted_ok (fun i hi => by rw [hp.len]; exact hq.lt.mp hi) (by rw [hq.len]; have := SZe; omega)
end Lw
end
section
set_option autoImplicit false
set_option linter.all false
set_option maxRecDepth 100000
/-! M_followed: followed_by. -/
namespace Lw
open Py
theorem followed_ok {b : Nat} (hb : Bs b) {p q : List Nat} (hp : Pm b p) (hq : Pm b q) : s_followed_by (nT p) (nT q) = .ok (nT (compN p q)) := by
  have h6 := hb.le
  unfold s_followed_by
  refine bind_of (need_row_ok hp (by omega) (by omega) (by omega)) ?_
  refine bind_of len_tup (bind_of len_tup ?_)
  rw [List.length_map, hp.len]
  refine bind_of (need_row_ok hq (Int.le_refl _) (Int.le_refl _) (by omega)) ?_
  exact bind_of (acted_pm hp hq (by omega)) rfl
end Lw
end
section
set_option autoImplicit false
set_option linter.all false
set_option maxRecDepth 100000
namespace Lw
open Py
def Cup (c : D) : Prop := ∃ a b : Int, c = .lst [.int a, .int b] ∧ 0 ≤ a ∧ 0 ≤ b
theorem cup_spec (ns : List Int) (hn : ns.length ≤ 63) : ∃ c, s__law_cup (.fz ns) = .ok c ∧ Cup c := by
  obtain ⟨x, hx⟩ : ∃ x : Int, (ns.map D.int ++ [D.int 0])[0]? = some (.int x) := by
    cases ns with
    | nil => exact ⟨0, rfl⟩
    | cons n ns => exact ⟨n, rfl⟩
  let y : Int := if x < 0 then -x else x
  have hy : 0 ≤ y := by show 0 ≤ (if x < 0 then -x else x); split <;> omega
  have hm := Int.emod_nonneg (y * 229 + 1709) (b := 2077503719) (by omega)
  refine ⟨.lst [.int (if 1000000000000000000 ≤ y then y / 29 else 0), .int ((y * 229 + 1709) % 2077503719 + 109)], ?_, _, _, rfl, ?_, by omega⟩
  · unfold s__law_cup
    refine bind_of (a := .lst (ns.map D.int)) rfl ?_
    refine bind_of (add_lst (by simp [SZ]; omega)) ?_
    refine bind_of (sub_lst0 hx) ?_
    refine bind_of (a := .int y) rfl ?_
    refine bind_of (a := .int 1000000000000000000) rfl ?_
    refine bind_of ge_int ?_
    refine bind_of (a := .int (if 1000000000000000000 ≤ y then y / 29 else 0)) ?_ ?_
    · by_cases h : 1000000000000000000 ≤ y
      · simp only [h, decide_true, if_true]; exact bind_of (div_ok (by omega) (by omega)) rfl
      · simp [h]
    refine bind_of (mul_ok (.inr (by omega))) ?_
    refine bind_of add_int ?_
    refine bind_of (a := .int (y * 229 + 1709)) rfl ?_
    refine bind_of (mod_ok (by omega)) ?_
    exact bind_of add_int rfl
  · split
    · exact Int.ediv_nonneg hy (by omega)
    · omega
theorem roll_spec {c : D} {m : Int} (hc : Cup c) (hm : 0 < m) (hm2 : m < 1073741824) : ∃ (r : Nat) (c' : D), s__law_roll c (.int m) = .ok (nD r, c') ∧ (r : Int) < m ∧ Cup c' := by
  obtain ⟨a, b, rfl, ha, hb⟩ := hc
  by_cases h : 0 < a
  · have h1 := Int.emod_nonneg a (b := m) (by omega)
    refine ⟨(a % m).toNat, .lst [.int (a / m), .int b], ?_, ?_, _, _, rfl, Int.ediv_nonneg ha (by omega), hb⟩
    · unfold s__law_roll
      refine bind_of (a := .int a) rfl ?_
      refine bind_of gt_int ?_
      simp only [h, decide_true, if_true]
      refine bind_of (a := .int a) rfl ?_
      refine bind_of (a := .int a) rfl ?_
      refine bind_of (mod_ok hm) ?_
      refine bind_of (a := .int a) rfl ?_
      refine bind_of (div_ok hm hm2) ?_
      refine bind_of (a := .lst [.int (a / m), .int b]) rfl ?_
      simp [nD, Int.toNat_of_nonneg h1]
    · rw [Int.toNat_of_nonneg h1]; exact Int.emod_lt_of_pos _ hm
  · have : a = 0 := by omega
    subst this
    have h1 : 0 ≤ (b * 30911 + 7901) % 2147483423 := Int.emod_nonneg _ (by omega)
    have h2 : (b * 30911 + 7901) % 2147483423 < 2147483423 := Int.emod_lt_of_pos _ (by omega)
    generalize hq : (b * 30911 + 7901) % 2147483423 = q at h1 h2
    have h3 := Int.emod_nonneg (q * (q + 179) % 2147483587 / 751) (b := m) (by omega)
    refine ⟨(q * (q + 179) % 2147483587 / 751 % m).toNat, .lst [.int 0, .int q], ?_, ?_, _, _, rfl, Int.le_refl _, h1⟩
    · unfold s__law_roll
      refine bind_of (a := .int 0) rfl ?_
      refine bind_of gt_int ?_
      simp only [Int.lt_irrefl, decide_false, Bool.false_eq_true, if_false]
      refine bind_of (a := .int b) rfl ?_
      refine bind_of (mul_ok (.inr (by omega))) ?_
      refine bind_of add_int ?_
      refine bind_of (a := .int (b * 30911 + 7901)) rfl ?_
      refine bind_of (mod_ok (by omega)) ?_
      rw [hq]
      refine bind_of (a := .lst [.int 0, .int q]) rfl ?_
      refine bind_of (a := .int q) rfl ?_
      refine bind_of (a := .int q) rfl ?_
      refine bind_of add_int ?_
      refine bind_of (mul_ok (.inl (by omega))) ?_
      refine bind_of (a := .int (q * (q + 179))) rfl ?_
      refine bind_of (mod_ok (by omega)) ?_
      refine bind_of (div_ok (by omega) (by omega)) ?_
      refine bind_of (a := .int (q * (q + 179) % 2147483587 / 751)) rfl ?_
      refine bind_of (mod_ok hm) ?_
      simp [nD, Int.toNat_of_nonneg h3]
    · rw [Int.toNat_of_nonneg h3]; exact Int.emod_lt_of_pos _ hm
theorem some_spec {c : D} {xs : List D} (hc : Cup c) (h0 : 0 < xs.length) (h2 : xs.length < 1073741824) : ∃ (d c' : D), (s__law_some c (.lst xs) = .ok (d, c')) ∧ d ∈ xs ∧ Cup c' := by
  obtain ⟨r, c', e, hr, hc'⟩ := roll_spec (m := (xs.length : Int)) hc (by omega) (by omega)
  have hr' : r < xs.length := by omega
  refine ⟨xs[r], c', ?_, List.getElem_mem _, hc'⟩
  unfold s__law_some
  refine bind_of len_lst ?_
  refine bind_of e ?_
  exact bind_of (sub_lst (List.getElem?_eq_getElem hr')) rfl
end Lw
end
section
set_option autoImplicit false
set_option linter.all false
set_option maxRecDepth 100000
/-! M_lrow: the law's random row. -/
namespace Lw
open Py
/-- one turn: a number is taken out -/
theorem whileR_down {I : Nat → List D → Prop} {c : List D → R Bool} {F : List D → R (List D)} (hc : ∀ k st, I k st → c st = .ok (decide (0 < k))) (hF : ∀ k st, I (k + 1) st → ∃ st', F st = .ok st' ∧ I k st') :
    ∀ (k n : Nat) (st : List D), k < n → I k st → ∃ st', whileR c F n st = .ok st' ∧ I 0 st'
  | 0, n + 1, st, _, h => ⟨st, by simp [whileR, hc 0 st h], h⟩
  | k + 1, n + 1, st, hn, h => by
    obtain ⟨st1, e1, h1⟩ := hF k st h
    obtain ⟨st2, e2, h2⟩ := whileR_down hc hF k n st1 (by omega) h1
    refine ⟨st2, ?_, h2⟩
    simp [whileR, hc (k + 1) st h, e1, e2]
theorem pop_ok {l : List D} {i : Nat} {y : D} (hl : l.length ≤ SZ) (h : l[i]? = some y) : popD (.lst l) [nD i] = .ok (y, .lst (l.eraseIdx i)) := by
  simp only [popD]
  rw [if_pos hl, ixn_nat (List.getElem?_eq_some_iff.mp h).1]
  simp only [h]
theorem erase_perm : ∀ {l : List Nat} {i : Nat} {y : Nat}, l[i]? = some y → l.Perm (y :: l.eraseIdx i)
  | [], _, _, h => by simp at h
  | x :: l, 0, y, h => by simp at h; subst h; exact .refl _
  | x :: l, i + 1, y, h => by
    have := erase_perm (l := l) (i := i) (y := y) (by simpa using h)
    exact (this.cons x).trans (.swap y x _)
theorem map_erase {α β : Type} {f : α → β} : ∀ {l : List α} {i : Nat}, (l.map f).eraseIdx i = (l.eraseIdx i).map f
  | [], _ => by simp
  | _ :: _, 0 => rfl
  | x :: l, i + 1 => congrArg (f x :: ·) (map_erase (l := l) (i := i))
theorem row_spec {c : D} {b : Nat} (hc : Cup c) (hb : b ≤ 1000) : ∃ (p : List Nat) (c' : D), s__law_row c (nD b) = .ok (nT p, c') ∧ Pm b p ∧ Cup c' := by
  have hz := SZe
  let I : Nat → List D → Prop := fun k st => ∃ (c : D) (l f : List Nat), st = [c, nL l, nT f] ∧ Cup c ∧ l.length = k ∧ (f ++ l).Perm (List.range b)
  have hI0 : I b [c, nL (List.range b), nT []] := ⟨c, List.range b, [], rfl, hc, by simp, .refl _⟩
  have lenb : ∀ {l f : List Nat}, (f ++ l).Perm (List.range b) → f.length + l.length = b := fun h => by
    have := h.length_eq
    simpa using this
  obtain ⟨st, e, h⟩ := whileR_down (I := I) (c := fun s3 => (cmpD .ne (s3.getD 1 .non) (.lst [])).bind fun c6 => .ok c6)
    (F := fun s4 => (unL (s4.getD 1 .non)).bind fun u7 =>
    (bltD .len [(s4.getD 1 .non)]).bind fun x8 =>
    (s__law_roll (s4.getD 0 .non) x8).bind fun r9 =>
    (popD (s4.getD 1 .non) [r9.1]).bind fun r10 =>
    (binD .add (s4.getD 2 .non) (.tup [r10.1])).bind fun x11 =>
    .ok [r9.2, r10.2, x11]) (by
      rintro k _ ⟨c, l, f, rfl, _, hl, _⟩
      refine bind_of (ne_nL (a := l) (b := [])) ?_
      subst hl
      cases l <;> simp) (by
      rintro k _ ⟨c, l, f, rfl, hc, hl, hp⟩
      have hlb := lenb hp
      obtain ⟨r, c', e1, hr, hc'⟩ := roll_spec (m := (l.length : Int)) hc (by omega) (by omega)
      have hr' : r < l.length := by omega
      have hy : l[r]? = some l[r] := List.getElem?_eq_getElem hr'
      refine ⟨[c', nL (l.eraseIdx r), nT (f ++ [l[r]])], ?_, c', l.eraseIdx r, f ++ [l[r]], rfl, hc', by rw [List.length_eraseIdx_of_lt hr']; omega, ?_⟩
      · refine bind_of (a := l.map nD) rfl ?_
        refine bind_of len_lst ?_
        refine bind_of (by rw [List.length_map]; exact e1) ?_
        refine bind_of (pop_ok (y := nD l[r]) (by rw [List.length_map]; omega) (by rw [List.getElem?_map, hy]; rfl)) ?_
        refine bind_of (add_tup (by simp only [List.length_map, List.length_cons, List.length_nil]; omega)) ?_
        have e2 : (l.map nD).eraseIdx r = (l.eraseIdx r).map nD := map_erase
        rw [e2]
        simp [nL, nT]
      · refine List.Perm.trans ?_ hp
        rw [List.append_assoc]
        exact List.Perm.append_left f (erase_perm hy).symm) b FUEL _ (by show b < 1000000; omega) hI0
  obtain ⟨c', l, f, rfl, hc', hl, hp⟩ := h
  have : l = [] := List.length_eq_zero_iff.mp hl
  subst this
  rw [List.append_nil] at hp
  refine ⟨f, c', ?_, Pm.range.perm hp, hc'⟩
  unfold s__law_row
  refine bind_of (lrng_nat (by omega)) ?_
  refine bind_of (a := ()) rfl ?_
  exact bind_of e rfl
end Lw
end
section
set_option autoImplicit false
set_option linter.all false
set_option maxRecDepth 100000
/-! M_lchs: the law's changes, a random one, the row behind one. -/
namespace Lw
open Py
theorem changes_ok {b : Nat} (hb : Bs b) : s__law_changes (nD b) = .ok (.lst ((chs b).map nT)) := by
  rcases hb with rfl | rfl | rfl | rfl | rfl
  · show s__law_changes (.int 2) = .ok (.lst ((chs 2).map nT)); kernel_rfl
  · show s__law_changes (.int 3) = .ok (.lst ((chs 3).map nT)); kernel_rfl
  · show s__law_changes (.int 4) = .ok (.lst ((chs 4).map nT)); kernel_rfl
  · show s__law_changes (.int 5) = .ok (.lst ((chs 5).map nT)); kernel_rfl
  · show s__law_changes (.int 6) = .ok (.lst ((chs 6).map nT)); kernel_rfl
theorem change_spec {b : Nat} {c : D} (hc : Cup c) (hb : Bs b) : ∃ (ch : List Nat) (c' : D), s__law_change c (nD b) = .ok (nT ch, c') ∧ ch ∈ chs b ∧ Cup c' := by
  have hz := SZe
  have hlen := (chs_len hb).1
  have hl0 : 0 < (chs b).length := by rcases hb with rfl | rfl | rfl | rfl | rfl <;> decide
  have hrep : (repL (((chs b).map nT).drop 1) 3).length ≤ 39 := by simp [repL]; omega
  obtain ⟨d, c', e, hd, hc'⟩ := some_spec (xs := repL (((chs b).map nT).drop 1) 3 ++ (chs b).map nT) hc (by simp; omega) (by rw [List.length_append, List.length_map]; omega)
  obtain ⟨ch, hch, rfl⟩ : ∃ ch ∈ chs b, d = nT ch := by
    rcases List.mem_append.mp hd with hd | hd
    · simp only [repL, List.mem_flatten, List.mem_replicate] at hd
      obtain ⟨l, ⟨_, rfl⟩, hl⟩ := hd
      obtain ⟨ch, h1, h2⟩ := List.mem_map.mp (List.mem_of_mem_drop hl)
      exact ⟨ch, h1, h2.symm⟩
    · obtain ⟨ch, h1, h2⟩ := List.mem_map.mp hd
      exact ⟨ch, h1, h2.symm⟩
  refine ⟨ch, c', ?_, hch, hc'⟩
  unfold s__law_change
  refine bind_of (changes_ok hb) ?_
  refine bind_of part_int ?_
  refine bind_of (sl_lst_from (k := 1)) ?_
  refine bind_of (a := .lst (repL (((chs b).map nT).drop 1) 3)) ?_ ?_
  · simp only [binD, mulD]
    rw [if_pos]
    refine ⟨by omega, by omega, ?_⟩
    have : (((chs b).map nT).drop 1).length ≤ 13 := by simp; omega
    have e3 : (3 : Int).toNat = 3 := rfl
    rw [e3]; omega
  refine bind_of (add_lst (by rw [List.length_map]; omega)) ?_
  exact bind_of e rfl
end Lw
end
section
set_option autoImplicit false
set_option linter.all false
set_option maxRecDepth 100000
/-! M_llead: the law's random lead. -/
namespace Lw
open Py
theorem lead_spec {b : Nat} {c : D} {q : Int} (hc : Cup c) (hb : Bs b) (h1 : 1 ≤ q) (h2 : q ≤ 24) : ∃ (cs : List (List Nat)) (c' : D), s__law_lead c (nD b) (.int q) = .ok (.tup (cs.map nT), c') ∧ 1 ≤ cs.length ∧ (cs.length : Int) ≤ q ∧ (∀ x ∈ cs, x ∈ chs b) ∧ Cup c' := by
  have hz := SZe
  obtain ⟨r, c1, e1, hr, hc1⟩ := roll_spec (m := q) hc (by omega) (by omega)
  obtain ⟨ys, st, e2, ⟨c2, rfl, hc2⟩, q2⟩ := mapS_inv (e := nD) (f := fun d4 s5 => (s__law_change (s5.getD 0 .non) (nD b)).bind fun r6 => .ok (some r6.1, [r6.2])) (I := fun st => ∃ c, st = [c] ∧ Cup c) (Q := fun _ y => ∃ ch, y = nT ch ∧ ch ∈ chs b) (xs := List.range (1 + r)) (st := [c1])
    (by
      rintro x _ _ ⟨c, rfl, hc⟩
      obtain ⟨ch, c', e, h, hc'⟩ := change_spec hc hb
      exact ⟨_, _, bind_of e rfl, ⟨_, rfl, hc'⟩, _, rfl, h⟩) ⟨_, rfl, hc1⟩
  obtain ⟨cs, rfl, qs⟩ := q2.choose
  have hl : cs.length = 1 + r := by simpa using qs.len
  refine ⟨cs, c2, ?_, by omega, by omega, qs.all, hc2⟩
  unfold s__law_lead
  refine bind_of e1 ?_
  refine bind_of add_1nat ?_
  refine bind_of (rng_nat (by omega)) ?_
  refine bind_of e2 ?_
  exact bind_of (szR_ok (by simp only [List.length_map]; omega)) rfl
end Lw
end
section
set_option autoImplicit false
set_option linter.all false
set_option maxRecDepth 100000
/-! M_lbehind: the law's row behind a change. -/
namespace Lw
open Py
theorem behind_ok {b : Nat} (hb : Bs b) {row c : List Nat} (hr : row.length = b) (hc : c ∈ chs b) : s__law_behind (nT row) (nT c) = .ok (nT (behN row c)) := by
  obtain ⟨g, hl⟩ := chs_gap hc
  unfold s__law_behind
  refine bind_of (a := nL row) rfl ?_
  refine bind_of (a := ()) rfl ?_
  refine bind_of (a := c.map nD) rfl ?_
  obtain ⟨st, e, hst⟩ := foldR_inv (e := nD) (F := fun d4 s5 =>
      (binD .add d4 (.int 1)).bind fun x7 =>
    (subsD (nT row) x7).bind fun x8 =>
    (subsD (nT row) d4).bind fun x9 =>
    (setD (s5.getD 0 .non) d4 x8).bind fun x10 =>
    (binD .add d4 (.int 1)).bind fun x11 =>
    (setD x10 x11 x9).bind fun x12 =>
    .ok [x12]) (I := fun p st => st = [nL (p.foldl (fun f z => (f.set z (row.getD (z + 1) 0)).set (z + 1) (row.getD z 0)) row)]) c [] (st := [nL row]) (by
      rintro p z q _ hp rfl
      have hz : z + 1 < b := hl z (by
        have : z ∈ [] ++ c := by rw [hp]; simp
        simpa using this)
      have hlen := behN_len (row := row) (c := p) (f := row)
      refine ⟨_, ?_, rfl⟩
      refine bind_of add_nat1 ?_
      refine bind_of (sub_nT (by omega)) ?_
      refine bind_of (sub_nT (by omega)) ?_
      refine bind_of (set_lst (by simp only [List.length_map]; omega)) ?_
      refine bind_of add_nat1 ?_
      refine bind_of (set_lst (by simp only [List.length_set, List.length_map]; omega)) ?_
      rw [List.foldl_append]
      simp [nL, List.map_set]) rfl
  refine bind_of e ?_
  rw [hst]
  exact bind_of (a := nT (behN row c)) rfl rfl
end Lw
end
section
set_option autoImplicit false
set_option linter.all false
set_option maxRecDepth 100000
/-! M_lrung: the law's rows that are rung. -/
namespace Lw
open Py
theorem rung_ok {b : Nat} (hb : Bs b) {row : List Nat} {cs : List (List Nat)} (hr : row.length = b) (hc : ∀ c ∈ cs, c ∈ chs b) (hl : cs.length ≤ 10000) : s__law_rung (nT row) (.tup (cs.map nT)) = .ok (.lst (((rowsN row cs).drop 1).map nT)) := by
  have hz := SZe
  unfold s__law_rung
  refine bind_of (a := cs.map nT) rfl ?_
  obtain ⟨st, e, hst⟩ := foldR_inv (e := nT) (F := fun d2 s3 =>
      (unL (s3.getD 0 .non)).bind fun u5 =>
    (negR (.int 1)).bind fun x6 =>
    (subsD (s3.getD 0 .non) x6).bind fun x7 =>
    (s__law_behind x7 d2).bind fun r8 =>
    (unL (s3.getD 0 .non)).bind fun l9 =>
    (szR (l9.length + 1)).bind fun u10 =>
    .ok [(.lst (l9 ++ [r8]))]) (I := fun p st => st = [.lst ((rowsN row p).map nT)]) cs [] (st := [.lst [nT row]]) (by
      rintro p c q _ hp rfl
      have hcc : ∀ d, d ∈ p ++ c :: q → d ∈ chs b := fun d hd => hc d (by rw [← hp] at hd; simpa using hd)
      have hlen := congrArg List.length hp
      simp only [List.nil_append, List.length_append, List.length_cons] at hlen
      refine ⟨_, ?_, rfl⟩
      refine bind_of (a := (rowsN row p).map nT) rfl ?_
      refine bind_of (a := .int (-1)) rfl ?_
      refine bind_of (sub_last (d := nT (endN row p)) (by rw [List.getLast?_map, rows_last]; rfl)) ?_
      refine bind_of (behind_ok hb (end_len hb hr fun d hd => hcc d (List.mem_append_left _ hd)) (hcc c (by simp))) ?_
      refine bind_of (a := (rowsN row p).map nT) rfl ?_
      refine bind_of (szR_ok (by simp only [List.length_map, rows_len]; omega)) ?_
      rw [rows_snoc]; simp) rfl
  refine bind_of e ?_
  rw [hst]
  refine bind_of part_int ?_
  refine bind_of (sl_lst_from (k := 1)) ?_
  simp [List.map_drop]
end Lw
end
section
set_option autoImplicit false
set_option linter.all false
set_option maxRecDepth 100000
/-! M_arewhole: the law's whether a value is a tuple of whole numbers. -/
namespace Lw
open Py
theorem are_whole_eq {v : D} {lo hi : Int} (h : okT v) (hw : fewT v) : s__law_are_whole v (.int lo) (.int hi) = .ok (.bl (allW lo hi v)) := by
  have hz := SZe
  cases v with
  | tup xs =>
    have hl := hw xs rfl
    unfold s__law_are_whole
    refine bind_of (a := .bl true) rfl (bind_of (a := true) rfl ?_)
    simp only [Bool.not_true, Bool.false_eq_true, if_false]
    refine bind_of (a := xs) rfl ?_
    have hf := filtR_enc (e := fun d : D => d) (f := fun d4 => (isiR .bool d4).bind fun x5 =>
      (boolR x5).bind fun c6 =>
      (if c6 = true then .ok true else (isiR .int d4).bind fun x7 =>
        (boolR x7).bind fun c8 =>
        (if (!c8) = true then .ok true else (cmpD .le (.int lo) d4).bind fun c9 =>
          (if c9 = true then cmpD .le d4 (.int hi) else .ok false : R _).bind fun c10 =>
          .ok (!c10) : R _).bind fun c11 =>
        .ok c11 : R _).bind fun c12 =>
      if c12 = true then .ok (some (.int 1)) else .ok none) (p := fun d => !wholeB lo hi d) (g := fun _ => .int 1) (xs := xs) (fun x hx => by
        have hx := h x hx
        cases x with
        | int i => by_cases h1 : lo ≤ i <;> by_cases h2 : i ≤ hi <;> simp [isiR, isiOk, isiD, boolR, wholeB, le_int, h1, h2]
        | dic => cases hx
        | set => cases hx
        | fz => cases hx
        | _ => simp [isiR, isiOk, isiD, boolR, wholeB])
    rw [List.map_id'] at hf
    refine bind_of hf ?_
    refine bind_of (szR_ok (by have := List.length_filter_le (fun d => !wholeB lo hi d) xs; simp only [List.length_map]; omega)) ?_
    refine bind_of none_eq ?_
    simp [allW]
  | dic => cases h
  | set => cases h
  | fz => cases h
  | _ => rfl
end Lw
end
section
set_option autoImplicit false
set_option linter.all false
set_option maxRecDepth 100000
/-! M_lischg: the law's whether a value is a change. -/
namespace Lw
open Py
theorem gaps_at {ns : List Int} : gapsB ns = (List.range (ns.length - 1)).all fun k => decide (ns.getD k 0 + 1 < ns.getD (k + 1) 0) := by
  unfold gapsB
  have e : ns.zip (ns.drop 1) = (List.range (ns.length - 1)).map fun k => (ns.getD k 0, ns.getD (k + 1) 0) := by
    refine List.ext_getElem (by simp) fun i h1 h2 => ?_
    simp only [List.length_zip, List.length_drop] at h1
    have a1 : i < ns.length := by omega
    have a2 : i + 1 < ns.length := by omega
    simp [List.getD, a1, a2, Nat.add_comm 1 i]
  rw [e, List.all_map]
  rfl
theorem is_change_eq {v : D} {b : Int} (h : okT v) (hw : fewT v) : s__law_is_change (.int b) v = .ok (.bl (chgB b v)) := by
  have hz := SZe
  unfold s__law_is_change
  refine bind_of sub_int (bind_of (are_whole_eq h hw) (bind_of (a := allW 0 (b - 2) v) rfl ?_))
  cases v with
  | tup xs =>
    have hl := hw xs rfl
    by_cases ha : xs.all (wholeB 0 (b - 2)) = true
    · simp only [allW, ha, Bool.not_true, Bool.false_eq_true, if_false, chgB, Bool.true_and]
      obtain ⟨e, _⟩ := wholes_map ha
      have el := intsOf_len ha
      generalize intsOf xs = ns at e el
      subst e
      refine bind_of len_tup ?_
      have er : rngD [.int 1, nD (ns.map D.int).length] = .ok ((List.range (ns.length - 1)).map fun k => nD (k + 1)) := by
        simp only [rngD, List.length_map]
        rw [if_pos ⟨by simp only [BIG]; omega, by simp only [BIG]; omega, by simp only [BIG]; omega, by simp only [BIG]; rw [List.length_map] at hl; omega, by rw [List.length_map] at hl; omega⟩]
        unfold rangeL
        have : ((ns.length : Int) - 1).toNat = ns.length - 1 := by omega
        rw [this]
        congr 1
        refine List.map_congr_left fun k _ => ?_
        have : (1 : Int) + (k : Int) = ((k + 1 : Nat) : Int) := by omega
        rw [this]
      refine bind_of er ?_
      refine bind_of (filtR_enc (p := fun k => !decide (ns.getD k 0 + 1 < ns.getD (k + 1) 0)) (g := fun _ => .int 1) fun k hk => ?_) ?_
      · have hk : k < ns.length - 1 := by simpa using hk
        refine bind_of (sub_tupE (e := D.int) 0 (by omega)) ?_
        refine bind_of (a := nD k) (by
          have : ((k + 1 : Nat) : Int) - 1 = (k : Int) := by omega
          rw [sub_int, this]) ?_
        refine bind_of (sub_tupE (e := D.int) 0 (by omega)) ?_
        refine bind_of add_int (bind_of lt_int ?_)
        by_cases q : ns.getD k 0 + 1 < ns.getD (k + 1) 0
        · have : ¬ ns.getD (k + 1) 0 < ns.getD k 0 + 2 := by omega
          simp only [q, this, decide_true, decide_false, Bool.not_true, Bool.false_eq_true, if_false]
        · have : ns.getD (k + 1) 0 < ns.getD k 0 + 2 := by omega
          simp only [q, this, decide_true, decide_false, Bool.not_false, if_true]
      refine bind_of (szR_ok (by have := List.length_filter_le (fun k => !decide (ns.getD k 0 + 1 < ns.getD (k + 1) 0)) (List.range (ns.length - 1)); rw [List.length_range] at this; rw [List.length_map] at hl; simp only [List.length_map]; omega)) ?_
      refine bind_of none_eq ?_
      rw [gaps_at]
      simp
    · have ha' : xs.all (wholeB 0 (b - 2)) = false := by simpa using ha
      simp only [allW, ha', Bool.not_false, if_true, chgB, Bool.false_and]
  | _ => rfl
end Lw
end
section
set_option autoImplicit false
set_option linter.all false
set_option maxRecDepth 100000
/-! M_lbentchg: the law's changes with something else in them. -/
namespace Lw
open Py
theorem bent_change_ok {c : D} {l : List Nat} (hc : Cup c) (hl : l.length ≤ 6) : ∃ v c', s__law_bent_change c (nT l) = .ok (v, c') ∧ simD v ∧ Cup c' := by
  have hz := SZe
  obtain ⟨d, c1, e1, hd, hc1⟩ := some_spec (xs := [.int (-1), (.int 0), (.int 1), (.int 2), (.int 3), (.int 4), (.int 5), .non, (.bl true), (.str [48]), (.tup [(.int 0)])]) hc (by simp) (by simp)
  obtain ⟨hd1, hd2⟩ := odd_of (by decide +kernel) d hd
  obtain ⟨k, c2, e2, hk, hc2⟩ := roll_spec (m := ((l.length + 1 : Nat) : Int)) hc1 (by omega) (by omega)
  obtain ⟨v, c3, e3, hv, hc3⟩ := some_spec (xs := [.tup ((l.map nD).take k ++ [d] ++ (l.map nD).drop (k + 1)), .tup ((l.map nD).take k ++ [d] ++ (l.map nD).drop k), .tup (l.map nD).reverse, .lst (l.map nD), .tup ((l.map nD).drop 1), d, .tup (l.map nD ++ l.map nD)]) hc2 (by simp) (by simp)
  refine ⟨v, c3, ?_, ?_, hc3⟩
  · unfold s__law_bent_change
    refine bind_of (a := .int (-1)) rfl ?_
    refine bind_of e1 ?_
    refine bind_of len_tup ?_
    rw [List.length_map]
    refine bind_of add_nat1 ?_
    refine bind_of e2 ?_
    refine bind_of part_int (bind_of sl_to ?_)
    refine bind_of (add_tup (by simp only [List.length_take, List.length_map, List.length_cons, List.length_nil]; omega)) ?_
    refine bind_of add_nat1 (bind_of part_int (bind_of (sl_from (k := k + 1)) ?_))
    refine bind_of (add_tup (by simp only [List.length_append, List.length_take, List.length_drop, List.length_map, List.length_cons, List.length_nil]; omega)) ?_
    refine bind_of part_int (bind_of sl_to ?_)
    refine bind_of (add_tup (by simp only [List.length_take, List.length_map, List.length_cons, List.length_nil]; omega)) ?_
    refine bind_of part_int (bind_of sl_from ?_)
    refine bind_of (add_tup (by simp only [List.length_append, List.length_take, List.length_drop, List.length_map, List.length_cons, List.length_nil]; omega)) ?_
    refine bind_of (a := .tup (l.map nD).reverse) rfl ?_
    refine bind_of (a := .lst (l.map nD)) rfl ?_
    refine bind_of part_int (bind_of (sl_from (k := 1)) ?_)
    refine bind_of (add_tup (by simp only [List.length_map]; omega)) ?_
    exact bind_of e3 rfl
  · simp only [List.mem_cons, List.not_mem_nil, or_false] at hv
    rcases hv with rfl | rfl | rfl | rfl | rfl | rfl | rfl
    · exact sim_tup (okL_app (okL_app take_okL (okL_one hd2)) drop_okL) (by simp; omega)
    · exact sim_tup (okL_app (okL_app take_okL (okL_one hd2)) drop_okL) (by simp; omega)
    · exact sim_tup (okL_sub okL_nat fun x hx => List.mem_reverse.mp hx) (by simp; omega)
    · exact sim_lst
    · exact sim_tup drop_okL (by simp; omega)
    · exact hd1
    · exact sim_tup (okL_app okL_nat okL_nat) (by simp; omega)
end Lw
end
section
set_option autoImplicit false
set_option linter.all false
set_option maxRecDepth 100000
/-! K05m: leads and how they act. -/
namespace Lw
open Py
theorem lled_ok {b : Nat} (hb : Bs b) {row : List Nat} {cs : List (List Nat)} (hr : row.length = b) (h : Ld b cs) : s__law_led (nT row) (.tup (cs.map nT)) = .ok (nT (endN row cs)) := by
  unfold s__law_led
  refine bind_of (rung_ok hb hr h.ch (by have := h.few; omega)) ?_
  refine bind_of (a := .int (-1)) rfl ?_
  exact bind_of (sub_lastR (rgN_last h.ne)) rfl
theorem law_is_lead_eq {v : D} {b : Int} (h : okLead v) : s__law_is_lead (.int b) v = .ok (.bl (leadB b v)) := by
  have hz := SZe
  unfold s__law_is_lead
  cases v with
  | tup xs =>
    refine bind_of (a := .bl true) rfl (bind_of (a := true) rfl ?_)
    simp only [Bool.not_true, Bool.false_eq_true, if_false]
    by_cases h1 : (1 : Int) ≤ (xs.length : Int)
    · by_cases h2 : (xs.length : Int) ≤ 24
      · refine bind_of (a := false) (bind_of len_tup (bind_of le_int ?_)) ?_
        · simp only [h1, decide_true, if_true]
          refine bind_of le_int ?_
          simp [h2]
        simp only [Bool.false_eq_true, if_false]
        refine bind_of (a := xs) rfl ?_
        have hf := filtR_enc (e := fun d : D => d) (f := fun d8 => (s__law_is_change (.int b) d8).bind fun r9 =>
            (boolR r9).bind fun c10 =>
            if (!c10) = true then .ok (some (.int 1)) else .ok none) (p := fun d => !chgB b d) (g := fun _ => .int 1) (xs := xs) fun x hx => by
          refine bind_of (is_change_eq (h x hx).1 (h x hx).2) (bind_of (a := chgB b x) rfl ?_)
          cases chgB b x <;> rfl
        rw [List.map_id'] at hf
        refine bind_of hf ?_
        refine bind_of (szR_ok (by have := List.length_filter_le (fun d => !chgB b d) xs; simp only [List.length_map]; omega)) ?_
        refine bind_of none_eq ?_
        simp only [leadB, h1, h2, decide_true, Bool.true_and]
        simp
      · refine bind_of (a := true) (bind_of len_tup (bind_of le_int ?_)) ?_
        · simp only [h1, decide_true, if_true]
          refine bind_of le_int ?_
          simp [h2]
        simp only [if_true, leadB, h1, h2, decide_true, decide_false, Bool.true_and, Bool.false_and]
    · refine bind_of (a := true) (bind_of len_tup (bind_of le_int ?_)) ?_
      · simp only [h1, decide_false, Bool.false_eq_true, if_false]
        rfl
      simp only [if_true, leadB, h1, decide_false, Bool.false_and]
  | dic => cases h
  | set => cases h
  | fz => cases h
  | _ => rfl
theorem okLead_tup {xs : List D} (h : ∀ x ∈ xs, simD x) : okLead (.tup xs) := h
theorem bent_lead_ok {b : Nat} (hb : Bs b) {c : D} {cs : List (List Nat)} (hc : Cup c) (h : ∀ x ∈ cs, x ∈ chs b) (h0 : 0 < cs.length) (hl : cs.length ≤ 8) : ∃ v c', s__law_bent_lead c (.tup (cs.map nT)) = .ok (v, c') ∧ okLead v ∧ Cup c' := by
  have hz := SZe
  have simC : ∀ x ∈ cs.map nT, simD x := fun x hx => by
    obtain ⟨y, hy, rfl⟩ := List.mem_map.mp hx
    have := (chs_len hb).2 y (h y hy)
    exact ⟨okT_nat, fewT_nat (by omega)⟩
  obtain ⟨k, c1, e1, hk, hc1⟩ := roll_spec (m := (cs.length : Int)) hc (by omega) (by omega)
  have hk' : k < cs.length := by omega
  have hck : cs.getD k [] ∈ cs := by simp [List.getD, hk']
  have h3 := (chs_len hb).2 _ (h _ hck)
  obtain ⟨d, c2, e2, hd, hc2⟩ := bent_change_ok (l := cs.getD k []) hc1 (by omega)
  obtain ⟨v, c3, e3, hv, hc3⟩ := some_spec (xs := [.tup ((cs.map nT).take k ++ [d] ++ (cs.map nT).drop (k + 1)), .tup ((cs.map nT).take k ++ [d] ++ (cs.map nT).drop (k + 1)), .tup ((cs.map nT).take k ++ [d] ++ (cs.map nT).drop (k + 1)), .tup ((cs.map nT).take k ++ (cs.map nT).drop (k + 1)), .lst (cs.map nT), .tup (repL (cs.map nT) 9), .non, .tup [], nT (cs.getD k [])]) hc2 (by simp) (by simp)
  have st : ∀ k, slD (.tup (cs.map nT)) none (some ((k : Nat) : Int)) = .ok (.tup ((cs.map nT).take k)) := fun k => sl_tup_to
  have sf : ∀ k, slD (.tup (cs.map nT)) (some ((k : Nat) : Int)) none = .ok (.tup ((cs.map nT).drop k)) := fun k => sl_tup_from
  refine ⟨v, c3, ?_, ?_, hc3⟩
  · unfold s__law_bent_lead
    refine bind_of len_tup ?_
    rw [List.length_map]
    refine bind_of e1 ?_
    refine bind_of part_int (bind_of (st k) ?_)
    refine bind_of (sub_tupE [] hk') ?_
    refine bind_of e2 ?_
    refine bind_of (add_tup (by simp only [List.length_take, List.length_map, List.length_cons, List.length_nil]; omega)) ?_
    refine bind_of add_nat1 (bind_of part_int (bind_of (sf (k + 1)) ?_))
    refine bind_of (add_tup (by simp only [List.length_append, List.length_take, List.length_drop, List.length_map, List.length_cons, List.length_nil]; omega)) ?_
    refine bind_of part_int (bind_of (st k) ?_)
    refine bind_of add_nat1 (bind_of part_int (bind_of (sf (k + 1)) ?_))
    refine bind_of (add_tup (by simp only [List.length_take, List.length_drop, List.length_map]; omega)) ?_
    refine bind_of (a := .lst (cs.map nT)) rfl ?_
    refine bind_of (a := .tup (repL (cs.map nT) 9)) ?_ ?_
    · simp only [binD, mulD]
      rw [if_pos ⟨by omega, by omega, by rw [List.length_map]; omega⟩]
    refine bind_of (sub_tupE [] hk') ?_
    exact bind_of e3 rfl
  · simp only [List.mem_cons, List.not_mem_nil, or_false] at hv
    have app : ∀ x ∈ (cs.map nT).take k ++ [d] ++ (cs.map nT).drop (k + 1), simD x := fun x hx => by
      rcases List.mem_append.mp hx with hx | hx
      · rcases List.mem_append.mp hx with hx | hx
        · exact simC x (List.mem_of_mem_take hx)
        · have : x = d := by simpa using hx
          subst this; exact hd
      · exact simC x (List.mem_of_mem_drop hx)
    rcases hv with rfl | rfl | rfl | rfl | rfl | rfl | rfl | rfl | rfl
    · exact app
    · exact app
    · exact app
    · exact fun x hx => (List.mem_append.mp hx).elim (fun hx => simC x (List.mem_of_mem_take hx)) fun hx => simC x (List.mem_of_mem_drop hx)
    · exact rfl
    · intro x hx
      simp only [repL, List.mem_flatten, List.mem_replicate] at hx
      obtain ⟨l, ⟨_, rfl⟩, hl⟩ := hx
      exact simC x hl
    · exact rfl
    · exact fun x hx => by cases hx
    · intro x hx
      obtain ⟨n, _, rfl⟩ := List.mem_map.mp hx
      exact ⟨rfl, fun xs e => by cases e⟩
section
variable {b : Nat} (hb : Bs b)
include hb
theorem is_lead_ok {v : D} (h : okLead v) : s_is_lead (nD b) v = .ok (.bl (leadB b v)) := by
  unfold s_is_lead
  exact bind_of (need_bells_ok hb) (bind_of (fits_lead_eq h) rfl)
theorem rows_rung_ok {p : List Nat} {cs : List (List Nat)} (hp : Pm b p) (h : Ld b cs) : s_rows_rung (nT p) (.tup (cs.map nT)) = .ok (.lst ((rgN p cs).map nT)) := by
  have h6 := hb.le
  unfold s_rows_rung
  refine bind_of (need_row_ok hp (by omega) (by omega) (by omega)) ?_
  refine bind_of len_tup ?_
  rw [List.length_map, hp.len]
  refine bind_of (need_lead_ok hb h) ?_
  exact bind_of (rows_by_ok hb hp.len h.ch (by have := h.few; omega)) rfl
theorem led_to_ok {p : List Nat} {cs : List (List Nat)} (hp : Pm b p) (h : Ld b cs) : s_led_to (nT p) (.tup (cs.map nT)) = .ok (nT (endN p cs)) := by
  have h6 := hb.le
  unfold s_led_to
  refine bind_of (need_row_ok hp (by omega) (by omega) (by omega)) ?_
  refine bind_of len_tup ?_
  rw [List.length_map, hp.len]
  refine bind_of (need_lead_ok hb h) ?_
  refine bind_of (rows_by_ok hb hp.len h.ch (by have := h.few; omega)) ?_
  refine bind_of (a := .int (-1)) rfl ?_
  exact bind_of (sub_lastR (rgN_last h.ne)) rfl
theorem acting_row_ok {cs : List (List Nat)} (h : Ld b cs) : s_acting_row (nD b) (.tup (cs.map nT)) = .ok (nT (endN (List.range b) cs)) := by
  unfold s_acting_row
  exact bind_of (need_bells_ok hb) (bind_of (need_lead_ok hb h) (bind_of (acting_ok hb h) rfl))
theorem right_ok {c : D} (hc : Cup c) : ∃ c', s__law_right c (nD b) = .ok (.bl true, c') ∧ Cup c' := by
  have hz := SZe
  have h6 := hb.le
  obtain ⟨cs, c1, e1, l1, l2, l3, hc1⟩ := lead_spec (q := 8) hc hb (by omega) (by omega)
  have l8 : cs.length ≤ 8 := by omega
  have l2 : cs.length ≤ 24 := by omega
  obtain ⟨p, c2, e2, hp, hc2⟩ := row_spec (b := b) hc1 (by omega)
  obtain ⟨ds, c3, e3, m1, m2, m3, hc3⟩ := lead_spec (q := 8) hc2 hb (by omega) (by omega)
  have m8 : ds.length ≤ 8 := by omega
  have m2 : ds.length ≤ 24 := by omega
  have lc : Ld b cs := ⟨by rintro rfl; simp at l1, l2, l3⟩
  have ld : Ld b ds := ⟨by rintro rfl; simp at m1, m2, m3⟩
  have lcd : Ld b (cs ++ ds) := ⟨by simp [lc.ne], by rw [List.length_append]; omega, fun c h => (List.mem_append.mp h).elim (l3 c) (m3 c)⟩
  have lrev : Ld b cs.reverse := ⟨by simp [lc.ne], by simpa using l2, fun c h => l3 c (List.mem_reverse.mp h)⟩
  have okl : okLead (.tup (cs.map nT)) := lead_sim fun c h => by have := (chs_len hb).2 c (l3 c h); omega
  have pa : Pm b (endN (List.range b) cs) := Pm.endN hb Pm.range l3
  have turn : ∀ c, Cup c → ∃ c', ((s__law_bent_lead c (.tup (cs.map nT))).bind fun r46 =>
    (s_is_lead (nD b) r46.1).bind fun r47 =>
    (isiR .bool r47).bind fun x48 =>
    (boolR x48).bind fun c49 =>
    (if (!c49) = true then .ok true else (s__law_is_lead (nD b) r46.1).bind fun r50 =>
      (cmpD .ne r47 r50).bind fun c51 =>
      .ok c51 : R _).bind fun c52 =>
    if c52 = true then .ok (.rt ((.bl false), r46.2)) else
    .ok (.nx [r46.2])) = R.ok (LR.nx (ρ := D × D) [c']) ∧ Cup c' := by
    intro c hc
    obtain ⟨v, c', e, hv, hc'⟩ := bent_lead_ok hb hc l3 (by omega) l8
    refine ⟨c', ?_, hc'⟩
    refine bind_of e (bind_of (is_lead_ok hb hv) (bind_of (a := .bl true) rfl (bind_of (a := true) rfl ?_)))
    simp only [Bool.not_true, Bool.false_eq_true, if_false]
    exact bind_of (bind_of (law_is_lead_eq hv) (bind_of (ne_bl _) rfl)) rfl
  obtain ⟨c4, f4, hc4⟩ := turn c3 hc3
  obtain ⟨c5, f5, hc5⟩ := turn c4 hc4
  refine ⟨c5, ?_, hc5⟩
  have hrung : s__law_rung (nT p) (.tup (cs.map nT)) = .ok (.lst ((rgN p cs).map nT)) := rung_ok hb hp.len l3 (by omega)
  have hround : s__law_rounds (nD b) = .ok (nT (List.range b)) := by
    unfold s__law_rounds
    exact bind_of (ltup_nat (by omega)) rfl
  unfold s__law_right
  refine bind_of e1 (bind_of e2 (bind_of hrung ?_))
  refine bind_of (is_lead_ok hb okl) ?_
  rw [lead_fits hb l3 l1 l2]
  refine bind_of (a := false) rfl ?_
  simp only [Bool.false_eq_true, if_false]
  refine bind_of (a := false) (bind_of (rows_rung_ok hb hp lc) (bind_of ne_rows ?_)) ?_
  · simp only [Bool.false_eq_true, if_false]
    refine bind_of (a := false) (bind_of (led_to_ok hb hp lc) (bind_of (a := .int (-1)) rfl (bind_of (sub_lastR (rgN_last lc.ne)) (bind_of ne_row rfl)))) rfl
  simp only [Bool.false_eq_true, if_false]
  refine bind_of (acting_row_ok hb lc) (bind_of hround (bind_of (lled_ok hb (by simp) lc) (bind_of ne_row ?_)))
  simp only [Bool.false_eq_true, if_false]
  refine bind_of (a := false) (bind_of (followed_ok hb hp pa) (bind_of (a := .int (-1)) rfl (bind_of (sub_lastR (rgN_last lc.ne)) ?_))) ?_
  · rw [endN_act hb hp.len l3]
    exact bind_of ne_row rfl
  simp only [Bool.false_eq_true, if_false]
  refine bind_of hround (bind_of (rows_rung_ok hb Pm.range lc) ?_)
  refine bind_of (a := (rgN (List.range b) cs).map nT) rfl ?_
  refine bind_of (mapR_enc (g := fun r => nT (compN p r)) fun r hr => bind_of (followed_ok hb hp (rgN_pm hb Pm.range l3 r hr)) rfl) ?_
  refine bind_of (szR_ok (by simp only [List.length_map, rgN_len]; omega)) ?_
  have e7 : ((rgN (List.range b) cs).map fun r => nT (compN p r)) = (rgN p cs).map nT := by
    rw [rgN_act hb hp.len l3, List.map_map]; rfl
  rw [e7]
  refine bind_of ne_rows ?_
  simp only [Bool.false_eq_true, if_false]
  refine bind_of e3 ?_
  refine bind_of (add_tup (by simp only [List.length_map]; omega)) ?_
  rw [← List.map_append]
  refine bind_of (acting_row_ok hb lcd) (bind_of (acting_row_ok hb ld) (bind_of (followed_ok hb pa (Pm.endN hb Pm.range m3)) ?_))
  rw [endN_append, endN_act hb pa.len m3]
  refine bind_of ne_row ?_
  simp only [Bool.false_eq_true, if_false]
  refine bind_of (a := .tup (cs.reverse.map nT)) (by show R.ok (D.tup (cs.map nT).reverse) = _; rw [List.map_reverse]) ?_
  refine bind_of (acting_row_ok hb lrev) (bind_of (followed_ok hb pa (Pm.endN hb Pm.range lrev.ch)) (bind_of hround ?_))
  rw [← endN_act hb pa.len lrev.ch, endN_back hb (by simp) l3]
  refine bind_of ne_row ?_
  simp only [Bool.false_eq_true, if_false]
  refine bind_of (a := [nD 0, nD 1]) rfl ?_
  refine bind_of (a := .nx [c5]) ?_ rfl
  show foldQ _ [nD 0, nD 1] [c3] = _
  simp only [foldQ]
  exact bind_of f4 (bind_of f5 rfl)
end
theorem law_ok (ns : List Int) (hn : ns.length ≤ 63) : s_law (.fz ns) = .ok (.bl true) := by
  obtain ⟨c, e, hc⟩ := cup_spec ns hn
  unfold s_law
  refine bind_of e ?_
  refine bind_of (a := ()) (by obtain ⟨a, b, rfl, _⟩ := hc; rfl) ?_
  have turn : ∀ b, Bs b → ∀ c, Cup c → ∃ c', ((s__law_right c (nD b)).bind fun r6 =>
    (boolR r6.1).bind fun c7 =>
    if (!c7) = true then .ok (.rt (.bl false)) else
    .ok (.nx [r6.2])) = R.ok (LR.nx (ρ := D) [c']) ∧ Cup c' := by
    intro b hb c hc
    obtain ⟨c1, e1, hc1⟩ := right_ok hb hc
    exact ⟨c1, bind_of e1 (bind_of (a := true) rfl rfl), hc1⟩
  obtain ⟨c2, f2, h2⟩ := turn 2 (.inl rfl) c hc
  obtain ⟨c3, f3, h3⟩ := turn 3 (.inr (.inl rfl)) c2 h2
  obtain ⟨c4, f4, h4⟩ := turn 4 (.inr (.inr (.inl rfl))) c3 h3
  obtain ⟨c5, f5, h5⟩ := turn 5 (.inr (.inr (.inr (.inl rfl)))) c4 h4
  obtain ⟨c6, f6, h6⟩ := turn 6 (.inr (.inr (.inr (.inr rfl)))) c5 h5
  refine bind_of (a := .nx [c6]) ?_ ?_
  · show foldQ _ [nD 2, nD 3, nD 4, nD 5, nD 6] [c] = _
    simp only [foldQ]
    exact bind_of f2 (bind_of f3 (bind_of f4 (bind_of f5 (bind_of f6 rfl))))
  kernel_rfl
end Lw
end
section
set_option autoImplicit false
set_option linter.all false
set_option maxRecDepth 100000
set_option maxHeartbeats 0
namespace Hd
open PySem PySem.Spec PyProof.Rows L2
def topS (i : Nat) : Stmt := PySem.Challenge.pw_rungonce_k05_whole_leads_and_how_they_ac.main.body.getD i (.Pass ⟨0, 0, 0, 0⟩)
abbrev d_is_whole : He.DefD := ⟨("is_whole", none), "is_whole", "is_whole", defArgs (topS 15), defBody (topS 15), defScope (topS 15), [], []⟩
abbrev d_is_tuple_of : He.DefD := ⟨("is_tuple_of", none), "is_tuple_of", "is_tuple_of", defArgs (topS 16), defBody (topS 16), defScope (topS 16), [], []⟩
abbrev d_fits_row : He.DefD := ⟨("fits_row", none), "fits_row", "fits_row", defArgs (topS 17), defBody (topS 17), defScope (topS 17), [], []⟩
abbrev d_fits_change : He.DefD := ⟨("fits_change", none), "fits_change", "fits_change", defArgs (topS 18), defBody (topS 18), defScope (topS 18), [], []⟩
abbrev d_rounds_of : He.DefD := ⟨("rounds_of", none), "rounds_of", "rounds_of", defArgs (topS 19), defBody (topS 19), defScope (topS 19), [], []⟩
abbrev d_changed : He.DefD := ⟨("changed", none), "changed", "changed", defArgs (topS 20), defBody (topS 20), defScope (topS 20), [], []⟩
abbrev d_acted : He.DefD := ⟨("acted", none), "acted", "acted", defArgs (topS 21), defBody (topS 21), defScope (topS 21), [], []⟩
abbrev d_need_bells : He.DefD := ⟨("need_bells", none), "need_bells", "need_bells", defArgs (topS 22), defBody (topS 22), defScope (topS 22), [], []⟩
abbrev d_need_row : He.DefD := ⟨("need_row", none), "need_row", "need_row", defArgs (topS 23), defBody (topS 23), defScope (topS 23), [], []⟩
abbrev d_followed_by : He.DefD := ⟨("followed_by", none), "followed_by", "followed_by", defArgs (topS 24), defBody (topS 24), defScope (topS 24), [], []⟩
abbrev d_fits_lead : He.DefD := ⟨("fits_lead", none), "fits_lead", "fits_lead", defArgs (topS 27), defBody (topS 27), defScope (topS 27), [], []⟩
abbrev d_need_lead : He.DefD := ⟨("need_lead", none), "need_lead", "need_lead", defArgs (topS 28), defBody (topS 28), defScope (topS 28), [], []⟩
abbrev d_rows_by : He.DefD := ⟨("rows_by", none), "rows_by", "rows_by", defArgs (topS 29), defBody (topS 29), defScope (topS 29), [], []⟩
abbrev d_acting : He.DefD := ⟨("acting", none), "acting", "acting", defArgs (topS 30), defBody (topS 30), defScope (topS 30), [], []⟩
abbrev d_is_lead : He.DefD := ⟨("is_lead", none), "is_lead", "is_lead", defArgs (topS 31), defBody (topS 31), defScope (topS 31), [], []⟩
abbrev d_rows_rung : He.DefD := ⟨("rows_rung", none), "rows_rung", "rows_rung", defArgs (topS 32), defBody (topS 32), defScope (topS 32), [], []⟩
abbrev d_led_to : He.DefD := ⟨("led_to", none), "led_to", "led_to", defArgs (topS 33), defBody (topS 33), defScope (topS 33), [], []⟩
abbrev d_acting_row : He.DefD := ⟨("acting_row", none), "acting_row", "acting_row", defArgs (topS 34), defBody (topS 34), defScope (topS 34), [], []⟩
abbrev d__law_cup : He.DefD := ⟨("_law_cup", none), "_law_cup", "_law_cup", defArgs (topS 36), defBody (topS 36), defScope (topS 36), [], []⟩
abbrev d__law_roll : He.DefD := ⟨("_law_roll", none), "_law_roll", "_law_roll", defArgs (topS 37), defBody (topS 37), defScope (topS 37), [], []⟩
abbrev d__law_some : He.DefD := ⟨("_law_some", none), "_law_some", "_law_some", defArgs (topS 38), defBody (topS 38), defScope (topS 38), [], []⟩
abbrev d__law_changes : He.DefD := ⟨("_law_changes", none), "_law_changes", "_law_changes", defArgs (topS 39), defBody (topS 39), defScope (topS 39), [], []⟩
abbrev d__law_change : He.DefD := ⟨("_law_change", none), "_law_change", "_law_change", defArgs (topS 40), defBody (topS 40), defScope (topS 40), [], []⟩
abbrev d__law_lead : He.DefD := ⟨("_law_lead", none), "_law_lead", "_law_lead", defArgs (topS 41), defBody (topS 41), defScope (topS 41), [], []⟩
abbrev d__law_row : He.DefD := ⟨("_law_row", none), "_law_row", "_law_row", defArgs (topS 42), defBody (topS 42), defScope (topS 42), [], []⟩
abbrev d__law_behind : He.DefD := ⟨("_law_behind", none), "_law_behind", "_law_behind", defArgs (topS 43), defBody (topS 43), defScope (topS 43), [], []⟩
abbrev d__law_rung : He.DefD := ⟨("_law_rung", none), "_law_rung", "_law_rung", defArgs (topS 44), defBody (topS 44), defScope (topS 44), [], []⟩
abbrev d__law_led : He.DefD := ⟨("_law_led", none), "_law_led", "_law_led", defArgs (topS 45), defBody (topS 45), defScope (topS 45), [], []⟩
abbrev d__law_rounds : He.DefD := ⟨("_law_rounds", none), "_law_rounds", "_law_rounds", defArgs (topS 46), defBody (topS 46), defScope (topS 46), [], []⟩
abbrev d__law_bent_change : He.DefD := ⟨("_law_bent_change", none), "_law_bent_change", "_law_bent_change", defArgs (topS 47), defBody (topS 47), defScope (topS 47), [], []⟩
abbrev d__law_bent_lead : He.DefD := ⟨("_law_bent_lead", none), "_law_bent_lead", "_law_bent_lead", defArgs (topS 48), defBody (topS 48), defScope (topS 48), [], []⟩
abbrev d__law_are_whole : He.DefD := ⟨("_law_are_whole", none), "_law_are_whole", "_law_are_whole", defArgs (topS 49), defBody (topS 49), defScope (topS 49), [], []⟩
abbrev d__law_is_change : He.DefD := ⟨("_law_is_change", none), "_law_is_change", "_law_is_change", defArgs (topS 50), defBody (topS 50), defScope (topS 50), [], []⟩
abbrev d__law_is_lead : He.DefD := ⟨("_law_is_lead", none), "_law_is_lead", "_law_is_lead", defArgs (topS 51), defBody (topS 51), defScope (topS 51), [], []⟩
abbrev d__law_refusal : He.DefD := ⟨("_law_refusal", none), "_law_refusal", "_law_refusal", defArgs (topS 52), defBody (topS 52), defScope (topS 52), [], []⟩
abbrev d__law_right : He.DefD := ⟨("_law_right", none), "_law_right", "_law_right", defArgs (topS 53), defBody (topS 53), defScope (topS 53), [], []⟩
abbrev d_law : He.DefD := ⟨("law", none), "law", "law", defArgs (topS 54), defBody (topS 54), defScope (topS 54), [], []⟩
def fn : List He.DefD := [d_is_whole, d_is_tuple_of, d_fits_row, d_fits_change, d_rounds_of, d_changed, d_acted, d_need_bells, d_need_row, d_followed_by, d_fits_lead, d_need_lead, d_rows_by, d_acting, d_is_lead, d_rows_rung, d_led_to, d_acting_row, d__law_cup, d__law_roll, d__law_some, d__law_changes, d__law_change, d__law_lead, d__law_row, d__law_behind, d__law_rung, d__law_led, d__law_rounds, d__law_bent_change, d__law_bent_lead, d__law_are_whole, d__law_is_change, d__law_is_lead, d__law_refusal, d__law_right, d_law]
def fa : List He.Fa := [.glo "is_whole", .glo "is_tuple_of", .glo "fits_row", .glo "fits_change", .glo "rounds_of", .glo "changed", .glo "acted", .glo "need_bells", .glo "need_row", .glo "followed_by", .glo "fits_lead", .glo "need_lead", .glo "rows_by", .glo "acting", .glo "is_lead", .glo "rows_rung", .glo "led_to", .glo "acting_row", .glo "_law_cup", .glo "_law_roll", .glo "_law_some", .glo "_law_changes", .glo "_law_change", .glo "_law_lead", .glo "_law_row", .glo "_law_behind", .glo "_law_rung", .glo "_law_led", .glo "_law_rounds", .glo "_law_bent_change", .glo "_law_bent_lead", .glo "_law_are_whole", .glo "_law_is_change", .glo "_law_is_lead", .glo "_law_refusal", .glo "_law_right", .glo "law", .glo "OnceError", .glo "InvalidBells", .glo "InvalidRow", .glo "InvalidChange", .glo "InvalidLead", .glo "InvalidWays", .glo "InvalidTable", .glo "InvalidChoice", .glo "InvalidCalls", .glo "InvalidComposition", .glo "NotOne", .free "abs", .free "all", .free "bool", .free "int", .free "isinstance", .free "len", .free "list", .free "range", .free "set", .free "sorted", .free "tuple", .free "zip", .int "FEWEST" 2, .int "MOST" 6, .int "LONGEST" 24]
def fb0 : List He.Fa := [.exc "InvalidBells", .exc "InvalidRow", .exc "InvalidLead", .exm "InvalidBells" "InvalidBells" true, .exm "InvalidRow" "InvalidBells" false, .exm "InvalidRow" "InvalidRow" true, .exm "InvalidLead" "InvalidBells" false, .exm "InvalidLead" "InvalidRow" false, .exm "InvalidLead" "InvalidChange" false, .exm "InvalidLead" "InvalidLead" true]
abbrev fb : List He.Fa := fb0
def tf : List He.Defn := [("law", none)]
abbrev Ro : PySem.W.OpenRow := PySem.W.OpenLaw.row PySem.Challenge.rw_rungonce_k05_whole_leads_and_how_they_ac
abbrev hk : PySem.W.Hook := He.hookX 4 (fa ++ fb) fn [] tf (Py.nodB tf)
def ob (s : PySem.W.SharedT) : He.AlX := He.obsX 4 (fa ++ fb) fn [] tf (Py.nodB tf) (HandSHeadRun.getT s)
theorem ob_eq (s : PySem.W.SharedT) : ob s = hk.obs s.abs := He.obsX_eq (HandSHeadRun.getT_eq s)
def loose0 : List PySem.Str := ["OnceError", "InvalidBells", "InvalidRow", "InvalidChange", "InvalidLead", "InvalidWays", "InvalidTable", "InvalidChoice", "InvalidCalls", "InvalidComposition", "NotOne", "FEWEST", "MOST", "is_whole", "is_tuple_of", "fits_row", "fits_change", "rounds_of", "changed", "acted", "need_bells", "need_row", "followed_by", "LONGEST"]
def loose1 : List PySem.Str := ["fits_lead", "need_lead", "rows_by", "acting", "is_lead", "rows_rung", "led_to", "acting_row", "_law_cup", "_law_roll", "_law_some", "_law_changes", "_law_change", "_law_lead", "_law_row", "_law_behind", "_law_rung", "_law_led", "_law_rounds", "_law_bent_change", "_law_bent_lead", "_law_are_whole", "_law_is_change", "_law_is_lead"]
def loose2 : List PySem.Str := ["_law_refusal", "_law_right"]
abbrev loose : List PySem.Str := loose0 ++ loose1 ++ loose2
theorem run (w : World) : HandSHeadRun.RunEq Ro (PySem.W.view Ro.prog [54]) hk ob 4000 loose w := by
  intro os
  kernel_rfl
end Hd
end
section
set_option autoImplicit false
set_option linter.all false
set_option maxRecDepth 100000
set_option maxHeartbeats 0
namespace Lw
open PySem PySem.Spec PyProof.Rows L2 Py
def pr : List Ent := [⟨Hd.d_is_whole, c_is_whole, ["value", "low", "high"], false, .none⟩,
  ⟨Hd.d_is_tuple_of, c_is_tuple_of, ["value", "low", "high"], false, .none⟩,
  ⟨Hd.d_fits_row, c_fits_row, ["value", "low", "high", "bell"], false, .none⟩,
  ⟨Hd.d_fits_change, c_fits_change, ["bells", "value", "one", "other", "place"], false, .none⟩,
  ⟨Hd.d_rounds_of, c_rounds_of, ["bells"], false, .none⟩,
  ⟨Hd.d_changed, c_changed, ["row", "change", "place"], false, .none⟩,
  ⟨Hd.d_acted, c_acted, ["row", "other", "place"], false, .none⟩,
  ⟨Hd.d_need_bells, c_need_bells, ["value"], false, .none⟩,
  ⟨Hd.d_need_row, c_need_row, ["value", "low", "high"], false, .none⟩,
  ⟨Hd.d_followed_by, c_followed_by, ["row", "other"], false, .none⟩,
  ⟨Hd.d_fits_lead, c_fits_lead, ["bells", "value", "change"], false, .none⟩,
  ⟨Hd.d_need_lead, c_need_lead, ["bells", "value"], false, .none⟩,
  ⟨Hd.d_rows_by, c_rows_by, ["row", "lead", "found", "change"], false, .none⟩,
  ⟨Hd.d_acting, c_acting, ["bells", "lead"], false, .none⟩,
  ⟨Hd.d_is_lead, c_is_lead, ["bells", "value"], false, .none⟩,
  ⟨Hd.d_rows_rung, c_rows_rung, ["row", "lead"], false, .none⟩,
  ⟨Hd.d_led_to, c_led_to, ["row", "lead"], false, .none⟩,
  ⟨Hd.d_acting_row, c_acting_row, ["bells", "lead"], false, .none⟩,
  ⟨Hd.d__law_cup, c__law_cup, ["_law_script", "_law_cell"], false, .none⟩,
  ⟨Hd.d__law_roll, c__law_roll, ["_law_cup_here", "_law_many", "_law_deep", "_law_found"], false, .none⟩,
  ⟨Hd.d__law_some, c__law_some, ["_law_cup_here", "_law_things"], false, .none⟩,
  ⟨Hd.d__law_changes, c__law_changes, ["_law_bells", "_law_found", "_law_place", "_law_change_here"], false, .none⟩,
  ⟨Hd.d__law_change, c__law_change, ["_law_cup_here", "_law_bells", "_law_some_here"], false, .none⟩,
  ⟨Hd.d__law_lead, c__law_lead, ["_law_cup_here", "_law_bells", "_law_most", "_law_turn"], false, .none⟩,
  ⟨Hd.d__law_row, c__law_row, ["_law_cup_here", "_law_bells", "_law_left", "_law_found"], false, .none⟩,
  ⟨Hd.d__law_behind, c__law_behind, ["_law_row_here", "_law_change_here", "_law_found", "_law_place"], false, .none⟩,
  ⟨Hd.d__law_rung, c__law_rung, ["_law_row_here", "_law_lead_here", "_law_found", "_law_change_here"], false, .none⟩,
  ⟨Hd.d__law_led, c__law_led, ["_law_row_here", "_law_lead_here"], false, .none⟩,
  ⟨Hd.d__law_rounds, c__law_rounds, ["_law_bells"], false, .none⟩,
  ⟨Hd.d__law_bent_change, c__law_bent_change, ["_law_cup_here", "_law_change_here", "_law_odd", "_law_at", "_law_some_here"], false, .none⟩,
  ⟨Hd.d__law_bent_lead, c__law_bent_lead, ["_law_cup_here", "_law_lead_here", "_law_at", "_law_bent"], false, .none⟩,
  ⟨Hd.d__law_are_whole, c__law_are_whole, ["_law_value", "_law_low", "_law_high", "_law_one"], false, .none⟩,
  ⟨Hd.d__law_is_change, c__law_is_change, ["_law_bells", "_law_value", "_law_at"], false, .none⟩,
  ⟨Hd.d__law_is_lead, c__law_is_lead, ["_law_bells", "_law_value", "_law_change_here"], false, .none⟩,
  ⟨Hd.d__law_refusal, c__law_refusal, ["_law_call"], false, (.some [(0, []), (1, [98, 101, 108, 108, 115]), (2, [114, 111, 119]), (3, [108, 101, 97, 100])])⟩,
  ⟨Hd.d__law_right, c__law_right, ["_law_cup_here", "_law_bells", "_law_rung_here", "_law_act", "_law_other", "_law_turn", "_law_lead_here", "_law_row_here", "_law_value", "_law_told", "_law_one"], false, .none⟩,
  ⟨Hd.d_law, c_law, ["_law_script", "_law_cup_here", "_law_bells", "_law_lead_here", "_law_odd", "_law_words"], true, .none⟩]
def g : Cg := ⟨fnsOf pr, [("FEWEST", .int 2), ("MOST", .int 6), ("LONGEST", .int 24)], ["InvalidBells", "InvalidRow", "InvalidLead"], ["abs", "all", "bool", "int", "isinstance", "len", "list", "range", "set", "sorted", "tuple", "zip"], refsOf 0 pr, false⟩
theorem lms : lamsB Hd.tf pr = true := by kernel_rfl
theorem tell : AllT pr := ⟨trivial, trivial, trivial, trivial, trivial, trivial, trivial, trivial, trivial, trivial, trivial, trivial, trivial, trivial, trivial, trivial, trivial, trivial, trivial, trivial, trivial, trivial, trivial, trivial, trivial, trivial, trivial, trivial, trivial, trivial, trivial, trivial, trivial, trivial, rfl, trivial, trivial, trivial⟩
theorem fit : fitAll g (Hd.fa ++ Hd.fb) 0 pr = true := by kernel_rfl
theorem fitg : fitG g (Hd.fa ++ Hd.fb) = true := by kernel_rfl
theorem mem : ∀ e ∈ pr, e.d ∈ Hd.fn := by
  intro e he
  simp only [pr, List.mem_cons, List.not_mem_nil, or_false] at he
  rcases he with rfl | rfl | rfl | rfl | rfl | rfl | rfl | rfl | rfl | rfl | rfl | rfl | rfl | rfl | rfl | rfl | rfl | rfl | rfl | rfl | rfl | rfl | rfl | rfl | rfl | rfl | rfl | rfl | rfl | rfl | rfl | rfl | rfl | rfl | rfl | rfl | rfl <;> simp [Hd.fn]
theorem bnd : AllB pr := ⟨fun _ _ _ _ _ _ us hl => match us, hl with | [_, _, _], _ => rfl,
  fun _ _ _ _ _ _ us hl => match us, hl with | [_, _, _], _ => rfl,
  fun _ _ _ _ _ _ us hl => match us, hl with | [_, _, _], _ => rfl,
  fun _ _ _ _ _ _ us hl => match us, hl with | [_, _], _ => rfl,
  fun _ _ _ _ _ _ us hl => match us, hl with | [_], _ => rfl,
  fun _ _ _ _ _ _ us hl => match us, hl with | [_, _], _ => rfl,
  fun _ _ _ _ _ _ us hl => match us, hl with | [_, _], _ => rfl,
  fun _ _ _ _ _ _ us hl => match us, hl with | [_], _ => rfl,
  fun _ _ _ _ _ _ us hl => match us, hl with | [_, _, _], _ => rfl,
  fun _ _ _ _ _ _ us hl => match us, hl with | [_, _], _ => rfl,
  fun _ _ _ _ _ _ us hl => match us, hl with | [_, _], _ => rfl,
  fun _ _ _ _ _ _ us hl => match us, hl with | [_, _], _ => rfl,
  fun _ _ _ _ _ _ us hl => match us, hl with | [_, _], _ => rfl,
  fun _ _ _ _ _ _ us hl => match us, hl with | [_, _], _ => rfl,
  fun _ _ _ _ _ _ us hl => match us, hl with | [_, _], _ => rfl,
  fun _ _ _ _ _ _ us hl => match us, hl with | [_, _], _ => rfl,
  fun _ _ _ _ _ _ us hl => match us, hl with | [_, _], _ => rfl,
  fun _ _ _ _ _ _ us hl => match us, hl with | [_, _], _ => rfl,
  fun _ _ _ _ _ _ us hl => match us, hl with | [_], _ => rfl,
  fun _ _ _ _ _ _ us hl => match us, hl with | [_, _], _ => rfl,
  fun _ _ _ _ _ _ us hl => match us, hl with | [_, _], _ => rfl,
  fun _ _ _ _ _ _ us hl => match us, hl with | [_], _ => rfl,
  fun _ _ _ _ _ _ us hl => match us, hl with | [_, _], _ => rfl,
  fun _ _ _ _ _ _ us hl => match us, hl with | [_, _, _], _ => rfl,
  fun _ _ _ _ _ _ us hl => match us, hl with | [_, _], _ => rfl,
  fun _ _ _ _ _ _ us hl => match us, hl with | [_, _], _ => rfl,
  fun _ _ _ _ _ _ us hl => match us, hl with | [_, _], _ => rfl,
  fun _ _ _ _ _ _ us hl => match us, hl with | [_, _], _ => rfl,
  fun _ _ _ _ _ _ us hl => match us, hl with | [_], _ => rfl,
  fun _ _ _ _ _ _ us hl => match us, hl with | [_, _], _ => rfl,
  fun _ _ _ _ _ _ us hl => match us, hl with | [_, _], _ => rfl,
  fun _ _ _ _ _ _ us hl => match us, hl with | [_, _, _], _ => rfl,
  fun _ _ _ _ _ _ us hl => match us, hl with | [_, _], _ => rfl,
  fun _ _ _ _ _ _ us hl => match us, hl with | [_, _], _ => rfl,
  fun _ _ _ _ _ _ us hl => match us, hl with | [_], _ => rfl,
  fun _ _ _ _ _ _ us hl => match us, hl with | [_, _], _ => rfl,
  fun _ _ _ _ _ _ us hl => match us, hl with | [_], _ => rfl, trivial⟩
abbrev eLaw : Ent := ⟨Hd.d_law, c_law, ["_law_script", "_law_cup_here", "_law_bells", "_law_lead_here", "_law_odd", "_law_words"], true, .none⟩
theorem fs_eq : pr.map (·.f) = fs := rfl
end Lw
end
set_option linter.all false
set_option maxRecDepth 100000
set_option maxHeartbeats 0
theorem Lw.law_true (ns : List Int) (hn : ns.length ≤ 63) : Py.evF (Py.ftAt (Lw.pr.map (·.f)) 36) Lw.eLaw.f [.fz ns] = .ok (.bl true, .non) := by
  rw [Lw.fs_eq]
  have e := Lw.k_law (.fz ns)
  exact Py.Good.last Lw.g__law_right [1, 5] (e.symm.trans (Lw.law_ok ns hn))
open PySem PySem.W PySem.Calls PyProof.Rows
theorem PySem.Challenge.cw_rungonce_k05_whole_leads_and_how_they_ac_holds : PySem.Challenge.rw_rungonce_k05_whole_leads_and_how_they_ac.Holds := by
  w_on; o_law
  refine HandSHeadRun.head_any (r := OpenLaw.row PySem.Challenge.rw_rungonce_k05_whole_leads_and_how_they_ac) (q := view (OpenLaw.row PySem.Challenge.rw_rungonce_k05_whole_leads_and_how_they_ac).prog [54]) (H := Hd.hk) (ob := Hd.ob) (M := 4000) (loose := Hd.loose) (d := HandSHeadRun.topDef (OpenLaw.row PySem.Challenge.rw_rungonce_k05_whole_leads_and_how_they_ac).prog 54) (kwd := []) Hd.ob_eq
    (by kernel_rfl) (fun s => by kernel_rfl) Hd.run (by kernel_rfl) (by kernel_rfl) (by kernel_rfl) (by rfl) (by first | assumption | decide +kernel) (by decide +kernel) ⟨rfl, rfl, rfl, rfl, rfl, by decide +kernel⟩ ?hw ?hc
  case hw => w_witness2
  case hc =>
    refine Py.walk_w (l := PySem.Challenge.rw_rungonce_k05_whole_leads_and_how_they_ac) (n := 63) (k := 39) (x := "_law_script") (CC := fun w => L2.CX PySem.Challenge.rw_rungonce_k05_whole_leads_and_how_they_ac.prog w) rfl (by decide) (by kernel_rfl) ⟨rfl, by decide, by decide⟩ ?F fun w H s e s' => Py.cx_none _ w H s e s'
    intro w mg fa h Y G hmg0
    obtain ⟨K, KX, c⟩ := Y
    have hmg : mg Lw.eLaw.d.name = some (.ref fa) := by
      have e : (HandSHeadRun.topDef (OpenLaw.row PySem.Challenge.rw_rungonce_k05_whole_leads_and_how_they_ac).prog 54).name = ("law" : PySem.Str) := by kernel_rfl
      have e2 : Lw.eLaw.d.name = ("law" : PySem.Str) := rfl
      rw [e2, ← e]
      exact hmg0
    exact Py.law_end KX G c (g := Lw.g) (pr := Lw.pr) (i := 36) (e := Lw.eLaw) rfl rfl Lw.fit Lw.fitg Lw.mem Lw.bnd Lw.tell Lw.lms rfl rfl rfl rfl rfl hmg fun ns hn => Lw.law_true ns hn

