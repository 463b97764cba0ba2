import PyProof.Rows.All
import Wide.All
import OpenK.AllK
import Wide.FinOn
import PySem.Challenge.RW_fieldclaim_k06_whole_pairs
import HandS.ForMost
import HandS.Wide
import HandS.Deep
import KE.SortData
import HandS.ForSpec
import HandS.Iter
import HandS.Comp
import HandS.Dict
import HandS.Text
import HandS.Flow
import HandS.Style
import HandS.IsInst
import HandS.TupAny
import HandS.CallRecv
import KE.KDictKeyed
import HandS.Exc
import HandS.SetFor
import HandS.TupSets
import KE.GoesZip
import KE.GoesEnum
import HandS.Zip
import HandS.Sort
import HandS.HeadWalk
import HandS.Conv
import HandS.ExcOwn
import HandS.Defaults
import HandS.HeadHook2
import HandS.Ends
import HandS.Words
import HandS.WordsExc
import HandS.Head0
import HandS.Head1
import HandS.Head2
import HandS.HeadEnd
import HandS.HeadHook1
/-! An interpreter for the part of Python in which the program and the laws are written, over pure data. -/
set_option autoImplicit false
set_option linter.all false
namespace FC
open PySem

/-! ### data -/
inductive D where
  | non | bl (b : Bool) | int (i : Int) | str (x : Str)
  | tup (xs : List D) | lst (xs : List D)
  /-- a dict that remembers answers (false: a solver's, true: the law's own) of the game g; a solver of the game g -/
  | memo (b : Bool) (g : D) | slv (g : D)
  /-- the script itself -/
  | scr (ns : List Int)

mutual
def D.py : D → PyData
  | .non => .none
  | .bl b => .bool b
  | .int i => .int i
  | .str x => .str x
  | .tup xs => .tuple (D.pys xs)
  | .lst xs => .list (D.pys xs)
  | .memo _ _ => .dict []
  | .slv _ => .dict []
  | .scr _ => .dict []
def D.pys : List D → List PyData
  | [] => []
  | x :: xs => D.py x :: D.pys xs
end
theorem pys_eq : ∀ xs : List D, D.pys xs = xs.map D.py
  | [] => rfl
  | x :: xs => by rw [D.pys, pys_eq xs]; rfl

def risesIn (n : Int) : List Int → Bool
  | [] => true
  | [a] => decide (0 ≤ a ∧ a < n)
  | a :: b :: r => decide (0 ≤ a ∧ a < b) && risesIn n (b :: r)
def keyOk (m y : List Int) (w : Int) : Bool := risesIn 9 m && risesIn 9 y && decide (w = 0 ∨ w = 1)
mutual
/-- the same thing, sign by sign -/
def sameD : D → D → Bool
  | .non, .non => true
  | .bl a, .bl b => a == b
  | .int a, .int b => decide (a = b)
  | .str a, .str b => decide (a = b)
  | .tup a, .tup b => sameL a b
  | .lst a, .lst b => sameL a b
  | .memo a b, .memo a' b' => a == a' && sameD b b'
  | .slv a, .slv a' => sameD a a'
  | .scr a, .scr a' => decide (a = a')
  | _, _ => false
def sameL : List D → List D → Bool
  | [], [] => true
  | x :: xs, y :: ys => sameD x y && sameL xs ys
  | _, _ => false
end
mutual
theorem sameD_refl : ∀ x : D, sameD x x = true
  | .non => by rw [sameD]
  | .bl _ => by rw [sameD]; simp
  | .int _ => by rw [sameD]; simp
  | .str _ => by rw [sameD]; simp
  | .tup a => by rw [sameD]; exact sameL_refl a
  | .lst a => by rw [sameD]; exact sameL_refl a
  | .memo a b => by rw [sameD, sameD_refl b]; simp
  | .slv a => by rw [sameD]; exact sameD_refl a
  | .scr _ => by rw [sameD]; simp
theorem sameL_refl : ∀ x : List D, sameL x x = true
  | [] => by rw [sameL]
  | x :: xs => by rw [sameL, sameD_refl x, sameL_refl xs]; rfl
end
mutual
theorem sameD_eq : ∀ {x y : D}, sameD x y = true → x = y
  | .non, y, h => by cases y <;> simp [sameD] at h ⊢
  | .bl _, y, h => by cases y <;> simp [sameD] at h ⊢; exact h
  | .int _, y, h => by cases y <;> simp [sameD] at h ⊢; exact h
  | .str _, y, h => by cases y <;> simp [sameD] at h ⊢; exact h
  | .tup a, y, h => by cases y <;> simp [sameD] at h ⊢; exact sameL_eq h
  | .lst a, y, h => by cases y <;> simp [sameD] at h ⊢; exact sameL_eq h
  | .memo a b, y, h => by cases y <;> simp [sameD] at h ⊢; exact ⟨h.1, sameD_eq h.2⟩
  | .slv a, y, h => by cases y <;> simp [sameD] at h ⊢; exact sameD_eq h
  | .scr _, y, h => by cases y <;> simp [sameD] at h ⊢; exact h
theorem sameL_eq : ∀ {x y : List D}, sameL x y = true → x = y
  | [], y, h => by cases y <;> simp [sameL] at h ⊢
  | x :: xs, y, h => by cases y <;> simp [sameL] at h ⊢; exact ⟨sameD_eq h.1, sameL_eq h.2⟩
end

mutual
def cod : D → Bool
  | .int _ => true
  | .tup xs => cods xs
  | _ => false
def cods : List D → Bool
  | [] => true
  | x :: xs => cod x && cods xs
end

/-! ### results -/
inductive Res (α : Type) where
  | ok (a : α) | exc (n : Nat) | bad
namespace Res
def bind {α β : Type} (r : Res α) (f : α → Res β) : Res β := match r with
  | .ok a => f a
  | .exc n => .exc n
  | .bad => .bad
@[simp] theorem bind_ok {α β : Type} (a : α) (f : α → Res β) : (Res.ok a).bind f = f a := rfl
@[simp] theorem bind_exc {α β : Type} (n : Nat) (f : α → Res β) : (Res.exc n : Res α).bind f = .exc n := rfl
@[simp] theorem bind_bad {α β : Type} (f : α → Res β) : (Res.bad : Res α).bind f = .bad := rfl
/-- within a comprehension nothing is raised -/
def calm {α : Type} (r : Res α) : Res α := match r with
  | .ok a => .ok a
  | .exc _ => .bad
  | .bad => .bad
@[simp] theorem calm_ok {α : Type} (a : α) : (Res.ok a).calm = .ok a := rfl
end Res
def ofOpt {α : Type} : Option α → Res α
  | some a => .ok a
  | none => .bad
@[simp] theorem ofOpt_some {α : Type} (a : α) : ofOpt (some a) = .ok a := rfl

/-! ### code -/
inductive BO where
  | add | sub | mul | fdiv | mod | band | shl | shr
  deriving DecidableEq
inductive CO where
  | eq | ne | lt | le | gt | ge | is | isnot | isin | notin
  deriving DecidableEq
inductive BI where
  | len | min2 | max2 | max1 | tuple | list | sorted | any | all | sum | str | int
  deriving DecidableEq
inductive Kd where
  | int | bool | tuple
  deriving DecidableEq
inductive Tg where
  | one (i : Nat) | many (is : List Nat)
/-- the defs of the program and of the laws -/
inductive Fn where
  | choose | free_points | claims | added | claimed | decided
  | s_winner | s_good | s_behind | winner_from | winner | good_claims
  | is_number | is_rising | is_line | is_field | is_game | written | figure | read
  | behind | grown | tree_for | fits | is_one_of | is_tree
  | holds_pair | points_of | search | pairing | is_pairing | partner | reply
  | common | power | weight | parts | as_fraction | danger | pull | heaviest | is_safe
  | all_sets | head_start | curb | cover
  | sorted_lines | with_line | without_point | beside | renamed | essential
  | l_cell | l_mix | l_field | l_game | l_position | l_bad_field | l_bad_game
  | l_text | l_spoilt2 | l_spoilt5 | l_read | l_over | l_claims | l_put | l_refused
  | l_winner | l_whole | l_is_tree | l_holds | l_is_pairing | l_all | l_safe6 | l_safe8
  | l_fraction | l_weights | l_sets | l_better
  | law1 | law2 | law3 | law4 | law5 | law6 | law7 | law8 | law9 | law10 | law11
  deriving DecidableEq

inductive C where
  | var (i : Nat) | int (n : Int) | bl (b : Bool) | non | str (x : Str)
  | nil | cons (a b : C)
  | tup (a : C) | lst (a : C)
  | bin (o : BO) (a b : C) | neg (a : C)
  | cmp (o : CO) (a b : C) | leq2 (a b c : C)
  | and (a b : C) | or (a b : C) | not (a : C)
  | idx (a b : C) | slc (a lo hi : C) | rev (a : C)
  | call (f : Fn) (as : C) | meth (f : Fn) (o as : C) | bi (f : BI) (as : C)
  | lrng (a : C) | sset (a : C) | lset (a : C)
  | isi (a : C) (t : Kd)
  | join (a b : C) | split (a b : C) | indx (a b : C)
  | nin (a b : C)
  | lc (own : List Nat) (tg : Tg) (it ifs elt : C)
  | r1 (a : C) | r2 (a b : C) | zp (a b : C) | en (a : C)
  | mem0 (i : Nat) | slvr (a : C) | game (a : C)

/-- statements: a block is seq st rest, ending in skip -/
inductive S where
  | skip | seq (a b : S)
  | asg (i : Nat) (e : C) | asgF (i : Nat) (e : C) | frz (i : Nat)
  | unp (is : List Nat) (e : C) | par (i j : Nat) (a b : C)
  | app (i : Nat) (e : C) | ext (i : Nat) (e : C)
  | pops (tp : Bool) (i j : Nat) (own : List Nat) (tg : Tg) (it e : C)
  | ret (e : C) | ife (t : C) (a b : S)
  | for_ (tg : Tg) (it : C) (b : S) | whl (n : Nat) (t : C) (b : S)
  | rai (n : Nat)
  | memo (kd : Bool) (key : C) (j fi : Nat) (body : S)

/-! ### operations on data -/
def lim : Nat := 1000000
def mkT (xs : List D) : Res D := if xs.length ≤ lim then .ok (.tup xs) else .bad
def mkL (xs : List D) : Res D := if xs.length ≤ lim then .ok (.lst xs) else .bad
def shp (d : D) : Bool := SeqAt.shaped d.py
def eqD (x y : D) : Bool := PyData.eqv x.py y.py
def intOf : D → Option Int
  | .int i => some i
  | _ => none
def blOf : D → Option Bool
  | .bl i => some i
  | _ => none
def strOf : D → Option Str
  | .str i => some i
  | _ => none
def truthD : D → Res Bool
  | .non => .ok false
  | .bl b => .ok b
  | .int i => .ok (i != 0)
  | .tup xs => .ok (!xs.isEmpty)
  | .lst xs => .ok (!xs.isEmpty)
  | _ => .bad
def small64 (i : Int) : Bool := decide (-(2 ^ 64) < i ∧ i < 2 ^ 64)
def wide (i : Int) : Bool := decide (i.natAbs.log2 < 1000)
def binD : BO → D → D → Res D
  | .add, .int i, .int j => .ok (.int (i + j))
  | .add, .str x, .str y => if x.length + y.length ≤ sizeLine then .ok (.str (x ++ y)) else .bad
  | .add, .tup xs, .tup ys => mkT (xs ++ ys)
  | .add, .lst xs, .lst ys => mkL (xs ++ ys)
  | .sub, .int i, .int j => .ok (.int (i - j))
  | .mul, .int i, .int j => if small64 j || small64 i || (wide i && wide j) then .ok (.int (i * j)) else .bad
  | .mul, .lst xs, .int k => if 0 ≤ k ∧ k ≤ 1000 ∧ xs.length * k.toNat ≤ lim then .ok (.lst (List.replicate k.toNat xs).flatten) else .bad
  | .fdiv, .int i, .int j => if 0 < j ∧ j.natAbs.log2 < 9000 then .ok (.int (i / j)) else .bad
  | .mod, .int i, .int j => if 0 < j then .ok (.int (i % j)) else .bad
  | .band, .int i, .int j => .ok (.int (Builtin.bitAnd i j))
  | .shl, .int i, .int j => if 0 ≤ j ∧ j ≤ 1000000 ∧ i.natAbs < 2 ^ 64 then .ok (.int (i * 2 ^ j.toNat)) else .bad
  | .shr, .int i, .int j => if 0 ≤ j then .ok (.int (i / 2 ^ j.toNat)) else .bad
  | _, _, _ => .bad
def allInts (xs : List D) : Option (List Int) := xs.mapM intOf
def ltTup (xs ys : List D) : Res D := match allInts xs, allInts ys with
  | some ns, some ms => .ok (.bl (HT.lexLt ns ms))
  | _, _ => .bad
def inD (x : D) (ys : List D) : Bool := ys.any fun z => eqD z x
def isD : D → D → Res Bool
  | .bl a, .bl b => .ok (decide (a = b))
  | .non, .non => .ok true
  | .bl _, .non => .ok false
  | .int _, .non => .ok false
  | .str _, .non => .ok false
  | .tup _, .non => .ok false
  | .lst _, .non => .ok false
  | _, _ => .bad
def cmpD : CO → D → D → Res D
  | .eq, x, y => if shp x && shp y then .ok (.bl (eqD x y)) else .bad
  | .ne, x, y => if shp x && shp y then .ok (.bl (!eqD x y)) else .bad
  | .lt, .int i, .int j => .ok (.bl (decide (i < j)))
  | .lt, .tup xs, .tup ys => ltTup xs ys
  | .le, .int i, .int j => .ok (.bl (decide (i ≤ j)))
  | .gt, .int i, .int j => .ok (.bl (decide (j < i)))
  | .ge, .int i, .int j => .ok (.bl (decide (j ≤ i)))
  | .isin, x, .tup ys => if shp x && shp (.tup ys) then .ok (.bl (inD x ys)) else .bad
  | .isin, x, .lst ys => if shp x && shp (.lst ys) then .ok (.bl (inD x ys)) else .bad
  | .notin, x, .tup ys => if shp x && shp (.tup ys) then .ok (.bl (!inD x ys)) else .bad
  | .notin, x, .lst ys => if shp x && shp (.lst ys) then .ok (.bl (!inD x ys)) else .bad
  | .is, x, y => (isD x y).bind fun b => .ok (.bl b)
  | .isnot, x, y => (isD x y).bind fun b => .ok (.bl (!b))
  | _, _, _ => .bad
def cut {α : Type} (xs : List α) (lo hi : Option Int) : List α := (xs.drop (HT.sIx xs.length 0 lo)).take (HT.sIx xs.length xs.length hi - HT.sIx xs.length 0 lo)
def idxD : D → D → Res D
  | .tup xs, .int i => ofOpt (L2.atI xs i)
  | .lst xs, .int i => ofOpt (L2.atI xs i)
  | .scr ns, .int i => ofOpt ((L2.atI ns i).map .int)
  | .str x, .int i => if x.length ≤ sizeLine then ofOpt ((L2.atI x.cps.toList i).map fun c => .str ⟨#[c]⟩) else .bad
  | _, _ => .bad
def slcD (d : D) (lo hi : Option Int) : Res D := match d with
  | .tup xs => .ok (.tup (cut xs lo hi))
  | .lst xs => .ok (.lst (cut xs lo hi))
  | .scr ns => .ok (.lst (cut (ns.map .int) lo hi))
  | .str x => if x.length ≤ sizeLine then .ok (.str (L2.cutS x lo hi)) else .bad
  | _ => .bad
def revD : D → Res D
  | .tup xs => .ok (.tup xs.reverse)
  | _ => .bad
def seqOf : D → Res (List D)
  | .tup xs => .ok xs
  | .lst xs => .ok xs
  | _ => .bad
/-- sorted -/
def sortD (xs : List D) : List D := xs.mergeSort (W.dataLe false D.py)
def sortable (xs : List D) : Bool :=
  xs.all (fun x => xs.all fun y => W.alike x.py y.py) && xs.all (fun x => shp x) &&
  (xs.all (fun x => match x with | .tup (_ :: _) => true | _ => false) || xs.all fun x => match x with | .non => false | .tup _ => false | _ => true)
def biD : BI → List D → Res D
  | .len, [.tup xs] => .ok (.int xs.length)
  | .len, [.lst xs] => .ok (.int xs.length)
  | .len, [.scr ns] => .ok (.int ns.length)
  | .len, [.str x] => if x.length ≤ sizeLine then .ok (.int x.length) else .bad
  | .min2, [.int i, .int j] => .ok (.int (if j < i then j else i))
  | .max2, [.int i, .int j] => .ok (.int (if j > i then j else i))
  | .max1, [.lst xs] => match allInts xs with
    | some (n :: ns) => .ok (.int (ns.foldl (fun a b => if b > a then b else a) n))
    | _ => .bad
  | .tuple, [d] => (seqOf d).bind fun xs => .ok (.tup xs)
  | .list, [d] => (seqOf d).bind fun xs => .ok (.lst xs)
  | .sorted, [d] => (seqOf d).bind fun xs => if sortable xs then .ok (.lst (sortD xs)) else .bad
  | .any, [.lst xs] => (ofOpt (xs.mapM blOf)).bind fun bs => .ok (.bl (bs.any id))
  | .all, [.lst xs] => (ofOpt (xs.mapM blOf)).bind fun bs => .ok (.bl (bs.all id))
  | .sum, [.lst xs] => (ofOpt (allInts xs)).bind fun ns => .ok (.int ns.sum)
  | .str, [.int i] => if i.natAbs.log2 < 1920 then .ok (.str (toString i)) else .bad
  | .int, [.int i] => .ok (.int i)
  | .int, [.bl b] => .ok (.int (if b then 1 else 0))
  | _, _ => .bad
def isiD (t : Kd) : D → Res D
  | .non => .ok (.bl false)
  | .bl _ => .ok (.bl (match t with | .int => true | .bool => true | .tuple => false))
  | .int _ => .ok (.bl (match t with | .int => true | _ => false))
  | .str _ => .ok (.bl false)
  | .tup _ => .ok (.bl (match t with | .tuple => true | _ => false))
  | .lst _ => .ok (.bl false)
  | _ => .bad
def joinD (x : Str) (ys : List D) : Res D := (ofOpt (ys.mapM strOf)).bind fun zs => if (zs.map (·.length)).sum + zs.length * x.length ≤ 16777216 then .ok (.str (Txt.join x zs)) else .bad
def splitD : D → D → Res D
  | .str x, .str y => if 0 < y.length ∧ x.length + 2 ≤ lim then .ok (.lst ((Txt.split x y).map .str)) else .bad
  | _, _ => .bad
def indexL : List D → D → Nat → Option Nat
  | [], _, _ => none
  | x :: xs, y, k => if eqD x y then some k else indexL xs y (k + 1)
def indexD : D → D → Res D
  | .lst xs, y => if shp y && shp (.lst xs) then (ofOpt (indexL xs y 0)).bind fun k => .ok (.int (k : Nat)) else .bad
  | _, _ => .bad
/-- what a set holds, each once -/
def ddup {α : Type} [DecidableEq α] : List α → List α
  | [] => []
  | x :: xs => if x ∈ xs then ddup xs else x :: ddup xs
def setI (ns : List Int) : List Int := (ddup ns).mergeSort fun a b => decide (a ≤ b)
def setL (rs : List (List Int)) : List (List Int) := (ddup rs).mergeSort fun a b => decide (a ≤ b)
def rowD : D → Option (List Int)
  | .tup xs => allInts xs
  | _ => none
def ssetD (d : D) : Res D := (seqOf d).bind fun xs => match allInts xs with
  | some ns => if ns.length < 64 then .ok (.lst ((setI ns).map .int)) else .bad
  | none => match xs.mapM rowD with
    | some rs => if rs.length < 64 ∧ sortable xs = true then .ok (.lst ((setL rs).map fun r => .tup (r.map .int))) else .bad
    | none => .bad
/-- ints, each once, in the order of meeting -/
def meetS (acc : List Int) (k : Int) : List Int := if acc.any (· == k) then acc else acc ++ [k]
def meets (ns : List Int) : List Int := ns.foldl meetS []
def lsetD (d : D) : Res D := (seqOf d).bind fun xs => match allInts xs with
  | some ns => if ns.length < 64 then .ok (.int (meets ns).length) else .bad
  | none => .bad
def rngOk (i : Int) : Bool := decide (-(2 ^ 62) ≤ i ∧ i < 2 ^ 62)
def rng (lo : Int) (n : Nat) : List D := (List.range n).map fun k => .int (lo + (k : Nat))
def rngD : D → D → Res (List D)
  | .int i, .int j => if rngOk i && rngOk j && decide ((j - i).toNat ≤ lim) then .ok (rng i (j - i).toNat) else .bad
  | _, _ => .bad

/-! ### environments -/
def wipeE (ρ : List (Option D)) : List Nat → List (Option D)
  | [] => ρ
  | i :: is => (wipeE ρ is).set i none
def setAllE (ρ : List (Option D)) : List Nat → List D → Option (List (Option D))
  | [], [] => some ρ
  | i :: is, x :: xs => setAllE (ρ.set i (some x)) is xs
  | _, _ => none
def bindE : Tg → D → List (Option D) → Res (List (Option D))
  | .one i, d, ρ => .ok (ρ.set i (some d))
  | .many is, .tup xs, ρ => ofOpt (setAllE ρ is xs)
  | _, _, _ => .bad
/-- a comprehension's items, one after another -/
def lcL (f : D → Res (Option D)) : List D → Res (List D)
  | [] => .ok []
  | x :: xs => (f x).calm.bind fun o => (lcL f xs).bind fun ys => .ok (match o with | some y => y :: ys | none => ys)
def optI : Option D → Res (Option Int)
  | none => .ok none
  | some (.int i) => .ok (some i)
  | some _ => .bad

section
variable (F : Fn → List D → Res D)
mutual
def E : C → List (Option D) → Res D
  | .var i, ρ => match ρ[i]? with
    | some (some d) => .ok d
    | _ => .bad
  | .int n, _ => .ok (.int n)
  | .bl b, _ => .ok (.bl b)
  | .non, _ => .ok .non
  | .str x, _ => .ok (.str x)
  | .tup a, ρ => (EL a ρ).bind fun xs => mkT xs
  | .lst a, ρ => (EL a ρ).bind fun xs => mkL xs
  | .bin o a b, ρ => (E a ρ).bind fun x => (E b ρ).bind fun y => binD o x y
  | .neg a, ρ => (E a ρ).bind fun x => match x with
    | .int i => .ok (.int (-i))
    | _ => .bad
  | .cmp o a b, ρ => (E a ρ).bind fun x => (E b ρ).bind fun y => cmpD o x y
  | .leq2 a b c, ρ => (E a ρ).bind fun x => (E b ρ).bind fun y => match x, y with
    | .int i, .int j => if i ≤ j then (E c ρ).bind fun z => match z with
        | .int k => .ok (.bl (decide (j ≤ k)))
        | _ => .bad
      else .ok (.bl false)
    | _, _ => .bad
  | .and a b, ρ => (E a ρ).bind fun x => (truthD x).bind fun t => if t then E b ρ else .ok x
  | .or a b, ρ => (E a ρ).bind fun x => (truthD x).bind fun t => if t then .ok x else E b ρ
  | .not a, ρ => (E a ρ).bind fun x => (truthD x).bind fun t => .ok (.bl (!t))
  | .idx a b, ρ => (E a ρ).bind fun x => (E b ρ).bind fun y => idxD x y
  | .slc a lo hi, ρ => (E a ρ).bind fun x => (EO lo ρ).bind fun l => (EO hi ρ).bind fun h => slcD x l h
  | .rev a, ρ => (E a ρ).bind revD
  | .call f as, ρ => (EL as ρ).bind fun xs => F f xs
  | .meth f o as, ρ => (E o ρ).bind fun x => match x with
    | .slv g => (EL as ρ).bind fun xs => F f (.slv g :: xs)
    | _ => .bad
  | .bi f as, ρ => (EL as ρ).bind fun xs => biD f xs
  | .lrng a, ρ => (E a ρ).bind fun x => (rngD (.int 0) x).bind fun xs => .ok (.lst xs)
  | .sset a, ρ => (E a ρ).bind ssetD
  | .lset a, ρ => (E a ρ).bind lsetD
  | .isi a t, ρ => (E a ρ).bind fun x => isiD t x
  | .join a b, ρ => (E a ρ).bind fun x => match x with
    | .str x => (E b ρ).bind fun y => (seqOf y).bind fun ys => joinD x ys
    | _ => .bad
  | .split a b, ρ => (E a ρ).bind fun x => match x with
    | .str x => (E b ρ).bind fun y => splitD (.str x) y
    | _ => .bad
  | .indx a b, ρ => (E a ρ).bind fun x => match x with
    | .lst xs => (E b ρ).bind fun y => indexD (.lst xs) y
    | _ => .bad
  | .nin a b, ρ => (E a ρ).bind fun x => (E b ρ).bind fun y => match x, y with
    | .int i, .int n => if rngOk n && rngOk i then .ok (.bl (!decide (0 ≤ i ∧ i < n))) else .bad
    | _, _ => .bad
  | .lc own tg it ifs elt, ρ => (IT it ρ).bind fun xs =>
    (lcL (fun x => (bindE tg x (wipeE ρ own)).bind fun ρ' => (IF ifs ρ').bind fun t => if t then (E elt ρ').bind fun y => .ok (some y) else .ok none) xs).bind fun ys => .ok (.lst ys)
  | .mem0 i, ρ => match ρ[i]? with
    | some (some g) => if cod g then .ok (.memo true g) else .bad
    | _ => .bad
  | .slvr a, ρ => (E a ρ).bind fun g => if cod g then .ok (.slv g) else .bad
  | .game a, ρ => (E a ρ).bind fun x => match x with
    | .slv g => .ok g
    | _ => .bad
  | .nil, _ => .bad
  | .cons _ _, _ => .bad
  | .r1 _, _ => .bad
  | .r2 _ _, _ => .bad
  | .zp _ _, _ => .bad
  | .en _, _ => .bad
/-- an argument list -/
def EL : C → List (Option D) → Res (List D)
  | .nil, _ => .ok []
  | .cons a b, ρ => (E a ρ).bind fun x => (EL b ρ).bind fun xs => .ok (x :: xs)
  | _, _ => .bad
/-- an optional part of a slice -/
def EO : C → List (Option D) → Res (Option Int)
  | .nil, _ => .ok none
  | .cons a .nil, ρ => (E a ρ).bind fun x => optI (some x)
  | _, _ => .bad
/-- a comprehension's test, if any -/
def IF : C → List (Option D) → Res Bool
  | .nil, _ => .ok true
  | .cons a .nil, ρ => (E a ρ).bind truthD
  | _, _ => .bad
/-- what is walked -/
def IT : C → List (Option D) → Res (List D)
  | .r1 a, ρ => (E a ρ).bind fun x => rngD (.int 0) x
  | .r2 a b, ρ => (E a ρ).bind fun x => (E b ρ).bind fun y => rngD x y
  | .zp a b, ρ => (E a ρ).bind fun x => (E b ρ).bind fun y => match y with
    | .tup ys => (seqOf x).bind fun xs => .ok (List.zipWith (fun u v => .tup [u, v]) xs ys)
    | _ => .bad
  | .en a, ρ => (E a ρ).bind fun x => match x with
    | .lst xs => .ok (xs.mapIdx fun k u => .tup [.int (k : Nat), u])
    | .tup xs => .ok (xs.mapIdx fun k u => .tup [.int (k : Nat), u])
    | _ => .bad
  | .cons a .nil, ρ => (E a ρ).bind seqOf
  | _, _ => .bad
end

/-! ### statements -/
inductive Sl where
  | no | im (d : D) | ow (ds : List D)
abbrev Env := List Sl
def Sl.view : Sl → Option D
  | .no => none
  | .im d => some d
  | .ow ds => some (.lst ds)
def Sl.strict : Sl → Option D
  | .im d => some d
  | _ => none
def Sl.frz : Sl → Sl
  | .ow ds => .im (.lst ds)
  | s => s
def view (ρ : Env) : List (Option D) := ρ.map Sl.view
def strict (ρ : Env) : List (Option D) := ρ.map Sl.strict
inductive Fl where
  | nx (ρ : Env) | rt (d : D)
/-- a position as a dict's key; the game to which a dict belongs -/
def keyOfD (d : D) : Option (List Int × List Int × Int) := match d with
  | .tup [.tup ms, .tup ys, .int w] => match allInts ms, allInts ys with
    | some m, some y => if keyOk m y w then some (m, y, w) else none
    | _, _ => none
  | _ => none
def gameOf (kd : Bool) (d : D) (s : Option Sl) : Option D := match kd, d, s with
  | false, .slv g, _ => some g
  | true, .memo true g, some (.im g') => if sameD g g' then some g else none
  | _, _, _ => none
def setAll (ρ : Env) : List Nat → List D → Option Env
  | [], [] => some ρ
  | i :: is, x :: xs => setAll (ρ.set i (.im x)) is xs
  | _, _ => none
def bindS : Tg → D → Env → Res Env
  | .one i, d, ρ => .ok (ρ.set i (.im d))
  | .many is, .tup xs, ρ => ofOpt (setAll ρ is xs)
  | _, _, _ => .bad
def forL (f : D → Env → Res Fl) : List D → Env → Res Fl
  | [], ρ => .ok (.nx ρ)
  | x :: xs, ρ => (f x ρ).bind fun r => match r with
    | .nx ρ' => forL f xs ρ'
    | .rt d => .ok (.rt d)
def whileN (t : Env → Res Bool) (f : Env → Res Fl) : Nat → Env → Res Fl
  | 0, _ => .bad
  | n + 1, ρ => (t ρ).bind fun b => if b then (f ρ).bind fun r => match r with
      | .nx ρ' => whileN t f n ρ'
      | .rt d => .ok (.rt d)
    else .ok (.nx ρ)
/-- [x_j.pop(e) for tg in ..]: what is popped, and the list behind it -/
def popL (f : D → List D → Res Int) : List D → List D → Res (List D × List D)
  | [], ds => .ok ([], ds)
  | x :: xs, ds => (f x ds).calm.bind fun i => match L2.ixN ds.length i with
    | some k => match ds[k]? with
      | some y => (popL f xs (ds.eraseIdx k)).bind fun r => .ok (y :: r.1, r.2)
      | none => .bad
    | none => .bad
def exec : S → Env → Res Fl
  | .skip, ρ => .ok (.nx ρ)
  | .seq a b, ρ => (exec a ρ).bind fun r => match r with
    | .nx ρ' => exec b ρ'
    | .rt d => .ok (.rt d)
  | .asg i e, ρ => (E F e (strict ρ)).bind fun d => .ok (.nx (ρ.set i (.im d)))
  | .asgF i e, ρ => (E F e (strict ρ)).bind fun d => match d with
    | .lst ds => .ok (.nx (ρ.set i (.ow ds)))
    | _ => .bad
  | .frz i, ρ => match ρ[i]? with
    | some s => .ok (.nx (ρ.set i s.frz))
    | none => .bad
  | .unp is e, ρ => (E F e (strict ρ)).bind fun d => (bindS (.many is) d ρ).bind fun ρ' => .ok (.nx ρ')
  | .par i j a b, ρ => (E F a (strict ρ)).bind fun x => (E F b (strict ρ)).bind fun y => .ok (.nx ((ρ.set i (.im x)).set j (.im y)))
  | .app i e, ρ => match ρ[i]? with
    | some (.ow ds) => (E F e (strict ρ)).bind fun d => if ds.length < lim then .ok (.nx (ρ.set i (.ow (ds ++ [d])))) else .bad
    | _ => .bad
  | .ext i e, ρ => match ρ[i]? with
    | some (.ow ds) => (E F e (strict ρ)).bind fun d => match d with
      | .lst xs => if ds.length + xs.length ≤ lim then .ok (.nx (ρ.set i (.ow (ds ++ xs)))) else .bad
      | _ => .bad
    | _ => .bad
  | .pops tp i j own tg it e, ρ => (IT F it (strict ρ)).bind fun xs => match ρ[j]? with
    | some (.ow ds) => if ds.length ≤ lim then (popL (fun x ds => (bindE tg x (wipeE (view (ρ.set j (.ow ds))) own)).bind fun ρ' => (E F e ρ').bind fun d => match d with
        | .int i => .ok i
        | _ => .bad) xs ds).bind fun r => .ok (.nx ((ρ.set j (.ow r.2)).set i (.im (if tp then .tup r.1 else .lst r.1))))
      else .bad
    | _ => .bad
  | .ret e, ρ => (E F e (view ρ)).bind fun d => .ok (.rt d)
  | .ife t a b, ρ => (E F t (view ρ)).bind fun d => (truthD d).bind fun c => if c then exec a ρ else exec b ρ
  | .for_ tg it b, ρ => (IT F it (strict ρ)).bind fun xs => forL (fun x ρ => (bindS tg x ρ).bind fun ρ' => exec b ρ') xs ρ
  | .whl n t b, ρ => whileN (fun ρ => (E F t (view ρ)).bind truthD) (fun ρ => exec b ρ) n ρ
  | .rai n, _ => .exc n
  | .memo kd key j fi body, ρ => (E F key (view ρ)).bind fun kv => (E F (.var j) (view ρ)).bind fun dv => match keyOfD kv, gameOf kd dv ρ[0]? with
    | some q, some g => (exec body ρ).bind fun r => match r with
      | .nx ρ' => match E F key (view ρ'), E F (.var j) (view ρ'), ρ'[fi]? with
        | .ok kv', .ok dv', some (.im (.int w)) => match keyOfD kv', gameOf kd dv' ρ'[0]? with
          | some q', some g' => if q = q' ∧ sameD g g' = true then .ok (.rt (.int w)) else .bad
          | _, _ => .bad
        | _, _, _ => .bad
      | .rt _ => .bad
    | _, _ => .bad
end

/-! ### a program -/
structure Def where
  np : Nat
  N : List String
  body : S
def start (n : Nat) (ds : List D) : Env := ds.map .im ++ List.replicate (n - ds.length) .no
def body (d : Def) (F : Fn → List D → Res D) (ds : List D) : Res D :=
  if ds.length = d.np then (exec F d.body (start d.N.length ds)).bind fun r => match r with
    | .rt x => .ok x
    | .nx _ => .ok .non
  else .bad
/-- by hand: what a def gives whose body is no code of ours, from what the others give -/
inductive Entry where
  | code (d : Def)
  | hand (f : (Fn → List D → Res D) → List D → Res D)
def run (tab : Fn → Option Entry) : Nat → Fn → List D → Res D
  | 0, _, _ => .bad
  | k + 1, f, ds => match tab f with
    | some (.code d) => body d (run tab k) ds
    | some (.hand g) => g (run tab k) ds
    | none => .bad
end FC

/-! The defs of the program and of the laws as code, printed by gen.py. -/
set_option autoImplicit false
namespace FC
open PySem
def d_is_number : Def := ⟨3, ["thing", "least", "most"],
 (.seq (.ret (.and (.isi (.var 0) .int) (.and (.not (.isi (.var 0) .bool)) (.leq2 (.var 1) (.var 0) (.var 2)))))
 .skip)⟩
def c_is_rising_1 : C := (.cmp .lt (.idx (.var 0) (.bin .sub (.var 1) (.int 1))) (.idx (.var 0) (.var 1)))
def d_is_rising : Def := ⟨1, ["row", "k"],
 (.seq (.ret (.bi .all (.cons (.lc [1] (.one 1) (.r2 (.int 1) (.bi .len (.cons (.var 0) .nil))) .nil c_is_rising_1) .nil)))
 .skip)⟩
def c_is_line_1 : C := (.call .is_number (.cons (.var 2) (.cons (.int 0) (.cons (.bin .sub (.var 1) (.int 1)) .nil))))
def d_is_line : Def := ⟨2, ["thing", "many", "point"],
 (.seq (.ife (.or (.not (.isi (.var 0) .tuple)) (.cmp .eq (.bi .len (.cons (.var 0) .nil)) (.int 0))) (.seq (.ret (.bl false))
 .skip) .skip)
 (.seq (.ret (.and (.bi .all (.cons (.lc [2] (.one 2) (.cons (.var 0) .nil) .nil c_is_line_1) .nil)) (.call .is_rising (.cons (.var 0) .nil))))
 .skip))⟩
def c_is_field_1 : C := (.call .is_line (.cons (.var 3) (.cons (.var 1) .nil)))
def d_is_field : Def := ⟨1, ["thing", "many", "lines", "line"],
 (.seq (.ife (.or (.not (.isi (.var 0) .tuple)) (.or (.cmp .ne (.bi .len (.cons (.var 0) .nil)) (.int 2)) (.not (.call .is_number (.cons (.idx (.var 0) (.int 0)) (.cons (.int 1) (.cons (.int 9) .nil))))))) (.seq (.ret (.bl false))
 .skip) .skip)
 (.seq (.unp [1, 2] (.var 0))
 (.seq (.ife (.or (.not (.isi (.var 2) .tuple)) (.cmp .gt (.bi .len (.cons (.var 2) .nil)) (.int 10))) (.seq (.ret (.bl false))
 .skip) .skip)
 (.seq (.ret (.and (.bi .all (.cons (.lc [3] (.one 3) (.cons (.var 2) .nil) .nil c_is_field_1) .nil)) (.call .is_rising (.cons (.var 2) .nil))))
 .skip))))⟩
def d_is_game : Def := ⟨1, ["thing"],
 (.seq (.ife (.or (.not (.isi (.var 0) .tuple)) (.or (.cmp .ne (.bi .len (.cons (.var 0) .nil)) (.int 4)) (.or (.not (.call .is_field (.cons (.idx (.var 0) (.int 0)) .nil))) (.not (.call .is_number (.cons (.idx (.var 0) (.int 1)) (.cons (.int 0) (.cons (.int 1) .nil)))))))) (.seq (.ret (.bl false))
 .skip) .skip)
 (.seq (.ret (.and (.call .is_number (.cons (.idx (.var 0) (.int 2)) (.cons (.int 1) (.cons (.int 3) .nil)))) (.call .is_number (.cons (.idx (.var 0) (.int 3)) (.cons (.int 1) (.cons (.int 3) .nil))))))
 .skip))⟩
def d_l_cell : Def := ⟨2, ["_law_script", "_law_k"],
 (.seq (.ife (.cmp .lt (.var 1) (.bi .len (.cons (.var 0) .nil))) (.seq (.ret (.idx (.var 0) (.var 1)))
 .skip) .skip)
 (.seq (.ret (.int 0))
 .skip))⟩
def d_l_mix : Def := ⟨3, ["_law_cell_here", "_law_prime", "_law_many"],
 (.seq (.ret (.bin .mod (.bin .mod (.bin .mul (.var 0) (.int 48271)) (.var 1)) (.var 2)))
 .skip)⟩
def c_l_field_1 : C := (.call .l_mix (.cons (.bin .add (.bin .add (.var 0) (.bin .mul (.int 11) (.var 6))) (.bin .mul (.int 3) (.var 10))) (.cons (.int 9941) (.cons (.bin .sub (.var 4) (.var 10)) .nil))))
def b_l_field_1 : S := (.seq (.asg 7 (.bin .add (.int 1) (.call .l_mix (.cons (.bin .add (.var 0) (.bin .mul (.int 7) (.var 6))) (.cons (.int 9949) (.cons (.bi .min2 (.cons (.int 4) (.cons (.var 4) .nil))) .nil))))))
 (.seq (.ife (.and (.cmp .gt (.bin .mod (.var 0) (.int 3)) (.int 0)) (.and (.cmp .eq (.var 7) (.int 1)) (.cmp .gt (.var 4) (.int 1)))) (.seq (.asg 7 (.int 2))
 .skip) .skip)
 (.seq (.asgF 8 (.lrng (.var 4)))
 (.seq (.pops false 9 8 [10] (.one 10) (.r1 (.var 7)) c_l_field_1)
 (.seq (.ife (.cmp .notin (.bi .tuple (.cons (.bi .sorted (.cons (.var 9) .nil)) .nil)) (.var 5)) (.seq (.app 5 (.bi .tuple (.cons (.bi .sorted (.cons (.var 9) .nil)) .nil)))
 .skip) .skip)
 .skip)))))
def d_l_field : Def := ⟨4, ["_law_cell_here", "_law_least", "_law_most", "_law_lines", "_law_many", "_law_found", "_law_k", "_law_size", "_law_left", "_law_line", "_law_n"],
 (.seq (.asg 4 (.bin .add (.var 1) (.call .l_mix (.cons (.var 0) (.cons (.int 9973) (.cons (.bin .add (.bin .sub (.var 2) (.var 1)) (.int 1)) .nil))))))
 (.seq (.asgF 5 (.lst .nil))
 (.seq (.for_ (.one 6) (.r1 (.call .l_mix (.cons (.var 0) (.cons (.int 9967) (.cons (.bin .add (.var 3) (.int 1)) .nil))))) b_l_field_1)
 (.seq (.ret (.tup (.cons (.var 4) (.cons (.bi .tuple (.cons (.bi .sorted (.cons (.var 5) .nil)) .nil)) .nil))))
 .skip))))⟩
def d_l_game : Def := ⟨4, ["_law_cell_here", "_law_least", "_law_most", "_law_lines", "_law_field_here"],
 (.seq (.asg 4 (.call .l_field (.cons (.var 0) (.cons (.var 1) (.cons (.var 2) (.cons (.var 3) .nil))))))
 (.seq (.ret (.tup (.cons (.var 4) (.cons (.call .l_mix (.cons (.var 0) (.cons (.int 9931) (.cons (.int 2) .nil)))) (.cons (.bin .add (.int 1) (.bin .fdiv (.call .l_mix (.cons (.var 0) (.cons (.int 9929) (.cons (.int 5) .nil)))) (.int 3))) (.cons (.bin .add (.int 1) (.bin .fdiv (.call .l_mix (.cons (.var 0) (.cons (.int 9923) (.cons (.int 5) .nil)))) (.int 3))) .nil))))))
 .skip))⟩
def b_l_position_1 : S := (.seq (.asg 5 (.call .l_mix (.cons (.bin .add (.var 1) (.bin .mul (.int 5) (.var 4))) (.cons (.int 9907) (.cons (.int 5) .nil)))))
 (.seq (.ife (.cmp .eq (.var 5) (.int 0)) (.seq (.app 2 (.var 4))
 .skip) .skip)
 (.seq (.ife (.cmp .eq (.var 5) (.int 1)) (.seq (.app 3 (.var 4))
 .skip) .skip)
 .skip)))
def d_l_position : Def := ⟨2, ["_law_game_here", "_law_cell_here", "_law_mine", "_law_yours", "_law_point", "_law_turn"],
 (.seq (.asgF 2 (.lst .nil))
 (.seq (.asgF 3 (.lst .nil))
 (.seq (.for_ (.one 4) (.r1 (.idx (.idx (.var 0) (.int 0)) (.int 0))) b_l_position_1)
 (.seq (.ret (.tup (.cons (.bi .tuple (.cons (.var 2) .nil)) (.cons (.bi .tuple (.cons (.var 3) .nil)) .nil))))
 .skip))))⟩
def b_l_bad_field_1 : S := (.seq (.app 4 (.tup (.cons (.var 2) (.cons (.tup (.cons (.var 5) .nil)) .nil))))
 .skip)
def c_l_bad_field_1 : C := (.tup (.cons (.int 0) (.cons (.var 6) .nil)))
def c_l_bad_field_2 : C := (.tup (.cons (.int 1) (.cons (.var 6) .nil)))
def d_l_bad_field : Def := ⟨2, ["_law_field_here", "_law_cell_here", "_law_many", "_law_lines", "_law_some", "_law_line", "_law_k"],
 (.seq (.unp [2, 3] (.var 0))
 (.seq (.asgF 4 (.lst (.cons (.tup (.cons (.int 0) (.cons (.tup .nil) .nil))) (.cons (.tup (.cons (.int 10) (.cons (.tup .nil) .nil))) (.cons (.tup (.cons (.bl true) (.cons (.tup .nil) .nil))) (.cons (.tup (.cons (.str "3") (.cons (.tup .nil) .nil))) (.cons (.tup (.cons (.var 2) .nil)) (.cons (.tup (.cons (.var 2) (.cons (.var 3) (.cons (.int 0) .nil)))) (.cons (.lst (.cons (.var 2) (.cons (.var 3) .nil))) (.cons .non (.cons (.int 7) .nil)))))))))))
 (.seq (.app 4 (.tup (.cons (.var 2) (.cons (.bi .list (.cons (.var 3) .nil)) .nil))))
 (.seq (.for_ (.one 5) (.cons (.lst (.cons (.tup .nil) (.cons (.tup (.cons (.var 2) .nil)) (.cons (.tup (.cons (.neg (.int 1)) .nil)) (.cons (.tup (.cons (.int 0) (.cons (.int 0) .nil))) (.cons (.tup (.cons (.bl true) .nil)) (.cons (.tup (.cons .non .nil)) (.cons (.tup (.cons (.str "0") .nil)) (.cons (.tup (.cons (.tup (.cons (.int 0) .nil)) .nil)) (.cons (.int 0) (.cons (.lst (.cons (.int 0) .nil)) (.cons (.str "0") (.cons .non .nil))))))))))))) .nil) b_l_bad_field_1)
 (.seq (.frz 4)
 (.seq (.asgF 4 (.bin .add (.var 4) (.lst (.cons (.tup (.cons (.int 3) (.cons (.tup (.cons (.tup (.cons (.int 1) (.cons (.int 0) .nil))) .nil)) .nil))) (.cons (.tup (.cons (.int 3) (.cons (.tup (.cons (.tup (.cons (.int 1) .nil)) (.cons (.tup (.cons (.int 0) .nil)) .nil))) .nil))) (.cons (.tup (.cons (.int 3) (.cons (.tup (.cons (.tup (.cons (.int 0) .nil)) (.cons (.tup (.cons (.int 0) .nil)) .nil))) .nil))) (.cons (.tup (.cons (.int 4) (.cons (.tup (.cons (.tup (.cons (.int 0) (.cons (.int 1) .nil))) (.cons (.tup (.cons (.int 0) .nil)) .nil))) .nil))) (.cons (.str "field") .nil))))))))
 (.seq (.app 4 (.tup (.cons (.int 9) (.cons (.bi .tuple (.cons (.bin .add (.lc [6] (.one 6) (.r2 (.int 1) (.int 9)) .nil c_l_bad_field_1) (.lc [6] (.one 6) (.r2 (.int 2) (.int 5)) .nil c_l_bad_field_2)) .nil)) .nil))))
 (.seq (.ret (.idx (.var 4) (.bin .mod (.var 1) (.bi .len (.cons (.var 4) .nil)))))
 .skip))))))))⟩
def b_l_bad_game_1 : S := (.seq (.app 6 (.tup (.cons (.var 2) (.cons (.var 7) (.cons (.var 4) (.cons (.var 5) .nil))))))
 .skip)
def b_l_bad_game_2 : S := (.seq (.frz 6)
 (.seq (.asgF 6 (.bin .add (.var 6) (.lst (.cons (.tup (.cons (.var 2) (.cons (.var 3) (.cons (.var 7) (.cons (.var 5) .nil))))) (.cons (.tup (.cons (.var 2) (.cons (.var 3) (.cons (.var 4) (.cons (.var 7) .nil))))) .nil)))))
 .skip))
def d_l_bad_game : Def := ⟨2, ["_law_game_here", "_law_cell_here", "_law_field_here", "_law_first", "_law_builds", "_law_guards", "_law_some", "_law_bad"],
 (.seq (.unp [2, 3, 4, 5] (.var 0))
 (.seq (.asgF 6 (.lst (.cons (.tup (.cons (.var 2) (.cons (.var 3) (.cons (.var 4) .nil)))) (.cons (.bi .list (.cons (.var 0) .nil)) (.cons (.tup (.cons (.var 2) (.cons (.var 3) (.cons (.var 4) (.cons (.var 5) (.cons (.int 0) .nil)))))) .nil)))))
 (.seq (.for_ (.one 7) (.cons (.lst (.cons (.int 2) (.cons (.neg (.int 1)) (.cons (.bl true) (.cons .non .nil))))) .nil) b_l_bad_game_1)
 (.seq (.for_ (.one 7) (.cons (.lst (.cons (.int 0) (.cons (.int 4) (.cons (.bl true) (.cons .non .nil))))) .nil) b_l_bad_game_2)
 (.seq (.app 6 (.tup (.cons (.call .l_bad_field (.cons (.var 2) (.cons (.bin .fdiv (.var 1) (.int 14)) .nil))) (.cons (.var 3) (.cons (.var 4) (.cons (.var 5) .nil))))))
 (.seq (.ret (.idx (.var 6) (.bin .mod (.var 1) (.bi .len (.cons (.var 6) .nil)))))
 .skip))))))⟩
def b_law1_1 : S := (.seq (.asg 2 (.call .l_game (.cons (.var 1) (.cons (.int 1) (.cons (.int 9) (.cons (.int 10) .nil))))))
 (.seq (.ife (.or (.cmp .isnot (.call .is_field (.cons (.idx (.var 2) (.int 0)) .nil)) (.bl true)) (.cmp .isnot (.call .is_game (.cons (.var 2) .nil)) (.bl true))) (.seq (.ret (.bl false))
 .skip) .skip)
 (.seq (.ife (.cmp .isnot (.call .is_field (.cons (.call .l_bad_field (.cons (.idx (.var 2) (.int 0)) (.cons (.bin .fdiv (.var 1) (.int 3)) .nil))) .nil)) (.bl false)) (.seq (.ret (.bl false))
 .skip) .skip)
 (.seq (.ife (.cmp .isnot (.call .is_game (.cons (.call .l_bad_game (.cons (.var 2) (.cons (.bin .fdiv (.var 1) (.int 5)) .nil))) .nil)) (.bl false)) (.seq (.ret (.bl false))
 .skip) .skip)
 .skip))))
def c_law1_1 : C := (.tup (.cons (.int 0) (.cons (.var 4) .nil)))
def c_law1_2 : C := (.tup (.cons (.int 1) (.cons (.var 4) .nil)))
def b_law1_2 : S := (.seq (.ife (.or (.cmp .isnot (.call .is_field (.cons (.var 5) .nil)) (.bl false)) (.cmp .isnot (.call .is_game (.cons (.var 5) .nil)) (.bl false))) (.seq (.ret (.bl false))
 .skip) .skip)
 .skip)
def d_law1 : Def := ⟨1, ["_law_script", "_law_cell_here", "_law_game_here", "_law_ten", "_law_k", "_law_bad"],
 (.seq (.for_ (.one 1) (.cons (.slc (.var 0) .nil (.cons (.int 8) .nil)) .nil) b_law1_1)
 (.seq (.asg 3 (.bi .tuple (.cons (.bin .add (.lc [4] (.one 4) (.r2 (.int 1) (.int 9)) .nil c_law1_1) (.lc [4] (.one 4) (.r2 (.int 2) (.int 4)) .nil c_law1_2)) .nil)))
 (.seq (.for_ (.one 5) (.cons (.lst (.cons .non (.cons (.int 7) (.cons (.str "field") (.cons (.tup .nil) (.cons (.tup (.cons (.tup .nil) .nil)) (.cons (.tup (.cons (.bl true) (.cons (.tup .nil) .nil))) (.cons (.tup (.cons (.int 1) (.cons .non .nil))) .nil)))))))) .nil) b_law1_2)
 (.seq (.ret (.and (.cmp .is (.call .is_field (.cons (.tup (.cons (.int 9) (.cons (.var 3) .nil))) .nil)) (.bl true)) (.cmp .is (.call .is_field (.cons (.tup (.cons (.int 1) (.cons (.tup (.cons (.tup (.cons (.int 0) .nil)) .nil)) .nil))) .nil)) (.bl true))))
 .skip))))⟩
def c_written_1 : C := (.bi .str (.cons (.var 4) .nil))
def b_written_1 : S := (.seq (.ife (.cmp .gt (.var 2) (.int 0)) (.seq (.app 1 (.str ","))
 .skip) .skip)
 (.seq (.ext 1 (.lc [4] (.one 4) (.cons (.var 3) .nil) .nil c_written_1))
 .skip))
def d_written : Def := ⟨1, ["field", "words", "k", "line", "point"],
 (.seq (.asgF 1 (.lst (.cons (.bi .str (.cons (.idx (.var 0) (.int 0)) .nil)) (.cons (.str ":") .nil))))
 (.seq (.for_ (.many [2, 3]) (.en (.idx (.var 0) (.int 1))) b_written_1)
 (.seq (.ret (.join (.str " ") (.var 1)))
 .skip)))⟩
def b_figure_1 : S := (.seq (.ife (.cmp .eq (.var 0) (.bi .str (.cons (.var 1) .nil))) (.seq (.ret (.var 1))
 .skip) .skip)
 .skip)
def d_figure : Def := ⟨1, ["word", "number"],
 (.seq (.for_ (.one 1) (.r1 (.int 10)) b_figure_1)
 (.seq (.rai 0)
 .skip))⟩
def b_read_1 : S := (.seq (.ife (.cmp .eq (.var 4) (.str ",")) (.seq (.app 2 (.var 3))
 (.seq (.asg 3 (.tup .nil))
 .skip)) (.seq (.asg 3 (.bin .add (.var 3) (.tup (.cons (.call .figure (.cons (.var 4) .nil)) .nil))))
 .skip))
 .skip)
def d_read : Def := ⟨1, ["text", "words", "lines", "line", "word", "found"],
 (.seq (.asg 1 (.split (.var 0) (.str " ")))
 (.seq (.ife (.cmp .ne (.slc (.var 1) (.cons (.int 1) .nil) (.cons (.int 2) .nil)) (.lst (.cons (.str ":") .nil))) (.seq (.rai 0)
 .skip) .skip)
 (.seq (.asgF 2 (.lst .nil))
 (.seq (.asg 3 (.tup .nil))
 (.seq (.for_ (.one 4) (.cons (.bin .add (.slc (.var 1) (.cons (.int 2) .nil) .nil) (.lst (.cons (.str ",") .nil))) .nil) b_read_1)
 (.seq (.ife (.cmp .eq (.bi .len (.cons (.var 1) .nil)) (.int 2)) (.seq (.asgF 2 (.lst .nil))
 .skip) .skip)
 (.seq (.frz 2)
 (.seq (.asg 5 (.tup (.cons (.call .figure (.cons (.idx (.var 1) (.int 0)) .nil)) (.cons (.bi .tuple (.cons (.var 2) .nil)) .nil))))
 (.seq (.ife (.or (.not (.call .is_field (.cons (.var 5) .nil))) (.cmp .ne (.call .written (.cons (.var 5) .nil)) (.var 0))) (.seq (.rai 0)
 .skip) .skip)
 (.seq (.ret (.var 5))
 .skip))))))))))⟩
def b_l_text_1 : S := (.seq (.asg 1 (.bin .add (.bin .add (.var 1) (.str " ")) (.bi .str (.cons (.var 4) .nil))))
 .skip)
def b_l_text_2 : S := (.seq (.ife (.cmp .gt (.var 2) (.int 0)) (.seq (.asg 1 (.bin .add (.var 1) (.str " ,")))
 .skip) .skip)
 (.seq (.for_ (.one 4) (.cons (.var 3) .nil) b_l_text_1)
 .skip))
def d_l_text : Def := ⟨1, ["_law_field_here", "_law_text_here", "_law_k", "_law_line", "_law_point"],
 (.seq (.asg 1 (.bin .add (.bi .str (.cons (.idx (.var 0) (.int 0)) .nil)) (.str " :")))
 (.seq (.for_ (.many [2, 3]) (.en (.idx (.var 0) (.int 1))) b_l_text_2)
 (.seq (.ret (.var 1))
 .skip)))⟩
def d_l_spoilt2 : Def := ⟨2, ["_law_text_here", "_law_cell_here", "_law_at", "_law_sign"],
 (.seq (.asg 2 (.bin .mod (.bin .fdiv (.var 1) (.int 4)) (.bin .add (.bi .len (.cons (.var 0) .nil)) (.int 1))))
 (.seq (.asg 3 (.idx (.str "0189:,- ax") (.bin .mod (.bin .fdiv (.var 1) (.int 512)) (.int 10))))
 (.seq (.ife (.cmp .eq (.bin .mod (.var 1) (.int 4)) (.int 0)) (.seq (.ret (.bin .add (.slc (.var 0) .nil (.cons (.var 2) .nil)) (.slc (.var 0) (.cons (.bin .add (.var 2) (.int 1)) .nil) .nil)))
 .skip) .skip)
 (.seq (.ife (.cmp .eq (.bin .mod (.var 1) (.int 4)) (.int 1)) (.seq (.ret (.bin .add (.bin .add (.slc (.var 0) .nil (.cons (.var 2) .nil)) (.slc (.var 0) (.cons (.var 2) .nil) (.cons (.bin .add (.var 2) (.int 1)) .nil))) (.slc (.var 0) (.cons (.var 2) .nil) .nil)))
 .skip) .skip)
 (.seq (.ret (.bin .add (.bin .add (.slc (.var 0) .nil (.cons (.var 2) .nil)) (.var 3)) (.slc (.var 0) (.cons (.bin .sub (.bin .add (.var 2) (.bin .mod (.var 1) (.int 4))) (.int 2)) .nil) .nil)))
 .skip)))))⟩
def b_law2_1 : S := (.seq (.asg 2 (.call .l_field (.cons (.var 1) (.cons (.int 1) (.cons (.int 9) (.cons (.int 10) .nil))))))
 (.seq (.asg 3 (.call .l_text (.cons (.var 2) .nil)))
 (.seq (.ife (.or (.cmp .ne (.call .written (.cons (.var 2) .nil)) (.var 3)) (.cmp .ne (.call .read (.cons (.var 3) .nil)) (.var 2))) (.seq (.ret (.bl false))
 .skip) .skip)
 (.seq (.asg 4 (.call .l_spoilt2 (.cons (.var 3) (.cons (.bin .fdiv (.var 1) (.int 3)) .nil))))
 (.seq (.asg 5 (.call .l_read (.cons (.var 4) .nil)))
 (.seq (.ife (.and (.cmp .isnot (.var 5) .non) (.or (.not (.call .is_field (.cons (.var 5) .nil))) (.cmp .ne (.call .l_text (.cons (.var 5) .nil)) (.var 4)))) (.seq (.ret (.bl false))
 .skip) .skip)
 .skip))))))
def b_law2_2 : S := (.seq (.ife (.cmp .isnot (.call .l_read (.cons (.var 4) .nil)) .non) (.seq (.ret (.bl false))
 .skip) .skip)
 .skip)
def d_law2 : Def := ⟨1, ["_law_script", "_law_cell_here", "_law_field_here", "_law_text_here", "_law_bad", "_law_found", "_law_some"],
 (.seq (.for_ (.one 1) (.cons (.slc (.var 0) .nil (.cons (.int 8) .nil)) .nil) b_law2_1)
 (.seq (.asg 6 (.lst (.cons (.str "") (.cons (.str ":") (.cons (.str "3") (.cons (.str "3:") (.cons (.str "3 : ") (.cons (.str "3 : ,") (.cons (.str "3 : 0 ,") (.cons (.str "3 : , 0") (.cons (.str "0 :") (.cons (.str "3 : 3") (.cons (.str "3 : 1 0") .nil)))))))))))))
 (.seq (.for_ (.one 4) (.cons (.bin .add (.var 6) (.lst (.cons (.str "3 : 1 , 0") (.cons (.str "10 :") .nil)))) .nil) b_law2_2)
 (.seq (.ret (.and (.cmp .eq (.call .read (.cons (.str "2 :") .nil)) (.tup (.cons (.int 2) (.cons (.tup .nil) .nil)))) (.cmp .eq (.call .written (.cons (.tup (.cons (.int 2) (.cons (.tup .nil) .nil))) .nil)) (.str "2 :"))))
 .skip))))⟩
def c_choose_1 : C := (.bin .add (.tup (.cons (.var 4) .nil)) (.var 5))
def b_choose_1 : S := (.seq (.ext 2 (.lc [5] (.one 5) (.cons (.call .choose (.cons (.slc (.var 0) (.cons (.bin .add (.var 3) (.int 1)) .nil) .nil) (.cons (.bin .sub (.var 1) (.int 1)) .nil))) .nil) .nil c_choose_1))
 .skip)
def d_choose : Def := ⟨2, ["points", "many", "found", "k", "point", "rest"],
 (.seq (.ife (.cmp .eq (.var 1) (.int 0)) (.seq (.ret (.lst (.cons (.tup .nil) .nil)))
 .skip) .skip)
 (.seq (.asgF 2 (.lst .nil))
 (.seq (.for_ (.many [3, 4]) (.en (.var 0)) b_choose_1)
 (.seq (.ret (.var 2))
 .skip))))⟩
def c_free_points_1 : C := (.cons (.and (.cmp .notin (.var 3) (.var 1)) (.cmp .notin (.var 3) (.var 2))) .nil)
def c_free_points_2 : C := (.var 3)
def d_free_points : Def := ⟨3, ["field", "mine", "yours", "point"],
 (.seq (.ret (.lc [3] (.one 3) (.r1 (.idx (.var 0) (.int 0))) c_free_points_1 c_free_points_2))
 .skip)⟩
def d_claims : Def := ⟨4, ["game", "mine", "yours", "whose", "some"],
 (.seq (.asg 4 (.call .free_points (.cons (.idx (.var 0) (.int 0)) (.cons (.var 1) (.cons (.var 2) .nil)))))
 (.seq (.ret (.bi .tuple (.cons (.call .choose (.cons (.var 4) (.cons (.bi .min2 (.cons (.idx (.var 0) (.bin .add (.int 2) (.var 3))) (.cons (.bi .len (.cons (.var 4) .nil)) .nil))) .nil))) .nil)))
 .skip))⟩
def d_added : Def := ⟨2, ["points", "more"],
 (.seq (.ret (.bi .tuple (.cons (.bi .sorted (.cons (.bin .add (.var 0) (.var 1)) .nil)) .nil)))
 .skip)⟩
def d_claimed : Def := ⟨5, ["game", "mine", "yours", "whose", "claim"],
 (.seq (.ife (.cmp .notin (.var 4) (.call .claims (.cons (.var 0) (.cons (.var 1) (.cons (.var 2) (.cons (.var 3) .nil)))))) (.seq (.rai 1)
 .skip) .skip)
 (.seq (.ife (.cmp .eq (.var 3) (.int 0)) (.seq (.ret (.tup (.cons (.call .added (.cons (.var 1) (.cons (.var 4) .nil))) (.cons (.var 2) .nil))))
 .skip) .skip)
 (.seq (.ret (.tup (.cons (.var 1) (.cons (.call .added (.cons (.var 2) (.cons (.var 4) .nil))) .nil))))
 .skip)))⟩
def c_decided_1 : C := (.cmp .isin (.var 4) (.var 1))
def c_decided_2 : C := (.bi .all (.cons (.lc [4] (.one 4) (.cons (.var 5) .nil) .nil c_decided_1) .nil))
def c_decided_3 : C := (.cmp .isin (.var 4) (.var 2))
def c_decided_4 : C := (.bi .any (.cons (.lc [4] (.one 4) (.cons (.var 5) .nil) .nil c_decided_3) .nil))
def d_decided : Def := ⟨3, ["game", "mine", "yours", "lines", "point", "line"],
 (.seq (.asg 3 (.idx (.idx (.var 0) (.int 0)) (.int 1)))
 (.seq (.ife (.bi .any (.cons (.lc [5] (.one 5) (.cons (.var 3) .nil) .nil c_decided_2) .nil)) (.seq (.ret (.int 0))
 .skip) .skip)
 (.seq (.ife (.bi .all (.cons (.lc [5] (.one 5) (.cons (.var 3) .nil) .nil c_decided_4) .nil)) (.seq (.ret (.int 1))
 .skip) .skip)
 (.seq (.ret .non)
 .skip))))⟩
def c_l_over_1 : C := (.cons (.cmp .notin (.var 4) (.var 1)) .nil)
def c_l_over_2 : C := (.var 4)
def b_l_over_1 : S := (.seq (.ife (.not (.lc [4] (.one 4) (.cons (.var 3) .nil) c_l_over_1 c_l_over_2)) (.seq (.ret (.int 0))
 .skip) .skip)
 .skip)
def c_l_over_3 : C := (.cons (.cmp .isin (.var 4) (.var 2)) .nil)
def b_l_over_2 : S := (.seq (.ife (.not (.lc [4] (.one 4) (.cons (.var 3) .nil) c_l_over_3 c_l_over_2)) (.seq (.ret .non)
 .skip) .skip)
 .skip)
def d_l_over : Def := ⟨3, ["_law_game_here", "_law_mine", "_law_yours", "_law_line", "_law_point"],
 (.seq (.for_ (.one 3) (.cons (.idx (.idx (.var 0) (.int 0)) (.int 1)) .nil) b_l_over_1)
 (.seq (.for_ (.one 3) (.cons (.idx (.idx (.var 0) (.int 0)) (.int 1)) .nil) b_l_over_2)
 (.seq (.ret (.int 1))
 .skip)))⟩
def c_l_claims_1 : C := (.cons (.cmp .notin (.var 5) (.bin .add (.var 1) (.var 2))) .nil)
def c_l_claims_2 : C := (.var 5)
def c_l_claims_3 : C := (.cons (.or (.cmp .eq (.var 9) (.tup .nil)) (.cmp .gt (.var 5) (.idx (.var 9) (.neg (.int 1))))) .nil)
def c_l_claims_4 : C := (.bin .add (.var 9) (.tup (.cons (.var 5) .nil)))
def b_l_claims_1 : S := (.seq (.ext 8 (.lc [5] (.one 5) (.cons (.var 4) .nil) c_l_claims_3 c_l_claims_4))
 .skip)
def b_l_claims_2 : S := (.seq (.asgF 8 (.lst .nil))
 (.seq (.for_ (.one 9) (.cons (.var 6) .nil) b_l_claims_1)
 (.seq (.frz 8)
 (.seq (.asg 6 (.var 8))
 .skip))))
def d_l_claims : Def := ⟨4, ["_law_game_here", "_law_mine", "_law_yours", "_law_whose", "_law_some", "_law_point", "_law_found", "_law_turn", "_law_more", "_law_claim"],
 (.seq (.asg 4 (.lc [5] (.one 5) (.r1 (.idx (.idx (.var 0) (.int 0)) (.int 0))) c_l_claims_1 c_l_claims_2))
 (.seq (.asg 6 (.lst (.cons (.tup .nil) .nil)))
 (.seq (.for_ (.one 7) (.r1 (.bi .min2 (.cons (.idx (.var 0) (.bin .add (.int 2) (.var 3))) (.cons (.bi .len (.cons (.var 4) .nil)) .nil)))) b_l_claims_2)
 (.seq (.ret (.var 6))
 .skip))))⟩
def d_l_put : Def := ⟨4, ["_law_mine", "_law_yours", "_law_whose", "_law_claim"],
 (.seq (.ife (.cmp .eq (.var 2) (.int 0)) (.seq (.ret (.tup (.cons (.bi .tuple (.cons (.bi .sorted (.cons (.bin .add (.var 0) (.var 3)) .nil)) .nil)) (.cons (.var 1) .nil))))
 .skip) .skip)
 (.seq (.ret (.tup (.cons (.var 0) (.cons (.bi .tuple (.cons (.bi .sorted (.cons (.bin .add (.var 1) (.var 3)) .nil)) .nil)) .nil))))
 .skip))⟩
def b_law3_1 : S := (.seq (.ife (.cmp .ne (.call .claimed (.cons (.var 2) (.cons (.var 3) (.cons (.var 4) (.cons (.var 5) (.cons (.var 7) .nil)))))) (.call .l_put (.cons (.var 3) (.cons (.var 4) (.cons (.var 5) (.cons (.var 7) .nil)))))) (.seq (.ret (.bl false))
 .skip) .skip)
 .skip)
def b_law3_2 : S := (.seq (.ife (.and (.cmp .notin (.var 7) (.var 6)) (.cmp .isnot (.call .l_refused (.cons (.var 2) (.cons (.var 3) (.cons (.var 4) (.cons (.var 5) (.cons (.var 7) .nil)))))) (.bl true))) (.seq (.ret (.bl false))
 .skip) .skip)
 .skip)
def b_law3_3 : S := (.seq (.asg 6 (.call .l_claims (.cons (.var 2) (.cons (.var 3) (.cons (.var 4) (.cons (.var 5) .nil))))))
 (.seq (.ife (.cmp .ne (.call .claims (.cons (.var 2) (.cons (.var 3) (.cons (.var 4) (.cons (.var 5) .nil))))) (.bi .tuple (.cons (.var 6) .nil))) (.seq (.ret (.bl false))
 .skip) .skip)
 (.seq (.for_ (.one 7) (.cons (.slc (.var 6) .nil (.cons (.int 6) .nil)) .nil) b_law3_1)
 (.seq (.asg 8 (.lst (.cons (.bin .add (.idx (.var 6) (.int 0)) (.tup (.cons (.int 0) .nil))) (.cons (.slc (.idx (.var 6) (.neg (.int 1))) .nil (.cons (.neg (.int 1)) .nil)) (.cons (.rev (.idx (.var 6) (.neg (.int 1)))) (.cons (.slc (.var 3) .nil (.cons (.int 1) .nil)) (.cons (.tup (.cons (.idx (.idx (.var 2) (.int 0)) (.int 0)) .nil)) (.cons (.tup (.cons (.neg (.int 1)) .nil)) (.cons (.tup (.cons (.int 0) (.cons (.int 0) .nil))) (.cons (.tup (.cons (.int 0) (.cons (.int 1) (.cons (.int 2) (.cons (.int 3) .nil))))) .nil))))))))))
 (.seq (.for_ (.one 7) (.cons (.var 8) .nil) b_law3_2)
 .skip)))))
def b_law3_4 : S := (.seq (.asg 2 (.call .l_game (.cons (.var 1) (.cons (.int 1) (.cons (.int 8) (.cons (.int 8) .nil))))))
 (.seq (.unp [3, 4] (.call .l_position (.cons (.var 2) (.cons (.bin .fdiv (.var 1) (.int 7)) .nil))))
 (.seq (.ife (.or (.cmp .ne (.call .decided (.cons (.var 2) (.cons (.var 3) (.cons (.var 4) .nil)))) (.call .l_over (.cons (.var 2) (.cons (.var 3) (.cons (.var 4) .nil))))) (.isi (.call .decided (.cons (.var 2) (.cons (.var 3) (.cons (.var 4) .nil)))) .bool)) (.seq (.ret (.bl false))
 .skip) .skip)
 (.seq (.for_ (.one 5) (.cons (.tup (.cons (.int 0) (.cons (.int 1) .nil))) .nil) b_law3_3)
 .skip))))
def d_law3 : Def := ⟨1, ["_law_script", "_law_cell_here", "_law_game_here", "_law_mine", "_law_yours", "_law_whose", "_law_due", "_law_claim", "_law_bad"],
 (.seq (.for_ (.one 1) (.cons (.slc (.var 0) .nil (.cons (.int 5) .nil)) .nil) b_law3_4)
 (.seq (.ret (.bl true))
 .skip))⟩
def b_s_winner_1 : S := (.seq (.asg 5 (.call .decided (.cons (.game (.var 0)) (.cons (.var 1) (.cons (.var 2) .nil)))))
 (.seq (.ife (.cmp .is (.var 5) .non) (.seq (.asg 5 (.var 3))
 (.seq (.ife (.not (.meth .s_good (.var 0) (.cons (.var 1) (.cons (.var 2) (.cons (.var 3) (.cons (.bl true) .nil)))))) (.seq (.asg 5 (.bin .sub (.int 1) (.var 3)))
 .skip) .skip)
 .skip)) .skip)
 .skip))
def d_s_winner : Def := ⟨4, ["self", "mine", "yours", "whose", "position", "found"],
 (.seq (.asg 4 (.tup (.cons (.var 1) (.cons (.var 2) (.cons (.var 3) .nil)))))
 (.seq (.memo false (.var 4) 0 5 b_s_winner_1)
 .skip))⟩
def b_s_good_1 : S := (.seq (.ife (.cmp .eq (.meth .s_behind (.var 0) (.cons (.var 1) (.cons (.var 2) (.cons (.var 3) (.cons (.var 6) .nil))))) (.var 3)) (.seq (.app 5 (.var 6))
 (.seq (.ife (.var 4) (.seq (.ret (.var 5))
 .skip) .skip)
 .skip)) .skip)
 .skip)
def d_s_good : Def := ⟨5, ["self", "mine", "yours", "whose", "one", "found", "claim"],
 (.seq (.asgF 5 (.lst .nil))
 (.seq (.for_ (.one 6) (.cons (.call .claims (.cons (.game (.var 0)) (.cons (.var 1) (.cons (.var 2) (.cons (.var 3) .nil))))) .nil) b_s_good_1)
 (.seq (.ret (.var 5))
 .skip)))⟩
def d_s_behind : Def := ⟨5, ["self", "mine", "yours", "whose", "claim"],
 (.seq (.ife (.cmp .eq (.var 3) (.int 0)) (.seq (.ret (.meth .s_winner (.var 0) (.cons (.call .added (.cons (.var 1) (.cons (.var 4) .nil))) (.cons (.var 2) (.cons (.int 1) .nil)))))
 .skip) .skip)
 (.seq (.ret (.meth .s_winner (.var 0) (.cons (.var 1) (.cons (.call .added (.cons (.var 2) (.cons (.var 4) .nil))) (.cons (.int 0) .nil)))))
 .skip))⟩
def d_winner_from : Def := ⟨4, ["game", "mine", "yours", "whose"],
 (.seq (.ret (.meth .s_winner (.slvr (.var 0)) (.cons (.var 1) (.cons (.var 2) (.cons (.var 3) .nil)))))
 .skip)⟩
def d_winner : Def := ⟨1, ["game"],
 (.seq (.ret (.call .winner_from (.cons (.var 0) (.cons (.tup .nil) (.cons (.tup .nil) (.cons (.idx (.var 0) (.int 1)) .nil))))))
 .skip)⟩
def d_good_claims : Def := ⟨4, ["game", "mine", "yours", "whose"],
 (.seq (.ife (.cmp .isnot (.call .decided (.cons (.var 0) (.cons (.var 1) (.cons (.var 2) .nil)))) .non) (.seq (.ret (.tup .nil))
 .skip) .skip)
 (.seq (.ret (.bi .tuple (.cons (.meth .s_good (.slvr (.var 0)) (.cons (.var 1) (.cons (.var 2) (.cons (.var 3) (.cons (.bl false) .nil))))) .nil)))
 .skip))⟩
def b_l_winner_1 : S := (.seq (.unp [7, 8] (.call .l_put (.cons (.var 2) (.cons (.var 3) (.cons (.var 4) (.cons (.var 6) .nil))))))
 (.seq (.ife (.cmp .ne (.var 5) (.var 4)) (.seq (.asg 5 (.call .l_winner (.cons (.var 0) (.cons (.var 1) (.cons (.var 7) (.cons (.var 8) (.cons (.bin .sub (.int 1) (.var 4)) .nil)))))))
 .skip) .skip)
 .skip))
def b_l_winner_2 : S := (.seq (.asg 5 (.call .l_over (.cons (.var 0) (.cons (.var 2) (.cons (.var 3) .nil)))))
 (.seq (.ife (.cmp .is (.var 5) .non) (.seq (.asg 5 (.bin .sub (.int 1) (.var 4)))
 (.seq (.for_ (.one 6) (.cons (.call .l_claims (.cons (.var 0) (.cons (.var 2) (.cons (.var 3) (.cons (.var 4) .nil))))) .nil) b_l_winner_1)
 .skip)) .skip)
 .skip))
def d_l_winner : Def := ⟨5, ["_law_game_here", "_law_known", "_law_mine", "_law_yours", "_law_whose", "_law_found", "_law_claim", "_law_left", "_law_right"],
 (.seq (.memo true (.tup (.cons (.var 2) (.cons (.var 3) (.cons (.var 4) .nil)))) 1 5 b_l_winner_2)
 .skip)⟩
def d_l_whole : Def := ⟨1, ["_law_found"],
 (.seq (.ret (.and (.isi (.var 0) .int) (.not (.isi (.var 0) .bool))))
 .skip)⟩
def b_law4_1 : S := (.seq (.unp [11, 12] (.call .l_put (.cons (.var 5) (.cons (.var 6) (.cons (.var 7) (.cons (.var 10) .nil))))))
 (.seq (.ife (.cmp .eq (.call .l_winner (.cons (.var 2) (.cons (.var 3) (.cons (.var 11) (.cons (.var 12) (.cons (.bin .sub (.int 1) (.var 7)) .nil)))))) (.var 7)) (.seq (.app 9 (.var 10))
 .skip) .skip)
 .skip))
def b_law4_2 : S := (.seq (.asg 8 (.call .l_winner (.cons (.var 2) (.cons (.var 3) (.cons (.var 5) (.cons (.var 6) (.cons (.var 7) .nil)))))))
 (.seq (.ife (.cmp .ne (.call .winner_from (.cons (.var 2) (.cons (.var 5) (.cons (.var 6) (.cons (.var 7) .nil))))) (.var 8)) (.seq (.ret (.bl false))
 .skip) .skip)
 (.seq (.asgF 9 (.lst .nil))
 (.seq (.for_ (.one 10) (.cons (.call .l_claims (.cons (.var 2) (.cons (.var 5) (.cons (.var 6) (.cons (.var 7) .nil))))) .nil) b_law4_1)
 (.seq (.asg 13 (.cmp .isnot (.call .l_over (.cons (.var 2) (.cons (.var 5) (.cons (.var 6) .nil)))) .non))
 (.seq (.ife (.var 13) (.seq (.asgF 9 (.lst .nil))
 .skip) .skip)
 (.seq (.ife (.cmp .ne (.call .good_claims (.cons (.var 2) (.cons (.var 5) (.cons (.var 6) (.cons (.var 7) .nil))))) (.bi .tuple (.cons (.var 9) .nil))) (.seq (.ret (.bl false))
 .skip) .skip)
 (.seq (.ife (.and (.not (.var 13)) (.cmp .ne (.cmp .eq (.var 8) (.var 7)) (.cmp .ne (.var 9) (.lst .nil)))) (.seq (.ret (.bl false))
 .skip) .skip)
 .skip))))))))
def b_law4_3 : S := (.seq (.for_ (.one 7) (.cons (.tup (.cons (.int 0) (.cons (.int 1) .nil))) .nil) b_law4_2)
 .skip)
def b_law4_4 : S := (.seq (.asg 2 (.call .l_game (.cons (.var 1) (.cons (.int 1) (.cons (.bin .add (.int 5) (.bi .int (.cons (.cmp .eq (.bin .mod (.var 1) (.int 4)) (.int 0)) .nil))) (.cons (.int 6) .nil))))))
 (.seq (.asg 3 (.mem0 2))
 (.seq (.ife (.or (.not (.call .l_whole (.cons (.call .winner (.cons (.var 2) .nil)) .nil))) (.cmp .ne (.call .winner (.cons (.var 2) .nil)) (.call .l_winner (.cons (.var 2) (.cons (.var 3) (.cons (.tup .nil) (.cons (.tup .nil) (.cons (.idx (.var 2) (.int 1)) .nil)))))))) (.seq (.ret (.bl false))
 .skip) .skip)
 (.seq (.asg 4 (.lst (.cons (.tup (.cons (.tup .nil) (.cons (.tup .nil) .nil))) (.cons (.call .l_position (.cons (.var 2) (.cons (.bin .fdiv (.var 1) (.int 7)) .nil))) .nil))))
 (.seq (.for_ (.many [5, 6]) (.cons (.var 4) .nil) b_law4_3)
 .skip)))))
def d_law4 : Def := ⟨1, ["_law_script", "_law_cell_here", "_law_game_here", "_law_known", "_law_spots", "_law_mine", "_law_yours", "_law_whose", "_law_due", "_law_some", "_law_claim", "_law_left", "_law_right", "_law_over_here"],
 (.seq (.for_ (.one 1) (.cons (.slc (.var 0) .nil (.cons (.int 2) .nil)) .nil) b_law4_4)
 (.seq (.ret (.bl true))
 .skip))⟩
def d_behind : Def := ⟨4, ["mine", "yours", "whose", "claim"],
 (.seq (.ife (.cmp .eq (.var 2) (.int 0)) (.seq (.ret (.tup (.cons (.call .added (.cons (.var 0) (.cons (.var 3) .nil))) (.cons (.var 1) .nil))))
 .skip) .skip)
 (.seq (.ret (.tup (.cons (.var 0) (.cons (.call .added (.cons (.var 1) (.cons (.var 3) .nil))) .nil))))
 .skip))⟩
def b_grown_1 : S := (.seq (.unp [6, 7] (.call .behind (.cons (.var 1) (.cons (.var 2) (.cons (.var 3) (.cons (.var 5) .nil))))))
 (.seq (.app 8 (.call .grown (.cons (.var 0) (.cons (.var 6) (.cons (.var 7) (.cons (.bin .sub (.int 1) (.var 3)) (.cons (.var 4) .nil)))))))
 .skip))
def d_grown : Def := ⟨5, ["solver", "mine", "yours", "whose", "hand", "claim", "left", "right", "found"],
 (.seq (.ife (.cmp .isnot (.call .decided (.cons (.game (.var 0)) (.cons (.var 1) (.cons (.var 2) .nil)))) .non) (.seq (.ret (.tup .nil))
 .skip) .skip)
 (.seq (.ife (.cmp .eq (.var 3) (.var 4)) (.seq (.asg 5 (.idx (.meth .s_good (.var 0) (.cons (.var 1) (.cons (.var 2) (.cons (.var 3) (.cons (.bl true) .nil))))) (.int 0)))
 (.seq (.unp [6, 7] (.call .behind (.cons (.var 1) (.cons (.var 2) (.cons (.var 3) (.cons (.var 5) .nil))))))
 (.seq (.ret (.tup (.cons (.var 5) (.cons (.call .grown (.cons (.var 0) (.cons (.var 6) (.cons (.var 7) (.cons (.bin .sub (.int 1) (.var 3)) (.cons (.var 4) .nil)))))) .nil))))
 .skip))) .skip)
 (.seq (.asgF 8 (.lst .nil))
 (.seq (.for_ (.one 5) (.cons (.call .claims (.cons (.game (.var 0)) (.cons (.var 1) (.cons (.var 2) (.cons (.var 3) .nil))))) .nil) b_grown_1)
 (.seq (.ret (.bi .tuple (.cons (.var 8) .nil)))
 .skip)))))⟩
def d_tree_for : Def := ⟨1, ["game", "solver", "hand"],
 (.seq (.asg 1 (.slvr (.var 0)))
 (.seq (.asg 2 (.meth .s_winner (.var 1) (.cons (.tup .nil) (.cons (.tup .nil) (.cons (.idx (.var 0) (.int 1)) .nil)))))
 (.seq (.ret (.tup (.cons (.var 2) (.cons (.call .grown (.cons (.var 1) (.cons (.tup .nil) (.cons (.tup .nil) (.cons (.idx (.var 0) (.int 1)) (.cons (.var 2) .nil)))))) .nil))))
 .skip)))⟩
def b_fits_1 : S := (.seq (.unp [8, 9] (.call .behind (.cons (.var 1) (.cons (.var 2) (.cons (.var 3) (.cons (.var 10) .nil))))))
 (.seq (.ife (.not (.call .fits (.cons (.var 0) (.cons (.var 8) (.cons (.var 9) (.cons (.bin .sub (.int 1) (.var 3)) (.cons (.var 4) (.cons (.var 11) .nil)))))))) (.seq (.ret (.bl false))
 .skip) .skip)
 .skip))
def d_fits : Def := ⟨6, ["game", "mine", "yours", "whose", "hand", "thing", "over", "some", "left", "right", "claim", "part"],
 (.seq (.asg 6 (.call .decided (.cons (.var 0) (.cons (.var 1) (.cons (.var 2) .nil)))))
 (.seq (.ife (.not (.isi (.var 5) .tuple)) (.seq (.ret (.bl false))
 .skip) .skip)
 (.seq (.ife (.cmp .isnot (.var 6) .non) (.seq (.ret (.and (.cmp .eq (.var 6) (.var 4)) (.cmp .eq (.var 5) (.tup .nil))))
 .skip) .skip)
 (.seq (.asg 7 (.call .claims (.cons (.var 0) (.cons (.var 1) (.cons (.var 2) (.cons (.var 3) .nil))))))
 (.seq (.ife (.cmp .eq (.var 3) (.var 4)) (.seq (.ife (.or (.cmp .ne (.bi .len (.cons (.var 5) .nil)) (.int 2)) (.not (.call .is_one_of (.cons (.idx (.var 5) (.int 0)) (.cons (.var 7) .nil))))) (.seq (.ret (.bl false))
 .skip) .skip)
 (.seq (.unp [8, 9] (.call .behind (.cons (.var 1) (.cons (.var 2) (.cons (.var 3) (.cons (.idx (.var 5) (.int 0)) .nil))))))
 (.seq (.ret (.call .fits (.cons (.var 0) (.cons (.var 8) (.cons (.var 9) (.cons (.bin .sub (.int 1) (.var 3)) (.cons (.var 4) (.cons (.idx (.var 5) (.int 1)) .nil))))))))
 .skip))) .skip)
 (.seq (.ife (.cmp .ne (.bi .len (.cons (.var 5) .nil)) (.bi .len (.cons (.var 7) .nil))) (.seq (.ret (.bl false))
 .skip) .skip)
 (.seq (.for_ (.many [10, 11]) (.zp (.var 7) (.var 5)) b_fits_1)
 (.seq (.ret (.bl true))
 .skip))))))))⟩
def c_is_one_of_1 : C := (.and (.isi (.var 2) .int) (.not (.isi (.var 2) .bool)))
def d_is_one_of : Def := ⟨2, ["thing", "some", "one"],
 (.seq (.ife (.or (.not (.isi (.var 0) .tuple)) (.not (.bi .all (.cons (.lc [2] (.one 2) (.cons (.var 0) .nil) .nil c_is_one_of_1) .nil)))) (.seq (.ret (.bl false))
 .skip) .skip)
 (.seq (.ret (.cmp .isin (.var 0) (.var 1)))
 .skip))⟩
def d_is_tree : Def := ⟨3, ["game", "hand", "thing"],
 (.seq (.ret (.call .fits (.cons (.var 0) (.cons (.tup .nil) (.cons (.tup .nil) (.cons (.idx (.var 0) (.int 1)) (.cons (.var 1) (.cons (.var 2) .nil))))))))
 .skip)⟩
def c_l_is_tree_1 : C := (.cons (.isi (.var 8) .bool) .nil)
def c_l_is_tree_2 : C := (.var 8)
def b_l_is_tree_1 : S := (.seq (.unp [9, 10] (.call .l_put (.cons (.var 1) (.cons (.var 2) (.cons (.var 3) (.cons (.var 11) .nil))))))
 (.seq (.ife (.not (.call .l_is_tree (.cons (.var 0) (.cons (.var 9) (.cons (.var 10) (.cons (.bin .sub (.int 1) (.var 3)) (.cons (.var 4) (.cons (.var 12) .nil)))))))) (.seq (.ret (.bl false))
 .skip) .skip)
 .skip))
def d_l_is_tree : Def := ⟨6, ["_law_game_here", "_law_mine", "_law_yours", "_law_whose", "_law_hand", "_law_thing", "_law_over_here", "_law_due", "_law_point", "_law_left", "_law_right", "_law_claim", "_law_part"],
 (.seq (.asg 6 (.call .l_over (.cons (.var 0) (.cons (.var 1) (.cons (.var 2) .nil)))))
 (.seq (.ife (.not (.isi (.var 5) .tuple)) (.seq (.ret (.bl false))
 .skip) .skip)
 (.seq (.ife (.cmp .isnot (.var 6) .non) (.seq (.ret (.and (.cmp .eq (.var 6) (.var 4)) (.cmp .eq (.bi .len (.cons (.var 5) .nil)) (.int 0))))
 .skip) .skip)
 (.seq (.asg 7 (.call .l_claims (.cons (.var 0) (.cons (.var 1) (.cons (.var 2) (.cons (.var 3) .nil))))))
 (.seq (.ife (.cmp .eq (.var 3) (.var 4)) (.seq (.ife (.or (.cmp .ne (.bi .len (.cons (.var 5) .nil)) (.int 2)) (.or (.not (.isi (.idx (.var 5) (.int 0)) .tuple)) (.cmp .notin (.idx (.var 5) (.int 0)) (.var 7)))) (.seq (.ret (.bl false))
 .skip) .skip)
 (.seq (.ife (.lc [8] (.one 8) (.cons (.idx (.var 5) (.int 0)) .nil) c_l_is_tree_1 c_l_is_tree_2) (.seq (.ret (.bl false))
 .skip) .skip)
 (.seq (.unp [9, 10] (.call .l_put (.cons (.var 1) (.cons (.var 2) (.cons (.var 3) (.cons (.idx (.var 5) (.int 0)) .nil))))))
 (.seq (.ret (.call .l_is_tree (.cons (.var 0) (.cons (.var 9) (.cons (.var 10) (.cons (.bin .sub (.int 1) (.var 3)) (.cons (.var 4) (.cons (.idx (.var 5) (.int 1)) .nil))))))))
 .skip)))) .skip)
 (.seq (.ife (.cmp .ne (.bi .len (.cons (.var 5) .nil)) (.bi .len (.cons (.var 7) .nil))) (.seq (.ret (.bl false))
 .skip) .skip)
 (.seq (.for_ (.many [11, 12]) (.zp (.var 7) (.var 5)) b_l_is_tree_1)
 (.seq (.ret (.bl true))
 .skip))))))))⟩
def d_l_spoilt5 : Def := ⟨2, ["_law_tree", "_law_cell_here", "_law_at", "_law_way"],
 (.seq (.ife (.or (.not (.isi (.var 0) .tuple)) (.not (.var 0))) (.seq (.ret (.idx (.lst (.cons .non (.cons (.tup (.cons (.tup .nil) .nil)) (.cons (.lst .nil) (.cons (.int 0) (.cons (.str "tree") .nil)))))) (.bin .mod (.var 1) (.int 5))))
 .skip) .skip)
 (.seq (.asg 2 (.bin .mod (.var 1) (.bi .len (.cons (.var 0) .nil))))
 (.seq (.asg 3 (.bin .mod (.bin .fdiv (.var 1) (.int 8)) (.int 6)))
 (.seq (.ife (.cmp .lt (.var 3) (.int 3)) (.seq (.ret (.bin .add (.bin .add (.slc (.var 0) .nil (.cons (.var 2) .nil)) (.tup (.cons (.call .l_spoilt5 (.cons (.idx (.var 0) (.var 2)) (.cons (.bin .fdiv (.var 1) (.int 64)) .nil))) .nil))) (.slc (.var 0) (.cons (.bin .add (.var 2) (.int 1)) .nil) .nil)))
 .skip) .skip)
 (.seq (.ret (.idx (.lst (.cons (.bin .add (.slc (.var 0) .nil (.cons (.var 2) .nil)) (.slc (.var 0) (.cons (.bin .add (.var 2) (.int 1)) .nil) .nil)) (.cons (.bin .add (.var 0) (.slc (.var 0) .nil (.cons (.int 1) .nil))) (.cons (.rev (.var 0)) .nil)))) (.bin .sub (.var 3) (.int 3))))
 .skip)))))⟩
def b_law5_1 : S := (.seq (.asg 8 (.call .is_tree (.cons (.var 2) (.cons (.var 7) (.cons (.var 6) .nil)))))
 (.seq (.asg 9 (.call .l_is_tree (.cons (.var 2) (.cons (.tup .nil) (.cons (.tup .nil) (.cons (.idx (.var 2) (.int 1)) (.cons (.var 7) (.cons (.var 6) .nil))))))))
 (.seq (.ife (.or (.not (.isi (.var 8) .bool)) (.cmp .ne (.var 8) (.var 9))) (.seq (.ret (.bl false))
 .skip) .skip)
 .skip)))
def b_law5_2 : S := (.seq (.asg 6 (.call .l_spoilt5 (.cons (.idx (.var 3) (.int 1)) (.cons (.var 5) .nil))))
 (.seq (.for_ (.one 7) (.cons (.tup (.cons (.int 0) (.cons (.int 1) .nil))) .nil) b_law5_1)
 .skip))
def b_law5_3 : S := (.seq (.asg 2 (.call .l_game (.cons (.var 1) (.cons (.int 1) (.cons (.bin .add (.int 4) (.bi .int (.cons (.cmp .eq (.bin .mod (.var 1) (.int 4)) (.int 0)) .nil))) (.cons (.int 5) .nil))))))
 (.seq (.asg 3 (.call .tree_for (.cons (.var 2) .nil)))
 (.seq (.asg 4 (.call .l_winner (.cons (.var 2) (.cons (.mem0 2) (.cons (.tup .nil) (.cons (.tup .nil) (.cons (.idx (.var 2) (.int 1)) .nil)))))))
 (.seq (.ife (.or (.not (.isi (.var 3) .tuple)) (.or (.cmp .ne (.bi .len (.cons (.var 3) .nil)) (.int 2)) (.cmp .ne (.idx (.var 3) (.int 0)) (.var 4)))) (.seq (.ret (.bl false))
 .skip) .skip)
 (.seq (.ife (.not (.call .l_is_tree (.cons (.var 2) (.cons (.tup .nil) (.cons (.tup .nil) (.cons (.idx (.var 2) (.int 1)) (.cons (.var 4) (.cons (.idx (.var 3) (.int 1)) .nil)))))))) (.seq (.ret (.bl false))
 .skip) .skip)
 (.seq (.ife (.cmp .isnot (.call .is_tree (.cons (.var 2) (.cons (.var 4) (.cons (.idx (.var 3) (.int 1)) .nil)))) (.bl true)) (.seq (.ret (.bl false))
 .skip) .skip)
 (.seq (.ife (.cmp .isnot (.call .is_tree (.cons (.var 2) (.cons (.bin .sub (.int 1) (.var 4)) (.cons (.idx (.var 3) (.int 1)) .nil)))) (.bl false)) (.seq (.ret (.bl false))
 .skip) .skip)
 (.seq (.for_ (.one 5) (.cons (.slc (.var 0) (.cons (.int 3) .nil) (.cons (.int 9) .nil)) .nil) b_law5_2)
 .skip))))))))
def d_law5 : Def := ⟨1, ["_law_script", "_law_cell_here", "_law_game_here", "_law_told", "_law_hand", "_law_more", "_law_bad", "_law_side", "_law_found", "_law_due"],
 (.seq (.for_ (.one 1) (.cons (.slc (.var 0) .nil (.cons (.int 3) .nil)) .nil) b_law5_3)
 (.seq (.ret (.bl true))
 .skip))⟩
def c_holds_pair_1 : C := (.and (.cmp .isin (.var 2) (.var 0)) (.cmp .isin (.var 3) (.var 0)))
def d_holds_pair : Def := ⟨2, ["line", "pairs", "one", "other"],
 (.seq (.ret (.bi .any (.cons (.lc [2, 3] (.many [2, 3]) (.cons (.var 1) .nil) .nil c_holds_pair_1) .nil)))
 .skip)⟩
def b_points_of_1 : S := (.seq (.ext 1 (.bi .list (.cons (.var 2) .nil)))
 .skip)
def d_points_of : Def := ⟨1, ["pairs", "found", "pair"],
 (.seq (.asgF 1 (.lst .nil))
 (.seq (.for_ (.one 2) (.cons (.var 0) .nil) b_points_of_1)
 (.seq (.ret (.var 1))
 .skip)))⟩
def c_search_1 : C := (.cons (.not (.call .holds_pair (.cons (.var 3) (.cons (.var 1) .nil)))) .nil)
def c_search_2 : C := (.var 3)
def c_search_3 : C := (.cons (.cmp .notin (.var 6) (.var 4)) .nil)
def c_search_4 : C := (.var 6)
def b_search_1 : S := (.seq (.asg 7 (.call .search (.cons (.var 2) (.cons (.bin .add (.var 1) (.lst (.cons (.var 5) .nil))) .nil))))
 (.seq (.ife (.cmp .isnot (.var 7) .non) (.seq (.ret (.var 7))
 .skip) .skip)
 .skip))
def d_search : Def := ⟨2, ["lines", "pairs", "left", "line", "used", "pair", "point", "found"],
 (.seq (.asg 2 (.lc [3] (.one 3) (.cons (.var 0) .nil) c_search_1 c_search_2))
 (.seq (.ife (.not (.var 2)) (.seq (.ret (.var 1))
 .skip) .skip)
 (.seq (.asg 4 (.call .points_of (.cons (.var 1) .nil)))
 (.seq (.for_ (.one 5) (.cons (.call .choose (.cons (.lc [6] (.one 6) (.cons (.idx (.var 2) (.int 0)) .nil) c_search_3 c_search_4) (.cons (.int 2) .nil))) .nil) b_search_1)
 (.seq (.ret .non)
 .skip)))))⟩
def c_pairing_1 : C := (.cons (.cmp .ne (.var 4) (.var 2)) .nil)
def c_pairing_2 : C := (.var 4)
def c_pairing_3 : C := (.call .holds_pair (.cons (.var 5) (.cons (.var 3) .nil)))
def b_pairing_1 : S := (.seq (.asg 3 (.lc [4] (.one 4) (.cons (.var 1) .nil) c_pairing_1 c_pairing_2))
 (.seq (.ife (.bi .all (.cons (.lc [5] (.one 5) (.cons (.idx (.var 0) (.int 1)) .nil) .nil c_pairing_3) .nil)) (.seq (.asg 1 (.var 3))
 .skip) .skip)
 .skip))
def d_pairing : Def := ⟨1, ["field", "found", "pair", "less", "one", "line"],
 (.seq (.asg 1 (.call .search (.cons (.idx (.var 0) (.int 1)) (.cons (.lst .nil) .nil))))
 (.seq (.ife (.cmp .is (.var 1) .non) (.seq (.ret .non)
 .skip) .skip)
 (.seq (.for_ (.one 2) (.cons (.bi .list (.cons (.var 1) .nil)) .nil) b_pairing_1)
 (.seq (.ret (.bi .tuple (.cons (.bi .sorted (.cons (.var 1) .nil)) .nil)))
 .skip))))⟩
def c_is_pairing_1 : C := (.and (.call .is_line (.cons (.var 2) (.cons (.idx (.var 0) (.int 0)) .nil))) (.cmp .eq (.bi .len (.cons (.var 2) .nil)) (.int 2)))
def c_is_pairing_2 : C := (.call .holds_pair (.cons (.var 4) (.cons (.var 1) .nil)))
def d_is_pairing : Def := ⟨2, ["field", "thing", "pair", "points", "line"],
 (.seq (.ife (.or (.not (.isi (.var 1) .tuple)) (.not (.bi .all (.cons (.lc [2] (.one 2) (.cons (.var 1) .nil) .nil c_is_pairing_1) .nil)))) (.seq (.ret (.bl false))
 .skip) .skip)
 (.seq (.asg 3 (.call .points_of (.cons (.var 1) .nil)))
 (.seq (.ife (.or (.cmp .ne (.lset (.var 3)) (.bi .len (.cons (.var 3) .nil))) (.not (.call .is_rising (.cons (.var 1) .nil)))) (.seq (.ret (.bl false))
 .skip) .skip)
 (.seq (.ret (.bi .all (.cons (.lc [4] (.one 4) (.cons (.idx (.var 0) (.int 1)) .nil) .nil c_is_pairing_2) .nil)))
 .skip))))⟩
def b_partner_1 : S := (.seq (.ife (.cmp .eq (.var 1) (.var 2)) (.seq (.ret (.var 3))
 .skip) .skip)
 (.seq (.ife (.cmp .eq (.var 1) (.var 3)) (.seq (.ret (.var 2))
 .skip) .skip)
 .skip))
def d_partner : Def := ⟨2, ["pairs", "point", "one", "other"],
 (.seq (.for_ (.many [2, 3]) (.cons (.var 0) .nil) b_partner_1)
 (.seq (.ret .non)
 .skip))⟩
def d_reply : Def := ⟨5, ["field", "pairs", "mine", "yours", "point", "some", "other"],
 (.seq (.asg 5 (.call .free_points (.cons (.var 0) (.cons (.var 2) (.cons (.var 3) .nil)))))
 (.seq (.asg 6 (.call .partner (.cons (.var 1) (.cons (.var 4) .nil))))
 (.seq (.ife (.cmp .isin (.var 6) (.var 5)) (.seq (.ret (.var 6))
 .skip) .skip)
 (.seq (.ife (.var 5) (.seq (.ret (.idx (.var 5) (.int 0)))
 .skip) .skip)
 (.seq (.ret .non)
 .skip)))))⟩
def c_l_holds_1 : C := (.cons (.and (.cmp .isin (.idx (.var 2) (.int 0)) (.var 0)) (.cmp .isin (.idx (.var 2) (.int 1)) (.var 0))) .nil)
def c_l_holds_2 : C := (.var 2)
def d_l_holds : Def := ⟨2, ["_law_line", "_law_pairs", "_law_pair"],
 (.seq (.ret (.cmp .ne (.lc [2] (.one 2) (.cons (.var 1) .nil) c_l_holds_1 c_l_holds_2) (.lst .nil)))
 .skip)⟩
def c_l_is_pairing_1 : C := (.cons (.or (.isi (.var 4) .bool) (.nin (.var 4) (.idx (.var 0) (.int 0)))) .nil)
def c_l_is_pairing_2 : C := (.var 4)
def b_l_is_pairing_1 : S := (.seq (.ife (.or (.not (.isi (.var 3) .tuple)) (.cmp .ne (.bi .len (.cons (.var 3) .nil)) (.int 2))) (.seq (.ret (.bl false))
 .skip) .skip)
 (.seq (.ife (.lc [4] (.one 4) (.cons (.var 3) .nil) c_l_is_pairing_1 c_l_is_pairing_2) (.seq (.ret (.bl false))
 .skip) .skip)
 (.seq (.ife (.cmp .ge (.idx (.var 3) (.int 0)) (.idx (.var 3) (.int 1))) (.seq (.ret (.bl false))
 .skip) .skip)
 (.seq (.asg 2 (.bin .add (.var 2) (.bi .list (.cons (.var 3) .nil))))
 .skip))))
def c_l_is_pairing_3 : C := (.cons (.not (.call .l_holds (.cons (.var 5) (.cons (.var 1) .nil)))) .nil)
def c_l_is_pairing_4 : C := (.var 5)
def d_l_is_pairing : Def := ⟨2, ["_law_field_here", "_law_thing", "_law_points", "_law_pair", "_law_one", "_law_line"],
 (.seq (.ife (.not (.isi (.var 1) .tuple)) (.seq (.ret (.bl false))
 .skip) .skip)
 (.seq (.asg 2 (.lst .nil))
 (.seq (.for_ (.one 3) (.cons (.var 1) .nil) b_l_is_pairing_1)
 (.seq (.ife (.or (.cmp .ne (.bi .list (.cons (.var 1) .nil)) (.bi .sorted (.cons (.var 1) .nil))) (.cmp .ne (.lset (.var 2)) (.bi .len (.cons (.var 2) .nil)))) (.seq (.ret (.bl false))
 .skip) .skip)
 (.seq (.ret (.cmp .eq (.lc [5] (.one 5) (.cons (.idx (.var 0) (.int 1)) .nil) c_l_is_pairing_3 c_l_is_pairing_4) (.lst .nil)))
 .skip)))))⟩
def c_l_all_1 : C := (.bin .add (.tup (.cons (.tup (.cons (.idx (.var 0) (.int 0)) (.cons (.idx (.var 0) (.var 2)) .nil))) .nil)) (.var 4))
def b_l_all_1 : S := (.seq (.asg 3 (.bin .add (.slc (.var 0) (.cons (.int 1) .nil) (.cons (.var 2) .nil)) (.slc (.var 0) (.cons (.bin .add (.var 2) (.int 1)) .nil) .nil)))
 (.seq (.asg 1 (.bin .add (.var 1) (.lc [4] (.one 4) (.cons (.call .l_all (.cons (.var 3) .nil)) .nil) .nil c_l_all_1)))
 .skip))
def d_l_all : Def := ⟨1, ["_law_points", "_law_found", "_law_k", "_law_rest", "_law_more"],
 (.seq (.ife (.cmp .lt (.bi .len (.cons (.var 0) .nil)) (.int 2)) (.seq (.ret (.lst (.cons (.tup .nil) .nil)))
 .skip) .skip)
 (.seq (.asg 1 (.call .l_all (.cons (.slc (.var 0) (.cons (.int 1) .nil) .nil) .nil)))
 (.seq (.for_ (.one 2) (.r2 (.int 1) (.bi .len (.cons (.var 0) .nil))) b_l_all_1)
 (.seq (.ret (.var 1))
 .skip))))⟩
def b_l_safe6_1 : S := (.seq (.ife (.cmp .ne (.var 5) (.tup .nil)) (.seq (.asg 6 (.bi .tuple (.cons (.bi .sorted (.cons (.bin .add (.var 2) (.var 5)) .nil)) .nil)))
 (.seq (.asg 7 (.call .reply (.cons (.var 0) (.cons (.var 1) (.cons (.var 6) (.cons (.var 3) (.cons (.idx (.var 5) (.int 0)) .nil)))))))
 (.seq (.asg 8 (.var 3))
 (.seq (.ife (.cmp .isnot (.var 7) .non) (.seq (.asg 8 (.bi .tuple (.cons (.bi .sorted (.cons (.bin .add (.var 3) (.tup (.cons (.var 7) .nil))) .nil)) .nil)))
 .skip) .skip)
 (.seq (.ife (.not (.call .l_safe6 (.cons (.var 0) (.cons (.var 1) (.cons (.var 6) (.cons (.var 8) .nil)))))) (.seq (.ret (.bl false))
 .skip) .skip)
 .skip))))) .skip)
 .skip)
def d_l_safe6 : Def := ⟨4, ["_law_field_here", "_law_pairs", "_law_mine", "_law_yours", "_law_game_here", "_law_claim", "_law_left", "_law_answer", "_law_right"],
 (.seq (.asg 4 (.tup (.cons (.var 0) (.cons (.int 0) (.cons (.int 1) (.cons (.int 1) .nil))))))
 (.seq (.ife (.cmp .eq (.call .l_over (.cons (.var 4) (.cons (.var 2) (.cons (.var 3) .nil)))) (.int 0)) (.seq (.ret (.bl false))
 .skip) .skip)
 (.seq (.for_ (.one 5) (.cons (.call .l_claims (.cons (.var 4) (.cons (.var 2) (.cons (.var 3) (.cons (.int 0) .nil))))) .nil) b_l_safe6_1)
 (.seq (.ret (.bl true))
 .skip))))⟩
def c_law6_1 : C := (.cons (.call .l_is_pairing (.cons (.var 2) (.cons (.bi .tuple (.cons (.bi .sorted (.cons (.var 5) .nil)) .nil)) .nil))) .nil)
def c_law6_2 : C := (.var 5)
def c_law6_3 : C := (.cons (.cmp .ne (.var 5) (.var 7)) .nil)
def b_law6_1 : S := (.seq (.ife (.call .l_is_pairing (.cons (.var 2) (.cons (.bi .tuple (.cons (.lc [5] (.one 5) (.cons (.var 6) .nil) c_law6_3 c_law6_2) .nil)) .nil))) (.seq (.ret (.bl false))
 .skip) .skip)
 .skip)
def b_law6_2 : S := (.seq (.asg 11 (.call .is_pairing (.cons (.var 2) (.cons (.var 10) .nil))))
 (.seq (.ife (.or (.not (.isi (.var 11) .bool)) (.cmp .ne (.var 11) (.call .l_is_pairing (.cons (.var 2) (.cons (.var 10) .nil))))) (.seq (.ret (.bl false))
 .skip) .skip)
 .skip))
def c_law6_4 : C := (.cons (.cmp .isin (.var 12) (.var 7)) .nil)
def c_law6_5 : C := (.bin .sub (.bin .add (.idx (.var 7) (.int 0)) (.idx (.var 7) (.int 1))) (.var 12))
def c_law6_6 : C := (.cons (.cmp .ne (.var 5) (.var 12)) .nil)
def c_law6_7 : C := (.cons (.cmp .eq (.call .l_mix (.cons (.bin .add (.var 1) (.var 5)) (.cons (.int 9887) (.cons (.int 2) .nil)))) (.int 0)) .nil)
def c_law6_8 : C := (.cons (.cmp .notin (.var 5) (.var 15)) .nil)
def c_law6_9 : C := (.cons (.cmp .isin (.var 5) (.var 16)) .nil)
def b_law6_3 : S := (.seq (.asg 13 (.lc [7] (.one 7) (.cons (.var 8) .nil) c_law6_4 c_law6_5))
 (.seq (.ife (.cmp .ne (.call .partner (.cons (.var 8) (.cons (.var 12) .nil))) (.idx (.bin .add (.var 13) (.lst (.cons .non .nil))) (.int 0))) (.seq (.ret (.bl false))
 .skip) .skip)
 (.seq (.asg 14 (.lc [5] (.one 5) (.r1 (.idx (.var 2) (.int 0))) c_law6_6 c_law6_2))
 (.seq (.asg 15 (.bi .tuple (.cons (.lc [5] (.one 5) (.cons (.var 14) .nil) c_law6_7 c_law6_2) .nil)))
 (.seq (.asg 16 (.lc [5] (.one 5) (.cons (.var 14) .nil) c_law6_8 c_law6_2))
 (.seq (.asg 17 (.bin .add (.bin .add (.lc [5] (.one 5) (.cons (.var 13) .nil) c_law6_9 c_law6_2) (.var 16)) (.lst (.cons .non .nil))))
 (.seq (.ife (.cmp .ne (.call .reply (.cons (.var 2) (.cons (.var 8) (.cons (.tup (.cons (.var 12) .nil)) (.cons (.var 15) (.cons (.var 12) .nil)))))) (.idx (.var 17) (.int 0))) (.seq (.ret (.bl false))
 .skip) .skip)
 .skip)))))))
def b_law6_4 : S := (.seq (.asg 2 (.call .l_field (.cons (.var 1) (.cons (.int 1) (.cons (.int 6) (.cons (.int 6) .nil))))))
 (.seq (.asg 3 (.call .l_all (.cons (.lrng (.idx (.var 2) (.int 0))) .nil)))
 (.seq (.asg 4 (.lc [5] (.one 5) (.cons (.var 3) .nil) c_law6_1 c_law6_2))
 (.seq (.asg 6 (.call .pairing (.cons (.var 2) .nil)))
 (.seq (.ife (.cmp .ne (.cmp .is (.var 6) .non) (.not (.var 4))) (.seq (.ret (.bl false))
 .skip) .skip)
 (.seq (.ife (.cmp .isnot (.var 6) .non) (.seq (.ife (.or (.cmp .isnot (.call .is_pairing (.cons (.var 2) (.cons (.var 6) .nil))) (.bl true)) (.not (.call .l_is_pairing (.cons (.var 2) (.cons (.var 6) .nil))))) (.seq (.ret (.bl false))
 .skip) .skip)
 (.seq (.for_ (.one 7) (.cons (.var 6) .nil) b_law6_1)
 (.seq (.ife (.and (.cmp .lt (.idx (.var 2) (.int 0)) (.int 6)) (.not (.call .l_safe6 (.cons (.var 2) (.cons (.var 6) (.cons (.tup .nil) (.cons (.tup .nil) .nil))))))) (.seq (.ret (.bl false))
 .skip) .skip)
 (.seq (.ife (.or (.cmp .ne (.call .winner (.cons (.tup (.cons (.var 2) (.cons (.int 0) (.cons (.int 1) (.cons (.int 1) .nil))))) .nil)) (.int 1)) (.cmp .ne (.call .winner (.cons (.tup (.cons (.var 2) (.cons (.int 1) (.cons (.int 1) (.cons (.int 1) .nil))))) .nil)) (.int 1))) (.seq (.ret (.bl false))
 .skip) .skip)
 .skip)))) .skip)
 (.seq (.asg 8 (.idx (.var 3) (.call .l_mix (.cons (.var 1) (.cons (.int 9901) (.cons (.bi .len (.cons (.var 3) .nil)) .nil))))))
 (.seq (.asg 9 (.lst (.cons (.bi .tuple (.cons (.bi .sorted (.cons (.var 8) .nil)) .nil)) (.cons (.slc (.var 8) (.cons (.int 1) .nil) .nil) (.cons (.rev (.var 8)) (.cons (.bin .add (.var 8) (.slc (.var 8) .nil (.cons (.int 1) .nil))) (.cons (.bi .list (.cons (.var 8) .nil)) .nil)))))))
 (.seq (.for_ (.one 10) (.cons (.bin .add (.var 9) (.lst (.cons .non (.cons (.tup (.cons (.tup (.cons (.int 0) .nil)) .nil)) (.cons (.tup (.cons (.tup (.cons (.int 1) (.cons (.int 0) .nil))) .nil)) .nil))))) .nil) b_law6_2)
 (.seq (.for_ (.one 12) (.r1 (.idx (.var 2) (.int 0))) b_law6_3)
 .skip))))))))))
def d_law6 : Def := ⟨1, ["_law_script", "_law_cell_here", "_law_field_here", "_law_every", "_law_some", "_law_one", "_law_found", "_law_pair", "_law_pairs", "_law_things", "_law_thing", "_law_told", "_law_point", "_law_due", "_law_others", "_law_yours", "_law_left", "_law_wish"],
 (.seq (.for_ (.one 1) (.cons (.slc (.var 0) .nil (.cons (.int 2) .nil)) .nil) b_law6_4)
 (.seq (.ret (.bl true))
 .skip))⟩
def c_common_1 : C := (.cmp .ne (.var 1) (.int 0))
def b_common_1 : S := (.seq (.par 0 1 (.var 1) (.bin .mod (.var 0) (.var 1)))
 .skip)
def d_common : Def := ⟨2, ["a", "b"],
 (.seq (.whl 1000 c_common_1 b_common_1)
 (.seq (.ret (.var 0))
 .skip))⟩
def b_power_1 : S := (.seq (.asg 2 (.bin .mul (.var 2) (.var 0)))
 .skip)
def d_power : Def := ⟨2, ["number", "times", "found", "k"],
 (.seq (.asg 2 (.int 1))
 (.seq (.for_ (.one 3) (.r1 (.var 1)) b_power_1)
 (.seq (.ret (.var 2))
 .skip)))⟩
def c_weight_1 : C := (.cmp .isin (.var 4) (.var 3))
def c_weight_2 : C := (.cons (.cmp .notin (.var 4) (.var 2)) .nil)
def c_weight_3 : C := (.var 4)
def d_weight : Def := ⟨4, ["line", "guards", "mine", "yours", "point"],
 (.seq (.ife (.bi .any (.cons (.lc [4] (.one 4) (.cons (.var 0) .nil) .nil c_weight_1) .nil)) (.seq (.ret (.int 0))
 .skip) .skip)
 (.seq (.ret (.call .power (.cons (.bin .add (.var 1) (.int 1)) (.cons (.bin .sub (.int 20) (.bi .len (.cons (.lc [4] (.one 4) (.cons (.var 0) .nil) c_weight_2 c_weight_3) .nil))) .nil))))
 .skip))⟩
def c_parts_1 : C := (.cons (.or (.cmp .is (.var 4) .non) (.cmp .isin (.var 4) (.var 6))) .nil)
def c_parts_2 : C := (.var 6)
def c_parts_3 : C := (.call .weight (.cons (.var 6) (.cons (.var 1) (.cons (.var 2) (.cons (.var 3) .nil)))))
def d_parts : Def := ⟨5, ["field", "guards", "mine", "yours", "point", "lines", "line"],
 (.seq (.asg 5 (.lc [6] (.one 6) (.cons (.idx (.var 0) (.int 1)) .nil) c_parts_1 c_parts_2))
 (.seq (.ret (.bi .sum (.cons (.lc [6] (.one 6) (.cons (.var 5) .nil) .nil c_parts_3) .nil)))
 .skip))⟩
def d_as_fraction : Def := ⟨2, ["many", "guards", "whole", "by"],
 (.seq (.asg 2 (.call .power (.cons (.bin .add (.var 1) (.int 1)) (.cons (.int 20) .nil))))
 (.seq (.asg 3 (.call .common (.cons (.var 2) (.cons (.var 0) .nil))))
 (.seq (.ret (.tup (.cons (.bin .fdiv (.var 0) (.var 3)) (.cons (.bin .fdiv (.var 2) (.var 3)) .nil))))
 .skip)))⟩
def d_danger : Def := ⟨4, ["field", "guards", "mine", "yours"],
 (.seq (.ret (.call .as_fraction (.cons (.call .parts (.cons (.var 0) (.cons (.var 1) (.cons (.var 2) (.cons (.var 3) (.cons .non .nil)))))) (.cons (.var 1) .nil))))
 .skip)⟩
def d_pull : Def := ⟨5, ["field", "guards", "mine", "yours", "point"],
 (.seq (.ret (.call .as_fraction (.cons (.call .parts (.cons (.var 0) (.cons (.var 1) (.cons (.var 2) (.cons (.var 3) (.cons (.var 4) .nil)))))) (.cons (.var 1) .nil))))
 .skip)⟩
def c_heaviest_1 : C := (.call .parts (.cons (.var 0) (.cons (.var 1) (.cons (.var 2) (.cons (.bin .add (.var 3) (.var 4)) (.cons (.var 8) .nil))))))
def b_heaviest_1 : S := (.seq (.asg 6 (.call .free_points (.cons (.var 0) (.cons (.var 2) (.cons (.bin .add (.var 3) (.var 4)) .nil)))))
 (.seq (.ife (.var 6) (.seq (.asg 7 (.lc [8] (.one 8) (.cons (.var 6) .nil) .nil c_heaviest_1))
 (.seq (.asg 4 (.bin .add (.var 4) (.tup (.cons (.idx (.var 6) (.indx (.var 7) (.bi .max1 (.cons (.var 7) .nil)))) .nil))))
 .skip)) .skip)
 .skip))
def d_heaviest : Def := ⟨4, ["field", "guards", "mine", "yours", "found", "k", "some", "pulls", "point"],
 (.seq (.asg 4 (.tup .nil))
 (.seq (.for_ (.one 5) (.r1 (.var 1)) b_heaviest_1)
 (.seq (.ret (.var 4))
 .skip)))⟩
def c_is_safe_1 : C := (.tup (.cons (.var 6) .nil))
def b_is_safe_1 : S := (.seq (.unp [8, 9] (.call .danger (.cons (.var 1) (.cons (.var 4) (.cons (.var 7) (.cons (.tup .nil) .nil))))))
 (.seq (.ife (.cmp .ge (.var 8) (.var 9)) (.seq (.ret (.bl false))
 .skip) .skip)
 .skip))
def d_is_safe : Def := ⟨1, ["game", "field", "first", "builds", "guards", "begins", "point", "mine", "upper", "lower"],
 (.seq (.unp [1, 2, 3, 4] (.var 0))
 (.seq (.asg 5 (.lst (.cons (.tup .nil) .nil)))
 (.seq (.ife (.cmp .eq (.var 2) (.int 0)) (.seq (.asg 5 (.lc [6] (.one 6) (.r1 (.idx (.var 1) (.int 0))) .nil c_is_safe_1))
 .skip) .skip)
 (.seq (.for_ (.one 7) (.cons (.var 5) .nil) b_is_safe_1)
 (.seq (.ret (.bl true))
 .skip)))))⟩
def c_l_fraction_1 : C := (.cmp .gt (.var 3) (.int 0))
def b_l_fraction_1 : S := (.seq (.par 2 3 (.var 3) (.bin .mod (.var 2) (.var 3)))
 .skip)
def d_l_fraction : Def := ⟨2, ["_law_upper", "_law_lower", "_law_one", "_law_other"],
 (.seq (.asg 2 (.var 0))
 (.seq (.asg 3 (.var 1))
 (.seq (.whl 1000 c_l_fraction_1 b_l_fraction_1)
 (.seq (.ret (.tup (.cons (.bin .fdiv (.var 0) (.var 2)) (.cons (.bin .fdiv (.var 1) (.var 2)) .nil))))
 .skip))))⟩
def c_l_weights_1 : C := (.cons (.cmp .isin (.var 7) (.var 3)) .nil)
def c_l_weights_2 : C := (.var 7)
def b_l_weights_1 : S := (.seq (.ife (.cmp .notin (.var 7) (.var 2)) (.seq (.asg 8 (.bin .mul (.var 8) (.bin .add (.var 1) (.int 1))))
 .skip) .skip)
 .skip)
def b_l_weights_2 : S := (.seq (.ife (.not (.lc [7] (.one 7) (.cons (.var 6) .nil) c_l_weights_1 c_l_weights_2)) (.seq (.asg 8 (.int 1))
 (.seq (.for_ (.one 7) (.cons (.var 6) .nil) b_l_weights_1)
 (.seq (.asg 4 (.bin .add (.bin .mul (.var 4) (.var 8)) (.var 5)))
 (.seq (.asg 5 (.bin .mul (.var 5) (.var 8)))
 .skip)))) .skip)
 .skip)
def d_l_weights : Def := ⟨4, ["_law_lines", "_law_guards", "_law_mine", "_law_yours", "_law_upper", "_law_lower", "_law_line", "_law_point", "_law_by"],
 (.seq (.asg 4 (.int 0))
 (.seq (.asg 5 (.int 1))
 (.seq (.for_ (.one 6) (.cons (.var 0) .nil) b_l_weights_2)
 (.seq (.ret (.call .l_fraction (.cons (.var 4) (.cons (.var 5) .nil))))
 .skip))))⟩
def c_law7_1 : C := (.cons (.and (.cmp .notin (.var 11) (.var 5)) (.cmp .notin (.var 11) (.var 7))) .nil)
def c_law7_2 : C := (.var 11)
def c_law7_3 : C := (.cons (.cmp .isin (.var 11) (.var 14)) .nil)
def c_law7_4 : C := (.var 14)
def b_law7_1 : S := (.seq (.asg 13 (.call .l_weights (.cons (.lc [14] (.one 14) (.cons (.idx (.var 3) (.int 1)) .nil) c_law7_3 c_law7_4) (.cons (.var 4) (.cons (.var 5) (.cons (.var 7) .nil))))))
 (.seq (.ife (.and (.cmp .eq (.var 9) (.int 0)) (.cmp .ne (.call .pull (.cons (.var 3) (.cons (.var 4) (.cons (.var 5) (.cons (.var 6) (.cons (.var 11) .nil)))))) (.var 13))) (.seq (.ret (.bl false))
 .skip) .skip)
 (.seq (.ife (.or (.cmp .is (.var 12) .non) (.cmp .gt (.bin .mul (.idx (.var 13) (.int 0)) (.idx (.idx (.var 12) (.int 0)) (.int 1))) (.bin .mul (.idx (.idx (.var 12) (.int 0)) (.int 0)) (.idx (.var 13) (.int 1))))) (.seq (.asg 12 (.tup (.cons (.var 13) (.cons (.var 11) .nil))))
 .skip) .skip)
 .skip)))
def b_law7_2 : S := (.seq (.asg 10 (.lc [11] (.one 11) (.r1 (.idx (.var 3) (.int 0))) c_law7_1 c_law7_2))
 (.seq (.asg 12 .non)
 (.seq (.for_ (.one 11) (.cons (.var 10) .nil) b_law7_1)
 (.seq (.ife (.cmp .isnot (.var 12) .non) (.seq (.app 8 (.idx (.var 12) (.int 1)))
 (.seq (.asg 7 (.bin .add (.var 7) (.tup (.cons (.idx (.var 12) (.int 1)) .nil))))
 .skip)) .skip)
 .skip))))
def c_law7_5 : C := (.tup (.cons (.var 11) .nil))
def c_law7_6 : C := (.call .l_weights (.cons (.idx (.var 3) (.int 1)) (.cons (.var 4) (.cons (.var 17) (.cons (.tup .nil) .nil)))))
def c_law7_7 : C := (.cons (.cmp .ge (.idx (.var 17) (.int 0)) (.idx (.var 17) (.int 1))) .nil)
def c_law7_8 : C := (.var 17)
def b_law7_3 : S := (.seq (.asg 16 (.idx (.lst (.cons (.lst (.cons (.tup .nil) .nil)) (.cons (.lc [11] (.one 11) (.r1 (.idx (.var 3) (.int 0))) .nil c_law7_5) .nil))) (.bin .sub (.int 1) (.var 15))))
 (.seq (.asg 13 (.lc [17] (.one 17) (.cons (.var 16) .nil) .nil c_law7_6))
 (.seq (.asg 18 (.cmp .eq (.lc [17] (.one 17) (.cons (.var 13) .nil) c_law7_7 c_law7_8) (.lst .nil)))
 (.seq (.asg 19 (.call .is_safe (.cons (.tup (.cons (.var 3) (.cons (.var 15) (.cons (.int 1) (.cons (.var 4) .nil))))) .nil)))
 (.seq (.ife (.or (.not (.isi (.var 19) .bool)) (.cmp .ne (.var 19) (.var 18))) (.seq (.ret (.bl false))
 .skip) .skip)
 .skip)))))
def b_law7_4 : S := (.seq (.asg 2 (.call .l_game (.cons (.var 1) (.cons (.int 1) (.cons (.int 9) (.cons (.int 10) .nil))))))
 (.seq (.asg 3 (.idx (.var 2) (.int 0)))
 (.seq (.asg 4 (.bin .add (.int 1) (.call .l_mix (.cons (.var 1) (.cons (.int 9887) (.cons (.int 3) .nil))))))
 (.seq (.unp [5, 6] (.call .l_position (.cons (.var 2) (.cons (.bin .fdiv (.var 1) (.int 7)) .nil))))
 (.seq (.ife (.cmp .ne (.call .danger (.cons (.var 3) (.cons (.var 4) (.cons (.var 5) (.cons (.var 6) .nil))))) (.call .l_weights (.cons (.idx (.var 3) (.int 1)) (.cons (.var 4) (.cons (.var 5) (.cons (.var 6) .nil)))))) (.seq (.ret (.bl false))
 .skip) .skip)
 (.seq (.asg 7 (.var 6))
 (.seq (.asgF 8 (.lst .nil))
 (.seq (.for_ (.one 9) (.r1 (.var 4)) b_law7_2)
 (.seq (.ife (.cmp .ne (.call .heaviest (.cons (.var 3) (.cons (.var 4) (.cons (.var 5) (.cons (.var 6) .nil))))) (.bi .tuple (.cons (.var 8) .nil))) (.seq (.ret (.bl false))
 .skip) .skip)
 (.seq (.for_ (.one 15) (.cons (.tup (.cons (.int 0) (.cons (.int 1) .nil))) .nil) b_law7_3)
 .skip))))))))))
def d_law7 : Def := ⟨1, ["_law_script", "_law_cell_here", "_law_game_here", "_law_field_here", "_law_guards", "_law_mine", "_law_yours", "_law_here", "_law_due", "_law_k", "_law_left", "_law_point", "_law_best", "_law_some", "_law_line", "_law_first", "_law_begins", "_law_one", "_law_good", "_law_told"],
 (.seq (.for_ (.one 1) (.cons (.slc (.var 0) .nil (.cons (.int 4) .nil)) .nil) b_law7_4)
 (.seq (.ret (.bl true))
 .skip))⟩
def c_l_safe8_1 : C := (.cons (.cmp .notin (.var 5) (.bin .add (.var 1) (.var 2))) .nil)
def c_l_safe8_2 : C := (.var 5)
def c_l_safe8_3 : C := (.cons (.cmp .notin (.var 5) (.var 4)) .nil)
def b_l_safe8_1 : S := (.seq (.ife (.not (.call .l_safe8 (.cons (.var 0) (.cons (.bi .tuple (.cons (.bi .sorted (.cons (.bin .add (.var 1) (.tup (.cons (.var 5) .nil))) .nil)) .nil)) (.cons (.var 2) (.cons (.int 1) .nil)))))) (.seq (.ret (.bl false))
 .skip) .skip)
 .skip)
def d_l_safe8 : Def := ⟨4, ["_law_game_here", "_law_mine", "_law_yours", "_law_whose", "_law_left", "_law_point", "_law_more"],
 (.seq (.ife (.cmp .eq (.call .l_over (.cons (.var 0) (.cons (.var 1) (.cons (.var 2) .nil)))) (.int 0)) (.seq (.ret (.bl false))
 .skip) .skip)
 (.seq (.asg 4 (.lc [5] (.one 5) (.r1 (.idx (.idx (.var 0) (.int 0)) (.int 0))) c_l_safe8_1 c_l_safe8_2))
 (.seq (.ife (.cmp .eq (.var 3) (.int 1)) (.seq (.asg 6 (.call .heaviest (.cons (.idx (.var 0) (.int 0)) (.cons (.idx (.var 0) (.int 3)) (.cons (.var 1) (.cons (.var 2) .nil))))))
 (.seq (.ife (.or (.cmp .ne (.lset (.var 6)) (.bi .min2 (.cons (.idx (.var 0) (.int 3)) (.cons (.bi .len (.cons (.var 4) .nil)) .nil)))) (.lc [5] (.one 5) (.cons (.var 6) .nil) c_l_safe8_3 c_l_safe8_2)) (.seq (.ret (.bl false))
 .skip) .skip)
 (.seq (.ret (.or (.not (.var 4)) (.call .l_safe8 (.cons (.var 0) (.cons (.var 1) (.cons (.bi .tuple (.cons (.bi .sorted (.cons (.bin .add (.var 2) (.var 6)) .nil)) .nil)) (.cons (.int 0) .nil)))))))
 .skip))) .skip)
 (.seq (.for_ (.one 5) (.cons (.var 4) .nil) b_l_safe8_1)
 (.seq (.ret (.bl true))
 .skip)))))⟩
def c_law8_1 : C := (.cons (.cmp .gt (.bi .len (.cons (.var 4) .nil)) (.int 1)) .nil)
def c_law8_2 : C := (.var 4)
def b_law8_1 : S := (.seq (.asg 6 (.tup (.cons (.tup (.cons (.idx (.var 2) (.int 0)) (.cons (.var 3) .nil))) (.cons (.var 5) (.cons (.int 1) (.cons (.bin .add (.int 1) (.call .l_mix (.cons (.var 1) (.cons (.int 9887) (.cons (.int 3) .nil))))) .nil))))))
 (.seq (.asg 7 (.call .is_safe (.cons (.var 6) .nil)))
 (.seq (.ife (.and (.var 7) (.not (.call .l_safe8 (.cons (.var 6) (.cons (.tup .nil) (.cons (.tup .nil) (.cons (.var 5) .nil))))))) (.seq (.ret (.bl false))
 .skip) .skip)
 (.seq (.ife (.and (.cmp .lt (.idx (.var 2) (.int 0)) (.int 7)) (.and (.var 7) (.cmp .ne (.call .winner (.cons (.var 6) .nil)) (.int 1)))) (.seq (.ret (.bl false))
 .skip) .skip)
 .skip))))
def b_law8_2 : S := (.seq (.asg 2 (.call .l_field (.cons (.bin .add (.bin .mul (.int 3) (.var 1)) (.int 1)) (.cons (.int 1) (.cons (.int 6) (.cons (.int 8) .nil))))))
 (.seq (.ife (.cmp .eq (.bin .mod (.var 1) (.int 5)) (.int 0)) (.seq (.asg 2 (.call .l_field (.cons (.bin .add (.bin .mul (.int 3) (.var 1)) (.int 2)) (.cons (.int 7) (.cons (.int 7) (.cons (.int 4) .nil))))))
 .skip) .skip)
 (.seq (.asg 3 (.bi .tuple (.cons (.lc [4] (.one 4) (.cons (.idx (.var 2) (.int 1)) .nil) c_law8_1 c_law8_2) .nil)))
 (.seq (.for_ (.one 5) (.cons (.tup (.cons (.int 0) (.cons (.int 1) .nil))) .nil) b_law8_1)
 .skip))))
def d_law8 : Def := ⟨1, ["_law_script", "_law_cell_here", "_law_field_here", "_law_lines", "_law_line", "_law_first", "_law_game_here", "_law_told"],
 (.seq (.for_ (.one 1) (.cons (.slc (.var 0) .nil (.cons (.int 2) .nil)) .nil) b_law8_2)
 (.seq (.ret (.bl true))
 .skip))⟩
def b_all_sets_1 : S := (.seq (.ext 1 (.call .choose (.cons (.lrng (.var 0)) (.cons (.var 2) .nil))))
 .skip)
def d_all_sets : Def := ⟨1, ["many", "found", "size"],
 (.seq (.asgF 1 (.lst .nil))
 (.seq (.for_ (.one 2) (.r1 (.bin .add (.var 0) (.int 1))) b_all_sets_1)
 (.seq (.ret (.var 1))
 .skip)))⟩
def c_head_start_1 : C := (.cons (.cmp .eq (.meth .s_winner (.var 1) (.cons (.var 2) (.cons (.tup .nil) (.cons (.idx (.var 0) (.int 1)) .nil)))) (.int 0)) .nil)
def c_head_start_2 : C := (.var 2)
def d_head_start : Def := ⟨1, ["game", "solver", "some"],
 (.seq (.ife (.not (.idx (.idx (.var 0) (.int 0)) (.int 1))) (.seq (.ret .non)
 .skip) .skip)
 (.seq (.asg 1 (.slvr (.var 0)))
 (.seq (.ret (.idx (.lc [2] (.one 2) (.cons (.call .all_sets (.cons (.idx (.idx (.var 0) (.int 0)) (.int 0)) .nil)) .nil) c_head_start_1 c_head_start_2) (.int 0)))
 .skip)))⟩
def c_curb_1 : C := (.cons (.cmp .eq (.meth .s_winner (.var 1) (.cons (.tup .nil) (.cons (.var 2) (.cons (.idx (.var 0) (.int 1)) .nil)))) (.int 1)) .nil)
def c_curb_2 : C := (.var 2)
def d_curb : Def := ⟨1, ["game", "solver", "some"],
 (.seq (.asg 1 (.slvr (.var 0)))
 (.seq (.ret (.idx (.lc [2] (.one 2) (.cons (.call .all_sets (.cons (.idx (.idx (.var 0) (.int 0)) (.int 0)) .nil)) .nil) c_curb_1 c_curb_2) (.int 0)))
 .skip))⟩
def c_cover_1 : C := (.cmp .isin (.var 2) (.var 1))
def c_cover_2 : C := (.bi .any (.cons (.lc [2] (.one 2) (.cons (.var 3) .nil) .nil c_cover_1) .nil))
def b_cover_1 : S := (.seq (.ife (.bi .all (.cons (.lc [3] (.one 3) (.cons (.idx (.var 0) (.int 1)) .nil) .nil c_cover_2) .nil)) (.seq (.ret (.var 1))
 .skip) .skip)
 .skip)
def d_cover : Def := ⟨1, ["field", "some", "point", "line"],
 (.seq (.for_ (.one 1) (.cons (.call .all_sets (.cons (.idx (.var 0) (.int 0)) .nil)) .nil) b_cover_1)
 (.seq (.ret .non)
 .skip))⟩
def c_l_sets_1 : C := (.cons (.cmp .eq (.bin .band (.bin .shr (.var 2) (.var 3)) (.int 1)) (.int 1)) .nil)
def c_l_sets_2 : C := (.var 3)
def b_l_sets_1 : S := (.seq (.app 1 (.bi .tuple (.cons (.lc [3] (.one 3) (.r1 (.var 0)) c_l_sets_1 c_l_sets_2) .nil)))
 .skip)
def c_l_sets_3 : C := (.tup (.cons (.bi .len (.cons (.var 5) .nil)) (.cons (.var 5) .nil)))
def c_l_sets_4 : C := (.var 5)
def d_l_sets : Def := ⟨1, ["_law_many", "_law_found", "_law_number", "_law_point", "_law_size", "_law_some"],
 (.seq (.asgF 1 (.lst .nil))
 (.seq (.for_ (.one 2) (.r1 (.bin .shl (.int 1) (.var 0))) b_l_sets_1)
 (.seq (.ret (.lc [4, 5] (.many [4, 5]) (.cons (.bi .sorted (.cons (.lc [5] (.one 5) (.cons (.var 1) .nil) .nil c_l_sets_3) .nil)) .nil) .nil c_l_sets_4))
 .skip)))⟩
def c_law9_1 : C := (.cons (.and (.idx (.var 3) (.int 1)) (.cmp .eq (.call .winner_from (.cons (.var 2) (.cons (.var 6) (.cons (.tup .nil) (.cons (.idx (.var 2) (.int 1)) .nil))))) (.int 0))) .nil)
def c_law9_2 : C := (.var 6)
def c_law9_3 : C := (.cons (.cmp .eq (.call .winner_from (.cons (.var 2) (.cons (.tup .nil) (.cons (.var 6) (.cons (.idx (.var 2) (.int 1)) .nil))))) (.int 1)) .nil)
def c_law9_4 : C := (.cons (.cmp .isin (.var 10) (.var 6)) .nil)
def c_law9_5 : C := (.var 10)
def c_law9_6 : C := (.cons (.not (.lc [10] (.one 10) (.cons (.var 9) .nil) c_law9_4 c_law9_5)) .nil)
def c_law9_7 : C := (.var 9)
def b_law9_1 : S := (.seq (.ife (.not (.lc [9] (.one 9) (.cons (.idx (.var 3) (.int 1)) .nil) c_law9_6 c_law9_7)) (.seq (.app 8 (.var 6))
 .skip) .skip)
 .skip)
def b_law9_2 : S := (.seq (.asg 2 (.call .l_game (.cons (.var 1) (.cons (.int 1) (.cons (.int 5) (.cons (.int 6) .nil))))))
 (.seq (.asg 3 (.idx (.var 2) (.int 0)))
 (.seq (.asg 4 (.call .l_sets (.cons (.idx (.var 3) (.int 0)) .nil)))
 (.seq (.asg 5 (.bin .add (.lc [6] (.one 6) (.cons (.var 4) .nil) c_law9_1 c_law9_2) (.lst (.cons .non .nil))))
 (.seq (.ife (.or (.cmp .ne (.call .head_start (.cons (.var 2) .nil)) (.idx (.var 5) (.int 0))) (.cmp .ne (.cmp .eq (.idx (.var 5) (.int 0)) (.tup .nil)) (.cmp .eq (.call .winner (.cons (.var 2) .nil)) (.int 0)))) (.seq (.ret (.bl false))
 .skip) .skip)
 (.seq (.asg 7 (.lc [6] (.one 6) (.cons (.var 4) .nil) c_law9_3 c_law9_2))
 (.seq (.ife (.or (.cmp .ne (.call .curb (.cons (.var 2) .nil)) (.idx (.var 7) (.int 0))) (.cmp .ne (.cmp .eq (.idx (.var 7) (.int 0)) (.tup .nil)) (.cmp .eq (.call .winner (.cons (.var 2) .nil)) (.int 1)))) (.seq (.ret (.bl false))
 .skip) .skip)
 (.seq (.asgF 8 (.lst .nil))
 (.seq (.for_ (.one 6) (.cons (.var 4) .nil) b_law9_1)
 (.seq (.ife (.or (.cmp .ne (.call .cover (.cons (.var 3) .nil)) (.idx (.var 8) (.int 0))) (.or (.cmp .gt (.bi .len (.cons (.call .curb (.cons (.var 2) .nil)) .nil)) (.bi .len (.cons (.idx (.var 8) (.int 0)) .nil))) (.cmp .ne (.call .decided (.cons (.var 2) (.cons (.tup .nil) (.cons (.idx (.var 8) (.int 0)) .nil)))) (.int 1)))) (.seq (.ret (.bl false))
 .skip) .skip)
 .skip))))))))))
def d_law9 : Def := ⟨1, ["_law_script", "_law_cell_here", "_law_game_here", "_law_field_here", "_law_some", "_law_due", "_law_one", "_law_wish", "_law_covers", "_law_line", "_law_point"],
 (.seq (.for_ (.one 1) (.cons (.slc (.var 0) .nil (.cons (.int 2) .nil)) .nil) b_law9_2)
 (.seq (.ret (.bl true))
 .skip))⟩
def d_sorted_lines : Def := ⟨1, ["lines"],
 (.seq (.ret (.bi .tuple (.cons (.sset (.var 0)) .nil)))
 .skip)⟩
def d_with_line : Def := ⟨2, ["field", "line"],
 (.seq (.ret (.tup (.cons (.idx (.var 0) (.int 0)) (.cons (.call .sorted_lines (.cons (.bin .add (.idx (.var 0) (.int 1)) (.tup (.cons (.var 1) .nil))) .nil)) .nil))))
 .skip)⟩
def c_without_point_1 : C := (.cons (.cmp .notin (.var 1) (.var 2)) .nil)
def c_without_point_2 : C := (.var 2)
def d_without_point : Def := ⟨2, ["field", "point", "line"],
 (.seq (.ret (.tup (.cons (.idx (.var 0) (.int 0)) (.cons (.bi .tuple (.cons (.lc [2] (.one 2) (.cons (.idx (.var 0) (.int 1)) .nil) c_without_point_1 c_without_point_2) .nil)) .nil))))
 .skip)⟩
def c_renamed_1 : C := (.idx (.var 1) (.var 3))
def c_renamed_2 : C := (.bi .tuple (.cons (.bi .sorted (.cons (.lc [3] (.one 3) (.cons (.var 4) .nil) .nil c_renamed_1) .nil)) .nil))
def d_renamed : Def := ⟨2, ["field", "numbers", "lines", "point", "line"],
 (.seq (.asg 2 (.lc [4] (.one 4) (.cons (.idx (.var 0) (.int 1)) .nil) .nil c_renamed_2))
 (.seq (.ret (.tup (.cons (.idx (.var 0) (.int 0)) (.cons (.call .sorted_lines (.cons (.var 2) .nil)) .nil))))
 .skip))⟩
def c_essential_1 : C := (.cmp .isin (.var 3) (.var 2))
def c_essential_2 : C := (.and (.cmp .ne (.var 4) (.var 2)) (.bi .all (.cons (.lc [3] (.one 3) (.cons (.var 4) .nil) .nil c_essential_1) .nil)))
def b_essential_1 : S := (.seq (.ife (.not (.bi .any (.cons (.lc [4] (.one 4) (.cons (.idx (.var 0) (.int 1)) .nil) .nil c_essential_2) .nil))) (.seq (.app 1 (.var 2))
 .skip) .skip)
 .skip)
def d_essential : Def := ⟨1, ["field", "found", "line", "point", "other"],
 (.seq (.asgF 1 (.lst .nil))
 (.seq (.for_ (.one 2) (.cons (.idx (.var 0) (.int 1)) .nil) b_essential_1)
 (.seq (.ret (.tup (.cons (.idx (.var 0) (.int 0)) (.cons (.bi .tuple (.cons (.var 1) .nil)) .nil))))
 .skip)))⟩
def c_l_better_1 : C := (.cons (.cmp .notin (.var 6) (.var 10)) .nil)
def c_l_better_2 : C := (.var 10)
def c_l_better_3 : C := (.cons (.cmp .ne (.var 10) (.int 0)) .nil)
def c_l_better_4 : C := (.cons (.cmp .ne (.var 10) (.int 1)) .nil)
def d_l_better : Def := ⟨2, ["_law_game_here", "_law_cell_here", "_law_field_here", "_law_first", "_law_builds", "_law_guards", "_law_point", "_law_line", "_law_more", "_law_fewer", "_law_one", "_law_some"],
 (.seq (.unp [2, 3, 4, 5] (.var 0))
 (.seq (.asg 6 (.call .l_mix (.cons (.var 1) (.cons (.int 9883) (.cons (.idx (.var 2) (.int 0)) .nil)))))
 (.seq (.asg 7 (.bi .tuple (.cons (.sset (.lst (.cons (.var 6) (.cons (.call .l_mix (.cons (.var 1) (.cons (.int 9871) (.cons (.idx (.var 2) (.int 0)) .nil)))) .nil)))) .nil)))
 (.seq (.asg 8 (.call .with_line (.cons (.var 2) (.cons (.var 7) .nil))))
 (.seq (.asg 9 (.call .without_point (.cons (.var 2) (.cons (.var 6) .nil))))
 (.seq (.ife (.cmp .ne (.var 8) (.tup (.cons (.idx (.var 2) (.int 0)) (.cons (.bi .tuple (.cons (.sset (.bin .add (.idx (.var 2) (.int 1)) (.tup (.cons (.var 7) .nil)))) .nil)) .nil)))) (.seq (.ret (.bl false))
 .skip) .skip)
 (.seq (.ife (.cmp .ne (.var 9) (.tup (.cons (.idx (.var 2) (.int 0)) (.cons (.bi .tuple (.cons (.lc [10] (.one 10) (.cons (.idx (.var 2) (.int 1)) .nil) c_l_better_1 c_l_better_2) .nil)) .nil)))) (.seq (.ret (.bl false))
 .skip) .skip)
 (.seq (.ife (.cmp .eq (.call .winner (.cons (.var 0) .nil)) (.int 0)) (.seq (.asgF 11 (.lst (.cons (.call .winner (.cons (.tup (.cons (.var 8) (.cons (.var 3) (.cons (.var 4) (.cons (.var 5) .nil))))) .nil)) (.cons (.call .winner (.cons (.tup (.cons (.var 2) (.cons (.int 0) (.cons (.var 4) (.cons (.var 5) .nil))))) .nil)) .nil))))
 (.seq (.frz 11)
 (.seq (.asgF 11 (.bin .add (.var 11) (.lst (.cons (.call .winner (.cons (.tup (.cons (.var 2) (.cons (.var 3) (.cons (.bin .add (.var 4) (.int 1)) (.cons (.var 5) .nil))))) .nil)) (.cons (.call .winner_from (.cons (.var 0) (.cons (.tup (.cons (.var 6) .nil)) (.cons (.tup .nil) (.cons (.var 3) .nil))))) .nil)))))
 (.seq (.app 11 (.call .winner (.cons (.tup (.cons (.var 2) (.cons (.var 3) (.cons (.var 4) (.cons (.bi .max2 (.cons (.int 1) (.cons (.bin .sub (.var 5) (.int 1)) .nil))) .nil))))) .nil)))
 (.seq (.ret (.cmp .eq (.lc [10] (.one 10) (.cons (.var 11) .nil) c_l_better_3 c_l_better_2) (.lst .nil)))
 .skip))))) .skip)
 (.seq (.asgF 11 (.lst (.cons (.call .winner (.cons (.tup (.cons (.var 9) (.cons (.var 3) (.cons (.var 4) (.cons (.var 5) .nil))))) .nil)) (.cons (.call .winner (.cons (.tup (.cons (.var 2) (.cons (.int 1) (.cons (.var 4) (.cons (.var 5) .nil))))) .nil)) .nil))))
 (.seq (.frz 11)
 (.seq (.asgF 11 (.bin .add (.var 11) (.lst (.cons (.call .winner (.cons (.tup (.cons (.var 2) (.cons (.var 3) (.cons (.var 4) (.cons (.bin .add (.var 5) (.int 1)) .nil))))) .nil)) (.cons (.call .winner_from (.cons (.var 0) (.cons (.tup .nil) (.cons (.tup (.cons (.var 6) .nil)) (.cons (.var 3) .nil))))) .nil)))))
 (.seq (.app 11 (.call .winner (.cons (.tup (.cons (.var 2) (.cons (.var 3) (.cons (.bi .max2 (.cons (.int 1) (.cons (.bin .sub (.var 4) (.int 1)) .nil))) (.cons (.var 5) .nil))))) .nil)))
 (.seq (.ret (.cmp .eq (.lc [10] (.one 10) (.cons (.var 11) .nil) c_l_better_4 c_l_better_2) (.lst .nil)))
 .skip)))))))))))))⟩
def c_law10_1 : C := (.call .l_mix (.cons (.bin .add (.var 1) (.bin .mul (.int 5) (.var 6))) (.cons (.int 9869) (.cons (.bi .len (.cons (.var 4) .nil)) .nil))))
def c_law10_2 : C := (.idx (.var 5) (.var 9))
def c_law10_3 : C := (.bi .tuple (.cons (.bi .sorted (.cons (.lc [9] (.one 9) (.cons (.var 10) .nil) .nil c_law10_2) .nil)) .nil))
def c_law10_4 : C := (.cons (.cmp .notin (.var 9) (.var 10)) .nil)
def c_law10_5 : C := (.var 9)
def b_law10_1 : S := (.seq (.ife (.and (.cmp .ne (.var 13) (.var 10)) (.not (.lc [9] (.one 9) (.cons (.var 13) .nil) c_law10_4 c_law10_5))) (.seq (.app 12 (.var 13))
 .skip) .skip)
 .skip)
def b_law10_2 : S := (.seq (.asgF 12 (.lst .nil))
 (.seq (.for_ (.one 13) (.cons (.idx (.var 3) (.int 1)) .nil) b_law10_1)
 (.seq (.frz 12)
 (.seq (.asg 11 (.bin .add (.var 11) (.bin .mul (.lst (.cons (.var 10) .nil)) (.bi .int (.cons (.not (.var 12)) .nil)))))
 .skip))))
def b_law10_3 : S := (.seq (.ife (.cmp .ne (.call .winner (.cons (.bin .add (.tup (.cons (.var 14) .nil)) (.slc (.var 2) (.cons (.int 1) .nil) .nil)) .nil)) (.call .winner (.cons (.var 2) .nil))) (.seq (.ret (.bl false))
 .skip) .skip)
 .skip)
def b_law10_4 : S := (.seq (.asg 2 (.call .l_game (.cons (.var 1) (.cons (.int 1) (.cons (.int 5) (.cons (.int 5) .nil))))))
 (.seq (.asg 3 (.idx (.var 2) (.int 0)))
 (.seq (.asgF 4 (.lrng (.idx (.var 3) (.int 0))))
 (.seq (.pops true 5 4 [6] (.one 6) (.r1 (.idx (.var 3) (.int 0))) c_law10_1)
 (.seq (.asg 7 (.call .renamed (.cons (.var 3) (.cons (.var 5) .nil))))
 (.seq (.asg 8 (.lc [10] (.one 10) (.cons (.idx (.var 3) (.int 1)) .nil) .nil c_law10_3))
 (.seq (.ife (.cmp .ne (.var 7) (.tup (.cons (.idx (.var 3) (.int 0)) (.cons (.bi .tuple (.cons (.bi .sorted (.cons (.var 8) .nil)) .nil)) .nil)))) (.seq (.ret (.bl false))
 .skip) .skip)
 (.seq (.asg 11 (.lst .nil))
 (.seq (.for_ (.one 10) (.cons (.idx (.var 3) (.int 1)) .nil) b_law10_2)
 (.seq (.ife (.cmp .ne (.call .essential (.cons (.var 3) .nil)) (.tup (.cons (.idx (.var 3) (.int 0)) (.cons (.bi .tuple (.cons (.var 11) .nil)) .nil)))) (.seq (.ret (.bl false))
 .skip) .skip)
 (.seq (.for_ (.one 14) (.cons (.lst (.cons (.var 7) (.cons (.call .essential (.cons (.var 3) .nil)) .nil))) .nil) b_law10_3)
 (.seq (.ife (.not (.call .l_better (.cons (.var 2) (.cons (.bin .fdiv (.var 1) (.int 7)) .nil)))) (.seq (.ret (.bl false))
 .skip) .skip)
 .skip))))))))))))
def d_law10 : Def := ⟨1, ["_law_script", "_law_cell_here", "_law_game_here", "_law_field_here", "_law_left", "_law_numbers", "_law_k", "_law_other", "_law_lines", "_law_point", "_law_line", "_law_few", "_law_inner", "_law_one", "_law_same"],
 (.seq (.for_ (.one 1) (.cons (.slc (.var 0) .nil (.cons (.int 3) .nil)) .nil) b_law10_4)
 (.seq (.ret (.bl true))
 .skip))⟩
def c_beside_1 : C := (.bin .add (.var 3) (.idx (.var 0) (.int 0)))
def c_beside_2 : C := (.bi .tuple (.cons (.lc [3] (.one 3) (.cons (.var 4) .nil) .nil c_beside_1) .nil))
def d_beside : Def := ⟨2, ["one", "other", "more", "point", "line"],
 (.seq (.asg 2 (.bi .tuple (.cons (.lc [4] (.one 4) (.cons (.idx (.var 1) (.int 1)) .nil) .nil c_beside_2) .nil)))
 (.seq (.ret (.tup (.cons (.bin .add (.idx (.var 0) (.int 0)) (.idx (.var 1) (.int 0))) (.cons (.call .sorted_lines (.cons (.bin .add (.idx (.var 0) (.int 1)) (.var 2)) .nil)) .nil))))
 .skip))⟩
def c_law11_1 : C := (.bin .add (.var 7) (.idx (.var 2) (.int 0)))
def b_law11_1 : S := (.seq (.app 5 (.bi .tuple (.cons (.lc [7] (.one 7) (.cons (.var 6) .nil) .nil c_law11_1) .nil)))
 .skip)
def b_law11_2 : S := (.seq (.ife (.and (.cmp .eq (.call .winner (.cons (.tup (.cons (.var 10) (.cons (.int 1) (.cons (.int 1) (.cons (.int 1) .nil))))) .nil)) (.int 1)) (.and (.cmp .eq (.call .winner (.cons (.tup (.cons (.var 11) (.cons (.int 0) (.cons (.int 1) (.cons (.int 1) .nil))))) .nil)) (.int 1)) (.cmp .ne (.var 8) (.int 1)))) (.seq (.ret (.bl false))
 .skip) .skip)
 .skip)
def b_law11_3 : S := (.seq (.asg 2 (.call .l_field (.cons (.call .l_cell (.cons (.var 0) (.cons (.bin .mul (.int 2) (.var 1)) .nil))) (.cons (.int 1) (.cons (.int 3) (.cons (.int 4) .nil))))))
 (.seq (.asg 3 (.call .l_field (.cons (.call .l_cell (.cons (.var 0) (.cons (.bin .add (.bin .mul (.int 2) (.var 1)) (.int 1)) .nil))) (.cons (.int 1) (.cons (.int 3) (.cons (.int 4) .nil))))))
 (.seq (.asg 4 (.call .beside (.cons (.var 2) (.cons (.var 3) .nil))))
 (.seq (.asgF 5 (.bi .list (.cons (.idx (.var 2) (.int 1)) .nil)))
 (.seq (.for_ (.one 6) (.cons (.idx (.var 3) (.int 1)) .nil) b_law11_1)
 (.seq (.ife (.cmp .ne (.var 4) (.tup (.cons (.bin .add (.idx (.var 2) (.int 0)) (.idx (.var 3) (.int 0))) (.cons (.bi .tuple (.cons (.bi .sorted (.cons (.var 5) .nil)) .nil)) .nil)))) (.seq (.ret (.bl false))
 .skip) .skip)
 (.seq (.asg 8 (.call .winner (.cons (.tup (.cons (.var 4) (.cons (.int 0) (.cons (.int 1) (.cons (.int 1) .nil))))) .nil)))
 (.seq (.asg 9 (.bi .min2 (.cons (.call .winner (.cons (.tup (.cons (.var 2) (.cons (.int 0) (.cons (.int 1) (.cons (.int 1) .nil))))) .nil)) (.cons (.call .winner (.cons (.tup (.cons (.var 3) (.cons (.int 0) (.cons (.int 1) (.cons (.int 1) .nil))))) .nil)) .nil))))
 (.seq (.ife (.cmp .ne (.var 8) (.var 9)) (.seq (.ret (.bl false))
 .skip) .skip)
 (.seq (.asg 8 (.call .winner (.cons (.tup (.cons (.var 4) (.cons (.int 1) (.cons (.int 1) (.cons (.int 1) .nil))))) .nil)))
 (.seq (.for_ (.many [10, 11]) (.cons (.lst (.cons (.tup (.cons (.var 2) (.cons (.var 3) .nil))) (.cons (.tup (.cons (.var 3) (.cons (.var 2) .nil))) .nil))) .nil) b_law11_2)
 .skip)))))))))))
def d_law11 : Def := ⟨1, ["_law_script", "_law_k", "_law_one", "_law_other", "_law_both", "_law_lines", "_law_line", "_law_point", "_law_told", "_law_due", "_law_mine", "_law_yours"],
 (.seq (.for_ (.one 1) (.r1 (.int 3)) b_law11_3)
 (.seq (.ret (.bl true))
 .skip))⟩
def tab : Fn → Option Entry
  | .is_number => some (.code d_is_number)
  | .is_rising => some (.code d_is_rising)
  | .is_line => some (.code d_is_line)
  | .is_field => some (.code d_is_field)
  | .is_game => some (.code d_is_game)
  | .l_cell => some (.code d_l_cell)
  | .l_mix => some (.code d_l_mix)
  | .l_field => some (.code d_l_field)
  | .l_game => some (.code d_l_game)
  | .l_position => some (.code d_l_position)
  | .l_bad_field => some (.code d_l_bad_field)
  | .l_bad_game => some (.code d_l_bad_game)
  | .law1 => some (.code d_law1)
  | .written => some (.code d_written)
  | .figure => some (.code d_figure)
  | .read => some (.code d_read)
  | .l_text => some (.code d_l_text)
  | .l_spoilt2 => some (.code d_l_spoilt2)
  | .law2 => some (.code d_law2)
  | .choose => some (.code d_choose)
  | .free_points => some (.code d_free_points)
  | .claims => some (.code d_claims)
  | .added => some (.code d_added)
  | .claimed => some (.code d_claimed)
  | .decided => some (.code d_decided)
  | .l_over => some (.code d_l_over)
  | .l_claims => some (.code d_l_claims)
  | .l_put => some (.code d_l_put)
  | .law3 => some (.code d_law3)
  | .s_winner => some (.code d_s_winner)
  | .s_good => some (.code d_s_good)
  | .s_behind => some (.code d_s_behind)
  | .winner_from => some (.code d_winner_from)
  | .winner => some (.code d_winner)
  | .good_claims => some (.code d_good_claims)
  | .l_winner => some (.code d_l_winner)
  | .l_whole => some (.code d_l_whole)
  | .law4 => some (.code d_law4)
  | .behind => some (.code d_behind)
  | .grown => some (.code d_grown)
  | .tree_for => some (.code d_tree_for)
  | .fits => some (.code d_fits)
  | .is_one_of => some (.code d_is_one_of)
  | .is_tree => some (.code d_is_tree)
  | .l_is_tree => some (.code d_l_is_tree)
  | .l_spoilt5 => some (.code d_l_spoilt5)
  | .law5 => some (.code d_law5)
  | .holds_pair => some (.code d_holds_pair)
  | .points_of => some (.code d_points_of)
  | .search => some (.code d_search)
  | .pairing => some (.code d_pairing)
  | .is_pairing => some (.code d_is_pairing)
  | .partner => some (.code d_partner)
  | .reply => some (.code d_reply)
  | .l_holds => some (.code d_l_holds)
  | .l_is_pairing => some (.code d_l_is_pairing)
  | .l_all => some (.code d_l_all)
  | .l_safe6 => some (.code d_l_safe6)
  | .law6 => some (.code d_law6)
  | .common => some (.code d_common)
  | .power => some (.code d_power)
  | .weight => some (.code d_weight)
  | .parts => some (.code d_parts)
  | .as_fraction => some (.code d_as_fraction)
  | .danger => some (.code d_danger)
  | .pull => some (.code d_pull)
  | .heaviest => some (.code d_heaviest)
  | .is_safe => some (.code d_is_safe)
  | .l_fraction => some (.code d_l_fraction)
  | .l_weights => some (.code d_l_weights)
  | .law7 => some (.code d_law7)
  | .l_safe8 => some (.code d_l_safe8)
  | .law8 => some (.code d_law8)
  | .all_sets => some (.code d_all_sets)
  | .head_start => some (.code d_head_start)
  | .curb => some (.code d_curb)
  | .cover => some (.code d_cover)
  | .l_sets => some (.code d_l_sets)
  | .law9 => some (.code d_law9)
  | .sorted_lines => some (.code d_sorted_lines)
  | .with_line => some (.code d_with_line)
  | .without_point => some (.code d_without_point)
  | .renamed => some (.code d_renamed)
  | .essential => some (.code d_essential)
  | .l_better => some (.code d_l_better)
  | .law10 => some (.code d_law10)
  | .beside => some (.code d_beside)
  | .law11 => some (.code d_law11)
  | .l_read => some (.hand fun F ds => match F .read ds with | .ok d => .ok d | .exc n => if n = 0 then .ok .non else .bad | .bad => .bad)
  | .l_refused => some (.hand fun F ds => match F .claimed ds with | .ok _ => .ok (.bl false) | .exc n => if n = 1 then .ok (.bl true) else .bad | .bad => .bad)
end FC

/-! What a value stands for in the abstract heap; what stays. -/
set_option autoImplicit false
set_option linter.all false
set_option maxRecDepth 100000
set_option Elab.async false
namespace FC
open PySem L2

/-- the program and world; the solver's class; the refusals' classes; what a remembered answer is -/
structure PCx where
  P : Program
  w : World
  K : PySem.W.Frag
  C : Addr
  xc : Nat → Addr
  V : Bool → D → List Int → List Int → Int → Int → Prop

/-! ### games as numbers -/
mutual
def enc : D → List Nat
  | .int i => 1 :: (List.replicate i.toNat 2 ++ (List.replicate (-i).toNat 3 ++ [0]))
  | .tup xs => 4 :: encs xs
  | _ => [7]
def encs : List D → List Nat
  | [] => [5]
  | x :: xs => 6 :: (enc x ++ encs xs)
end
theorem rep_inj {v : Nat} : ∀ {m n : Nat} {r t : List Nat}, (∀ x ∈ r.head?, x ≠ v) → (∀ x ∈ t.head?, x ≠ v) → List.replicate m v ++ r = List.replicate n v ++ t → m = n ∧ r = t
  | 0, 0, r, t, _, _, h => ⟨rfl, by simpa using h⟩
  | 0, n + 1, r, t, h1, _, h => by
    rw [List.replicate_zero, List.nil_append, List.replicate_succ, List.cons_append] at h
    rw [h] at h1
    exact absurd rfl (h1 v (by simp))
  | m + 1, 0, r, t, _, h2, h => by
    rw [List.replicate_zero, List.nil_append, List.replicate_succ, List.cons_append] at h
    rw [← h] at h2
    exact absurd rfl (h2 v (by simp))
  | m + 1, n + 1, r, t, h1, h2, h => by
    rw [List.replicate_succ, List.replicate_succ, List.cons_append, List.cons_append] at h
    obtain ⟨e1, e2⟩ := rep_inj (m := m) (n := n) h1 h2 (List.cons.inj h).2
    exact ⟨by rw [e1], e2⟩
theorem int_of_nats {i j : Int} (h1 : i.toNat = j.toNat) (h2 : (-i).toNat = (-j).toNat) : i = j := by omega
theorem head_rep {n : Nat} {v : Nat} {u : Nat} {r : List Nat} (hv : v ≠ u) (h : ∀ x ∈ r.head?, x ≠ u) : ∀ x ∈ (List.replicate n v ++ r).head?, x ≠ u := by
  cases n with
  | zero => simpa using h
  | succ n =>
    intro x hx
    rw [List.replicate_succ, List.cons_append, List.head?_cons] at hx
    cases hx
    exact hv
mutual
theorem enc_inj : ∀ {x y : D} {r t : List Nat}, cod x = true → cod y = true → enc x ++ r = enc y ++ t → x = y ∧ r = t
  | .int i, y, r, t, _, hy, h => by
    cases y with
    | int j =>
      rw [enc, enc, List.cons_append, List.cons_append] at h
      have h := (List.cons.inj h).2
      simp only [List.append_assoc] at h
      obtain ⟨e1, h⟩ := rep_inj (v := 2) (r := List.replicate (-i).toNat 3 ++ ([0] ++ r)) (t := List.replicate (-j).toNat 3 ++ ([0] ++ t)) (head_rep (by decide) (by simp)) (head_rep (by decide) (by simp)) h
      obtain ⟨e2, h⟩ := rep_inj (v := 3) (r := [0] ++ r) (t := [0] ++ t) (by simp) (by simp) h
      exact ⟨by rw [int_of_nats e1 e2], by simpa using h⟩
    | tup ys =>
      rw [enc, enc, List.cons_append, List.cons_append] at h
      exact absurd (List.cons.inj h).1 (by decide)
    | _ => simp [cod] at hy
  | .tup xs, y, r, t, hx, hy, h => by
    cases y with
    | int j =>
      rw [enc, enc, List.cons_append, List.cons_append] at h
      exact absurd (List.cons.inj h).1 (by decide)
    | tup ys =>
      rw [enc, enc, List.cons_append, List.cons_append] at h
      rw [cod] at hx hy
      obtain ⟨e1, e2⟩ := encs_inj hx hy (List.cons.inj h).2
      exact ⟨by rw [e1], e2⟩
    | _ => simp [cod] at hy
  | .non, _, _, _, hx, _, _ => by simp [cod] at hx
  | .bl _, _, _, _, hx, _, _ => by simp [cod] at hx
  | .str _, _, _, _, hx, _, _ => by simp [cod] at hx
  | .lst _, _, _, _, hx, _, _ => by simp [cod] at hx
  | .memo _ _, _, _, _, hx, _, _ => by simp [cod] at hx
  | .slv _, _, _, _, hx, _, _ => by simp [cod] at hx
  | .scr _, _, _, _, hx, _, _ => by simp [cod] at hx
theorem encs_inj : ∀ {x y : List D} {r t : List Nat}, cods x = true → cods y = true → encs x ++ r = encs y ++ t → x = y ∧ r = t
  | [], [], r, t, _, _, h => by
    rw [encs] at h
    exact ⟨rfl, by simpa using h⟩
  | [], y :: ys, r, t, _, _, h => by
    rw [encs, encs, List.cons_append, List.cons_append] at h
    exact absurd (List.cons.inj h).1 (by decide)
  | x :: xs, [], r, t, _, _, h => by
    rw [encs, encs, List.cons_append, List.cons_append] at h
    exact absurd (List.cons.inj h).1 (by decide)
  | x :: xs, y :: ys, r, t, hx, hy, h => by
    rw [cods, Bool.and_eq_true] at hx hy
    rw [encs, encs, List.cons_append, List.cons_append] at h
    have h := (List.cons.inj h).2
    rw [List.append_assoc, List.append_assoc] at h
    obtain ⟨e1, h⟩ := enc_inj hx.1 hy.1 h
    obtain ⟨e2, h⟩ := encs_inj hx.2 hy.2 h
    exact ⟨by rw [e1, e2], h⟩
end
/-- a list of numbers as a number -/
def numP : List Nat → Nat
  | [] => 1
  | x :: r => 2 ^ x * (2 * numP r + 1)
theorem pow_odd : ∀ {a b m n : Nat}, 2 ^ a * (2 * m + 1) = 2 ^ b * (2 * n + 1) → a = b ∧ m = n
  | 0, 0, m, n, h => ⟨rfl, by simp at h; omega⟩
  | 0, b + 1, m, n, h => by rw [Nat.pow_succ, Nat.mul_comm (2 ^ b) 2, Nat.mul_assoc] at h; omega
  | a + 1, 0, m, n, h => by rw [Nat.pow_succ, Nat.mul_comm (2 ^ a) 2, Nat.mul_assoc] at h; omega
  | a + 1, b + 1, m, n, h => by
    rw [Nat.pow_succ, Nat.pow_succ, Nat.mul_comm (2 ^ a) 2, Nat.mul_comm (2 ^ b) 2, Nat.mul_assoc, Nat.mul_assoc] at h
    obtain ⟨e1, e2⟩ := pow_odd (a := a) (b := b) (Nat.eq_of_mul_eq_mul_left (by decide) h)
    exact ⟨by rw [e1], e2⟩
theorem numP_pos : ∀ r : List Nat, 0 < numP r
  | [] => by rw [numP]; decide
  | x :: r => by rw [numP]; exact Nat.mul_pos (Nat.pow_pos (by decide)) (Nat.succ_pos _)
theorem numP_inj : ∀ {x y : List Nat}, x.length = y.length → numP x = numP y → x = y
  | [], [], _, _ => rfl
  | [], _ :: _, h, _ => by cases h
  | _ :: _, [], h, _ => by cases h
  | a :: x, b :: y, hl, h => by
    rw [numP, numP] at h
    obtain ⟨e1, e2⟩ := pow_odd h
    rw [e1, numP_inj (by simpa using hl) e2]
/-- whose and which game's a dict is -/
def tagN (b : Bool) (g : D) : Nat := numP [if b then 1 else 0, (enc g).length, numP (enc g)]
theorem tagN_inj {b b' : Bool} {g g' : D} (hg : cod g = true) (hg' : cod g' = true) (h : tagN b g = tagN b' g') : b = b' ∧ g = g' := by
  unfold tagN at h
  have e := numP_inj (by rfl) h
  injection e with e1 e2
  injection e2 with e2 e3
  injection e3 with e3 _
  have e4 := numP_inj e2 e3
  refine ⟨?_, (enc_inj (r := []) (t := []) hg hg' (by rw [e4])).1⟩
  cases b <;> cases b' <;> simp at e1 <;> rfl
theorem tagN_pos (b : Bool) (g : D) : 0 < tagN b g := numP_pos _

abbrev knd (c : PCx) : HeapKind c.P c.w NestedKey := nestedKind c.P c.w
def keyN (m y : List Int) (w : Int) : NestedKey := .tup [.tup (m.map .num), .tup (y.map .num), .num w]
structure Ent where
  m : List Int
  y : List Int
  w : Int
  v : Int
  tk : Tok
  a : Addr
  ma : Addr
  ya : Addr
def Ent.raw (e : Ent) : NestedKey × Addr × Value := (keyN e.m e.y e.w, e.a, .int e.v e.tk)
/-- a dict with a tag: nothing but its count of changes could tell of the tag -/
def memoO (c : PCx) (a : Addr) (t : Nat) (xs : List (NestedKey × Addr × Value)) : HO :=
  .ext fun h => ∃ o es ep, h.get? a = some o ∧ o.ExactDict ∧ o.data = .dict es ep ∧ es.toList = xs.map (entryOfKey (knd c)) ∧ (ep = xs.length ∨ ep = xs.length + t)
theorem memoO_both {c : PCx} {a : Addr} {t t' : Nat} {xs xs' : List (NestedKey × Addr × Value)} (h0 : 0 < t) (h : memoO c a t xs = memoO c a t' xs') : t = t' ∧ xs.map (entryOfKey (knd c)) = xs'.map (entryOfKey (knd c)) := by
  have hf := HO.ext.inj h
  let ob : Obj := { cls := .type "dict", data := .dict (xs.map (entryOfKey (knd c))).toArray (xs.length + t) }
  let hp : Heap := { objs := Array.replicate (a + 1) ob }
  have hg : hp.get? a = some ob := by
    unfold Heap.get?
    have : hp.objs[a]? = some ob := by
      show (Array.replicate (a + 1) ob)[a]? = some ob
      rw [Array.getElem?_replicate, if_pos (Nat.lt_succ_self a)]
    rw [this]
  have h1 : ∃ o es ep, hp.get? a = some o ∧ o.ExactDict ∧ o.data = .dict es ep ∧ es.toList = xs.map (entryOfKey (knd c)) ∧ (ep = xs.length ∨ ep = xs.length + t) := ⟨ob, _, _, hg, ⟨rfl, rfl, rfl⟩, rfl, rfl, .inr rfl⟩
  have h2 := (congrFun hf hp).mp h1
  obtain ⟨o, es, ep, e1, _, e3, e4, e5⟩ := h2
  rw [hg] at e1
  cases e1
  have e3' : Data.dict (xs.map (entryOfKey (knd c))).toArray (xs.length + t) = Data.dict es ep := e3
  injection e3' with q1 q2
  rw [← q1] at e4
  have e4 : xs.map (entryOfKey (knd c)) = xs'.map (entryOfKey (knd c)) := by simpa using e4
  have hl : xs.length = xs'.length := by simpa using congrArg List.length e4
  exact ⟨by omega, e4⟩
structure EntOk (c : PCx) (H : Hp) (b : Bool) (g : D) (e : Ent) : Prop where
  key : keyOk e.m e.y e.w = true
  t : H e.a = some (.tup [.ref e.ma, .ref e.ya, .int e.w])
  tm : H e.ma = some (.tup (e.m.map V.int))
  ty : H e.ya = some (.tup (e.y.map V.int))
  v : c.V b g e.m e.y e.w e.v
/-- a dict that remembers answers of the game g, those at the keys ks among them -/
def MemoP (c : PCx) (H : Hp) (b : Bool) (g : D) (a : Addr) (ks : List NestedKey) : Prop :=
  (a == sysModules) = false ∧ cod g = true ∧ ∃ es : List Ent, H a = some (memoO c a (tagN b g) (es.map Ent.raw)) ∧ ((es.map Ent.raw).map (·.1)).Nodup ∧ (∀ e ∈ es, EntOk c H b g e) ∧ ∀ k ∈ ks, k ∈ (es.map Ent.raw).map (·.1)
def Memo (c : PCx) (H : Hp) (b : Bool) (g : D) (a : Addr) : Prop := MemoP c H b g a []

/-- no object of an open description -/
def NE : HO → Prop
  | .ext _ => False
  | _ => True
/-- all stays but what lists at hid hold (and what is remembered grows) -/
structure Kp (c : PCx) (hid : Addr → Prop) (H H' : Hp) : Prop where
  keep : ∀ a o, H a = some o → NE o → (hid a → ∀ xs, o ≠ .lst xs) → H' a = some o
  memoP : ∀ b g a ks, MemoP c H b g a ks → MemoP c H' b g a ks
  alive : ∀ a, H' a = none → H a = none
abbrev nohid : Addr → Prop := fun _ => False

section
variable {c : PCx} {hid hid' : Addr → Prop} {H H1 H2 H' : Hp} {a p : Addr} {o : HO} {b : Bool} {g : D}
theorem Kp.memo (k : Kp c hid H H') (b : Bool) (g : D) (a : Addr) (h : Memo c H b g a) : Memo c H' b g a := k.memoP b g a [] h
theorem Kp.refl : Kp c hid H H := ⟨fun _ _ h _ _ => h, fun _ _ _ _ h => h, fun _ h => h⟩
theorem Kp.trans (x : Kp c hid H H1) (y : Kp c hid H1 H2) : Kp c hid H H2 :=
  ⟨fun a o h n q => y.keep a o (x.keep a o h n q) n q, fun b g a ks h => y.memoP b g a ks (x.memoP b g a ks h), fun a h => x.alive a (y.alive a h)⟩
theorem Kp.weak (x : Kp c hid H H1) (h : ∀ a, hid a → hid' a) : Kp c hid' H H1 :=
  ⟨fun a o e n q => x.keep a o e n fun z => q (h a z), x.memoP, x.alive⟩
theorem Kp.all (x : Kp c nohid H H1) : Kp c hid H H1 := x.weak fun _ z => z.elim
theorem Kp.tup (x : Kp c hid H H') {xs : List V} (h : H a = some (.tup xs)) : H' a = some (.tup xs) := x.keep _ _ h trivial fun _ ys z => by cases z
theorem Kp.lst (x : Kp c hid H H') {xs : List V} (h : H a = some (.lst xs)) (n : ¬ hid a) : H' a = some (.lst xs) := x.keep _ _ h trivial fun z => absurd z n
theorem EntOk.mono {e : Ent} (x : EntOk c H b g e) (k : ∀ a xs, H a = some (.tup xs) → H' a = some (.tup xs)) : EntOk c H' b g e :=
  ⟨x.key, k _ _ x.t, k _ _ x.tm, k _ _ x.ty, x.v⟩
variable {ks : List NestedKey}
theorem MemoP.obj (x : MemoP c H b g a ks) : ∃ xs, H a = some (memoO c a (tagN b g) xs) := let ⟨_, _, es, h, _⟩ := x; ⟨_, h⟩
theorem MemoP.mono (x : MemoP c H b g a ks) (e : H' a = H a) (k : ∀ a xs, H a = some (.tup xs) → H' a = some (.tup xs)) : MemoP c H' b g a ks := by
  obtain ⟨n, cg, es, h, nd, q, m⟩ := x
  exact ⟨n, cg, es, e.trans h, nd, fun en hen => (q en hen).mono k, m⟩
theorem Kp.unfresh (s : ∀ a, hid' a → hid a ∨ H a = none) (x : Kp c hid' H H1) : Kp c hid H H1 :=
  ⟨fun a o e n q => x.keep a o e n fun z xs => (s a z).elim (fun h => q h xs) fun h => (by rw [h] at e; cases e), x.memoP, x.alive⟩
/-- what stood stands -/
theorem Kp.more (get : ∀ a o, H a = some o → H' a = some o) : Kp c hid H H' where
  keep := fun a o e _ _ => get a o e
  memoP := fun b g a ks x => by
    obtain ⟨xs, e⟩ := x.obj
    exact x.mono ((get a _ e).trans e.symm) fun a xs q => get a _ q
  alive := fun a e => by
    cases q : H a with
    | none => rfl
    | some o => rw [get a o q] at e; cases e
/-- a new object -/
theorem Kp.new (hp : H p = none) : Kp c hid H (upd H p o) where
  keep := fun a u e _ _ => by rw [upd_ne (ne_of_none e hp)]; exact e
  memoP := fun b g a ks x => by
    obtain ⟨xs, e⟩ := x.obj
    exact x.mono (upd_ne (ne_of_none e hp)) fun a xs q => by rw [upd_ne (ne_of_none q hp)]; exact q
  alive := fun a e => by
    by_cases h : a = p
    · subst h; rw [upd_same] at e; cases e
    · rw [upd_ne h] at e; exact e
/-- a list at hid changed -/
theorem Kp.lset {xs ys : List V} (hp : H p = Option.some (.lst xs)) (n : hid p) : Kp c hid H (upd H p (.lst ys)) where
  keep := fun a u e _ q => by
    have : a ≠ p := by
      rintro rfl
      rw [hp] at e
      cases e
      exact q n xs rfl
    rw [upd_ne this]; exact e
  memoP := fun b g a ks x => by
    obtain ⟨zs, e⟩ := x.obj
    refine x.mono (upd_ne (ne_of e hp (by intro z; cases z))) fun a xs' q => ?_
    rw [upd_ne (ne_of q hp (by intro z; cases z))]
    exact q
  alive := fun a e => by
    by_cases h : a = p
    · subst h; rw [upd_same] at e; cases e
    · rw [upd_ne h] at e; exact e
end

/-! ### values and data -/
/-- the script's list: locked, or written -/
def ScrAt (c : PCx) (H : Hp) (a : Addr) (ns : List Int) : Prop :=
  (∃ o, H a = some (.frz o (.lst (ns.map V.int)))) ∨
    ∃ (o : Obj) (its : Array Value) (n : Nat), c.K.lookup a = some o ∧ o.cls = .type "list" ∧ o.dict = none ∧ o.data = .seq its n ∧ its.size ≤ sizeLine ∧ Vals (ns.map V.int) its.toList
theorem ScrAt.sq {c : PCx} {H : Hp} {a : Addr} {ns : List Int} (h : ScrAt c H a ns) : SqL c.K H a (ns.map V.int) := by
  rcases h with ⟨o, h⟩ | h
  · exact .inl (.inr ⟨o, h⟩)
  · exact .inr h
theorem ScrAt.mono {c : PCx} {hid : Addr → Prop} {H H' : Hp} {a : Addr} {ns : List Int} (k : Kp c hid H H') (h : ScrAt c H a ns) : ScrAt c H' a ns := by
  rcases h with ⟨o, h⟩ | h
  · exact .inl ⟨o, k.keep _ _ h trivial fun _ xs z => by cases z⟩
  · exact .inr h
mutual
def Rp (c : PCx) (H : Hp) (hid : Addr → Prop) : D → V → Prop
  | .non, v => v = .non
  | .bl b, v => v = .bl b
  | .int i, v => v = .int i
  | .str x, v => v = .str x
  | .tup ds, v => ∃ a vs, v = .ref a ∧ H a = some (.tup vs) ∧ RpL c H hid ds vs
  | .lst ds, v => ∃ a vs, v = .ref a ∧ H a = some (.lst vs) ∧ ¬ hid a ∧ RpL c H hid ds vs
  | .memo b g, v => ∃ a, v = .ref a ∧ Memo c H b g a
  | .slv g, v => ∃ x dx fs vg a, v = .ref x ∧ H x = some (.ins c.C dx fs) ∧ fs.lookup (Str.ofString "game") = some vg ∧ fs.lookup (Str.ofString "known") = some (.ref a) ∧
      fs.lookup (Str.ofString "winner") = none ∧ fs.lookup (Str.ofString "good") = none ∧ fs.lookup (Str.ofString "behind") = none ∧ Rp c H hid g vg ∧ Memo c H false g a
  | .scr ns, v => ∃ a, v = .ref a ∧ ScrAt c H a ns
def RpL (c : PCx) (H : Hp) (hid : Addr → Prop) : List D → List V → Prop
  | [], vs => vs = []
  | d :: ds, vs => ∃ v r, vs = v :: r ∧ Rp c H hid d v ∧ RpL c H hid ds r
end
section
variable {c : PCx} {hid hid' : Addr → Prop} {H H1 H2 H' : Hp}
mutual
theorem Rp.mono (k : Kp c hid' H H') (s : ∀ a, hid' a → hid a) : ∀ {d : D} {v : V}, Rp c H hid d v → Rp c H' hid d v
  | .non, _, h => h
  | .bl _, _, h => h
  | .int _, _, h => h
  | .str _, _, h => h
  | .tup ds, _, ⟨a, vs, e, r, t⟩ => ⟨a, vs, e, k.tup r, RpL.mono k s t⟩
  | .lst ds, _, ⟨a, vs, e, r, n, t⟩ => ⟨a, vs, e, k.lst r (fun z => n (s a z)), n, RpL.mono k s t⟩
  | .memo b g, _, ⟨a, e, m⟩ => ⟨a, e, k.memo _ _ _ m⟩
  | .slv g, _, ⟨x, dx, fs, vg, a, e, h, l1, l2, l3, l4, l5, r, m⟩ => ⟨x, dx, fs, vg, a, e, k.keep _ _ h trivial (fun _ _ z => by cases z), l1, l2, l3, l4, l5, Rp.mono k s r, k.memo _ _ _ m⟩
  | .scr ns, _, h => let ⟨a, e, q⟩ := h; ⟨a, e, q.mono k⟩
theorem RpL.mono (k : Kp c hid' H H') (s : ∀ a, hid' a → hid a) : ∀ {ds : List D} {vs : List V}, RpL c H hid ds vs → RpL c H' hid ds vs
  | [], _, h => h
  | d :: ds, _, ⟨v, r, e, h, t⟩ => ⟨v, r, e, Rp.mono k s h, RpL.mono k s t⟩
end
mutual
theorem Rp.anti (s : ∀ a, hid' a → hid a) : ∀ {d : D} {v : V}, Rp c H hid d v → Rp c H hid' d v
  | .non, _, h => h
  | .bl _, _, h => h
  | .int _, _, h => h
  | .str _, _, h => h
  | .tup ds, _, ⟨a, vs, e, r, t⟩ => ⟨a, vs, e, r, RpL.anti s t⟩
  | .lst ds, _, ⟨a, vs, e, r, n, t⟩ => ⟨a, vs, e, r, fun z => n (s a z), RpL.anti s t⟩
  | .memo b g, _, h => h
  | .slv g, _, ⟨x, dx, fs, vg, a, e, h, l1, l2, l3, l4, l5, r, m⟩ => ⟨x, dx, fs, vg, a, e, h, l1, l2, l3, l4, l5, Rp.anti s r, m⟩
  | .scr ns, _, h => h
theorem RpL.anti (s : ∀ a, hid' a → hid a) : ∀ {ds : List D} {vs : List V}, RpL c H hid ds vs → RpL c H hid' ds vs
  | [], _, h => h
  | d :: ds, _, ⟨v, r, e, h, t⟩ => ⟨v, r, e, Rp.anti s h, RpL.anti s t⟩
end
mutual
/-- what is new may be hidden -/
theorem Rp.freshS (s : ∀ a, hid' a → hid a ∨ H a = none) : ∀ {d : D} {v : V}, Rp c H hid d v → Rp c H hid' d v
  | .non, _, h => h
  | .bl _, _, h => h
  | .int _, _, h => h
  | .str _, _, h => h
  | .tup ds, _, ⟨a, vs, e, r, t⟩ => ⟨a, vs, e, r, RpL.freshS s t⟩
  | .lst ds, _, ⟨a, vs, e, r, n, t⟩ => ⟨a, vs, e, r, fun z => (s a z).elim n fun q => (by rw [r] at q; cases q), RpL.freshS s t⟩
  | .memo b g, _, h => h
  | .slv g, _, ⟨x, dx, fs, vg, a, e, h, l1, l2, l3, l4, l5, r, m⟩ => ⟨x, dx, fs, vg, a, e, h, l1, l2, l3, l4, l5, Rp.freshS s r, m⟩
  | .scr ns, _, h => h
theorem RpL.freshS (s : ∀ a, hid' a → hid a ∨ H a = none) : ∀ {ds : List D} {vs : List V}, RpL c H hid ds vs → RpL c H hid' ds vs
  | [], _, h => h
  | d :: ds, _, ⟨v, r, e, h, t⟩ => ⟨v, r, e, Rp.freshS s h, RpL.freshS s t⟩
end
theorem Rp.fresh {p : Addr} (hp : H p = none) {d : D} {v : V} (h : Rp c H hid d v) : Rp c H (fun a => hid a ∨ a = p) d v := h.freshS fun a z => z.imp_right fun e => by rw [e]; exact hp
theorem RpL.fresh {p : Addr} (hp : H p = none) {d : List D} {v : List V} (h : RpL c H hid d v) : RpL c H (fun a => hid a ∨ a = p) d v := h.freshS fun a z => z.imp_right fun e => by rw [e]; exact hp
theorem Rp.keep (k : Kp c nohid H H') {d : D} {v : V} (h : Rp c H hid d v) : Rp c H' hid d v := h.mono k fun _ z => z.elim
theorem RpL.keep (k : Kp c nohid H H') {d : List D} {v : List V} (h : RpL c H hid d v) : RpL c H' hid d v := h.mono k fun _ z => z.elim
theorem RpL.len : ∀ {ds : List D} {vs : List V}, RpL c H hid ds vs → vs.length = ds.length
  | [], _, h => by rw [show _ = ([] : List V) from h]; rfl
  | d :: ds, _, ⟨v, r, e, _, t⟩ => by rw [e, List.length_cons, List.length_cons, RpL.len t]
theorem RpL.get : ∀ {ds : List D} {vs : List V} {i : Nat} {d : D}, RpL c H hid ds vs → ds[i]? = some d → ∃ v, vs[i]? = some v ∧ Rp c H hid d v
  | [], _, _, _, _, e => by simp at e
  | x :: ds, _, 0, d, ⟨v, r, e', h, _⟩, e => by
    subst e'
    simp at e
    subst e
    exact ⟨v, rfl, h⟩
  | x :: ds, _, i + 1, d, ⟨v, r, e', h, t⟩, e => by
    subst e'
    obtain ⟨w, a, b⟩ := RpL.get (i := i) t (by simpa using e)
    exact ⟨w, by simpa using a, b⟩
theorem RpL.getV : ∀ {ds : List D} {vs : List V} {i : Nat} {v : V}, RpL c H hid ds vs → vs[i]? = some v → ∃ d, ds[i]? = some d ∧ Rp c H hid d v := fun {ds vs i v} h e => by
  have hl := h.len
  have hi : i < ds.length := by rw [← hl]; exact (List.getElem?_eq_some_iff.mp e).1
  obtain ⟨w, a, b⟩ := h.get (List.getElem?_eq_getElem hi)
  rw [a] at e
  cases e
  exact ⟨_, List.getElem?_eq_getElem hi, b⟩
theorem RpL.nil : RpL c H hid [] [] := rfl
theorem RpL.cons {d : D} {v : V} {ds : List D} {vs : List V} (h : Rp c H hid d v) (t : RpL c H hid ds vs) : RpL c H hid (d :: ds) (v :: vs) := ⟨v, vs, rfl, h, t⟩
theorem RpL.of : ∀ {ds : List D} {vs : List V}, vs.length = ds.length → (∀ (i : Nat) d v, ds[i]? = some d → vs[i]? = some v → Rp c H hid d v) → RpL c H hid ds vs
  | [], [], _, _ => rfl
  | d :: ds, v :: vs, e, h => .cons (h 0 d v rfl rfl) (RpL.of (by simpa using e) fun i d v a b => h (i + 1) d v (by simpa using a) (by simpa using b))
  | [], _ :: _, e, _ => by simp at e
  | _ :: _, [], e, _ => by simp at e
theorem RpL.append : ∀ {ds es : List D} {vs ws : List V}, RpL c H hid ds vs → RpL c H hid es ws → RpL c H hid (ds ++ es) (vs ++ ws)
  | [], _, _, _, h, t => by rw [show _ = ([] : List V) from h]; exact t
  | d :: ds, _, _, _, ⟨v, r, e, h, t⟩, u => by rw [e]; exact .cons h (RpL.append t u)
theorem RpL.drop : ∀ {ds : List D} {vs : List V} (n : Nat), RpL c H hid ds vs → RpL c H hid (ds.drop n) (vs.drop n)
  | _, _, 0, h => h
  | [], _, n + 1, h => by rw [show _ = ([] : List V) from h]; rfl
  | d :: ds, _, n + 1, ⟨v, r, e, h, t⟩ => by rw [e]; exact RpL.drop n t
theorem RpL.take : ∀ {ds : List D} {vs : List V} (n : Nat), RpL c H hid ds vs → RpL c H hid (ds.take n) (vs.take n)
  | _, _, 0, h => rfl
  | [], _, n + 1, h => by rw [show _ = ([] : List V) from h]; rfl
  | d :: ds, _, n + 1, ⟨v, r, e, h, t⟩ => by rw [e]; exact .cons h (RpL.take n t)
theorem RpL.reverse {ds : List D} {vs : List V} (h : RpL c H hid ds vs) : RpL c H hid ds.reverse vs.reverse := by
  induction ds generalizing vs with
  | nil => rw [show vs = [] from h]; rfl
  | cons d ds ih =>
    obtain ⟨v, r, e, h, t⟩ := h
    rw [e, List.reverse_cons, List.reverse_cons]
    exact (ih t).append (.cons h .nil)
theorem RpL.erase : ∀ {ds : List D} {vs : List V} (n : Nat), RpL c H hid ds vs → RpL c H hid (ds.eraseIdx n) (vs.eraseIdx n)
  | [], _, n, h => by rw [show _ = ([] : List V) from h]; rfl
  | d :: ds, _, 0, ⟨v, r, e, h, t⟩ => by rw [e]; exact t
  | d :: ds, _, n + 1, ⟨v, r, e, h, t⟩ => by rw [e]; exact .cons h (RpL.erase n t)
theorem RpL.ints : ∀ {ns : List Int} {vs : List V}, RpL c H hid (ns.map .int) vs → vs = ns.map V.int
  | [], _, h => h
  | n :: ns, _, ⟨v, r, e, h, t⟩ => by rw [e, show v = V.int n from h, RpL.ints t]; rfl
theorem RpL.ofInts : ∀ (ns : List Int), RpL c H hid (ns.map .int) (ns.map V.int)
  | [] => rfl
  | n :: ns => .cons rfl (RpL.ofInts ns)
theorem allInts_map : ∀ {ds : List D} {ns : List Int}, allInts ds = some ns → ds = ns.map .int
  | [], ns, h => by
    have : ns = [] := by simpa [allInts] using h.symm
    rw [this]; rfl
  | d :: ds, ns, h => by
    simp only [allInts, List.mapM_cons] at h
    cases d with
    | int i =>
      simp only [intOf, Option.bind_eq_bind, Option.bind_some] at h
      cases e : List.mapM intOf ds with
      | none => rw [e] at h; simp at h
      | some ms =>
        rw [e] at h
        simp at h
        rw [← h, allInts_map (ds := ds) (ns := ms) e]
        rfl
    | _ => simp [intOf] at h
theorem blOf_map : ∀ {ds : List D} {ns : List Bool}, ds.mapM blOf = some ns → ds = ns.map .bl
  | [], ns, h => by
    have : ns = [] := by simpa using h.symm
    rw [this]; rfl
  | d :: ds, ns, h => by
    simp only [List.mapM_cons] at h
    cases d with
    | bl i =>
      simp only [blOf, Option.bind_eq_bind, Option.bind_some] at h
      cases e : List.mapM blOf ds with
      | none => rw [e] at h; simp at h
      | some ms =>
        rw [e] at h
        simp at h
        rw [← h, blOf_map (ds := ds) (ns := ms) e]
        rfl
    | _ => simp [blOf] at h
theorem RpL.bls : ∀ {ns : List Bool} {vs : List V}, RpL c H hid (ns.map .bl) vs → vs = ns.map V.bl
  | [], _, h => h
  | n :: ns, _, ⟨v, r, e, h, t⟩ => by rw [e, show v = V.bl n from h, RpL.bls t]; rfl
theorem strOf_map : ∀ {ds : List D} {ns : List Str}, ds.mapM strOf = some ns → ds = ns.map .str
  | [], ns, h => by
    have : ns = [] := by simpa using h.symm
    rw [this]; rfl
  | d :: ds, ns, h => by
    simp only [List.mapM_cons] at h
    cases d with
    | str i =>
      simp only [strOf, Option.bind_eq_bind, Option.bind_some] at h
      cases e : List.mapM strOf ds with
      | none => rw [e] at h; simp at h
      | some ms =>
        rw [e] at h
        simp at h
        rw [← h, strOf_map (ds := ds) (ns := ms) e]
        rfl
    | _ => simp [strOf] at h
theorem RpL.strs : ∀ {ns : List Str} {vs : List V}, RpL c H hid (ns.map .str) vs → vs = ns.map V.str
  | [], _, h => h
  | n :: ns, _, ⟨v, r, e, h, t⟩ => by rw [e, show v = V.str n from h, RpL.strs t]; rfl
mutual
/-- data for the library's rules of == -/
theorem Rp.dp : ∀ {d : D} {v : V}, Rp c H hid d v → shp d = true ∨ d.py.canLay0 = true → Dp c.K H v d.py
  | .non, _, h, _ => by rw [show _ = V.non from h]; exact .non
  | .bl b, _, h, _ => by rw [show _ = V.bl b from h]; exact .bl b
  | .int i, _, h, _ => by rw [show _ = V.int i from h]; exact .int i
  | .str x, _, h, _ => by rw [show _ = V.str x from h]; exact .str x
  | .tup ds, _, ⟨a, vs, e, r, t⟩, hc => by
    rw [e]
    refine .tup (SqT.of r) (RpL.dp t ?_)
    rcases hc with hc | hc
    · exact SeqAt.canLay_of_shaped hc
    · exact hc
  | .lst ds, _, ⟨a, vs, e, r, n, t⟩, hc => by
    rw [e]
    refine .lst (SqL.of r) (RpL.dp t ?_)
    rcases hc with hc | hc
    · exact SeqAt.canLay_of_shaped hc
    · exact hc
  | .memo b g, _, _, hc => by
    have : PyData.canLay0 (.dict []) = true := hc.elim SeqAt.canLay_of_shaped id
    simp [PyData.canLay0] at this
  | .slv g, _, _, hc => by
    have : PyData.canLay0 (.dict []) = true := hc.elim SeqAt.canLay_of_shaped id
    simp [PyData.canLay0] at this
  | .scr g, _, _, hc => by
    have : PyData.canLay0 (.dict []) = true := hc.elim SeqAt.canLay_of_shaped id
    simp [PyData.canLay0] at this
theorem RpL.dp : ∀ {ds : List D} {vs : List V}, RpL c H hid ds vs → PyData.canLayAll0 (D.pys ds) = true → DpAll c.K H vs (D.pys ds)
  | [], _, h, _ => by rw [show _ = ([] : List V) from h]; exact .nil
  | d :: ds, _, ⟨v, r, e, h, t⟩, hc => by
    have q : d.py.canLay0 = true ∧ PyData.canLayAll0 (D.pys ds) = true := by
      have q : PyData.canLayAll0 (d.py :: D.pys ds) = true := hc
      simpa [PyData.canLayAll0] using q
    rw [e]
    exact .cons (Rp.dp h (.inr q.1)) (RpL.dp t q.2)
end
end
end FC

/-! Dicts that remember: in, d[k], d[k] = v, {}. -/
set_option autoImplicit false
set_option linter.all false
set_option maxRecDepth 100000
set_option maxHeartbeats 4000000
set_option Elab.async false
namespace FC
open PySem PyProof.Rows L2

/-- a position stands as a tuple -/
def KeyAt (H : Hp) (x : V) (m y : List Int) (w : Int) : Prop := ∃ t ma ya, x = .ref t ∧ H t = some (.tup [.ref ma, .ref ya, .int w]) ∧ H ma = some (.tup (m.map V.int)) ∧ H ya = some (.tup (y.map V.int))
theorem nested_nums {h : Heap} : ∀ {m : List Int} {us : List Value}, Vals (m.map V.int) us → NestedAll h (m.map .num) us
  | [], _, .nil => .nil
  | i :: m, _, .cons r t => by
    obtain ⟨k, rfl⟩ := r
    exact .cons (.int i k) (nested_nums t)
theorem depth_nums : ∀ m : List Int, NestedKey.depthAll (m.map .num) = 0
  | [] => by rw [List.map_nil, NestedKey.depthAll]
  | i :: m => by rw [List.map_cons, NestedKey.depthAll, NestedKey.depth, depth_nums m]; rfl
theorem depth_key (m y : List Int) (w : Int) : (keyN m y w).depth ≤ 8 := by
  unfold keyN
  rw [NestedKey.depth, NestedKey.depthAll, NestedKey.depthAll, NestedKey.depthAll, NestedKey.depthAll, NestedKey.depth, NestedKey.depth, NestedKey.depth, depth_nums, depth_nums]
  decide
section
variable {P : Program} {w : World} {H : Hp} {h : Heap}
theorem tup_nums (hok : HOk P w H h) {a : Addr} {m : List Int} (e : H a = some (.tup (m.map V.int))) : NestedIs h (.tup (m.map .num)) (.ref a) := by
  obtain ⟨_, its, r, o, h1, h2, n, h3⟩ := (show ObjOk P w H h a (.tup (m.map V.int)) from hok a _ e)
  exact .tup h1 h2 h3 (by simpa using nested_nums r)
theorem key_is (hok : HOk P w H h) {t ma ya : Addr} {m y : List Int} {k : Int} (e1 : H t = some (.tup [.ref ma, .ref ya, .int k])) (e2 : H ma = some (.tup (m.map V.int))) (e3 : H ya = some (.tup (y.map V.int))) :
    (nestedKind P w).is h (keyN m y k) t := by
  obtain ⟨_, its, r, o, h1, h2, n, h3⟩ := (show ObjOk P w H h t (.tup [.ref ma, .ref ya, .int k]) from hok t _ e1)
  refine ⟨.tup h1 h2 h3 ?_, depth_key m y k⟩
  cases r with
  | cons r1 r => cases r with
    | cons r2 r => cases r with
      | cons r3 r =>
        cases r
        cases r1
        cases r2
        obtain ⟨tk, rfl⟩ := r3
        exact .cons (tup_nums hok e2) (.cons (tup_nums hok e3) (.cons (.int k tk) .nil))
end
/-- the entries' own tuples stand -/
def EntsAt (H : Hp) (es : List Ent) : Prop := ∀ e ∈ es, H e.a = some (.tup [.ref e.ma, .ref e.ya, .int e.w]) ∧ H e.ma = some (.tup (e.m.map V.int)) ∧ H e.ya = some (.tup (e.y.map V.int))
/-- the dict at a, its entries, its count of changes -/
def RawD (c : PCx) (h : Heap) (a : Addr) (t : Nat) (xs : List (NestedKey × Addr × Value)) : Prop :=
  ∃ o es ep, h.get? a = some o ∧ o.ExactDict ∧ o.data = .dict es ep ∧ es.toList = xs.map (entryOfKey (knd c)) ∧ (ep = xs.length ∨ ep = xs.length + t)
theorem memo_raw {c : PCx} {H : Hp} {h : Heap} {a : Addr} {t : Nat} {xs : List (NestedKey × Addr × Value)} (hok : HOk c.P c.w H h) (ha : H a = some (memoO c a t xs)) : RawD c h a t xs :=
  (show ObjOk c.P c.w H h a (memoO c a t xs) from hok a _ ha).1
theorem memo_dict {c : PCx} {H : Hp} {h : Heap} {a : Addr} {t : Nat} {es : List Ent} (hok : HOk c.P c.w H h) (ha : H a = some (memoO c a t (es.map Ent.raw))) (he : EntsAt H es) (nd : ((es.map Ent.raw).map (·.1)).Nodup) : h.DictOfH (knd c) a (es.map Ent.raw) := by
  obtain ⟨o, en, ep, h1, h2, h3, h4, _⟩ := memo_raw hok ha
  refine ⟨o, en, ep, h1, h2, h3, h4, fun x hx => ?_, nd⟩
  obtain ⟨e, hm, rfl⟩ := List.mem_map.mp hx
  obtain ⟨q1, q2, q3⟩ := he e hm
  exact key_is hok q1 q2 q3
theorem memo_obj {c : PCx} {H : Hp} {h : Heap} {a : Addr} {t : Nat} {xs : List (NestedKey × Addr × Value)} (d : RawD c h a t xs) : ObjOk c.P c.w H h a (memoO c a t xs) := by
  obtain ⟨o, en, ep, h1, h2, h3, h4, h5⟩ := d
  refine ⟨⟨o, en, ep, h1, h2, h3, h4, h5⟩, ⟨o, h1⟩, fun k1 k2 p k => ?_⟩
  obtain ⟨o, en, ep, h1, h2, h3, h4, h5⟩ := p
  exact ⟨o, en, ep, k o h1, h2, h3, h4, h5⟩
/-! ### a store, with the count of changes -/
section
variable {P : Program} {w : World} {A : Around} {E : Value → Shared → Prop} {s : Shared} {d kt : Addr} {K : Type} [DecidableEq K] {kk : HeapKind P w K} {xs : List (K × Addr × Value)} {key : K} {nv : Value}
theorem storedH_len (xs : List (K × Addr × Value)) (key : K) (kt : Addr) (nv : Value) : (storedH xs key kt nv).length = xs.length + (if (atKey xs key).isSome then 0 else 1) := by
  unfold storedH
  split
  · rw [List.length_map]; rfl
  · rw [List.length_append]; rfl
theorem set_ep {Q : Unit → Shared → Prop} {o : Obj} {en : Array DictEntry} {ep : Nat} (hr : kk.room A) (hk : kk.is s.heap key kt)
    (h1 : s.heap.get? d = some o) (h2 : o.ExactDict) (h3 : o.data = .dict en ep) (h4 : en.toList = xs.map (entryOfKey kk)) (h5 : ∀ x ∈ xs, kk.is s.heap x.1 x.2.1) (nd : (xs.map (·.1)).Nodup) (hz : xs.length ≤ sizeLine)
    (q : ∀ h' o' en', h'.get? d = some o' → o'.ExactDict → o'.data = .dict en' (ep + (if (atKey xs key).isSome then 0 else 1)) → en'.toList = (storedH xs key kt nv).map (entryOfKey kk) → Heap.SameBut d s.heap h' → Q () { s with heap := h', toks := s.toks + kk.draws key }) :
    wpAny (model P w) A (dictSet d (.ref kt) nv) Q E s := by
  unfold dictSet
  try with_reducible refine wpAny_holding ?_
  refine wpAny_bind (kk.pyHash hr hk ?_)
  unfold dictSetHashed
  try with_reducible refine wpAny_holding ?_
  let s1 : Shared := { s with toks := s.toks + kk.draws key }
  refine wpAny_bind (wpAny_dictFind_heap (s := s1) hr hk h1 h3 h4 h5 nd (fun no => ?_) (fun j p hj => ?_))
  · have e0 := atKey_none_of_get no
    rw [e0] at q
    have hsz : en.size ≤ sizeLine := by rw [size_of_entries h4]; exact hz
    refine wpAny_bind (wpAny_rule (wpAny_updateDictKeys (s := s1) h1 h3 ?_ hsz))
    refine q _ _ _ (Heap.get?_update_self _ h1 (Obj.isFreed_of_dict (Obj.data_mapDictKeys h3 _))) (h2.mapDictKeys _) (Obj.data_mapDictKeys h3 _) ?_ (Heap.SameBut.update ..)
    rw [storedH_new e0]
    simp [h4, entryOfKey]
  · have e0 := atKey_of_get nd hj
    rw [e0] at q
    refine wpAny_bind (wpAny_rule (wpAny_bind (wpAny_updateDict (s := s1) h1 h3 (wpAny_point ?_))))
    refine q _ _ _ (Heap.get?_update_self _ h1 (Obj.isFreed_of_dict (Obj.data_mapDict h3 _))) (h2.mapDict _) (Obj.data_mapDict h3 _) ?_ (Heap.SameBut.update ..)
    rw [storedH_old e0]
    have mm := modify_map_putAt (entryOfKey kk) (fun z : DictEntry => { z with val := nv }) key nv (fun _ _ => rfl) nd hj
    rw [← h4] at mm
    obtain ⟨l⟩ := en
    simpa using mm
theorem setItem_ep {Q : Unit → Shared → Prop} {o : Obj} {en : Array DictEntry} {ep : Nat} (hr : kk.room A.in1) (hk : kk.is s.heap key kt)
    (h1 : s.heap.get? d = some o) (h2 : o.ExactDict) (h3 : o.data = .dict en ep) (h4 : en.toList = xs.map (entryOfKey kk)) (h5 : ∀ x ∈ xs, kk.is s.heap x.1 x.2.1) (nd : (xs.map (·.1)).Nodup) (hz : xs.length ≤ sizeLine)
    (q : ∀ h' o' en', h'.get? d = some o' → o'.ExactDict → o'.data = .dict en' (ep + (if (atKey xs key).isSome then 0 else 1)) → en'.toList = (storedH xs key kt nv).map (entryOfKey kk) → Heap.SameBut d s.heap h' → Q () { s with heap := h', toks := s.toks + kk.draws key }) :
    wpAny (model P w) A (setItem (.ref d) (.ref kt) nv) Q E s := by
  have ty : s.TypeIs (.ref d) "dict" := ⟨o, h1, h2.1⟩
  unfold setItem
  try with_reducible refine wpAny_holding ?_
  refine wpAny_bind (wpAny_sequenceKey ty (by decide) ?_)
  refine wpAny_bind (wpAny_callSpecial?_slot (name := Str.ofString "__setitem__") ty F.slot_dict_setitem (wpAny_call_entry F.slot_dict_setitem ty F.entry_dict_setitem ?_ (args_dict_setitem _ _ _)))
  show wpAny _ _ (Builtin.Dict.notOrdered "__setitem__" ⟨[Value.ref d, Value.ref kt, nv], []⟩ >>= _) _ _ s
  refine wpAny_bind (wpAny_notOrdered_dict ty ?_)
  show wpAny _ _ (dictSet d (Value.ref kt) nv >>= _) _ _ s
  refine wpAny_bind (set_ep hr hk h1 h2 h3 h4 h5 nd hz fun h' o' en' a1 a2 a3 a4 a5 => ?_)
  exact wpAny_pure ⟨Value.none, rfl, wpAny_pure (q h' o' en' a1 a2 a3 a4 a5)⟩
end
/-! ### how many positions there are -/
theorem nodup_len {α : Type} [DecidableEq α] : ∀ (l D : List α), l.Nodup → (∀ x ∈ l, x ∈ D) → l.length ≤ D.length
  | [], _, _, _ => Nat.zero_le _
  | a :: l, D, h, hs => by
    obtain ⟨h1, h2⟩ := List.nodup_cons.mp h
    have hm := hs a List.mem_cons_self
    have ih := nodup_len l (D.erase a) h2 fun x hx => (List.mem_erase_of_ne (fun e : x = a => h1 (by rw [← e]; exact hx))).mpr (hs x (List.mem_cons_of_mem _ hx))
    rw [List.length_erase_of_mem hm] at ih
    have : 0 < D.length := List.length_pos_of_mem hm
    rw [List.length_cons]
    omega
def subL (a : Int) : Nat → List (List Int)
  | 0 => [[]]
  | k + 1 => subL (a + 1) k ++ (subL (a + 1) k).map (a :: ·)
theorem subL_len : ∀ (k : Nat) (a : Int), (subL a k).length = 2 ^ k
  | 0, _ => rfl
  | k + 1, a => by
    rw [subL, List.length_append, List.length_map, subL_len k, Nat.pow_succ]
    omega
theorem mem_subL : ∀ (k : Nat) (a : Int) (m : List Int), m.Pairwise (· < ·) → (∀ p ∈ m, a ≤ p ∧ p < a + k) → m ∈ subL a k
  | 0, a, m, _, h => by
    cases m with
    | nil => exact List.mem_singleton.mpr rfl
    | cons p m => have := h p List.mem_cons_self; omega
  | k + 1, a, m, hp, h => by
    rw [subL, List.mem_append]
    cases m with
    | nil => exact .inl (mem_subL k (a + 1) [] List.Pairwise.nil fun p hp => nomatch hp)
    | cons p m =>
      obtain ⟨h1, h2⟩ := List.pairwise_cons.mp hp
      have h3 := h p List.mem_cons_self
      by_cases e : p = a
      · subst e
        refine .inr (List.mem_map.mpr ⟨m, mem_subL k (p + 1) m h2 fun q hq => ?_, rfl⟩)
        have := h1 q hq
        have := h q (List.mem_cons_of_mem _ hq)
        omega
      · refine .inl (mem_subL k (a + 1) (p :: m) hp fun q hq => ?_)
        have h4 := h q hq
        rcases List.mem_cons.mp hq with rfl | hq
        · omega
        · have := h1 q hq
          omega
theorem rises_spec {n : Int} : ∀ {m : List Int}, risesIn n m = true → m.Pairwise (· < ·) ∧ ∀ p ∈ m, 0 ≤ p ∧ p < n
  | [], _ => ⟨List.Pairwise.nil, fun p hp => nomatch hp⟩
  | [a], h => by
    rw [risesIn, decide_eq_true_eq] at h
    refine ⟨List.pairwise_singleton _ _, fun p hp => ?_⟩
    rw [List.mem_singleton.mp hp]; exact h
  | a :: b :: r, h => by
    rw [risesIn, Bool.and_eq_true, decide_eq_true_eq] at h
    obtain ⟨h1, h2⟩ := h
    obtain ⟨p1, p2⟩ := rises_spec h2
    have hb := p2 b List.mem_cons_self
    refine ⟨List.pairwise_cons.mpr ⟨fun q hq => ?_, p1⟩, fun q hq => ?_⟩
    · rcases List.mem_cons.mp hq with rfl | hq
      · exact h1.2
      · have := (List.pairwise_cons.mp p1).1 q hq
        omega
    · rcases List.mem_cons.mp hq with rfl | hq
      · omega
      · exact p2 q hq
theorem keyN_inj {m y m' y' : List Int} {w w' : Int} (h : keyN m y w = keyN m' y' w') : m = m' ∧ y = y' ∧ w = w' := by
  unfold keyN at h
  injection h with h
  injection h with h1 h
  injection h with h2 h
  injection h with h3 _
  injection h1 with h1
  injection h2 with h2
  injection h3 with h3
  exact ⟨(List.map_inj_right fun a b e => NestedKey.num.inj e).mp h1, (List.map_inj_right fun a b e => NestedKey.num.inj e).mp h2, h3⟩
theorem ents_few {es : List Ent} (nd : ((es.map Ent.raw).map (·.1)).Nodup) (hk : ∀ e ∈ es, keyOk e.m e.y e.w = true) : es.length ≤ 524288 := by
  have n2 : (es.map fun e => (e.m, e.y, e.w)).Nodup := by
    rw [List.map_map] at nd
    refine List.pairwise_map.mpr ((List.pairwise_map.mp nd).imp fun {a b} n e => n ?_)
    simp only [Prod.mk.injEq] at e
    show keyN a.m a.y a.w = keyN b.m b.y b.w
    rw [e.1, e.2.1, e.2.2]
  have hl := nodup_len _ ((subL 0 9).flatMap fun m => (subL 0 9).flatMap fun y => [(m, y, (0 : Int)), (m, y, 1)]) n2 fun x hx => by
    obtain ⟨e, he, rfl⟩ := List.mem_map.mp hx
    have h := hk e he
    unfold keyOk at h
    rw [Bool.and_eq_true, Bool.and_eq_true, decide_eq_true_eq] at h
    obtain ⟨⟨h1, h2⟩, h3⟩ := h
    obtain ⟨a1, a2⟩ := rises_spec h1
    obtain ⟨b1, b2⟩ := rises_spec h2
    refine List.mem_flatMap.mpr ⟨e.m, mem_subL 9 0 _ a1 fun p hp => by have := a2 p hp; omega, List.mem_flatMap.mpr ⟨e.y, mem_subL 9 0 _ b1 fun p hp => by have := b2 p hp; omega, ?_⟩⟩
    rcases h3 with h3 | h3 <;> rw [h3] <;> simp
  rw [List.length_map] at hl
  refine Nat.le_trans hl ?_
  have in1 : ∀ m : List Int, ((subL 0 9).flatMap fun y => [(m, y, (0 : Int)), (m, y, 1)]).length = 1024 := fun m => by
    rw [List.length_flatMap]
    have : (subL 0 9).map (fun y => [(m, y, (0 : Int)), (m, y, 1)].length) = List.replicate 512 2 := by
      rw [List.eq_replicate_iff]
      exact ⟨by rw [List.length_map, subL_len], fun x hx => by obtain ⟨_, _, rfl⟩ := List.mem_map.mp hx; rfl⟩
    rw [this, List.sum_replicate_nat]
  rw [List.length_flatMap]
  have : (subL 0 9).map (fun m => ((subL 0 9).flatMap fun y => [(m, y, (0 : Int)), (m, y, 1)]).length) = List.replicate 512 1024 := by
    rw [List.eq_replicate_iff]
    exact ⟨by rw [List.length_map, subL_len], fun x hx => by obtain ⟨m, _, rfl⟩ := List.mem_map.mp hx; exact in1 m⟩
  rw [this, List.sum_replicate_nat]
  decide

/-! ### rules -/
/-- an entry put, or its answer changed -/
def putE (es : List Ent) (m y : List Int) (w n : Int) (tk : Tok) (t ma ya : Addr) : List Ent :=
  if (atKey (es.map Ent.raw) (keyN m y w)).isSome then es.map fun e => if keyN e.m e.y e.w = keyN m y w then { e with v := n, tk := tk } else e else es ++ [⟨m, y, w, n, tk, t, ma, ya⟩]
theorem putE_raw (es : List Ent) (m y : List Int) (w n : Int) (tk : Tok) (t ma ya : Addr) : (putE es m y w n tk t ma ya).map Ent.raw = storedH (es.map Ent.raw) (keyN m y w) t (.int n tk) := by
  unfold putE storedH
  split
  · rw [List.map_map, List.map_map]
    refine List.map_congr_left fun e _ => ?_
    simp only [Function.comp, putAt]
    by_cases h : keyN e.m e.y e.w = keyN m y w
    · rw [if_pos h, if_pos (show (Ent.raw e).1 = keyN m y w from h)]; rfl
    · rw [if_neg h, if_neg (show ¬ (Ent.raw e).1 = keyN m y w from h)]
  · rw [List.map_append]; rfl
theorem putE_mem {es : List Ent} {m y : List Int} {w n : Int} {tk : Tok} {t ma ya : Addr} {e : Ent} (h : e ∈ putE es m y w n tk t ma ya) :
    e ∈ es ∨ (∃ e' ∈ es, keyN e'.m e'.y e'.w = keyN m y w ∧ e = { e' with v := n, tk := tk }) ∨ e = ⟨m, y, w, n, tk, t, ma, ya⟩ := by
  unfold putE at h
  split at h
  · obtain ⟨e', he, rfl⟩ := List.mem_map.mp h
    by_cases q : keyN e'.m e'.y e'.w = keyN m y w
    · rw [if_pos q]; exact .inr (.inl ⟨e', he, q, rfl⟩)
    · rw [if_neg q]; exact .inl he
  · rcases List.mem_append.mp h with h | h
    · exact .inl h
    · exact .inr (.inr (List.mem_singleton.mp h))
theorem putE_nodup {es : List Ent} {m y : List Int} {w n : Int} {tk : Tok} {t ma ya : Addr} (nd : ((es.map Ent.raw).map (·.1)).Nodup) : (((putE es m y w n tk t ma ya).map Ent.raw).map (·.1)).Nodup := by
  unfold putE
  split
  · have e : ((es.map fun e => if keyN e.m e.y e.w = keyN m y w then { e with v := n, tk := tk } else e).map Ent.raw).map (·.1) = (es.map Ent.raw).map (·.1) := by
      rw [List.map_map, List.map_map, List.map_map]
      refine List.map_congr_left fun e _ => ?_
      simp only [Function.comp]
      split <;> rfl
    rw [e]; exact nd
  · rename_i hn
    rw [List.map_append, List.map_append]
    refine List.nodup_append.mpr ⟨nd, List.pairwise_singleton _ _, fun a ha b hb e => ?_⟩
    have hb : b = keyN m y w := List.mem_singleton.mp hb
    subst hb e
    obtain ⟨x, hx, ex⟩ := List.mem_map.mp ha
    apply hn
    cases q : atKey (es.map Ent.raw) (keyN m y w) with
    | some _ => rfl
    | none =>
      have : x.1 = keyN m y w := ex
      unfold atKey at q
      rw [Option.map_eq_none_iff, List.find?_eq_none] at q
      exact absurd (decide_eq_true this) (q x hx)
section
variable {X : Cx} {c : PCx}
def rNin (c : PCx) : R2 := fun x y H Q => ∃ (a : Addr) (g : Nat) (es : List Ent) (m yy : List Int) (w : Int), y = .ref a ∧ (a == sysModules) = false ∧ H a = some (memoO c a g (es.map Ent.raw)) ∧ EntsAt H es ∧ ((es.map Ent.raw).map (·.1)).Nodup ∧ KeyAt H x m yy w ∧ Q (.bl (!(atKey (es.map Ent.raw) (keyN m yy w)).isSome)) H
theorem op_nin (hP : c.P = X.prog) (hw : c.w = X.w) (hu : X.A.units + 65 < cLine) : OpR X (compareOp .NotIn) (rNin c) := by
  obtain ⟨P, w, K, C, xc, Vv⟩ := c
  dsimp only at hP hw
  subst hP hw
  intro pins s σ H x y v u Q I rx ry ⟨a, g, es, m, yy, k, ey, hs, ha, he, nd, ⟨t, ma, ya, ex, e1, e2, e3⟩, q⟩
  subst ey ex
  cases rx
  cases ry
  have d := memo_dict (c := ⟨X.prog, X.w, K, C, xc, Vv⟩) I.hok ha he nd
  refine notIn_keyed (knd := nestedKind X.prog X.w) (k := keyN m yy k) (by show X.A.units + 1 + 8 < cLine; omega) (key_is I.hok e1 e2 e3) hs ⟨_, d, rfl⟩ ?_
  rw [valueAt_pairsH, Option.isSome_map]
  exact ⟨.bl _, H, I.tok _, rfl, q⟩
/-- d[k], there -/
def tMGet (c : PCx) (td ty : TE) : TE := fun σ H Q => td σ H fun x H1 => ty σ H1 fun y H2 => ∃ (a : Addr) (g : Nat) (es : List Ent) (m yy : List Int) (w : Int) (ka : Addr) (v : Int) (tk : Tok), x = .ref a ∧ H2 a = some (memoO c a g (es.map Ent.raw)) ∧ EntsAt H2 es ∧ ((es.map Ent.raw).map (·.1)).Nodup ∧ KeyAt H2 y m yy w ∧ atKey (es.map Ent.raw) (keyN m yy w) = some (ka, .int v tk) ∧ Q (.int v) H2
theorem pe_mget {o i : Expr} {td ty : TE} {pos : Pos} (hP : c.P = X.prog) (hw : c.w = X.w) (hu : X.A.units + 65 < cLine) (ho : PE X o td) (hi : PE X i ty) (hs : NoSl i) : PE X (.Subscript o i pos) (tMGet c td ty) := by
  obtain ⟨P, w, K, C, xc, Vv⟩ := c
  dsimp only at hP hw
  subst hP hw
  refine ⟨fun pins s σ H Q I h => ?_⟩
  refine subD_of PySem.F.slot_dict_getitem.lookup hs (thn (ho.run pins s σ H _ I h) fun u s1 ⟨x, H1, I1, rx, q1⟩ => thn (hi.run pins s1 σ H1 _ I1 q1) fun iv s2 ⟨y, H2, I2, ry, a, g, es, m, yy, k, ka, v, tk, ex, ha, he, nd, ⟨t, ma, ya, ey, e1, e2, e3⟩, hv, q2⟩ => ?_)
  subst ex ey
  cases rx
  cases ry
  have d := memo_dict (c := ⟨X.prog, X.w, K, C, xc, Vv⟩) I2.hok ha he nd
  have dk : s2.heap.DictKeyed (nestedKind X.prog X.w) a _ := ⟨_, d, rfl⟩
  refine ⟨dk.typeIs, getItem_keyed (k := keyN m yy k) (v := .int v tk) (by show X.A.units + 1 + 8 < cLine; omega) (key_is I2.hok e1 e2 e3) dk (by rw [valueAt_pairsH, hv]; rfl) ?_⟩
  exact ⟨.int v, H2, I2.tok _, ⟨tk, rfl⟩, q2⟩
/-- d[k] = v -/
def sMPut (c : PCx) (td ty tv : TE) : TS := fun D σ H => tv σ H fun v H1 => td σ H1 fun x H2 => ty σ H2 fun y H3 => ∃ (a : Addr) (g : Nat) (es : List Ent) (m yy : List Int) (w n : Int) (t ma ya : Addr), v = .int n ∧ x = .ref a ∧ H3 a = some (memoO c a g (es.map Ent.raw)) ∧ EntsAt H3 es ∧ ((es.map Ent.raw).map (·.1)).Nodup ∧ (∀ e ∈ es, keyOk e.m e.y e.w = true) ∧
  y = .ref t ∧ H3 t = some (.tup [.ref ma, .ref ya, .int w]) ∧ H3 ma = some (.tup (m.map V.int)) ∧ H3 ya = some (.tup (yy.map V.int)) ∧
  ∀ tk, D.nx σ (upd H3 a (memoO c a g ((putE es m yy w n tk t ma ya).map Ent.raw)))
theorem ps_mput {o i value : Expr} {td ty tv : TE} {pos pos' : Pos} (hP : c.P = X.prog) (hw : c.w = X.w) (hu : X.A.units + 65 < cLine) (ho : PE X o td) (hi : PE X i ty) (hv : PE X value tv) (hs : swapsWith value (some (.Subscript o i pos')) pos.line X.env = pure false) :
    PS X (.Assign [.Subscript o i pos'] value pos) (sMPut c td ty tv) := by
  obtain ⟨P, w, K, C, xc, Vv⟩ := c
  dsimp only at hP hw
  subst hP hw
  refine ⟨fun pins s σ H D I h => ?_⟩
  refine wpAny_Assign_Subscript (thn (hv.run pins s σ H _ I h) fun r s1 ⟨v, H1, I1, rv, q1⟩ => thn (ho.run pins s1 σ H1 _ I1 q1) fun u s2 ⟨x, H2, I2, rx, q2⟩ => thn (hi.run pins s2 σ H2 _ I2 q2) fun iv s3 ⟨y, H3, I3, ry, q3⟩ => ?_) hs
  obtain ⟨a, g, es, m, yy, k, n, t, ma, ya, ev, ex, ha, he, nd, hk, ey, e1, e2, e3, q⟩ := q3
  subst ev ex ey
  cases rx
  cases ry
  obtain ⟨tk, rfl⟩ := rv
  obtain ⟨o0, en, ep, g1, g2, g3, g4, g5⟩ := memo_raw (c := ⟨X.prog, X.w, K, C, xc, Vv⟩) I3.hok ha
  obtain ⟨_, _, _, _, _, _, _, his, _⟩ := memo_dict (c := ⟨X.prog, X.w, K, C, xc, Vv⟩) I3.hok ha he nd
  refine setItem_ep (kk := nestedKind X.prog X.w) (key := keyN m yy k) (by show X.A.units + 1 + 8 < cLine; omega) (key_is I3.hok e1 e2 e3) g1 g2 g3 g4 his nd (by rw [List.length_map, sizeLine_eq]; have := ents_few nd hk; omega) fun h' o' en' f1 f2 f3 f4 hs => ?_
  have rd : RawD ⟨X.prog, X.w, K, C, xc, Vv⟩ h' a g ((putE es m yy k n tk t ma ya).map Ent.raw) := by
    rw [putE_raw]
    refine ⟨o', en', _, f1, f2, f3, f4, ?_⟩
    rw [storedH_len]
    rcases g5 with g5 | g5
    · exact .inl (by rw [g5])
    · exact .inr (by rw [g5]; omega)
  have I4 := d_write (ob := memoO ⟨X.prog, X.w, K, C, xc, Vv⟩ a g ((putE es m yy k n tk t ma ya).map Ent.raw)) (t' := s3.toks + (nestedKind X.prog X.w).draws (keyN m yy k)) I3 (by rw [ha]; exact True.intro) hs ⟨o', f1⟩ (memo_obj (c := ⟨X.prog, X.w, K, C, xc, Vv⟩) rd)
  exact ⟨σ, _, I4, q tk⟩
/-- {}, with any tag -/
def tMNew (c : PCx) (g : Nat) : TE := fun _ H Q => ∀ p, H p = none → (p == sysModules) = false → Q (.ref p) (upd H p (memoO c p g []))
theorem pe_mnew {pos : Pos} (g : Nat) (hP : c.P = X.prog) (hw : c.w = X.w) : PE X (.Dict [] [] pos) (tMNew c g) := by
  obtain ⟨P, w, K, C, xc, Vv⟩ := c
  dsimp only at hP hw
  subst hP hw
  refine ⟨fun pins s σ H Q I h => ?_⟩
  obtain ⟨o, en, ep, e1, e2, e3, e4, _⟩ := Heap.DictOfH.new (knd := nestedKind X.prog X.w) s.heap
  have e1' : (s.heap.push { cls := .type "dict", data := .dict #[] }).get? s.heap.objs.size = some { cls := .type "dict", data := .dict #[] } := Heap.get?_push_size _ rfl
  exact wpAny_Dict_empty ⟨.ref s.heap.objs.size, _, I.laid (a := s.heap.objs.size) (o := memoO ⟨X.prog, X.w, K, C, xc, Vv⟩ s.heap.objs.size g []) (t' := s.toks) (fun _ _ q => Heap.get?_push_of_some _ q) (Nat.le_refl _)
    (memo_obj (c := ⟨X.prog, X.w, K, C, xc, Vv⟩) ⟨_, #[], 0, e1', ⟨rfl, rfl, rfl⟩, rfl, rfl, .inl rfl⟩), rfl, h _ (I.hok.fresh (Nat.le_refl _)) (beq_eq_false_iff_ne.mpr (Ne.symm (Nat.ne_of_lt I.big)))⟩
end
end FC

/-! What operations give, over data. -/
set_option autoImplicit false
set_option linter.all false
set_option maxRecDepth 100000
set_option maxHeartbeats 4000000
set_option Elab.async false
namespace FC
open PySem L2

/-- what is wanted behind a piece of code whose result is r -/
def Post {α β : Type} (c : PCx) (Ex : XK) (R : Hp → α → β → Prop) (r : Res α) (H : Hp) (Q : β → Hp → Prop) : Prop := match r with
  | .ok a => ∀ b H', Kp c nohid H H' → R H' a b → Q b H'
  | .exc n => ∀ H', Kp c nohid H H' → Ex (.ref (c.xc n)) none H'
  | .bad => False
section
variable {α α' β β' : Type} {c : PCx} {Ex : XK} {R : Hp → α → β → Prop} {R2 : Hp → α' → β' → Prop} {r : Res α} {H H1 : Hp} {Q Q' : β → Hp → Prop}
theorem Post.mono (k : Kp c nohid H H1) (h : Post c Ex R r H Q) : Post c Ex R r H1 Q := by
  cases r with
  | ok a => exact fun b H' k' => h b H' (k.trans k')
  | exc n => exact fun H' k' => h H' (k.trans k')
  | bad => exact h
theorem Post.imp (h : Post c Ex R r H Q) (i : ∀ b H', Kp c nohid H H' → Q b H' → Q' b H') : Post c Ex R r H Q' := by
  cases r with
  | ok a => exact fun b H' k' q => i b H' k' (h b H' k' q)
  | exc n => exact h
  | bad => exact h
theorem Post.bind {k : α → Res α'} {Q2 : β' → Hp → Prop} (h : Post c Ex R2 (r.bind k) H Q2) :
    Post c Ex R r H (fun b H1 => ∃ a, r = .ok a ∧ R H1 a b ∧ Kp c nohid H H1 ∧ Post c Ex R2 (k a) H1 Q2) := by
  cases r with
  | ok a => exact fun b H' k' q => ⟨a, rfl, q, k', h.mono k'⟩
  | exc n => exact h
  | bad => exact h
end

/-- what is hidden stands -/
def HA (hid : Addr → Prop) (H : Hp) : Prop := ∀ a, H a = none → ¬ hid a
section
variable {c : PCx} {hid hid' : Addr → Prop} {H H1 : Hp} {p : Addr}
theorem HA.keep (h : HA hid H) (k : Kp c hid' H H1) : HA hid H1 := fun a e => h a (k.alive a e)
theorem HA.new {o : HO} (h : HA hid H) : HA hid (upd H p o) := fun a e => by
  by_cases q : a = p
  · subst q; rw [upd_same] at e; cases e
  · rw [upd_ne q] at e; exact h a e
theorem HA.none : HA nohid H := fun _ _ h => h
theorem Rp.newT {ds : List D} {vs : List V} (hp : H p = Option.none) (h : RpL c H hid ds vs) : Rp c (upd H p (.tup vs)) hid (.tup ds) (.ref p) :=
  ⟨p, vs, rfl, upd_same, h.keep (.new hp)⟩
theorem Rp.newL {ds : List D} {vs : List V} (a : HA hid H) (hp : H p = Option.none) (h : RpL c H hid ds vs) : Rp c (upd H p (.lst vs)) hid (.lst ds) (.ref p) :=
  ⟨p, vs, rfl, upd_same, a p hp, h.keep (.new hp)⟩
end

/-! ### operators -/
def rOp (c : PCx) (g : D → D → Res D) : R2 := fun x y H Q => ∃ hid d e Ex, HA hid H ∧ Rp c H hid d x ∧ Rp c H hid e y ∧ Post c Ex (fun H => Rp c H hid) (g d e) H Q
def bop : BO → Operator
  | .add => .Add | .sub => .Sub | .mul => .Mult | .fdiv => .FloorDiv | .mod => .Mod | .band => .BitAnd | .shl => .LShift | .shr => .RShift
def cop : CO → CmpOp
  | .eq => .Eq | .ne => .NotEq | .lt => .Lt | .le => .LtE | .gt => .Gt | .ge => .GtE | .is => .Is | .isnot => .IsNot | .isin => .In | .notin => .NotIn
theorem lim_le : lim ≤ sizeLine := by rw [sizeLine_eq]; decide
section
variable {X : Cx} {c : PCx}
theorem opd_add : OpR X (binaryOp .Add) (rOp c (binD .add)) := by
  intro pins s σ H x y v u Q I rx ry ⟨hid, d, e, Ex, ha, hd, he, p⟩
  cases d <;> cases e <;> first | exact False.elim p | skip
  · rename_i i j
    exact op_add pins s σ H x y v u Q I rx ry ⟨i, j, hd, he, p _ H .refl rfl⟩
  · rename_i i j
    simp only [binD] at p
    split at p
    · exact op_add_str pins s σ H x y v u Q I rx ry ⟨i, j, hd, he, by assumption, p _ H .refl rfl⟩
    · exact p.elim
  · rename_i ds es
    simp only [binD, mkT] at p
    split at p
    · rename_i hl
      obtain ⟨a, vs, rfl, h1, t1⟩ := hd
      obtain ⟨b, ws, rfl, h2, t2⟩ := he
      refine op_catA pins s σ H _ _ v u Q I rx ry ⟨a, b, vs, ws, rfl, rfl, SqT.of h1, SqT.of h2, ?_, ?_, ?_, ?_⟩
      · rw [t1.len, t2.len, ← List.length_append]; exact Nat.le_trans hl lim_le
      · intro ev
        have : ds = [] := List.eq_nil_of_length_eq_zero (by rw [← t1.len, ev]; rfl)
        subst this
        exact p _ H .refl ⟨b, ws, rfl, h2, t2⟩
      · intro _ ev
        have : es = [] := List.eq_nil_of_length_eq_zero (by rw [← t2.len, ev]; rfl)
        subst this
        exact p _ H .refl ⟨a, vs, rfl, h1, by rw [List.append_nil]; exact t1⟩
      · intro _ _ q hq
        exact p _ _ (.new hq) (.newT hq (t1.append t2))
    · exact p.elim
  · rename_i ds es
    simp only [binD, mkL] at p
    split at p
    · rename_i hl
      obtain ⟨a, vs, rfl, h1, n1, t1⟩ := hd
      obtain ⟨b, ws, rfl, h2, n2, t2⟩ := he
      refine op_cat pins s σ H _ _ v u Q I rx ry ⟨a, b, vs, ws, rfl, rfl, h1, h2, ?_, fun q hq => ?_⟩
      · rw [t1.len, t2.len, ← List.length_append]; exact Nat.le_trans hl lim_le
      · exact p _ _ (.new hq) (.newL ha hq (t1.append t2))
    · exact p.elim
theorem opd_sub : OpR X (binaryOp .Sub) (rOp c (binD .sub)) := by
  intro pins s σ H x y v u Q I rx ry ⟨hid, d, e, Ex, ha, hd, he, p⟩
  cases d <;> cases e <;> first | exact False.elim p | skip
  rename_i i j
  exact op_sub pins s σ H x y v u Q I rx ry ⟨i, j, hd, he, p _ H .refl rfl⟩
theorem RpL.rep {hid : Addr → Prop} {H : Hp} {ds : List D} {vs : List V} (h : RpL c H hid ds vs) : ∀ k : Nat, RpL c H hid (List.replicate k ds).flatten (List.replicate k vs).flatten
  | 0 => rfl
  | k + 1 => by
    rw [List.replicate_succ, List.replicate_succ, List.flatten_cons, List.flatten_cons]
    exact h.append (RpL.rep h k)
theorem opd_mul : OpR X (binaryOp .Mult) (rOp c (binD .mul)) := by
  intro pins s σ H x y v u Q I rx ry ⟨hid, d, e, Ex, ha, hd, he, p⟩
  cases d <;> cases e <;> first | exact False.elim p | skip
  · rename_i i j
    simp only [binD] at p
    split at p
    · rename_i hc
      rw [Bool.or_eq_true, Bool.or_eq_true, Bool.and_eq_true] at hc
      rcases hc with (hc | hc) | ⟨h1, h2⟩
      · exact op_mul pins s σ H x y v u Q I rx ry ⟨i, j, hd, he, .inr (of_decide_eq_true hc), p _ H .refl rfl⟩
      · exact op_mul pins s σ H x y v u Q I rx ry ⟨i, j, hd, he, .inl (of_decide_eq_true hc), p _ H .refl rfl⟩
      · refine op_mulW pins s σ H x y v u Q I rx ry ⟨i, j, hd, he, ?_, p _ H .refl rfl⟩
        have a := of_decide_eq_true h1
        have b := of_decide_eq_true h2
        show _ + _ < 1000000
        omega
    · exact p.elim
  · rename_i ds k
    simp only [binD] at p
    split at p
    · rename_i hc
      obtain ⟨h0, h1, hl⟩ := hc
      obtain ⟨a, vs, rfl, h, n1, t1⟩ := hd
      refine op_rep pins s σ H _ _ v u Q I rx ry ⟨a, k, vs, rfl, he, h, by omega, by omega, ?_, fun q hq => ?_⟩
      · rw [t1.len]; exact Nat.le_trans hl lim_le
      · exact p _ _ (.new hq) (.newL ha hq (t1.rep _))
    · exact p.elim
theorem opd_fdiv : OpR X (binaryOp .FloorDiv) (rOp c (binD .fdiv)) := by
  intro pins s σ H x y v u Q I rx ry ⟨hid, d, e, Ex, ha, hd, he, p⟩
  cases d <;> cases e <;> first | exact False.elim p | skip
  rename_i i j
  simp only [binD] at p
  split at p
  · exact op_fdivW pins s σ H x y v u Q I rx ry ⟨i, j, hd, he, by assumption, p _ H .refl rfl⟩
  · exact p.elim
theorem opd_mod : OpR X (binaryOp .Mod) (rOp c (binD .mod)) := by
  intro pins s σ H x y v u Q I rx ry ⟨hid, d, e, Ex, ha, hd, he, p⟩
  cases d <;> cases e <;> first | exact False.elim p | skip
  rename_i i j
  simp only [binD] at p
  split at p
  · exact op_mod pins s σ H x y v u Q I rx ry ⟨i, j, hd, he, by assumption, p _ H .refl rfl⟩
  · exact p.elim
theorem opd_band : OpR X (binaryOp .BitAnd) (rOp c (binD .band)) := by
  intro pins s σ H x y v u Q I rx ry ⟨hid, d, e, Ex, ha, hd, he, p⟩
  cases d <;> cases e <;> first | exact False.elim p | skip
  rename_i i j
  exact op_and pins s σ H x y v u Q I rx ry ⟨i, j, hd, he, p _ H .refl rfl⟩
theorem opd_shl : OpR X (binaryOp .LShift) (rOp c (binD .shl)) := by
  intro pins s σ H x y v u Q I rx ry ⟨hid, d, e, Ex, ha, hd, he, p⟩
  cases d <;> cases e <;> first | exact False.elim p | skip
  rename_i i j
  simp only [binD] at p
  split at p
  · exact op_shl pins s σ H x y v u Q I rx ry ⟨i, j, hd, he, by assumption, p _ H .refl rfl⟩
  · exact p.elim
theorem opd_shr : OpR X (binaryOp .RShift) (rOp c (binD .shr)) := by
  intro pins s σ H x y v u Q I rx ry ⟨hid, d, e, Ex, ha, hd, he, p⟩
  cases d <;> cases e <;> first | exact False.elim p | skip
  rename_i i j
  simp only [binD] at p
  split at p
  · exact op_shr pins s σ H x y v u Q I rx ry ⟨i, j, hd, he, by assumption, p _ H .refl rfl⟩
  · exact p.elim
theorem opd : ∀ o, OpR X (binaryOp (bop o)) (rOp c (binD o))
  | .add => opd_add
  | .sub => opd_sub
  | .mul => opd_mul
  | .fdiv => opd_fdiv
  | .mod => opd_mod
  | .band => opd_band
  | .shl => opd_shl
  | .shr => opd_shr

/-! ### comparisons -/
theorem shp_lay {d : D} (h : shp d = true) : d.py.canLay0 = true := SeqAt.canLay_of_shaped h
theorem dpX (hK : c.K = X.K) {H : Hp} {hid : Addr → Prop} {d : D} {v : V} (h : Rp c H hid d v) (s : shp d = true) : Dp X.K H v d.py := by
  rw [← hK]; exact h.dp (.inl s)
theorem cmpd_eq (hK : c.K = X.K) (hu : X.A.units + 65 < cLine) : OpR X (compareOp .Eq) (rOp c (cmpD .eq)) := by
  intro pins s σ H x y v u Q I rx ry ⟨hid, d, e, Ex, ha, hd, he, p⟩
  simp only [cmpD] at p
  split at p
  · rename_i hc
    rw [Bool.and_eq_true] at hc
    exact op_eqD (by omega) pins s σ H x y v u Q I rx ry ⟨d.py, e.py, dpX hK hd hc.1, dpX hK he hc.2, hc.1, hc.2, p _ H .refl rfl⟩
  · exact p.elim
theorem cmpd_ne (hK : c.K = X.K) (hu : X.A.units + 65 < cLine) : OpR X (compareOp .NotEq) (rOp c (cmpD .ne)) := by
  intro pins s σ H x y v u Q I rx ry ⟨hid, d, e, Ex, ha, hd, he, p⟩
  simp only [cmpD] at p
  split at p
  · rename_i hc
    rw [Bool.and_eq_true] at hc
    exact op_neD (by omega) pins s σ H x y v u Q I rx ry ⟨d.py, e.py, dpX hK hd hc.1, dpX hK he hc.2, hc.1, hc.2, p _ H .refl rfl⟩
  · exact p.elim
theorem cmpd_lt (hu : X.A.units + 65 < cLine) : OpR X (compareOp .Lt) (rOp c (cmpD .lt)) := by
  intro pins s σ H x y v u Q I rx ry ⟨hid, d, e, Ex, ha, hd, he, p⟩
  cases d <;> cases e <;> first | exact False.elim p | skip
  · rename_i i j
    exact op_lt pins s σ H x y v u Q I rx ry ⟨i, j, hd, he, p _ H .refl rfl⟩
  · rename_i ds es
    simp only [cmpD, ltTup] at p
    split at p
    · rename_i ns ms h1 h2
      have e1 := allInts_map h1
      have e2 := allInts_map h2
      subst e1 e2
      obtain ⟨a, vs, rfl, g1, t1⟩ := hd
      obtain ⟨b, ws, rfl, g2, t2⟩ := he
      rw [t1.ints] at g1
      rw [t2.ints] at g2
      exact op_ltT (by omega) pins s σ H _ _ v u Q I rx ry ⟨a, b, ns, ms, rfl, rfl, SqT.of g1, SqT.of g2, p _ H .refl rfl⟩
    · exact p.elim
theorem cmpd_le : OpR X (compareOp .LtE) (rOp c (cmpD .le)) := by
  intro pins s σ H x y v u Q I rx ry ⟨hid, d, e, Ex, ha, hd, he, p⟩
  cases d <;> cases e <;> first | exact False.elim p | skip
  rename_i i j
  exact op_le pins s σ H x y v u Q I rx ry ⟨i, j, hd, he, p _ H .refl rfl⟩
theorem cmpd_gt : OpR X (compareOp .Gt) (rOp c (cmpD .gt)) := by
  intro pins s σ H x y v u Q I rx ry ⟨hid, d, e, Ex, ha, hd, he, p⟩
  cases d <;> cases e <;> first | exact False.elim p | skip
  rename_i i j
  exact op_gt pins s σ H x y v u Q I rx ry ⟨i, j, hd, he, p _ H .refl rfl⟩
theorem cmpd_ge : OpR X (compareOp .GtE) (rOp c (cmpD .ge)) := by
  intro pins s σ H x y v u Q I rx ry ⟨hid, d, e, Ex, ha, hd, he, p⟩
  cases d <;> cases e <;> first | exact False.elim p | skip
  rename_i i j
  exact op_ge pins s σ H x y v u Q I rx ry ⟨i, j, hd, he, p _ H .refl rfl⟩
/-- what is not None -/
theorem Rp.notNon {H : Hp} {hid : Addr → Prop} {d : D} {v : V} (h : Rp c H hid d v) (n : d ≠ .non) : v ≠ .non := by
  cases d with
  | non => exact absurd rfl n
  | bl b => rw [show v = V.bl b from h]; intro e; cases e
  | int b => rw [show v = V.int b from h]; intro e; cases e
  | str b => rw [show v = V.str b from h]; intro e; cases e
  | tup b => obtain ⟨a, vs, rfl, _⟩ := h; intro e; cases e
  | lst b => obtain ⟨a, vs, rfl, _⟩ := h; intro e; cases e
  | memo b g => obtain ⟨a, rfl, _⟩ := h; intro e; cases e
  | slv g => obtain ⟨a, _, _, _, _, rfl, _⟩ := h; intro e; cases e
  | scr g => obtain ⟨a, rfl, _⟩ := h; intro e; cases e
theorem isD_cases {d e : D} {k : Bool} (h : isD d e = .ok k) : (∃ a b, d = .bl a ∧ e = .bl b ∧ k = decide (a = b)) ∨ (e = .non ∧ ((d = .non ∧ k = true) ∨ (d ≠ .non ∧ k = false))) := by
  cases d <;> cases e <;> simp only [isD] at h <;> first | (injection h with h; subst h) | cases h
  · exact .inr ⟨rfl, .inl ⟨rfl, rfl⟩⟩
  · exact .inr ⟨rfl, .inr ⟨(by intro z; cases z), rfl⟩⟩
  · exact .inl ⟨_, _, rfl, rfl, rfl⟩
  all_goals exact .inr ⟨rfl, .inr ⟨(by intro z; cases z), rfl⟩⟩
theorem isD_ok {d e : D} : (∃ k, isD d e = .ok k) ∨ isD d e = .bad := by
  cases d <;> cases e <;> first | exact .inl ⟨_, rfl⟩ | exact .inr rfl
theorem cmpd_is : OpR X (compareOp .Is) (rOp c (cmpD .is)) := by
  intro pins s σ H x y v u Q I rx ry ⟨hid, d, e, Ex, ha, hd, he, p⟩
  simp only [cmpD] at p
  rcases @isD_ok d e with ⟨k, hk⟩ | hk
  · rw [hk] at p
    have q : Q (.bl k) H := p _ H .refl rfl
    rcases isD_cases hk with ⟨a, b, rfl, rfl, rfl⟩ | ⟨rfl, h⟩
    · exact op_isBl pins s σ H x y v u Q I rx ry ⟨a, b, hd, he, q⟩
    · refine op_isN pins s σ H x y v u Q I rx ry ⟨he, ?_⟩
      rcases h with ⟨rfl, rfl⟩ | ⟨n, rfl⟩
      · rw [decide_eq_true (show x = .non from hd)]; exact q
      · rw [decide_eq_false (hd.notNon n)]; exact q
  · rw [hk] at p; exact p.elim
theorem cmpd_isnot : OpR X (compareOp .IsNot) (rOp c (cmpD .isnot)) := by
  intro pins s σ H x y v u Q I rx ry ⟨hid, d, e, Ex, ha, hd, he, p⟩
  simp only [cmpD] at p
  rcases @isD_ok d e with ⟨k, hk⟩ | hk
  · rw [hk] at p
    have q : Q (.bl (!k)) H := p _ H .refl rfl
    rcases isD_cases hk with ⟨a, b, rfl, rfl, rfl⟩ | ⟨rfl, h⟩
    · exact op_notBl pins s σ H x y v u Q I rx ry ⟨a, b, hd, he, q⟩
    · refine op_notN pins s σ H x y v u Q I rx ry ⟨he, ?_⟩
      rcases h with ⟨rfl, rfl⟩ | ⟨n, rfl⟩
      · rw [decide_eq_true (show x = .non from hd)]; exact q
      · rw [decide_eq_false (hd.notNon n)]; exact q
  · rw [hk] at p; exact p.elim
theorem any_pys (x : D) : ∀ ys : List D, (D.pys ys).any (fun z => PyData.eqv z x.py) = inD x ys
  | [] => rfl
  | y :: ys => by
    show (PyData.eqv y.py x.py || (D.pys ys).any fun z => PyData.eqv z x.py) = (eqD y x || ys.any fun z => eqD z x)
    rw [any_pys x ys]; rfl
theorem cmpd_in (hK : c.K = X.K) (hu : X.A.units + 65 < cLine) : OpR X (compareOp .In) (rOp c (cmpD .isin)) := by
  intro pins s σ H x y v u Q I rx ry ⟨hid, d, e, Ex, ha, hd, he, p⟩
  cases e with
  | tup ys =>
    simp only [cmpD] at p
    split at p
    · rename_i hc
      rw [Bool.and_eq_true] at hc
      obtain ⟨as, r1⟩ := Dp.reads I d.py x v (dpX hK hd hc.1) rx
      obtain ⟨bs, r2⟩ := Dp.reads I (D.tup ys).py y u (dpX hK he hc.2) ry
      exact SeqAt.in_tuple_reads r2 r1 (shp_lay hc.2) (shp_lay hc.1) (PyProof.Rows.room_in_shaped hc.1 hu) ⟨.bl _, H, I, rfl, by rw [any_pys]; exact p _ H .refl rfl⟩
    · exact p.elim
  | lst ys =>
    simp only [cmpD] at p
    split at p
    · rename_i hc
      rw [Bool.and_eq_true] at hc
      obtain ⟨as, r1⟩ := Dp.reads I d.py x v (dpX hK hd hc.1) rx
      obtain ⟨bs, r2⟩ := Dp.reads I (D.lst ys).py y u (dpX hK he hc.2) ry
      exact SeqAt.in_list_reads r2 r1 (shp_lay hc.2) (shp_lay hc.1) (PyProof.Rows.room_in_shaped hc.1 hu) ⟨.bl _, H, I, rfl, by rw [any_pys]; exact p _ H .refl rfl⟩
    · exact p.elim
  | _ => cases d <;> exact p.elim
theorem cmpd_notin (hK : c.K = X.K) (hu : X.A.units + 65 < cLine) : OpR X (compareOp .NotIn) (rOp c (cmpD .notin)) := by
  intro pins s σ H x y v u Q I rx ry ⟨hid, d, e, Ex, ha, hd, he, p⟩
  cases e with
  | tup ys =>
    simp only [cmpD] at p
    split at p
    · rename_i hc
      rw [Bool.and_eq_true] at hc
      obtain ⟨as, r1⟩ := Dp.reads I d.py x v (dpX hK hd hc.1) rx
      obtain ⟨bs, r2⟩ := Dp.reads I (D.tup ys).py y u (dpX hK he hc.2) ry
      exact SeqAt.notIn_tuple_reads r2 r1 (shp_lay hc.2) (shp_lay hc.1) (PyProof.Rows.room_in_shaped hc.1 hu) ⟨.bl _, H, I, rfl, by rw [any_pys]; exact p _ H .refl rfl⟩
    · exact p.elim
  | lst ys =>
    simp only [cmpD] at p
    split at p
    · rename_i hc
      rw [Bool.and_eq_true] at hc
      obtain ⟨as, r1⟩ := Dp.reads I d.py x v (dpX hK hd hc.1) rx
      obtain ⟨bs, r2⟩ := Dp.reads I (D.lst ys).py y u (dpX hK he hc.2) ry
      exact SeqAt.notIn_list_reads r2 r1 (shp_lay hc.2) (shp_lay hc.1) (PyProof.Rows.room_in_shaped hc.1 hu) ⟨.bl _, H, I, rfl, by rw [any_pys]; exact p _ H .refl rfl⟩
    · exact p.elim
  | _ => cases d <;> exact p.elim
theorem cmpd (hK : c.K = X.K) (hu : X.A.units + 65 < cLine) : ∀ o, OpR X (compareOp (cop o)) (rOp c (cmpD o))
  | .eq => cmpd_eq hK hu
  | .ne => cmpd_ne hK hu
  | .lt => cmpd_lt hu
  | .le => cmpd_le
  | .gt => cmpd_gt
  | .ge => cmpd_ge
  | .is => cmpd_is
  | .isnot => cmpd_isnot
  | .isin => cmpd_in hK hu
  | .notin => cmpd_notin hK hu
theorem unop_neg : UnR X (unaryOp .USub) (fun x H Q => ∃ i, x = .int i ∧ Q (.int (-i)) H) := un_neg

/-! ### truth -/
theorem tru_of (hK : c.K = X.K) {hid : Addr → Prop} {H : Hp} {d : D} {x : V} {k : Bool} (h : Rp c H hid d x) (e : truthD d = .ok k) : TruV X.K x H k := by
  cases d with
  | non => injection e with e; rw [show x = .non from h, ← e]; rfl
  | bl b => injection e with e; rw [show x = .bl b from h, ← e]; rfl
  | int b => injection e with e; rw [show x = .int b from h, ← e]; rfl
  | tup ds =>
    injection e with e
    obtain ⟨a, vs, rfl, h1, t⟩ := h
    refine .inr (.inl ⟨vs, SqT.of h1, ?_⟩)
    rw [← e]
    have := t.len
    cases vs <;> cases ds <;> simp at this ⊢
  | lst ds =>
    injection e with e
    obtain ⟨a, vs, rfl, h1, n, t⟩ := h
    refine .inl ⟨vs, SqL.of h1, ?_⟩
    rw [← e]
    have := t.len
    cases vs <;> cases ds <;> simp at this ⊢
  | _ => cases e
theorem truthD_cases (d : D) : (∃ k, truthD d = .ok k) ∨ truthD d = .bad := by
  cases d <;> first | exact .inl ⟨_, rfl⟩ | exact .inr rfl

/-! ### items and slices -/
theorem RpL.atI {hid : Addr → Prop} {H : Hp} {ds : List D} {vs : List V} {i : Int} {d : D} (h : RpL c H hid ds vs) (e : L2.atI ds i = some d) : ∃ v, L2.atI vs i = some v ∧ Rp c H hid d v := by
  unfold L2.atI at e ⊢
  rw [h.len]
  cases q : ixN ds.length i with
  | none => rw [q] at e; cases e
  | some j =>
    rw [q] at e
    exact h.get e
theorem ixd (hK : c.K = X.K) : IxR X (rOp c idxD) := by
  intro ve se pins s σ H x y v u Q I rx ry ⟨hid, d, e, Ex, ha, hd, he, p⟩ hsub
  cases d <;> cases e <;> first | exact False.elim p | skip
  · rename_i z i
    simp only [idxD] at p
    split at p
    · rename_i hl
      cases q : L2.atI z.cps.toList i with
      | none => rw [q] at p; exact p.elim
      | some k =>
        rw [q] at p
        exact ix_str ve se pins s σ H x y v u Q I rx ry ⟨z, i, k, hd, he, hl, q, p _ H .refl rfl⟩ hsub
    · exact p.elim
  · rename_i ds i
    simp only [idxD] at p
    cases q : L2.atI ds i with
    | none => rw [q] at p; exact p.elim
    | some k =>
      rw [q] at p
      obtain ⟨a, vs, rfl, h1, t⟩ := hd
      obtain ⟨w, h2, h3⟩ := t.atI q
      exact ix_tup ve se pins s σ H _ y v u Q I rx ry ⟨a, vs, i, w, rfl, he, SqT.of h1, h2, p _ H .refl h3⟩ hsub
  · rename_i ds i
    simp only [idxD] at p
    cases q : L2.atI ds i with
    | none => rw [q] at p; exact p.elim
    | some k =>
      rw [q] at p
      obtain ⟨a, vs, rfl, h1, n, t⟩ := hd
      obtain ⟨w, h2, h3⟩ := t.atI q
      exact ix_list ve se pins s σ H _ y v u Q I rx ry ⟨a, vs, i, w, rfl, he, SqL.of h1, h2, p _ H .refl h3⟩ hsub
  · rename_i ns i
    simp only [idxD] at p
    cases q : L2.atI ns i with
    | none => rw [q] at p; exact p.elim
    | some k =>
      rw [q] at p
      obtain ⟨a, rfl, h1⟩ := hd
      have h2 : L2.atI (ns.map V.int) i = some (.int k) := by
        unfold L2.atI at q ⊢
        rw [List.length_map]
        cases z : ixN ns.length i with
        | none => rw [z] at q; cases q
        | some j =>
          rw [z] at q
          have q : ns[j]? = some k := q
          show (ns.map V.int)[j]? = some (.int k)
          rw [List.getElem?_map, q]; rfl
      exact ix_list ve se pins s σ H _ y v u Q I rx ry ⟨a, ns.map V.int, i, .int k, rfl, he, by rw [← hK]; exact h1.sq, h2, p _ H .refl rfl⟩ hsub
theorem RpL.cut {hid : Addr → Prop} {H : Hp} {ds : List D} {vs : List V} (lo hi : Option Int) (h : RpL c H hid ds vs) : RpL c H hid (cut ds lo hi) (cutV vs lo hi) := by
  unfold FC.cut cutV
  rw [h.len]
  exact (h.drop _).take _
theorem cut_whole {α : Type} (xs : List α) (lo hi : Option Int) (h : HT.sIx xs.length 0 lo = 0 ∧ HT.sIx xs.length xs.length hi = xs.length) : cut xs lo hi = xs := by
  unfold cut
  rw [h.1, h.2]
  simp
def rSlD (c : PCx) : V → Option Int → Option Int → Hp → VK → Prop := fun x lo hi H Q => ∃ hid d Ex, HA hid H ∧ Rp c H hid d x ∧ Post c Ex (fun H => Rp c H hid) (slcD d lo hi) H Q
theorem sld (hK : c.K = X.K) : SlR X (rSlD c) := by
  intro pins s σ H x v vl vu lo hi sl Q I rx hs pl pu ⟨hid, d, Ex, ha, hd, p⟩
  cases d <;> first | exact False.elim p | skip
  · rename_i z
    simp only [slcD] at p
    split at p
    · rename_i hl
      exact sl_str pins s σ H x v vl vu lo hi sl Q I rx hs pl pu ⟨z, hd, hl, p _ H .refl rfl⟩
    · exact p.elim
  · rename_i ds
    obtain ⟨a, vs, rfl, h1, t⟩ := hd
    refine sl_tupA pins s σ H _ v vl vu lo hi sl Q I rx hs pl pu ⟨a, vs, rfl, SqT.of h1, fun w => ?_, fun w q hq => ?_⟩
    · rw [t.len] at w
      exact p _ H .refl (by rw [cut_whole ds lo hi w]; exact ⟨a, vs, rfl, h1, t⟩)
    · exact p _ _ (.new hq) (.newT hq (t.cut lo hi))
  · rename_i ds
    obtain ⟨a, vs, rfl, h1, n, t⟩ := hd
    exact sl_list pins s σ H _ v vl vu lo hi sl Q I rx hs pl pu ⟨a, vs, rfl, SqL.of h1, fun q hq => p _ _ (.new hq) (.newL ha hq (t.cut lo hi))⟩
  · rename_i ns
    obtain ⟨a, rfl, h1⟩ := hd
    exact sl_list pins s σ H _ v vl vu lo hi sl Q I rx hs pl pu ⟨a, ns.map V.int, rfl, by rw [← hK]; exact h1.sq, fun q hq => p _ _ (.new hq) (.newL ha hq ((RpL.ofInts ns).cut lo hi))⟩
end
end FC

/-! A tuple's [::-1]. -/
set_option autoImplicit false
set_option linter.all false
set_option maxRecDepth 100000
set_option maxHeartbeats 4000000
set_option Elab.async false
namespace FC
open PySem PySem.Spec PyProof.Rows L2 HT

theorem adj_rev (n : Nat) : Builtin.Slice.sliceAdjust none none (-1) (n : Int) = ((n : Int) - 1, -1) := by
  unfold Builtin.Slice.sliceAdjust
  rfl
theorem plc_rev (n : Nat) : Builtin.Slice.slicePlaces ((n : Int) - 1) (-1) (-1) = n := by
  unfold Builtin.Slice.slicePlaces
  have h1 : ¬ ((-1 : Int) > 0) := by decide
  simp only [h1, if_false]
  split <;> (try rw [show (- -1 : Int) = 1 by decide, Int.ediv_one]) <;> omega
theorem fm_ext {α β : Type} {f g : α → Option β} : ∀ {l : List α}, (∀ x ∈ l, f x = g x) → l.filterMap f = l.filterMap g
  | [], _ => rfl
  | x :: l, h => by rw [List.filterMap_cons, List.filterMap_cons, h x List.mem_cons_self, fm_ext fun y hy => h y (List.mem_cons_of_mem _ hy)]
theorem pick_rev (xs : Array Value) : ((List.range xs.size).filterMap fun (m : Nat) => xs[((xs.size : Int) - 1 + (m : Int) * (-1)).toNat]?).toArray = xs.toList.reverse.toArray := by
  have h := PySem.W.krv_all xs
  rw [← h, ← List.filterMap_reverse, ← PySem.W.krv_range, List.filterMap_map]
  congr 1
  apply fm_ext
  intro m hm
  have := List.mem_range.mp hm
  show xs[((xs.size : Int) - 1 + (m : Int) * (-1)).toNat]? = xs[xs.size - 1 - m]?
  congr 1
  omega
section
variable {prog : Program} {w : World} {A : Around} {E : Value → Shared → Prop} {s : Shared}
theorem getItem_rev {t sl : Addr} {items : Array Value} {vl vu vs : Value} {Q : Value → Shared → Prop} (ht : IsTup s.heap t items) (hs : s.heap.IsSliceOf sl vl vu vs) (pl : IsPart vl none) (pu : IsPart vu none) (ps : IsPart vs (some (-1)))
    (h : Q (.ref s.heap.objs.size) { s with heap := s.heap.push { cls := .type "tuple", data := .seq items.toList.reverse.toArray } })
    (hsz : items.size ≤ sizeLine) : wpAny (model prog w) A (getItem (.ref t) (.ref sl)) Q E s := by
  have htake : sizeOk (.seq items.toList.reverse.toArray) := by
    show items.toList.reverse.toArray.size ≤ sizeLine
    rw [List.size_toArray, List.length_reverse, Array.length_toList]
    exact hsz
  obtain ⟨os, hos, hcs, hds⟩ := id hs
  have hTs : s.TypeIs (.ref sl) "slice" := ⟨os, hos, hcs⟩
  unfold getItem
  try with_reducible refine wpAny_holding ?_
  first | refine wpAny_bind (wpAny_pure ?_) | skip
  refine wpAny_bind (wpAny_sequenceKey ht.typeIs (by decide) ?_)
  refine wpAny_bind (wpAny_callSpecial?_slot (name := Str.ofString "__getitem__") ht.typeIs PyProof.Rows.slot_tuple_getitem
    (wpAny_call_entry PyProof.Rows.slot_tuple_getitem ht.typeIs PyProof.Rows.entry_tuple_getitem ?_ (PyProof.Rows.args_tuple_getitem _ _)))
  show wpAny _ _ (Builtin.Tuple.tupleItemsOf (.ref t) >>= _) _ _ s
  refine wpAny_bind (tupleItemsOf_ ht ?_)
  refine wpAny_bind (wpAny_typeOf hTs ?_)
  rw [if_pos (by decide)]
  have ap : ∀ {R : Int × Int × Nat → Shared → Prop}, R ((items.size : Int) - 1, -1, items.size) s → wpAny (model prog w) A.in1 (Builtin.Slice.sliceApplied (.ref sl) (pure (items.size : Int))) R E s := fun {R} h => by
    unfold Builtin.Slice.sliceApplied Builtin.Slice.sliceFields
    refine wpAny_bind (wpAny_bind (wpAny_field hos hds (x := vl) rfl (wpAny_bind (wpAny_field hos hds (x := vu) rfl (wpAny_bind (wpAny_field hos hds (x := vs) rfl (wpAny_pure ?_)))))))
    refine wpAny_bind (slicePart_ ps ?_)
    show wpAny _ _ (if ((-1 : Int) == 0) = true then _ else _) _ _ s
    rw [if_neg (by decide)]
    refine wpAny_bind (slicePart_ pl (wpAny_bind (slicePart_ pu (wpAny_bind (wpAny_pure ?_)))))
    show wpAny _ _ (match Builtin.Slice.sliceAdjust none none (-1) (items.size : Int) with | (lo, hi) => pure (lo, (-1 : Int), Builtin.Slice.slicePlaces lo hi (-1))) _ _ s
    rw [adj_rev]
    show wpAny _ _ (pure ((items.size : Int) - 1, (-1 : Int), Builtin.Slice.slicePlaces ((items.size : Int) - 1) (-1) (-1))) _ _ s
    rw [plc_rev]
    exact wpAny_pure h
  refine wpAny_bind (ap ?_)
  have hno : ¬ ((((items.size : Int) - 1) == 0 && (-1 : Int) == 1 && items.size == items.size) = true) := by
    intro q
    rw [Bool.and_eq_true, Bool.and_eq_true] at q
    exact absurd q.1.2 (by decide)
  show wpAny _ _ (if (((items.size : Int) - 1) == 0 && (-1 : Int) == 1 && items.size == items.size) = true then _ else _) _ _ s
  rw [if_neg hno, pick_rev]
  first
    | exact wpAny_bind (m := Builtin.Tuple.tupleExact _) (wpAny_newObj_type (wpAny_pure ⟨_, rfl, wpAny_pure h⟩) htake)
    | exact wpAny_bind (m := Builtin.Tuple.tupleExact _) (wpAny_newObj_type (wpAny_bind (wpAny_pure (wpAny_pure ⟨_, rfl, wpAny_pure h⟩))) htake)
    | exact wpAny_bind (wpAny_bind (m := Builtin.Tuple.tupleExact _) (wpAny_newObj_type (wpAny_pure (wpAny_pure ⟨_, rfl, wpAny_pure h⟩)) htake))
    | exact wpAny_bind (wpAny_bind (m := Builtin.Tuple.tupleExact _) (wpAny_newObj_type (wpAny_pure ⟨_, rfl, wpAny_pure h⟩) htake))
end
def tRevT (K : PySem.W.Frag) (te : TE) : TE := fun σ H Q => te σ H fun x H1 => ∃ a xs, x = .ref a ∧ SqT K H1 a xs ∧ ∀ p, H1 p = none → Q (.ref p) (upd H1 p (.tup xs.reverse))
theorem pe_revT {X : Cx} {e : Expr} {te : TE} {k : Nat} {p1 p2 p3 pos : Pos} (he : PE X e te) : PE X (.Subscript e (.Slice none none (some (.UnaryOp .USub (.Constant (.int 1) k p1) p2)) p3) pos) (tRevT X.K te) := by
  refine ⟨fun pins s σ H Q I h => ?_⟩
  refine Subscript_ (thn (he.run pins s σ H _ I h) fun v s1 ⟨x, H1, I1, r1, q1⟩ => ?_)
  obtain ⟨a, xs, ex, hx, q⟩ := q1
  subst ex
  cases r1
  have hst : PO X (some (.UnaryOp .USub (.Constant (.int 1) k p1) p2)) (tPart (tUn (rU fun i => .int (-i)) (tC (.int 1)))) := po_some (pe_un un_neg pe_int)
  refine wpAny_Slice (thn (po_none.run pins s1 σ H1 (fun o H2 => o = none ∧ H2 = H1) I1 ⟨rfl, rfl⟩) fun vl s2 ⟨l, H2, I2, pl, el, e2⟩ => ?_)
  subst el e2
  refine thn (po_none.run pins s2 σ H2 (fun o H3 => o = none ∧ H3 = H2) I2 ⟨rfl, rfl⟩) fun vu s3 ⟨u, H3, I3, pu, eu, e3⟩ => ?_
  subst eu e3
  refine thn (hst.run pins s3 σ H3 (fun o H4 => o = some (-1) ∧ H4 = H3) I3 ⟨1, rfl, -1, rfl, rfl, rfl⟩) fun vs s4 ⟨o, H4, I4, ps, eo, e4⟩ => ?_
  subst eo e4
  have I5 : Inv X pins σ H4 { s4 with heap := s4.heap.push { cls := .type "slice", data := .fields #[vl, vu, vs] } } := I4.kept (t' := s4.toks) fun b ob q => Heap.get?_push_of_some _ q
  obtain ⟨its, r, ht, hz⟩ := I5.tuple hx
  have hlen := r.length
  show wpAny (model X.prog X.w) X.A (subscriptTail e (.Slice none none (some (.UnaryOp .USub (.Constant (.int 1) k p1) p2)) p3) (.ref a) (.ref s4.heap.objs.size)) (EP X pins σ Q) X.xe { s4 with heap := s4.heap.push { cls := .type "slice", data := .fields #[vl, vu, vs] } }
  refine tail_any (ops := [.ref a, .ref s4.heap.objs.size]) ht.typeIs (PyProof.Rows.slot_tuple_getitem.lookup) ?_ (by with_unfolding_all rfl)
  refine getItem_rev ht (Heap.IsSliceOf.new _ vl vu vs) pl pu ps ?_ (by rw [List.size_toArray]; omega)
  refine ⟨.ref _, _, I5.laid (t' := s4.toks) (o := .tup xs.reverse) (fun b ob q => Heap.get?_push_of_some _ q) (Nat.le_refl _) ?_, rfl, q _ (I5.hok.fresh (Nat.le_refl _))⟩
  exact ⟨by rw [List.length_reverse]; exact hz, _, r.reverse, IsTup.new _ _⟩
end FC

/-! len(set(..)) of ints. -/
set_option autoImplicit false
set_option linter.all false
set_option maxRecDepth 100000
set_option maxHeartbeats 4000000
set_option Elab.async false
namespace FC
open PySem PySem.Spec PyProof.Rows L2

theorem nodup_sub {α : Type} [DecidableEq α] : ∀ {a b : List α}, a.Nodup → (∀ x ∈ a, x ∈ b) → a.length ≤ b.length
  | [], _, _, _ => Nat.zero_le _
  | x :: a, b, h, hs => by
    have h1 := List.nodup_cons.mp h
    have hx := hs x List.mem_cons_self
    have ih := nodup_sub (b := b.erase x) h1.2 fun y hy => (List.mem_erase_of_ne (fun e => h1.1 (by rw [← e]; exact hy))).mpr (hs y (List.mem_cons_of_mem _ hy))
    rw [List.length_erase_of_mem hx] at ih
    have := List.length_pos_of_mem hx
    rw [List.length_cons]
    omega
theorem meets_go : ∀ (ns acc : List Int), acc.Nodup → (ns.foldl meetS acc).Nodup ∧ ∀ k, k ∈ ns.foldl meetS acc ↔ k ∈ acc ∨ k ∈ ns
  | [], acc, h => ⟨h, fun k => by simp⟩
  | n :: ns, acc, h => by
    rw [List.foldl_cons]
    by_cases hn : n ∈ acc
    · have e : meetS acc n = acc := by unfold meetS; rw [if_pos (List.any_eq_true.mpr ⟨n, hn, by simp⟩)]
      rw [e]
      obtain ⟨h1, h2⟩ := meets_go ns acc h
      refine ⟨h1, fun k => (h2 k).trans ⟨fun q => q.imp_right (List.mem_cons_of_mem _), fun q => ?_⟩⟩
      rcases q with q | q
      · exact .inl q
      · rcases List.mem_cons.mp q with rfl | q
        · exact .inl hn
        · exact .inr q
    · have e : meetS acc n = acc ++ [n] := if_neg fun q => by
        obtain ⟨y, hy, ey⟩ := List.any_eq_true.mp q
        exact hn (eq_of_beq ey ▸ hy)
      rw [e]
      obtain ⟨h1, h2⟩ := meets_go ns (acc ++ [n]) (List.nodup_append.mpr ⟨h, List.nodup_cons.mpr ⟨fun h => (nomatch h), .nil⟩, fun x hx y hy e => hn (by rw [← List.mem_singleton.mp hy, ← e]; exact hx)⟩)
      refine ⟨h1, fun k => (h2 k).trans ?_⟩
      rw [List.mem_append, List.mem_singleton, List.mem_cons]
      exact ⟨fun q => by rcases q with (q | q) | q <;> simp [q], fun q => by rcases q with q | q | q <;> simp [q]⟩
theorem meets_nodup (ns : List Int) : (meets ns).Nodup := (meets_go ns [] .nil).1
theorem mem_meets {ns : List Int} {k : Int} : k ∈ meets ns ↔ k ∈ ns := by
  have := (meets_go ns [] .nil).2 k
  unfold meets
  simpa using this
theorem firstMet_meets (ns : List Int) : firstMet (fun i => ns.getD i 0) ns.length = meets ns := by
  unfold firstMet meets
  have e : (List.range ns.length).map (fun i => ns.getD i 0) = ns := by
    apply List.ext_getElem
    · simp
    · intro i h1 h2
      simp [h2]
  rw [e]
  congr 1
section
variable {X : Cx}
def tLset (K : PySem.W.Frag) (ta : TE) : TE := fun σ H Q => ta σ H fun x H1 => ∃ (l : Addr) (ns : List Int), x = V.ref l ∧ (SqL K H1 l (ns.map V.int) ∨ SqT K H1 l (ns.map V.int)) ∧ ns.length < 64 ∧ Q (.int (meets ns).length) H1
theorem pe_lset {a : Expr} {ta : TE} {p p2 q pos : Pos} (hc : X.calm = true) (hg : Gl X "len") (hm : X.mg "len" = none) (hg2 : Gl X "set") (hm2 : X.mg "set" = none) (ha : PE X a ta)
    (na : starEach [a] X.env = (false, eval a X.env) :: starEach [] X.env := by rfl) : PE X (.Call (.Name "len" p) [.Call (.Name "set" p2) [a] [] q] [] pos) (tLset X.K ta) := by
  refine ⟨fun pins s σ H Q I h => ?_⟩
  refine Call_ (ld_blt I hg hm PySem.boot_len ?_)
  refine PyProof.Rows.callWith_builtin1 (PyProof.Rows.args_cons ?_ rfl) rfl rfl
  refine Call_ (ld_blt I hg2 hm2 PyProof.Rows.boot_set ?_)
  refine PyProof.Rows.callWith_type1 (PyProof.Rows.args_cons (thn (ha.run pins s σ H _ I h) fun v s1 ⟨x, H1, I1, r1, q1⟩ => PyProof.Rows.args_nil ?_) na) na rfl
  obtain ⟨l, ns, rfl, hq, h1, q1⟩ := q1
  cases r1
  rcases hq with hq | hq
  · obtain ⟨its, r, pl, hz⟩ := I1.list hq
    have hl : its.toArray.size = ns.length := by rw [List.size_toArray, ← r.length, List.length_map]
    refine call_set_list (I1.ok.hd hc) pl.isList (ns := ns) (by simpa using r.ints) (by unfold scanBound; omega) fun h' tk hS hk => ?_
    rw [hl, firstMet_meets] at hS
    refine PyProof.Rows.args_nil ?_
    obtain ⟨o, es, ep, t, ho, hex, hd, _, _, _, hf, hn⟩ := hS
    have hle : (meets ns).length ≤ ns.length := nodup_sub (meets_nodup ns) fun x hx => mem_meets.mp hx
    have I2 : Inv X pins σ H1 { s1 with heap := h', toks := tk } := I1.kept fun b o e => hk b o (Heap.lt_size e) e
    refine call_len_set ho hex hd hf (by rw [hn] <;> omega) ⟨.int (meets ns).length, H1, I2.tok _, ⟨_, by rw [hn]⟩, q1⟩
  · obtain ⟨its, r, pl, hz⟩ := I1.tuple hq
    have hl : its.toArray.size = ns.length := by rw [List.size_toArray, ← r.length, List.length_map]
    refine call_set_tupI (w := X.w) ns (I1.ok.hd hc) pl (by simpa using r.ints) (by unfold scanBound; omega) fun h' tk c hS hc' hk => ?_
    refine PyProof.Rows.args_nil ?_
    obtain ⟨o, es, ep, t, ho, hex, hd, _, hnd, hmem, _, hf, hn, _⟩ := hS
    have e1 : es.size = (meets ns).length := by
      have a1 := nodup_sub hnd (b := meets ns) fun x hx => mem_meets.mpr (of_decide_eq_true ((hmem x).mpr hx))
      have a2 := nodup_sub (meets_nodup ns) (b := es.toList.map keyOf) fun x hx => (hmem x).mp (decide_eq_true (mem_meets.mp hx))
      rw [List.length_map] at a1 a2
      have a3 : es.toList.length = es.size := Array.length_toList
      omega
    have hle : (meets ns).length ≤ ns.length := nodup_sub (meets_nodup ns) fun x hx => mem_meets.mp hx
    have I2 : Inv X pins σ H1 { s1 with heap := h', toks := tk } := I1.kept hk
    refine call_len_set ho hex hd hf (by rw [e1] <;> omega) ⟨.int (meets ns).length, H1, I2.tok _, ⟨_, by rw [e1]⟩, q1⟩
end
end FC

/-! enumerate of a tuple; zip of a list with a tuple, of two tuples; not in range(n). -/
set_option autoImplicit false
set_option linter.all false
set_option maxRecDepth 100000
set_option maxHeartbeats 4000000
set_option Elab.async false
namespace FC
open PySem L2 AutoSeq1

/-! ### enumerate(tuple) -/
theorem meets_enumT (l : Addr) (items : Array Value) :
    Meets (Builtin.«enumerate.__new__» ⟨[.type "enumerate", .ref l], []⟩) (fun _ R s => s.heap.IsTuple l items ∧
      R (.ok (.ret (.ref (s.heap.push { cls := .type "tuple_iterator", data := .fields #[.ref l, .int 0 0] }).objs.size)))
        { s with heap := (s.heap.push { cls := .type "tuple_iterator", data := .fields #[.ref l, .int 0 0] }).push { cls := .type "enumerate", data := .fields #[.none, .bool false, .ref s.heap.objs.size, rawInt 0, .none, .none] } }) :=
  .of_wp fun prog w A R s h => by
    obtain ⟨hp, g, d, tk, os⟩ := s; obtain ⟨hL, h⟩ := h
    have hsub := sub_enumerate
    have q1 : ∀ {A' : Around} {E : Value → Shared → Prop} {Q : Value → Shared → Prop}, Q (.ref hp.objs.size) ⟨hp.push { cls := .type "tuple_iterator", data := .fields #[.ref l, .int 0 0] }, g, d, tk, os⟩ → wpAny (model prog w) A' (pyIter (.ref l)) Q E ⟨hp, g, d, tk, os⟩ :=
      fun q => wpAny_pyIter_tuple hL q
    wp_walk using q1
    refine wpAny_stack_any fun st => wpAny_pure ?_
    split
    · rename_i c _ _ _ _ _
      cases (c == Value.type "enumerate")
      · wp_walk using q1
        exact ⟨_, rfl, h⟩
      · wp_walk using q1
        exact ⟨_, rfl, h⟩
    · wp_walk using q1
      exact ⟨_, rfl, h⟩
section
variable {prog : Program} {w : World} {A : Around} {E : Value → Shared → Prop} {s : Shared}
theorem call_enumT {l : Addr} {items : Array Value} {Q : Value → Shared → Prop} (hL : s.heap.IsTuple l items)
    (h : ∀ h', IsEnum h' (s.heap.objs.size + 1) s.heap.objs.size 0 .none → h'.IsTupleIter s.heap.objs.size l 0 → h'.objs.size = s.heap.objs.size + 2 →
      (∀ b o, s.heap.get? b = some o → h'.get? b = some o) → Q (.ref (s.heap.objs.size + 1)) { s with heap := h' }) :
    wpAny (model prog w) A (call (.type "enumerate") [.ref l]) Q E s := by
  refine callType_new F.called_enumerate (by decide) (F.typeCall_enumerate_1 _) (F.newCall_enumerate_1 _) (fun obj => F.args_object_init_2 obj _) F.entry_enumerate_new
    (meets_enumT l items) ⟨hL, ?_⟩
  have hz : (s.heap.push { cls := .type "tuple_iterator", data := .fields #[.ref l, .int 0 0] }).objs.size = s.heap.objs.size + 1 := Heap.size_push ..
  show _ ∧ _
  rw [hz]
  have he : IsEnum ((s.heap.push { cls := .type "tuple_iterator", data := .fields #[.ref l, .int 0 0] }).push
      { cls := .type "enumerate", data := .fields #[.none, .bool false, .ref s.heap.objs.size, rawInt 0, .none, .none] }) (s.heap.objs.size + 1) s.heap.objs.size 0 .none := by
    have := Heap.get?_push_size (s.heap.push { cls := .type "tuple_iterator", data := .fields #[.ref l, .int 0 0] })
      (o := { cls := .type "enumerate", data := .fields #[.none, .bool false, .ref s.heap.objs.size, rawInt 0, .none, .none] }) rfl
    rw [hz] at this; exact this
  refine ⟨⟨_, he, rfl⟩, h _ he ⟨_, Heap.get?_push_of_some _ (Heap.get?_push_size _ rfl), rfl, rfl⟩ (by rw [Heap.size_push, hz]) fun b o x => Heap.get?_push_of_some _ (Heap.get?_push_of_some _ x)⟩
end
theorem tup_ne_iter {h : Heap} {a it : Addr} {items : Array Value} {i : Nat} (p : h.IsTuple a items) (q : h.IsTupleIter it a i) : a ≠ it := fun e => by
  subst e
  obtain ⟨o1, h1, c1, _⟩ := p
  obtain ⟨o2, h2, c2, _⟩ := q
  rw [h1] at h2
  cases h2
  rw [c1] at c2
  exact absurd c2 (by decide)
theorem tup_ne_enum {h : Heap} {a e it : Addr} {items : Array Value} {i : Int} {old : Value} (p : h.IsTuple a items) (q : IsEnum h e it i old) : e ≠ a := fun z => by
  subst z
  obtain ⟨o1, h1, c1, _⟩ := p
  rw [q] at h1
  cases h1
  exact absurd (show Value.type "enumerate" = Value.type "tuple" from c1) (by decide)
/-- draws, the end told at any later place -/
theorem draws_tupX {prog : Program} {w : World} {A : Around} (hh : A.handled = none) (it t : Addr) (hne : t ≠ it) (items : Array Value) {n : Nat} (hn : items.size ≤ n) :
    Draws prog w A it [it, t] n (fun i v => items[i]? = some v) (fun i h => h.IsTupleIter it t i ∧ h.IsTuple t items ∧ (n = items.size ∨ i = n)) where
  live := fun _ _ st => let ⟨o, ho, _⟩ := st.1; ⟨o, ho⟩
  frame := fun _ _ _ st hk => ⟨st.1.at fun o e => hk it (by simp) o e, st.2.1.at fun o e => hk t (by simp) o e, st.2.2⟩
  item := fun i s Q E hi st hQ => by
    have hi' : i < items.size := by rcases st.2.2 with h | h <;> omega
    refine wpAny_nextOf_tuple_item st.1 st.2.1 (x := items[i]) (by simp [hi']) fun h' hit' hs' => ?_
    exact hQ _ h' s.toks (by simp [hi']) ⟨hit', st.2.1.extBut hs'.extBut hne, by rcases st.2.2 with h | h <;> omega⟩ hs'
  done := fun s Q E st hE => wpAny_nextOf_tuple_end hh st.1 st.2.1 (by simp [hn]) hE
theorem draws_lstX {prog : Program} {w : World} {A : Around} (hh : A.handled = none) (it t : Addr) (hne : t ≠ it) (items : Array Value) {n : Nat} (hn : items.size ≤ n) :
    Draws prog w A it [it, t] n (fun i v => items[i]? = some v) (fun i h => h.IsListIter it t i ∧ h.IsList t items ∧ (n = items.size ∨ i = n)) where
  live := fun _ _ st => let ⟨o, ho, _⟩ := st.1; ⟨o, ho⟩
  frame := fun _ _ _ st hk => ⟨st.1.at fun o e => hk it (by simp) o e, st.2.1.at fun o e => hk t (by simp) o e, st.2.2⟩
  item := fun i s Q E hi st hQ => by
    have hi' : i < items.size := by rcases st.2.2 with h | h <;> omega
    refine wpAny_nextOf_list_item st.1 st.2.1 (x := items[i]) (by simp [hi']) fun h' hit' hs' => ?_
    exact hQ _ h' s.toks (by simp [hi']) ⟨hit', st.2.1.extBut hs'.extBut hne, by rcases st.2.2 with h | h <;> omega⟩ hs'
  done := fun s Q E st hE => wpAny_nextOf_list_end hh st.1 st.2.1 (by simp [hn]) hE
def IteT (K : PySem.W.Frag) (a : Addr) : It :=
  ⟨fun i H => ∃ (xs : List V) (x : V), SqT K H a xs ∧ xs[i]? = some x, fun i H v H' => ∃ T x, v = .ref T ∧ H T = none ∧ H' = upd H T (.tup [.int (i : Nat), x]) ∧ ∀ xs, SqT K H a xs → xs[i]? = some x, fun i H => ∃ xs : List V, SqT K H a xs ∧ xs.length ≤ i⟩
theorem turn_enumT {P : Program} {w : World} {K : PySem.W.Frag} {elts : List Expr} {kk : Nat} {tpos : Pos} (a e it : Addr) :
    Turn P w K (.Tuple elts kk tpos) (IteT K a) [e, it] e (fun i h => (∃ old, IsEnum h e it ((i : Nat) : Int) old) ∧ h.IsTupleIter it a i ∧ e ≠ it) where
  mem := by simp
  obj := fun i h st b hb => by
    obtain ⟨⟨old, he⟩, ⟨o, ho, hc, hd⟩, _⟩ := st
    have e' : b = e ∨ b = it := by simpa using hb
    rcases e' with z | z
    · rw [z]; exact ⟨_, he, fun v q => nomatch q⟩
    · rw [z]; exact ⟨o, ho, fun v q => by rw [hd] at q; cases q⟩
  keep := fun i h h' st k => let ⟨⟨old, he⟩, hi, hne⟩ := st; ⟨⟨old, k e (by simp) _ he⟩, hi.at fun o q => k it (by simp) o q, hne⟩
  item := by
    intro X hP hw hK hc i pins s σ H E I hf st hg
    subst hP hw hK
    obtain ⟨⟨old, he⟩, hit, hne⟩ := st
    obtain ⟨xs, x, hq, hx⟩ := hg
    obtain ⟨its, rv, p, hz⟩ := I.tuple hq
    obtain ⟨u, hu, ru⟩ := rv.get hx
    have p' : s.heap.IsTuple a its.toArray := p
    have hel : e < s.heap.objs.size := Heap.lt_size he
    have hil : it < s.heap.objs.size := by obtain ⟨_, q, _⟩ := hit; exact Heap.lt_size q
    have hai := tup_ne_iter p' hit
    have hea := tup_ne_enum p' he
    have hlt : i < its.toArray.size := by
      rw [List.size_toArray]
      exact (List.getElem?_eq_some_iff.mp hu).1
    have D := Draws.tuple (prog := X.prog) (w := X.w) (A := X.A.in1) (I.ok.hd hc) it a hai its.toArray
    refine wpAny_pyNext_enum_itemD D he ⟨hit, p'⟩ hlt hne (by simp [hne, hea]) fun x' h' tk hPx ho hst hT hsz hk => ?_
    obtain ⟨hit', _⟩ := hst
    have ex : x' = u := by
      have hPx : its.toArray[i]? = some x' := hPx
      rw [List.getElem?_toArray, hu] at hPx
      exact (Option.some.inj hPx).symm
    subst ex
    refine ⟨_, rfl, wpAny_letOwnedTupleGo_enum (s := { s with heap := h', toks := tk + 1 }) ho fun h'' he' sb => ?_⟩
    have hT2 : h''.get? s.heap.objs.size = some { cls := .type "tuple", data := .seq #[.int i tk, x'] } := (sb.2 _ (Nat.ne_of_gt hel)).trans hT
    have new : ObjOk X.prog X.w (upd H s.heap.objs.size (.tup [.int (i : Nat), x])) h'' s.heap.objs.size (.tup [.int (i : Nat), x]) :=
      ⟨by show 2 ≤ sizeLine; decide, [.int i tk, x'], .cons ⟨_, rfl⟩ (.cons ru .nil), ⟨_, hT2, rfl, _, rfl⟩⟩
    have I1 : L2.Inv X pins σ (upd H s.heap.objs.size (.tup [.int (i : Nat), x])) { s with heap := h'', toks := tk + 1 } :=
      I.turnedNew (ch := [e, it]) (fun b ob hb q => (sb.2 b (fun z => hb (by simp [z]))).trans (hk b ob (fun z => hb (by simp [z])) (fun z => hb (by simp [z])) q)) hf (Nat.le_refl _) new
    refine ⟨.ref s.heap.objs.size, _, I1, rfl, ⟨_, x, rfl, I.hok.fresh (Nat.le_refl _), rfl, fun ys hy => by rw [I.tuple_inj hy hq]; exact hx⟩, ⟨⟨x', ?_⟩, hit'.at fun o q => (sb.2 it (Ne.symm hne)).trans q, hne⟩, fun b hb => ?_⟩
    · have e1 : ((i + 1 : Nat) : Int) = (i : Int) + 1 := by omega
      rw [e1]; exact he'
    · have hb' : b < s.heap.objs.size := by
        have e' : b = e ∨ b = it := by simpa using hb
        rcases e' with z | z
        · rw [z]; exact hel
        · rw [z]; exact hil
      rw [upd_ne (Nat.ne_of_lt hb')]
      exact (hf b hb).1
  done := by
    intro X hP hw hK hc i pins s σ H E I hf st hg
    subst hP hw hK
    obtain ⟨⟨old, he⟩, hit, hne⟩ := st
    obtain ⟨xs, hq, hx⟩ := hg
    obtain ⟨its, rv, p, hz⟩ := I.tuple hq
    obtain ⟨f0, f1, f2, f3, f4, f5⟩ := hf it (by simp)
    have hl := rv.length
    have p' : s.heap.IsTuple a its.toArray := p
    have hai := tup_ne_iter p' hit
    have D := draws_tupX (prog := X.prog) (w := X.w) (A := X.A.in1) (I.ok.hd hc) it a hai its.toArray (n := i) (by rw [List.size_toArray]; omega)
    exact wpAny_pyNext_enum_endD D he ⟨hit, p', .inr rfl⟩ fun h' eb => ⟨rfl, I.turned (t' := s.toks) (fun b o hb q => eb b o hb q) f0 f1 f3 f4 f5⟩
  self := fun A i s Q E st h => let ⟨⟨_, he⟩, _⟩ := st; wpAny_pyIter_enum he h

/-! ### zip(list, tuple) -/
def ItzM (K : PySem.W.Frag) (a b : Addr) : It :=
  ⟨fun i H => ∃ (xs ys : List V) (x y : V), SqL K H a xs ∧ SqT K H b ys ∧ xs[i]? = some x ∧ ys[i]? = some y,
    fun i H v H' => ∃ T x y, v = .ref T ∧ H T = none ∧ H' = upd H T (.tup [x, y]) ∧ (∀ xs, SqL K H a xs → xs[i]? = some x) ∧ ∀ ys, SqT K H b ys → ys[i]? = some y,
    fun i H => ∃ xs ys : List V, SqL K H a xs ∧ SqT K H b ys ∧ (xs.length ≤ i ∨ ys.length ≤ i)⟩
theorem turn_zipM {P : Program} {w : World} {K : PySem.W.Frag} {elts : List Expr} {kk : Nat} {tpos : Pos} {a b z TI TO i1 i2 : Addr} (D : ZipSep2 z TI TO i1 i2 [i1, a] [i2, b]) :
    Turn P w K (.Tuple elts kk tpos) (ItzM K a b) [z, TI, TO, i1, i2] z (fun i h => IsZip h z TI TO .none ∧ IsTupOf2 h TI (.ref i1) (.ref i2) ∧ (∃ x y, IsTupOf2 h TO x y) ∧ h.IsListIter i1 a i ∧ h.IsTupleIter i2 b i) where
  mem := by simp
  obj := fun i h st c hc => by
    obtain ⟨hz, hTI, ⟨x, y, hTO⟩, ⟨o1, e1, _, d1⟩, ⟨o2, e2, _, d2⟩⟩ := st
    have e' : c = z ∨ c = TI ∨ c = TO ∨ c = i1 ∨ c = i2 := by simpa using hc
    rcases e' with q | q | q | q | q
    · rw [q]; exact ⟨_, hz, fun v q => nomatch q⟩
    · rw [q]; exact ⟨_, hTI, fun v q => nomatch q⟩
    · rw [q]; exact ⟨_, hTO, fun v q => nomatch q⟩
    · rw [q]; exact ⟨o1, e1, fun v q => by rw [d1] at q; cases q⟩
    · rw [q]; exact ⟨o2, e2, fun v q => by rw [d2] at q; cases q⟩
  keep := fun i h h' st k => by
    obtain ⟨hz, hTI, ⟨x, y, hTO⟩, h1, h2⟩ := st
    exact ⟨k z (by simp) _ hz, k TI (by simp) _ hTI, ⟨x, y, k TO (by simp) _ hTO⟩, h1.at fun o q => k i1 (by simp) o q, h2.at fun o q => k i2 (by simp) o q⟩
  item := by
    intro X hP hw hK hc i pins s σ H E I hf st hg
    subst hP hw hK
    obtain ⟨hz, hTI, ⟨x0, y0, hTO⟩, h1, h2⟩ := st
    obtain ⟨xs, ys, x, y, hqx, hqy, hx, hy⟩ := hg
    obtain ⟨its, rv, p, _⟩ := I.list hqx
    obtain ⟨its2, rv2, p2, _⟩ := I.tuple hqy
    obtain ⟨u, hu, ru⟩ := rv.get hx
    obtain ⟨u2, hu2, ru2⟩ := rv2.get hy
    have hzl : z < s.heap.objs.size := Heap.lt_size hz
    have p2' : s.heap.IsTuple b its2.toArray := p2
    have l1 : i < its.toArray.size := by rw [List.size_toArray]; exact (List.getElem?_eq_some_iff.mp hu).1
    have l2 : i < its2.toArray.size := by rw [List.size_toArray]; exact (List.getElem?_eq_some_iff.mp hu2).1
    have ha1 : a ≠ i1 := fun e => by
      subst e
      obtain ⟨o1, q1, c1, _⟩ := p.isList
      obtain ⟨o2, q2, c2, _⟩ := h1
      rw [q1] at q2
      cases q2
      rw [c1] at c2
      exact absurd c2 (by decide)
    have D1 := Draws.list (prog := X.prog) (w := X.w) (A := X.A.in1) (I.ok.hd hc) i1 a ha1 its.toArray
    have D2 := Draws.tuple (prog := X.prog) (w := X.w) (A := X.A.in1) (I.ok.hd hc) i2 b (tup_ne_iter p2' h2) its2.toArray
    refine wpAny_pyNext_zipD2_item D D1 D2 hz hTI hTO ⟨h1, p.isList⟩ ⟨h2, p2'⟩ l1 l2 fun x1 x2 h' tk q1 q2 z' TO' st1 st2 hT hsz hk => ?_
    obtain ⟨h1', _⟩ := st1
    obtain ⟨h2', _⟩ := st2
    have ex : x1 = u := by
      have q1 : its.toArray[i]? = some x1 := q1
      rw [List.getElem?_toArray, hu] at q1
      exact (Option.some.inj q1).symm
    have ey : x2 = u2 := by
      have q2 : its2.toArray[i]? = some x2 := q2
      rw [List.getElem?_toArray, hu2] at q2
      exact (Option.some.inj q2).symm
    subst ex ey
    refine ⟨_, rfl, wpAny_letOwnedTupleGo_zip (s := { s with heap := h', toks := tk }) z' fun h'' z'' sb => ?_⟩
    have hT2 : h''.get? s.heap.objs.size = some { cls := .type "tuple", data := .seq #[x1, x2] } := (sb.2 _ (Nat.ne_of_gt hzl)).trans hT
    have new : ObjOk X.prog X.w (upd H s.heap.objs.size (.tup [x, y])) h'' s.heap.objs.size (.tup [x, y]) :=
      ⟨by show 2 ≤ sizeLine; decide, [x1, x2], .cons ru (.cons ru2 .nil), ⟨_, hT2, rfl, _, rfl⟩⟩
    have I1 : L2.Inv X pins σ (upd H s.heap.objs.size (.tup [x, y])) { s with heap := h'', toks := tk } :=
      I.turnedNew (t' := tk) (ch := [z, TI, TO, i1, i2]) (fun c o hb q => (sb.2 c (fun q' => hb (by simp [q']))).trans (hk c o (fun q' => hb (by simp [q'])) (fun q' => hb (by simp [q'])) (fun q' => hb (by simp [q'])) (fun q' => hb (by simp [q'])) q)) hf (Nat.le_refl _) new
    refine ⟨.ref s.heap.objs.size, _, I1, rfl, ⟨_, x, y, rfl, I.hok.fresh (Nat.le_refl _), rfl, fun l hl => by rw [I.list_inj hl hqx]; exact hx, fun l hl => by rw [I.tuple_inj hl hqy]; exact hy⟩, ⟨z'', ?_, ⟨x1, x2, ?_⟩, ?_, ?_⟩, fun c hcm => ?_⟩
    · exact (sb.2 _ D.TIz).trans (hk _ _ D.TIz D.TITO D.TIi1 D.TIi2 hTI)
    · exact (sb.2 _ D.TOz).trans TO'
    · exact h1'.at fun o q => (sb.2 _ (Ne.symm D.zi1)).trans q
    · exact h2'.at fun o q => (sb.2 _ (Ne.symm D.zi2)).trans q
    · have hlt : c < s.heap.objs.size := by
        have e' : c = z ∨ c = TI ∨ c = TO ∨ c = i1 ∨ c = i2 := by simpa using hcm
        rcases e' with q | q | q | q | q
        · rw [q]; exact hzl
        · rw [q]; exact Heap.lt_size hTI
        · rw [q]; exact Heap.lt_size hTO
        · rw [q]; obtain ⟨_, e1, _⟩ := h1; exact Heap.lt_size e1
        · rw [q]; obtain ⟨_, e2, _⟩ := h2; exact Heap.lt_size e2
      rw [upd_ne (Nat.ne_of_lt hlt)]
      exact (hf c hcm).1
  done := by
    intro X hP hw hK hc i pins s σ H E I hf st hg
    subst hP hw hK
    obtain ⟨hz, hTI, ⟨x0, y0, hTO⟩, h1, h2⟩ := st
    obtain ⟨xs, ys, hqx, hqy, hend⟩ := hg
    obtain ⟨its, rv, p, _⟩ := I.list hqx
    obtain ⟨its2, rv2, p2, _⟩ := I.tuple hqy
    have l1 := rv.length
    have l2 := rv2.length
    have p2' : s.heap.IsTuple b its2.toArray := p2
    have ha1 : a ≠ i1 := fun e => by
      subst e
      obtain ⟨o1, q1, c1, _⟩ := p.isList
      obtain ⟨o2, q2, c2, _⟩ := h1
      rw [q1] at q2
      cases q2
      rw [c1] at c2
      exact absurd c2 (by decide)
    have z1 : its.toArray.size = xs.length := by rw [List.size_toArray]; omega
    have z2 : its2.toArray.size = ys.length := by rw [List.size_toArray]; omega
    have D1 := draws_lstX (prog := X.prog) (w := X.w) (A := X.A.in1) (I.ok.hd hc) i1 a ha1 its.toArray (n := max i xs.length) (by omega)
    have D2 := draws_tupX (prog := X.prog) (w := X.w) (A := X.A.in1) (I.ok.hd hc) i2 b (tup_ne_iter p2' h2) its2.toArray (n := max i ys.length) (by omega)
    exact wpAny_pyNext_zipD2_end D D1 D2 hz hTI hTO ⟨h1, p.isList, by omega⟩ ⟨h2, p2', by omega⟩ (by omega) (by omega) (by omega) fun h' tk hk => ⟨rfl, I.turnedL (t' := tk) (ch := [z, TI, TO, i1, i2]) (fun c o hb q =>
      hk c o (fun q' => hb (by simp [q'])) (fun q' => hb (by simp [q'])) (fun q' => hb (by simp [q'])) (fun q' => hb (by simp [q'])) q) hf⟩
  self := fun A i s Q E st h => wpAny_pyIter_zip st.1 h

/-! ### not in range(n) -/
section
variable {X : Cx}
open PySem.Spec PyProof.Rows
theorem cr_range1 : CallR X (.type "range") (fun vs H Q => ∃ j, vs = [V.int j] ∧ ∀ p, H p = none → Q (.ref p) (upd H p (.rng 0 j))) := by
  intro pins s σ H vs us Q I r h
  obtain ⟨j, rfl, q⟩ := h
  cases r with
  | cons rj rr =>
    cases rr
    obtain ⟨u, rfl⟩ := rj
    refine call_range_1 ⟨.ref s.heap.objs.size, upd H s.heap.objs.size (.rng 0 j), I.laid (t' := s.toks + 1 + 1) (fun b o e => Heap.get?_push_of_some _ e) (Nat.le_refl _) ?_, rfl, q _ (I.hok.fresh (Nat.le_refl _))⟩
    exact ⟨_, _, _, Heap.get?_push_size _ rfl⟩
theorem op_notin_rng : OpR X (compareOp .NotIn) (fun x y H Q => ∃ i a lo hi, x = V.int i ∧ y = V.ref a ∧ H a = some (.rng lo hi) ∧ Q (.bl (!decide (lo ≤ i ∧ i < hi))) H) := by
  intro pins s σ H x y v u Q I rx ry h
  obtain ⟨i, a, lo, hi, rfl, rfl, ha, q⟩ := h
  obtain ⟨k, rfl⟩ := rx
  obtain rfl : u = Value.ref a := ry
  obtain ⟨t1, t2, t3, ho⟩ := I.hok a _ ha
  show wpAny _ _ (do return Value.bool (!(← contains (Value.ref a) (Value.int i k)))) _ _ s
  refine wpAny_bind (wpAny_contains_slot (T := "range") ⟨_, ho, rfl⟩ F.slot_range_contains (call_meets F.slot_range_contains ⟨_, ho, rfl⟩ F.entry_range_contains (F.args_range_contains_2 _ _) (q_contains a lo hi i t1 t2 t3 k)
    ⟨ho, wpAny_truthy_bool (wpAny_pure ⟨.bl _, H, I, rfl, ?_⟩)⟩))
  rw [place1]
  exact q
end
end FC

/-! What built-ins give, over data. -/
set_option autoImplicit false
set_option linter.all false
set_option maxRecDepth 100000
set_option maxHeartbeats 4000000
set_option Elab.async false
namespace FC
open PySem L2

/-! ### sorted, of a list or a tuple -/
section
variable {prog : Program} {w : World} {A : Around} {E : Value → Shared → Prop} {s : Shared}
open PyProof.Rows PySem.W in
theorem sorted_seqV {β : Type} {R : Value → β → Prop} {enc : β → PyData} {bs : List β} {l : Addr} {T : String} {o : Obj} {items : Array Value} {n : Nat} {Q : Value → Shared → Prop} (hT : T = "list" ∨ T = "tuple")
    (ho : s.heap.get? l = some o) (hc : o.cls = .type T) (hd : o.data = .seq items n) (e : EachIs R items.toList bs) (er : EachIs (fun v b => ∃ as, Reads s.heap v (enc b) as) items.toList bs)
    (hal : AllAlike (bs.map enc)) (hk : Sortable (bs.map enc)) (hL : bs.length ≤ sizeLine) (hu : ∀ b, b ∈ bs → A.units + 2 + (enc b).depth < cLine)
    (h : ∀ (out : List Value) (h' : Heap) (p : Addr) (c : Nat), (∀ b o, s.heap.get? b = some o → h'.get? b = some o) → s.heap.get? p = none → h'.get? p = some (seqObj "list" out.toArray c) → out.length = bs.length →
      EachIs R out (bs.mergeSort (dataLe false enc)) → Q (.ref p) { s with heap := h' }) :
    wpAny (model prog w) A (call (.builtin "sorted") [.ref l]) Q E s := by
  have hlen : items.toList.length = bs.length := e.length
  have hsz : items.size ≤ sizeLine := by
    rw [← Array.length_toList, hlen]; exact hL
  refine call_function_entry_kw kind_sorted plain_sorted entry_sorted (args_sorted1 _) ?_
  unfold Builtin.«sorted»
  refine wpAny_bind (m := checkCount "sorted" 1 1 _) (wpAny_pure ?_)
  refine wpAny_bind (wpAny_collect_seq l hT ho hc hd (fun h1 k1 => ?_) hsz)
  refine wpAny_bind (wpAny_newList ?_ (by rw [hlen]; exact hL))
  have k2 : ∀ b o, s.heap.get? b = some o → (h1.push { cls := .type "list", data := .seq items.toList.toArray }).get? b = some o := fun b o q => Heap.get?_push_of_some _ (k1 b o q)
  have at2 : (h1.push { cls := .type "list", data := .seq items.toList.toArray }).get? h1.objs.size = some (seqObj "list" items.toList.toArray 0) := Heap.get?_push_size _ rfl
  have k3 : ∀ b o, s.heap.get? b = some o → (sortingHeap (h1.push { cls := .type "list", data := .seq items.toList.toArray }) h1.objs.size items.toList).get? b = some o := fun b o q =>
    sortingHeap_old (Nat.ne_of_lt (Heap.lt_size (k1 b o q))) (k2 b o q)
  have er' : EachIs (fun v b => ∃ as, Reads (sortingHeap (h1.push { cls := .type "list", data := .seq items.toList.toArray }) h1.objs.size items.toList) v (enc b) as) items.toList bs :=
    er.mono fun _ _ ⟨as, r⟩ => ⟨as, PyProof.Rows.Reads.keeps k3 r⟩
  generalize hh2 : (h1.push { cls := .type "list", data := .seq items.toList.toArray } : Heap) = h2 at at2 k2 k3 er' ⊢
  refine wpAny_bind (wpAny_holding (wpAny_call_entry_kw slot_list_sort ⟨_, at2, rfl⟩ entry_list_sort ?body (args_list_sort _)))
  case body =>
    refine wpAny_mono (list_sort_vals (κ := dataKind (sortingHeap h2 h1.objs.size items.toList) (bs.map enc)) (s := { s with heap := h2 }) (P := fun f s' => f = .done (.ret .none) ∧ s' = { s with heap := sortedHeap h2 h1.objs.size items.toList (sortVals (dataKind (sortingHeap h2 h1.objs.size items.toList) (bs.map enc)) false items.toList items.toList).toArray }) at2
      (SortsAt.data (s := { s with heap := sortingHeap h2 h1.objs.size items.toList }) (each_map (R := fun v d => ∃ as, Reads (sortingHeap h2 h1.objs.size items.toList) v d as) enc er') hal hk (bound_map hu)) (by rw [hlen]; exact hL) ⟨rfl, rfl⟩) (fun f s' hf => ?_) fun _ _ e => e
    obtain ⟨rfl, rfl⟩ := hf
    refine ⟨_, rfl, wpAny_pure ⟨_, rfl, ?_⟩⟩
    obtain ⟨c, hc'⟩ := sortedHeap_at (vs := items.toList) (out := (sortVals (dataKind (sortingHeap h2 h1.objs.size items.toList) (bs.map enc)) false items.toList items.toList).toArray) at2
    refine h _ _ h1.objs.size c (fun b o q => ?_) ?_ hc' ?_ (sortVals_data false e er' hal)
    · have q2 := k2 b o q
      rw [sortedHeap_old (Nat.ne_of_lt (Heap.lt_size (k1 b o q))) (Heap.lt_size q2)]
      exact q2
    · cases q : s.heap.get? h1.objs.size with
      | none => rfl
      | some o => exact absurd (Heap.lt_size (k1 _ o q)) (Nat.lt_irrefl _)
    · rw [sortVals_length false rfl]; exact e.length
end

/-! a new object where none stood -/
section
variable {X : Cx} {pins : List (Addr × Obj)} {σ : St} {H : Hp} {s : Shared} {h' : Heap} {a : Addr} {o : HO}
theorem goneN (I : L2.Inv X pins σ H s) (hp : s.heap.get? a = none) : H a = none := I.hok.gone hp
theorem Inv.laidG {t' : Nat} (I : L2.Inv X pins σ H s) (k : ∀ b u, s.heap.get? b = some u → h'.get? b = some u) (hp : s.heap.get? a = none) (new : ObjOk X.prog X.w (upd H a o) h' a o) :
    L2.Inv X pins σ (upd H a o) { s with heap := h', toks := t' } := by
  have hn : H a = none := goneN I hp
  have ne : ∀ b u, s.heap.get? b = some u → b ≠ a := fun b u q z => by rw [z, hp] at q; cases q
  refine I.un ⟨fun b u q _ _ _ => k b u q, fun b u q _ _ _ => ⟨u.slots, k b u q⟩, fun b u q n _ => by rw [upd_ne (ne b u q)]; exact n, fun b u q _ => ⟨u, k b u q⟩,
    fun b xs q => by rw [upd_ne (ne_of_none q hn)]; exact q, fun b u xs q => by rw [upd_ne (ne_of_none q hn)]; exact q, fun b ps q => ⟨#[], by rw [upd_ne (ne_of_none q hn), q]; simp⟩⟩ fun b u e => ?_
  by_cases hb : b = a
  · subst hb; rw [upd_same] at e; cases e; exact new
  · rw [upd_ne hb] at e
    exact (I.hok b u e).stay (fun c v _ q => k c v q) (fun c q => by rw [upd_ne (ne_of_none q hn)]; exact q) fun c xs q => by rw [upd_ne (ne_of_none q hn)]; exact q
end
section
open PySem.W
variable {c : PCx} {hid : Addr → Prop} {H : Hp} {h : Heap}
/-- a value that stands for d -/
def StV (c : PCx) (H : Hp) (hid : Addr → Prop) (v : Value) (d : D) : Prop := ∃ w, RelV w v ∧ Rp c H hid d w
theorem each_of : ∀ {ds : List D} {vs : List V} {us : List Value}, RpL c H hid ds vs → Vals vs us → EachIs (StV c H hid) us ds
  | [], _, _, h, r => by
    rw [show _ = ([] : List V) from h] at r
    cases r
    exact .nil
  | d :: ds, _, _, ⟨v, q, e, h, t⟩, r => by
    rw [e] at r
    cases r with
    | cons r1 r2 => exact .cons ⟨v, r1, h⟩ (each_of t r2)
theorem of_each : ∀ {ds : List D} {us : List Value}, EachIs (StV c H hid) us ds → ∃ vs, RpL c H hid ds vs ∧ Vals vs us
  | _, _, .nil => ⟨[], rfl, .nil⟩
  | _, _, .cons ⟨w, r, h⟩ t => by
    obtain ⟨vs, a, b⟩ := of_each t
    exact ⟨w :: vs, .cons h a, .cons r b⟩
end
theorem EachIs.impM {α β : Type} {R S : α → β → Prop} : ∀ {as : List α} {bs : List β}, PySem.W.EachIs R as bs → (∀ a b, b ∈ bs → R a b → S a b) → PySem.W.EachIs S as bs
  | _, _, .nil, _ => .nil
  | _, _, .cons r t, f => .cons (f _ _ List.mem_cons_self r) (EachIs.impM t fun a b h => f a b (List.mem_cons_of_mem _ h))
theorem sortable_alike {xs : List D} (h : sortable xs = true) : PySem.W.AllAlike (xs.map D.py) := by
  unfold sortable at h
  rw [Bool.and_eq_true, Bool.and_eq_true] at h
  intro d hd d' hd'
  obtain ⟨a, ha, rfl⟩ := List.mem_map.mp hd
  obtain ⟨b, hb, rfl⟩ := List.mem_map.mp hd'
  exact List.all_eq_true.mp (List.all_eq_true.mp h.1.1 a ha) b hb
theorem sortable_shp {xs : List D} (h : sortable xs = true) : ∀ x ∈ xs, shp x = true := by
  unfold sortable at h
  rw [Bool.and_eq_true, Bool.and_eq_true] at h
  exact fun x hx => List.all_eq_true.mp h.1.2 x hx
theorem sortable_sort {xs : List D} (h : sortable xs = true) : PySem.W.Sortable (xs.map D.py) := by
  unfold sortable at h
  rw [Bool.and_eq_true, Bool.or_eq_true] at h
  rcases h.2 with h | h
  · refine .inl fun d hd => ?_
    obtain ⟨a, ha, rfl⟩ := List.mem_map.mp hd
    have q := List.all_eq_true.mp h a ha
    cases a with
    | tup ys =>
      cases ys with
      | nil => cases q
      | cons y ys => exact ⟨_, _, rfl⟩
    | _ => cases q
  · refine .inr fun d hd => ?_
    obtain ⟨a, ha, rfl⟩ := List.mem_map.mp hd
    have q := List.all_eq_true.mp h a ha
    cases a with
    | non => simp at q
    | tup ys => simp at q
    | _ => exact ⟨fun z => PyData.noConfusion z, fun xs z => PyData.noConfusion z⟩

/-! ### built-ins by values -/
def biV : BI → Value
  | .len => .builtin "len" | .min2 => .builtin "min" | .max2 => .builtin "max" | .max1 => .builtin "max" | .tuple => .type "tuple" | .list => .type "list"
  | .sorted => .builtin "sorted" | .any => .builtin "any" | .all => .builtin "all" | .sum => .builtin "sum" | .str => .type "str" | .int => .type "int"
def rBi (c : PCx) (g : List D → Res D) : List V → Hp → VK → Prop := fun xs H Q => ∃ hid ds Ex, HA hid H ∧ RpL c H hid ds xs ∧ Post c Ex (fun H => Rp c H hid) (g ds) H Q
section
variable {X : Cx} {c : PCx}
theorem RpL.one {hid : Addr → Prop} {H : Hp} {d : D} {vs : List V} (h : RpL c H hid [d] vs) : ∃ v, vs = [v] ∧ Rp c H hid d v := by
  obtain ⟨v, r, e, a, b⟩ := h
  rw [show r = [] from b] at e
  exact ⟨v, e, a⟩
theorem RpL.two {hid : Addr → Prop} {H : Hp} {d d' : D} {vs : List V} (h : RpL c H hid [d, d'] vs) : ∃ v w, vs = [v, w] ∧ Rp c H hid d v ∧ Rp c H hid d' w := by
  obtain ⟨v, r, e, a, b⟩ := h
  obtain ⟨w, e2, b2⟩ := RpL.one b
  rw [e2] at e
  exact ⟨v, w, e, a, b2⟩
theorem bi_len (hK : c.K = X.K) : CallR X (.builtin "len") (rBi c (biD .len)) := by
  intro pins s σ H xs us Q I r ⟨hid, ds, Ex, ha, hd, p⟩
  rcases ds with _ | ⟨d, _ | ⟨d', ds⟩⟩
  · exact p.elim
  · obtain ⟨v, rfl, h⟩ := hd.one
    cases d <;> first | exact False.elim p | skip
    · rename_i z
      simp only [biD] at p
      split at p
      · exact call_len pins s σ H _ us Q I r ⟨v, z.length, rfl, by rw [show v = .str z from h]; exact ⟨by assumption, rfl⟩, p _ H .refl rfl⟩
      · exact p.elim
    · rename_i es
      obtain ⟨a, vs, rfl, h1, t⟩ := h
      exact call_len pins s σ H _ us Q I r ⟨_, es.length, rfl, .inr ⟨vs, SqT.of h1, t.len.symm⟩, p _ H .refl rfl⟩
    · rename_i es
      obtain ⟨a, vs, rfl, h1, n, t⟩ := h
      exact call_len pins s σ H _ us Q I r ⟨_, es.length, rfl, .inl ⟨vs, SqL.of h1, t.len.symm⟩, p _ H .refl rfl⟩
    · rename_i ns
      obtain ⟨a, rfl, h1⟩ := h
      exact call_len pins s σ H _ us Q I r ⟨_, ns.length, rfl, .inl ⟨ns.map V.int, by rw [← hK]; exact h1.sq, by rw [List.length_map]⟩, p _ H .refl rfl⟩
  · cases d <;> exact p.elim
theorem bi_min2 (hc : X.calm = true) : CallR X (.builtin "min") (rBi c (biD .min2)) := by
  intro pins s σ H xs us Q I r ⟨hid, ds, Ex, ha, hd, p⟩
  rcases ds with _ | ⟨d, _ | ⟨d', _ | ⟨d'', ds⟩⟩⟩
  · exact p.elim
  · cases d <;> exact p.elim
  · obtain ⟨v, w, rfl, h, h'⟩ := hd.two
    cases d <;> cases d' <;> first | exact False.elim p | skip
    rename_i i j
    exact call_min2 hc pins s σ H _ us Q I r ⟨i, j, by rw [show v = .int i from h, show w = .int j from h'], p _ H .refl rfl⟩
  · cases d <;> cases d' <;> exact p.elim
theorem bi_max2 (hc : X.calm = true) : CallR X (.builtin "max") (rBi c (biD .max2)) := by
  intro pins s σ H xs us Q I r ⟨hid, ds, Ex, ha, hd, p⟩
  rcases ds with _ | ⟨d, _ | ⟨d', _ | ⟨d'', ds⟩⟩⟩
  · exact p.elim
  · cases d <;> exact p.elim
  · obtain ⟨v, w, rfl, h, h'⟩ := hd.two
    cases d <;> cases d' <;> first | exact False.elim p | skip
    rename_i i j
    exact call_max2 hc pins s σ H _ us Q I r ⟨i, j, by rw [show v = .int i from h, show w = .int j from h'], p _ H .refl rfl⟩
  · cases d <;> cases d' <;> exact p.elim
theorem foldmax_ge : ∀ (ns : List Int) (n : Int), n ≤ ns.foldl (fun a b => if b > a then b else a) n ∧ (∀ y ∈ ns, y ≤ ns.foldl (fun a b => if b > a then b else a) n) ∧ (ns.foldl (fun a b => if b > a then b else a) n = n ∨ ns.foldl (fun a b => if b > a then b else a) n ∈ ns)
  | [], n => ⟨Int.le_refl _, fun _ h => (nomatch h), .inl rfl⟩
  | m :: ns, n => by
    have h := foldmax_ge ns (if m > n then m else n)
    simp only [List.foldl_cons]
    generalize List.foldl (fun a b => if b > a then b else a) (if m > n then m else n) ns = f at h
    obtain ⟨h1, h2, h3⟩ := h
    split at h1
    · rename_i hm
      rw [if_pos hm] at h3
      refine ⟨by omega, fun y hy => ?_, ?_⟩
      · rcases List.mem_cons.mp hy with rfl | hy
        · exact h1
        · exact h2 y hy
      · rcases h3 with h3 | h3
        · exact .inr (by rw [h3]; exact List.mem_cons_self)
        · exact .inr (List.mem_cons_of_mem _ h3)
    · rename_i hm
      rw [if_neg hm] at h3
      refine ⟨h1, fun y hy => ?_, ?_⟩
      · rcases List.mem_cons.mp hy with rfl | hy
        · omega
        · exact h2 y hy
      · rcases h3 with h3 | h3
        · exact .inl h3
        · exact .inr (List.mem_cons_of_mem _ h3)
theorem bi_max1 (hc : X.calm = true) : CallR X (.builtin "max") (rBi c (biD .max1)) := by
  intro pins s σ H xs us Q I r ⟨hid, ds, Ex, ha, hd, p⟩
  rcases ds with _ | ⟨d, _ | ⟨d', ds⟩⟩
  · exact p.elim
  · obtain ⟨v, rfl, h⟩ := hd.one
    cases d <;> first | exact False.elim p | skip
    rename_i es
    simp only [biD] at p
    split at p
    · rename_i n ns he
      have e1 := allInts_map he
      subst e1
      obtain ⟨a, vs, rfl, h1, nh, t⟩ := h
      rw [t.ints] at h1
      refine cr_max hc pins s σ H _ us Q I r ⟨a, n :: ns, rfl, SqL.of h1, by simp, fun m hm hle => ?_⟩
      obtain ⟨g1, g2, g3⟩ := foldmax_ge ns n
      have : m = ns.foldl (fun a b => if b > a then b else a) n := by
        refine Int.le_antisymm ?_ ?_
        · rcases List.mem_cons.mp hm with rfl | hm
          · exact g1
          · exact g2 m hm
        · rcases g3 with g3 | g3
          · rw [g3]; exact hle n List.mem_cons_self
          · exact hle _ (List.mem_cons_of_mem _ g3)
      rw [this]
      exact p _ H .refl rfl
    · exact p.elim
  · cases d <;> exact p.elim
theorem seqOf_cases (d : D) : (∃ xs, d = .tup xs ∧ seqOf d = .ok xs) ∨ (∃ xs, d = .lst xs ∧ seqOf d = .ok xs) ∨ seqOf d = .bad := by
  cases d <;> first | exact .inl ⟨_, rfl, rfl⟩ | exact .inr (.inl ⟨_, rfl, rfl⟩) | exact .inr (.inr rfl)
theorem bi_tuple : CallR X (.type "tuple") (rBi c (biD .tuple)) := by
  intro pins s σ H xs us Q I r ⟨hid, ds, Ex, ha, hd, p⟩
  rcases ds with _ | ⟨d, _ | ⟨d', ds⟩⟩
  · exact p.elim
  · obtain ⟨v, rfl, h⟩ := hd.one
    simp only [biD] at p
    rcases seqOf_cases d with ⟨es, rfl, e⟩ | ⟨es, rfl, e⟩ | e
    · rw [e] at p
      obtain ⟨a, vs, rfl, h1, t⟩ := h
      exact call_tuple_of pins s σ H _ us Q I r ⟨a, vs, rfl, .inr ⟨SqT.of h1, p _ H .refl ⟨a, vs, rfl, h1, t⟩⟩⟩
    · rw [e] at p
      obtain ⟨a, vs, rfl, h1, n, t⟩ := h
      exact call_tuple_of pins s σ H _ us Q I r ⟨a, vs, rfl, .inl ⟨SqL.of h1, fun l hl => p _ _ (.new hl) (.newT hl t)⟩⟩
    · rw [e] at p; exact p.elim
  · exact p.elim
theorem bi_list : CallR X (.type "list") (rBi c (biD .list)) := by
  intro pins s σ H xs us Q I r ⟨hid, ds, Ex, ha, hd, p⟩
  rcases ds with _ | ⟨d, _ | ⟨d', ds⟩⟩
  · exact p.elim
  · obtain ⟨v, rfl, h⟩ := hd.one
    simp only [biD] at p
    rcases seqOf_cases d with ⟨es, rfl, e⟩ | ⟨es, rfl, e⟩ | e
    · rw [e] at p
      obtain ⟨a, vs, rfl, h1, t⟩ := h
      exact call_list_of pins s σ H _ us Q I r ⟨a, vs, rfl, .inr (SqT.of h1), fun l hl => p _ _ (.new hl) (.newL ha hl t)⟩
    · rw [e] at p
      obtain ⟨a, vs, rfl, h1, n, t⟩ := h
      exact call_list_of pins s σ H _ us Q I r ⟨a, vs, rfl, .inl (SqL.of h1), fun l hl => p _ _ (.new hl) (.newL ha hl t)⟩
    · rw [e] at p; exact p.elim
  · exact p.elim
theorem bi_sorted (hK : c.K = X.K) (hu : X.A.units + 200 < cLine) : CallR X (.builtin "sorted") (rBi c (biD .sorted)) := by
  intro pins s σ H xs us Q I r ⟨hid, ds, Ex, ha, hd, p⟩
  rcases ds with _ | ⟨d, _ | ⟨d', ds⟩⟩
  · exact p.elim
  · obtain ⟨v, rfl, h⟩ := hd.one
    simp only [biD] at p
    have main : ∀ (a : Addr) (vs : List V) (es : List D) (T : String) (o : Obj) (items : List Value) (n : Nat), (T = "list" ∨ T = "tuple") → s.heap.get? a = some o → o.cls = .type T → o.data = .seq items.toArray n → Vals vs items → RpL c H hid es vs → es.length ≤ sizeLine →
        Post c Ex (fun H => Rp c H hid) (if sortable es = true then Res.ok (D.lst (sortD es)) else .bad) H Q → wpAny (model X.prog X.w) X.A (call (.builtin "sorted") [.ref a]) (EP X pins σ Q) X.xe s := by
      intro a vs es T o items n hT ho hc hdt rv t hz p
      split at p
      · rename_i hs
        have ea := each_of t rv
        have sh := sortable_shp hs
        refine sorted_seqV (R := StV c H hid) (enc := D.py) (bs := es) (items := items.toArray) hT ho hc hdt ea (EachIs.impM ea fun u d hm ⟨w, r, q⟩ => ?_) (sortable_alike hs) (sortable_sort hs) hz (fun b hb => ?_) ?_
        · obtain ⟨as, q⟩ := Dp.reads I d.py w u (dpX hK q (sh d hm)) r
          exact ⟨as, q⟩
        · have := SeqAt.depth_of_shaped (sh b hb)
          omega
        · intro out h' q cc k hn hat hl eo
          obtain ⟨ws, t', rv'⟩ := of_each eo
          have hl' : ws.length ≤ sizeLine := by rw [t'.len]; show (es.mergeSort _).length ≤ _; rw [List.length_mergeSort]; exact hz
          have hHq := goneN I hn
          exact ⟨.ref q, upd H q (.lst ws), Inv.laidG (t' := s.toks) I k hn ⟨hl', out, cc, rv', hat⟩, rfl, p _ _ (.new hHq) (.newL ha hHq t')⟩
      · exact p.elim
    rcases seqOf_cases d with ⟨es, rfl, e⟩ | ⟨es, rfl, e⟩ | e
    · rw [e] at p
      obtain ⟨a, vs, rfl, h1, t⟩ := h
      rw [Vals.ref1 r]
      obtain ⟨hz, its, rv, o, ho, hc, n, hdt⟩ := I.hok a _ h1
      exact main a vs es "tuple" o its n (.inr rfl) ho hc hdt rv t (by rw [← t.len]; exact hz) p
    · rw [e] at p
      obtain ⟨a, vs, rfl, h1, nn, t⟩ := h
      rw [Vals.ref1 r]
      obtain ⟨hz, its, n, rv, ho⟩ := I.hok a _ h1
      exact main a vs es "list" _ its n (.inl rfl) ho rfl rfl rv t (by rw [← t.len]; exact hz) p
    · rw [e] at p; exact p.elim
  · exact p.elim
theorem bi_any (hc : X.calm = true) : CallR X (.builtin "any") (rBi c (biD .any)) := by
  intro pins s σ H xs us Q I r ⟨hid, ds, Ex, ha, hd, p⟩
  rcases ds with _ | ⟨d, _ | ⟨d', ds⟩⟩
  · exact p.elim
  · obtain ⟨v, rfl, h⟩ := hd.one
    cases d <;> first | exact False.elim p | skip
    rename_i es
    simp only [biD] at p
    cases e : es.mapM blOf with
    | none => rw [e] at p; exact p.elim
    | some bs =>
      rw [e] at p
      have e1 := blOf_map e
      subst e1
      obtain ⟨a, vs, rfl, h1, n, t⟩ := h
      rw [t.bls] at h1
      exact cr_any hc pins s σ H _ us Q I r ⟨a, bs, rfl, SqL.of h1, p _ H .refl rfl⟩
  · cases d <;> exact p.elim
theorem bi_all (hc : X.calm = true) : CallR X (.builtin "all") (rBi c (biD .all)) := by
  intro pins s σ H xs us Q I r ⟨hid, ds, Ex, ha, hd, p⟩
  rcases ds with _ | ⟨d, _ | ⟨d', ds⟩⟩
  · exact p.elim
  · obtain ⟨v, rfl, h⟩ := hd.one
    cases d <;> first | exact False.elim p | skip
    rename_i es
    simp only [biD] at p
    cases e : es.mapM blOf with
    | none => rw [e] at p; exact p.elim
    | some bs =>
      rw [e] at p
      have e1 := blOf_map e
      subst e1
      obtain ⟨a, vs, rfl, h1, n, t⟩ := h
      rw [t.bls] at h1
      exact cr_all hc pins s σ H _ us Q I r ⟨a, bs, rfl, SqL.of h1, p _ H .refl rfl⟩
  · cases d <;> exact p.elim
theorem bi_sum (hc : X.calm = true) : CallR X (.builtin "sum") (rBi c (biD .sum)) := by
  intro pins s σ H xs us Q I r ⟨hid, ds, Ex, ha, hd, p⟩
  rcases ds with _ | ⟨d, _ | ⟨d', ds⟩⟩
  · exact p.elim
  · obtain ⟨v, rfl, h⟩ := hd.one
    cases d <;> first | exact False.elim p | skip
    rename_i es
    simp only [biD] at p
    cases e : allInts es with
    | none => rw [e] at p; exact p.elim
    | some bs =>
      rw [e] at p
      have e1 := allInts_map e
      subst e1
      obtain ⟨a, vs, rfl, h1, n, t⟩ := h
      rw [t.ints] at h1
      exact cr_sum hc pins s σ H _ us Q I r ⟨a, bs, rfl, SqL.of h1, p _ H .refl rfl⟩
  · cases d <;> exact p.elim
theorem bi_str : CallR X (.type "str") (rBi c (biD .str)) := by
  intro pins s σ H xs us Q I r ⟨hid, ds, Ex, ha, hd, p⟩
  rcases ds with _ | ⟨d, _ | ⟨d', ds⟩⟩
  · exact p.elim
  · obtain ⟨v, rfl, h⟩ := hd.one
    cases d <;> first | exact False.elim p | skip
    rename_i i
    simp only [biD] at p
    split at p
    · exact call_str_int pins s σ H _ us Q I r ⟨i, by rw [show v = .int i from h], by assumption, p _ H .refl rfl⟩
    · exact p.elim
  · cases d <;> exact p.elim
theorem bi_int : CallR X (.type "int") (rBi c (biD .int)) := by
  intro pins s σ H xs us Q I r ⟨hid, ds, Ex, ha, hd, p⟩
  rcases ds with _ | ⟨d, _ | ⟨d', ds⟩⟩
  · exact p.elim
  · obtain ⟨v, rfl, h⟩ := hd.one
    cases d <;> first | exact False.elim p | skip
    · rename_i i
      exact call_int1 pins s σ H _ us Q I r (.inr ⟨i, by rw [show v = .bl i from h], p _ H .refl rfl⟩)
    · rename_i i
      exact call_int1 pins s σ H _ us Q I r (.inl ⟨i, by rw [show v = .int i from h], p _ H .refl rfl⟩)
  · cases d <;> exact p.elim
theorem bid (hK : c.K = X.K) (hc : X.calm = true) (hu : X.A.units + 200 < cLine) : ∀ f, CallR X (biV f) (rBi c (biD f))
  | .len => bi_len hK
  | .min2 => bi_min2 hc
  | .max2 => bi_max2 hc
  | .max1 => bi_max1 hc
  | .tuple => bi_tuple
  | .list => bi_list
  | .sorted => bi_sorted hK hu
  | .any => bi_any hc
  | .all => bi_all hc
  | .sum => bi_sum hc
  | .str => bi_str
  | .int => bi_int

/-! ### isinstance -/
def tiN : Kd → String
  | .int => "int" | .bool => "bool" | .tuple => "tuple"
def isiTy : D → String
  | .non => "NoneType" | .bl _ => "bool" | .int _ => "int" | .str _ => "str" | .tup _ => "tuple" | .lst _ => "list" | _ => ""
theorem kit_all (t : Kd) : kitB "NoneType" (tiN t) = some false ∧ kitB "bool" (tiN t) = some (match t with | .int => true | .bool => true | .tuple => false) ∧ kitB "int" (tiN t) = some (match t with | .int => true | _ => false) ∧
    kitB "str" (tiN t) = some false ∧ kitB "tuple" (tiN t) = some (match t with | .tuple => true | _ => false) ∧ kitB "list" (tiN t) = some false := by
  cases t <;> decide +kernel
def rIsD (c : PCx) (t : Kd) : List V → Hp → VK → Prop := fun xs H Q => ∃ hid d x Ex, xs = [x, .ty (tiN t)] ∧ Rp c H hid d x ∧ Post c Ex (fun H => Rp c H hid) (isiD t d) H Q
theorem isid (t : Kd) : CallR X (.builtin "isinstance") (rIsD c t) := by
  intro pins s σ H xs us Q I r ⟨hid, d, x, Ex, e, hd, p⟩
  subst e
  obtain ⟨k1, k2, k3, k4, k5, k6⟩ := kit_all t
  have go : ∀ (n : String) (b : Bool), TyOf X.K H x (.type n) → kitB n (tiN t) = some b → isiD t d = .ok (.bl b) → wpAny (model X.prog X.w) X.A (call (.builtin "isinstance") us) (EP X pins σ Q) X.xe s := by
    intro n b ty hk hb
    rw [hb] at p
    exact call_isi pins s σ H _ us Q I r ⟨x, .ty (tiN t), .type n, .type (tiN t), b, rfl, .ty _, .base ty, kit_ty hk, p _ H .refl rfl⟩
  cases d with
  | non => exact go "NoneType" _ (by rw [show x = .non from hd]; exact .non) k1 rfl
  | bl b => exact go "bool" _ (by rw [show x = .bl b from hd]; exact .bl b) k2 (by cases t <;> rfl)
  | int b => exact go "int" _ (by rw [show x = .int b from hd]; exact .int b) k3 (by cases t <;> rfl)
  | str b => exact go "str" _ (by rw [show x = .str b from hd]; exact .str b) k4 rfl
  | tup ds =>
    obtain ⟨a, vs, rfl, h1, _⟩ := hd
    exact go "tuple" _ (.tup h1) k5 (by cases t <;> rfl)
  | lst ds =>
    obtain ⟨a, vs, rfl, h1, _⟩ := hd
    exact go "list" _ (.lst h1) k6 rfl
  | _ => exact p.elim
end
end FC

/-! sorted(set(..)): of ints, of tuples of ints. -/
set_option autoImplicit false
set_option linter.all false
set_option maxRecDepth 100000
set_option maxHeartbeats 4000000
set_option Elab.async false
namespace FC
open PySem PySem.Spec PyProof.Rows L2

section
variable {P : Program} {w : World} {A : Around} {E : Value → Shared → Prop} {s : Shared}
/-- the new set -/
abbrev freshSet (w : World) : Obj := { cls := .type "set", dict := none, data := .set #[] 0 (.fresh 0 0 (!w.params.followText "set-order")) }
/-- set(t), by what its filling does -/
theorem call_set_T {l : Addr} {items : Array Value} {PQ : Heap → Nat → Prop} {Q : Value → Shared → Prop} (hl : s.heap.IsTuple l items)
    (hup : ∀ R : Result → Shared → Prop, (∀ h' tk, PQ h' tk → R (.ok (.ret .none)) { s with heap := h', toks := tk }) →
      codeAny (model P w) A.in1.in1 (.builtin "set.update.loop" ⟨[.ref s.heap.objs.size, .ref (s.heap.objs.size + 1)], []⟩) R { s with heap := (s.heap.push (freshSet w)).push { cls := .type "tuple_iterator", data := .fields #[.ref l, .int 0 0] } })
    (h : ∀ h' tk, PQ h' tk → Q (.ref s.heap.objs.size) { s with heap := h', toks := tk }) :
    wpAny (model P w) A (call (.type "set") [.ref l]) Q E s := by
  obtain ⟨c, tl, hmro⟩ := F.called_set.mro
  have hmade := F.called_set.made
  have hsub := F.called_set.sub
  refine wpAny_call (codeAny_of_tree ?_)
  show wpAny _ _ (callAny (.type "set") _) _ _ _
  refine wpAny_pure ⟨Code.quiet_builtin _ (by decide +kernel), codeAny_builtin F.entry_type_call ?_⟩
  rw [Around.under_plain (weight_type_call_type "set" [.ref l] []) rfl]
  have h1 := F.called_set.notType
  have h2 := F.called_set.canCreate
  have hct := F.typeCall_set_1 (.ref l)
  repeat (any_goals (first | assumption | wp_step))
  refine codeAny_mono (code_set_led1 (.ref l) (E := E) (Q₁ := fun obj s₁ => obj = .ref s.heap.objs.size ∧ s₁ = { s with heap := s.heap.push (freshSet w) }) ⟨rfl, rfl⟩) fun r s₁ hr => ?_
  cases r with
  | error e => exact hr
  | ok fl =>
    cases fl with
    | ret obj =>
      obtain ⟨rfl, rfl⟩ := hr
      have hS : (s.heap.push (freshSet w)).get? s.heap.objs.size = some (freshSet w) := Heap.get?_push_size _ rfl
      have hT : Shared.TypeIs { s with heap := s.heap.push (freshSet w) } (.ref s.heap.objs.size) "set" := ⟨_, hS, rfl⟩
      have hli := F.called_set.init.lookup
      have hbi := F.called_set.init.bind (.ref s.heap.objs.size)
      repeat (any_goals (first | assumption | wp_step))
      refine codeAny_mono (codeAny_call_builtin (R := wants (fun r s₂ => r = .none ∧ ∃ h' tk, s₂ = { s with heap := h', toks := tk } ∧ PQ h' tk) E) F.called_set.init.plain F.entry_set_init (check_set_init_1 hT ?_)) fun r₂ s₂ hr₂ => ?_
      · obtain ⟨⟨ocls, odict, odata, oslots⟩, hol, hcl, nl, hdl⟩ := hl
        simp only at hcl hdl
        subst hcl; subst hdl
        have hol' : (s.heap.push (freshSet w)).get? l = some { cls := .type "tuple", dict := odict, data := .seq items nl, slots := oslots } := Heap.get?_push_of_some _ hol
        have hsls := F.sub_tuple_set
        have hslf := F.sub_tuple_frozenset
        have hne : (Value.type "tuple" == Value.type "dict") = false := by decide
        have hl1 : (s.heap.push (freshSet w)).IsTuple l items := ⟨_, hol', rfl, nl, rfl⟩
        unfold Builtin.«set.__init__» noKeywords Builtin.Frozenset.updateFrom
        generalize hPI : pyIter = PI
        wp_walk
        subst hPI
        refine wpAny_pyIter_tuple hl1 ?_
        refine wpAny_bind (wpAny_runValue ?_)
        have hz1 : (s.heap.push (freshSet w)).objs.size = s.heap.objs.size + 1 := Heap.size_push ..
        rw [hz1]
        refine hup _ fun h' tk hp => ?_
        show wpAny _ _ _ _ _ _
        refine wpAny_pure ?_
        show wpAny _ _ (ret Value.none) _ _ _
        exact wpAny_pure ⟨rfl, h', tk, rfl, hp⟩
      · cases r₂ with
        | error e => exact hr₂
        | ok fl₂ =>
          cases fl₂ with
          | ret r =>
            obtain ⟨rfl, h', tk, rfl, hp⟩ := hr₂
            repeat (any_goals (first | assumption | wp_step))
            exact h _ _ hp
          | _ => exact hr₂.elim
    | _ => exact hr.elim
/-- set(xs), by what its filling does -/
theorem call_set_L {l : Addr} {items : Array Value} {PQ : Heap → Nat → Prop} {Q : Value → Shared → Prop} (hl : s.heap.IsList l items)
    (hup : ∀ R : Result → Shared → Prop, (∀ h' tk, PQ h' tk → R (.ok (.ret .none)) { s with heap := h', toks := tk }) →
      codeAny (model P w) A.in1.in1 (.builtin "set.update.loop" ⟨[.ref s.heap.objs.size, .ref (s.heap.objs.size + 1)], []⟩) R { s with heap := (s.heap.push (freshSet w)).push { cls := .type "list_iterator", data := .fields #[.ref l, .int 0 0] } })
    (h : ∀ h' tk, PQ h' tk → Q (.ref s.heap.objs.size) { s with heap := h', toks := tk }) :
    wpAny (model P w) A (call (.type "set") [.ref l]) Q E s := by
  obtain ⟨c, tl, hmro⟩ := F.called_set.mro
  have hmade := F.called_set.made
  have hsub := F.called_set.sub
  refine wpAny_call (codeAny_of_tree ?_)
  show wpAny _ _ (callAny (.type "set") _) _ _ _
  refine wpAny_pure ⟨Code.quiet_builtin _ (by decide +kernel), codeAny_builtin F.entry_type_call ?_⟩
  rw [Around.under_plain (weight_type_call_type "set" [.ref l] []) rfl]
  have h1 := F.called_set.notType
  have h2 := F.called_set.canCreate
  have hct := F.typeCall_set_1 (.ref l)
  repeat (any_goals (first | assumption | wp_step))
  refine codeAny_mono (code_set_led1 (.ref l) (E := E) (Q₁ := fun obj s₁ => obj = .ref s.heap.objs.size ∧ s₁ = { s with heap := s.heap.push (freshSet w) }) ⟨rfl, rfl⟩) fun r s₁ hr => ?_
  cases r with
  | error e => exact hr
  | ok fl =>
    cases fl with
    | ret obj =>
      obtain ⟨rfl, rfl⟩ := hr
      have hS : (s.heap.push (freshSet w)).get? s.heap.objs.size = some (freshSet w) := Heap.get?_push_size _ rfl
      have hT : Shared.TypeIs { s with heap := s.heap.push (freshSet w) } (.ref s.heap.objs.size) "set" := ⟨_, hS, rfl⟩
      have hli := F.called_set.init.lookup
      have hbi := F.called_set.init.bind (.ref s.heap.objs.size)
      repeat (any_goals (first | assumption | wp_step))
      refine codeAny_mono (codeAny_call_builtin (R := wants (fun r s₂ => r = .none ∧ ∃ h' tk, s₂ = { s with heap := h', toks := tk } ∧ PQ h' tk) E) F.called_set.init.plain F.entry_set_init (check_set_init_1 hT ?_)) fun r₂ s₂ hr₂ => ?_
      · obtain ⟨⟨ocls, odict, odata, oslots⟩, hol, hcl, nl, hdl⟩ := hl
        simp only at hcl hdl
        subst hcl; subst hdl
        have hol' : (s.heap.push (freshSet w)).get? l = some { cls := .type "list", dict := odict, data := .seq items nl, slots := oslots } := Heap.get?_push_of_some _ hol
        have hsls := F.sub_list_set
        have hslf := F.sub_list_frozenset
        have hne : (Value.type "list" == Value.type "dict") = false := by decide
        have hl1 : (s.heap.push (freshSet w)).IsList l items := ⟨_, hol', rfl, nl, rfl⟩
        unfold Builtin.«set.__init__» noKeywords Builtin.Frozenset.updateFrom
        generalize hPI : pyIter = PI
        wp_walk
        subst hPI
        refine wpAny_pyIter_list hl1 ?_
        refine wpAny_bind (wpAny_runValue ?_)
        have hz1 : (s.heap.push (freshSet w)).objs.size = s.heap.objs.size + 1 := Heap.size_push ..
        rw [hz1]
        refine hup _ fun h' tk hp => ?_
        show wpAny _ _ _ _ _ _
        refine wpAny_pure ?_
        show wpAny _ _ (ret Value.none) _ _ _
        exact wpAny_pure ⟨rfl, h', tk, rfl, hp⟩
      · cases r₂ with
        | error e => exact hr₂
        | ok fl₂ =>
          cases fl₂ with
          | ret r =>
            obtain ⟨rfl, h', tk, rfl, hp⟩ := hr₂
            repeat (any_goals (first | assumption | wp_step))
            exact h _ _ hp
          | _ => exact hr₂.elim
    | _ => exact hr.elim

end
end FC

/-! sorted(set(..)): the rule. -/
set_option autoImplicit false
set_option linter.all false
set_option maxRecDepth 100000
set_option maxHeartbeats 4000000
set_option Elab.async false
namespace FC
open PySem PySem.Spec PyProof.Rows L2

section
variable {P : Program} {w : World} {A : Around} {E : Value → Shared → Prop} {s : Shared}
theorem gone_ge {b : Addr} (h : s.heap.objs.size ≤ b) : s.heap.get? b = none := by
  cases q : s.heap.get? b with
  | none => rfl
  | some o => exact absurd (Nat.lt_of_lt_of_le (Heap.lt_size q) h) (Nat.lt_irrefl _)
/-- set of a list of ints -/
theorem call_set_lstI {l : Addr} {items : Array Value} (ns : List Int) {Q : Value → Shared → Prop} (hh : A.handled = none) (hl : s.heap.IsList l items) (hit : IntsAre items.toList ns) (hb : ns.length + 1 < scanBound)
    (h : ∀ (h' : Heap) (tk c : Nat), SetR w h' s.heap.objs.size (fun j => decide (j ∈ ns)) c → c ≤ ns.length → (∀ b o, s.heap.get? b = some o → h'.get? b = some o) → Q (.ref s.heap.objs.size) { s with heap := h', toks := tk }) :
    wpAny (model P w) A (call (.type "set") [.ref l]) Q E s := by
  have hisz : items.size = ns.length := by
    have q := IntsAre.length hit
    rw [Array.length_toList] at q
    exact q
  refine call_set_L (PQ := fun h' tk => ∃ c, SetR w h' s.heap.objs.size (fun j => decide (j ∈ ns)) c ∧ c ≤ ns.length ∧ ∀ b o, s.heap.get? b = some o → h'.get? b = some o) hl (fun R hR => ?_) fun h' tk ⟨c, q1, q2, q3⟩ => h h' tk c q1 q2 q3
  obtain ⟨ol, hol, hcl, nl, hdl⟩ := id hl
  have hlS : l < s.heap.objs.size := Heap.lt_size hol
  have hl1 : ((s.heap.push (freshSet w)).push { cls := .type "list_iterator", data := .fields #[.ref l, .int 0 0] }).IsList l items := ⟨_, Heap.get?_push_of_some _ (Heap.get?_push_of_some _ hol), hcl, nl, hdl⟩
  have hz1 : (s.heap.push (freshSet w)).objs.size = s.heap.objs.size + 1 := Heap.size_push ..
  have hget : ((s.heap.push (freshSet w)).push { cls := .type "list_iterator", data := .fields #[.ref l, .int 0 0] }).get? s.heap.objs.size = some (freshSet w) := Heap.get?_push_of_some _ (Heap.get?_push_size _ rfl)
  have hgi : ((s.heap.push (freshSet w)).push { cls := .type "list_iterator", data := .fields #[.ref l, .int 0 0] }).get? (s.heap.objs.size + 1) = some { cls := .type "list_iterator", data := .fields #[.ref l, .int 0 0] } := by
    rw [← hz1]; exact Heap.get?_push_size _ rfl
  have hval : ∀ (i : Nat) (v : Value), items[i]? = some v → ∃ k t, ns[i]? = some k ∧ v = .int k t := fun i v hv => by
    have hi : i < ns.length := by rw [← hisz]; exact (Array.getElem?_eq_some_iff.mp hv).1
    obtain ⟨t, e⟩ := PyProof.Rows.IntsAre.int_at hit i v (by rw [Array.getElem?_toList]; exact hv)
    refine ⟨ns[i], t, List.getElem?_eq_getElem hi, ?_⟩
    rw [e, List.getD_eq_getElem?_getD, List.getElem?_eq_getElem hi] <;> rfl
  refine set_update_ints ((Walks.list (by simp [hh]) (s.heap.objs.size + 1) l (Nat.ne_of_lt (Nat.lt_succ_of_lt hlS)) items).toS) s.heap.objs.size (by simp only [List.mem_cons, List.not_mem_nil, or_false, not_or]; exact ⟨Nat.ne_of_lt (Nat.lt_succ_self _), Nat.ne_of_gt hlS⟩) ns hisz hb hval (items.size - 0) 0 _ (by omega) (Nat.zero_le _)
    ⟨⟨_, hgi, rfl, rfl⟩, hl1⟩ ⟨0, Nat.le_refl 0, setR_new_at hget⟩ fun s' c' hm hc' hS' => ?_
  obtain ⟨h', g2, d', tk', os'⟩ := s'
  have eg : g2 = s.gens := hm.gens
  have ed : d' = s.drawn := hm.drawn
  have eo : os' = s.os := hm.os
  subst eg ed eo
  refine hR h' tk' ⟨c', hS', Nat.le_trans hc' (Nat.le_of_eq hisz), fun b o e => ?_⟩
  have hb0 : b < s.heap.objs.size := Heap.lt_size e
  exact hm.heap b o (by simp only [List.mem_cons, List.not_mem_nil, or_false, not_or]; exact ⟨Nat.ne_of_lt hb0, Nat.ne_of_lt (Nat.lt_succ_of_lt hb0)⟩) (Heap.get?_push_of_some _ (Heap.get?_push_of_some _ e))
/-- set of a tuple of tuples of ints -/
theorem call_set_tupT {l : Addr} {items : Array Value} (ks : List (Addr × List Int)) {Q : Value → Shared → Prop} (hh : A.handled = none) (hl : s.heap.IsTuple l items) (hit : items.toList = ks.map fun p => Value.ref p.1)
    (hk : ∀ p ∈ ks, IsT P w s.heap p.2 p.1) (hfew : ks.length < 64) (hu : A.units + 3 < cLine)
    (h : ∀ (h' : Heap) (tk : Nat) L es ep t, SetTR P w h' s.heap.objs.size L es ep t → Got ks ks.length L → (∀ b o, s.heap.get? b = some o → h'.get? b = some o) → Q (.ref s.heap.objs.size) { s with heap := h', toks := tk }) :
    wpAny (model P w) A (call (.type "set") [.ref l]) Q E s := by
  have hisz : items.size = ks.length := by
    have q := congrArg List.length hit
    rw [Array.length_toList, List.length_map] at q
    exact q
  refine call_set_T (PQ := fun h' tk => ∃ L es ep t, SetTR P w h' s.heap.objs.size L es ep t ∧ Got ks ks.length L ∧ ∀ b o, s.heap.get? b = some o → h'.get? b = some o) hl (fun R hR => ?_) fun h' tk ⟨L, es, ep, t, q1, q2, q3⟩ => h h' tk L es ep t q1 q2 q3
  obtain ⟨ol, hol, hcl, nl, hdl⟩ := id hl
  have hlS : l < s.heap.objs.size := Heap.lt_size hol
  have hl1 : ((s.heap.push (freshSet w)).push { cls := .type "tuple_iterator", data := .fields #[.ref l, .int 0 0] }).IsTuple l items := ⟨_, Heap.get?_push_of_some _ (Heap.get?_push_of_some _ hol), hcl, nl, hdl⟩
  have hz1 : (s.heap.push (freshSet w)).objs.size = s.heap.objs.size + 1 := Heap.size_push ..
  have hget : ((s.heap.push (freshSet w)).push { cls := .type "tuple_iterator", data := .fields #[.ref l, .int 0 0] }).get? s.heap.objs.size = some (freshSet w) := Heap.get?_push_of_some _ (Heap.get?_push_size _ rfl)
  have hgi : ((s.heap.push (freshSet w)).push { cls := .type "tuple_iterator", data := .fields #[.ref l, .int 0 0] }).get? (s.heap.objs.size + 1) = some { cls := .type "tuple_iterator", data := .fields #[.ref l, .int 0 0] } := by
    rw [← hz1]; exact Heap.get?_push_size _ rfl
  have hval : ∀ (i : Nat) (v : Value), items[i]? = some v → ∃ p, ks[i]? = some p ∧ v = .ref p.1 := fun i v hv => by
    have q : items.toList[i]? = some v := by rw [Array.getElem?_toList]; exact hv
    rw [hit, List.getElem?_map] at q
    cases hq : ks[i]? with
    | none => rw [hq] at q; cases q
    | some p =>
      rw [hq] at q
      exact ⟨p, rfl, (Option.some.inj q).symm⟩
  refine set_update_tups ((Walks.tuple (by simp [hh]) (s.heap.objs.size + 1) l (Nat.ne_of_lt (Nat.lt_succ_of_lt hlS)) items).toS) s.heap.objs.size (by simp only [List.mem_cons, List.not_mem_nil, or_false, not_or]; exact ⟨Nat.ne_of_lt (Nat.lt_succ_self _), Nat.ne_of_gt hlS⟩) ks hisz hfew hval s.heap hk (gone_ge (Nat.le_refl _)) (fun b hb => gone_ge (by
      rw [List.mem_singleton.mp hb]; exact Nat.le_succ _)) (by have : A.in1.in1.in1.units = A.units + 3 := rfl; omega) (items.size - 0) 0 _ (by omega) (Nat.zero_le _)
    ⟨⟨_, hgi, rfl, rfl⟩, hl1⟩ (fun b o e => Heap.get?_push_of_some _ (Heap.get?_push_of_some _ e)) ⟨[], #[], 0, _, setTR_fresh hget, Got.zero ks⟩ fun s' L es ep t hm hS' g' hkp => ?_
  obtain ⟨h', g2, d', tk', os'⟩ := s'
  have eg : g2 = s.gens := hm.gens
  have ed : d' = s.drawn := hm.drawn
  have eo : os' = s.os := hm.os
  subst eg ed eo
  rw [hisz] at g'
  exact hR h' tk' ⟨L, es, ep, t, hS', g', hkp⟩
end
/-! ### order -/
abbrev TD (r : List Int) : D := .tup (r.map .int)
theorem perm_map_ex {α β : Type} {f : α → β} {vs us : List β} (h : vs.Perm us) : ∀ L : List α, us = L.map f → ∃ L1 : List α, L1.Perm L ∧ vs = L1.map f := by
  induction h with
  | nil => intro L e; exact ⟨[], by rw [List.map_eq_nil_iff.mp e.symm], rfl⟩
  | cons x _ ih =>
    intro L e
    match L, e with
    | y :: L, e =>
      rw [List.map_cons] at e
      obtain ⟨e1, e2⟩ := List.cons.inj e
      obtain ⟨L1, p, q⟩ := ih L e2
      exact ⟨y :: L1, p.cons y, by rw [List.map_cons, q, e1]⟩
  | swap x y r =>
    intro L e
    match L, e with
    | a :: b :: L, e =>
      rw [List.map_cons, List.map_cons] at e
      obtain ⟨e1, e2⟩ := List.cons.inj e
      obtain ⟨e3, e4⟩ := List.cons.inj e2
      exact ⟨b :: a :: L, .swap a b L, by rw [List.map_cons, List.map_cons, e1, e3, e4]⟩
  | trans _ _ ih1 ih2 =>
    intro L e
    obtain ⟨L2, p2, q2⟩ := ih2 L e
    obtain ⟨L1, p1, q1⟩ := ih1 L2 q2
    exact ⟨L1, p1.trans p2, q1⟩
theorem mem_ddup {α : Type} [DecidableEq α] {x : α} : ∀ {xs : List α}, x ∈ ddup xs ↔ x ∈ xs
  | [] => by rw [ddup]
  | y :: ys => by
    have ih := mem_ddup (x := x) (xs := ys)
    rw [ddup]
    split
    · rename_i h
      rw [ih, List.mem_cons]
      exact ⟨.inr, fun q => q.elim (fun e => e ▸ h) id⟩
    · rw [List.mem_cons, List.mem_cons, ih]
theorem nodup_ddup {α : Type} [DecidableEq α] : ∀ {xs : List α}, (ddup xs).Nodup
  | [] => by rw [ddup]; exact .nil
  | y :: ys => by
    rw [ddup]
    split
    · exact nodup_ddup
    · rename_i h
      exact List.nodup_cons.mpr ⟨fun q => h (mem_ddup.mp q), nodup_ddup⟩
theorem setI_eq {ns ms : List Int} (h : ms.Pairwise (· < ·)) (hm : ∀ k, k ∈ ms ↔ k ∈ ns) : setI ns = ms := by
  unfold setI
  have hp := List.mergeSort_perm (ddup ns) fun a b : Int => decide (a ≤ b)
  have hs := List.pairwise_mergeSort (le := fun a b : Int => decide (a ≤ b)) (fun a b c h1 h2 => by simp only [decide_eq_true_eq] at *; omega) (fun a b => by simp only [Bool.or_eq_true, decide_eq_true_eq]; omega) (ddup ns)
  refine List.Perm.eq_of_pairwise (le := fun a b : Int => a ≤ b) (fun a b _ _ h1 h2 => by omega) (hs.imp fun q => of_decide_eq_true q) (h.imp fun q => by omega) ?_
  exact (List.perm_ext_iff_of_nodup (hp.nodup_iff.mpr nodup_ddup) (h.imp fun q e => by omega)).mpr fun k => by rw [hp.mem_iff, mem_ddup, hm]
theorem setL_eq {rs ms : List (List Int)} (h : ms.Pairwise (· ≤ ·)) (nd : ms.Nodup) (hm : ∀ k, k ∈ ms ↔ k ∈ rs) : setL rs = ms := by
  unfold setL
  have hp := List.mergeSort_perm (ddup rs) fun a b : List Int => decide (a ≤ b)
  have hs := List.pairwise_mergeSort (le := fun a b : List Int => decide (a ≤ b)) (fun a b c h1 h2 => by simp only [decide_eq_true_eq] at *; exact Std.le_trans h1 h2) (fun a b => by simp only [Bool.or_eq_true, decide_eq_true_eq]; exact Std.le_total) (ddup rs)
  refine List.Perm.eq_of_pairwise (le := fun a b : List Int => a ≤ b) (fun a b _ _ h1 h2 => Std.le_antisymm h1 h2) (hs.imp fun q => of_decide_eq_true q) h ?_
  exact (List.perm_ext_iff_of_nodup (hp.nodup_iff.mpr nodup_ddup) nd).mpr fun k => by rw [hp.mem_iff, mem_ddup, hm]
theorem pys_ints' (xs : List Int) : D.pys (xs.map .int) = xs.map .int := by
  rw [pys_eq, List.map_map]
  apply List.map_congr_left
  intro a _
  simp only [Function.comp, D.py]
theorem dataLe_TD (a b : List Int) : PySem.W.dataLe false D.py (TD a) (TD b) = decide (a ≤ b) := by
  show (!PySem.W.dataLt (D.py (TD b)) (D.py (TD a))) = _
  rw [D.py, D.py, pys_ints', pys_ints', PySem.W.dataLt_tuple]
  show (!PySem.W.rowLt (b.map .int) (a.map .int)) = _
  rw [PySem.W.dataLt_ints]
  by_cases h : b < a
  · have : ¬ a ≤ b := fun q => List.not_lt.mpr q h
    simp [h, this]
  · have : a ≤ b := List.not_lt.mp h
    simp [h, this]
theorem sort_TD (rs : List (List Int)) : (rs.map TD).mergeSort (PySem.W.dataLe false D.py) = (rs.mergeSort fun a b => decide (a ≤ b)).map TD := by
  rw [List.map_mergeSort (s := PySem.W.dataLe false D.py)]
  intro a _ b _
  exact (dataLe_TD a b).symm
theorem sortable_sub {xs ys : List D} (h : sortable xs = true) (hs : ∀ y ∈ ys, y ∈ xs) : sortable ys = true := by
  unfold sortable at h ⊢
  simp only [Bool.and_eq_true, Bool.or_eq_true, List.all_eq_true] at h ⊢
  exact ⟨⟨fun x hx y hy => h.1.1 x (hs x hx) y (hs y hy), fun x hx => h.1.2 x (hs x hx)⟩, h.2.imp (fun q x hx => q x (hs x hx)) (fun q x hx => q x (hs x hx))⟩
theorem each_keys {L : List (Addr × List Int)} : ∀ {us : List Value} {rs : List (List Int)}, PySem.W.EachIs (fun v d => ∃ q ∈ L, v = Value.ref q.1 ∧ d = TD q.2) us (rs.map TD) → ∃ L' : List (Addr × List Int), us = L'.map (fun q => Value.ref q.1) ∧ rs = L'.map (·.2) ∧ ∀ q ∈ L', q ∈ L
  | us, [], h => by
    cases h
    exact ⟨[], rfl, rfl, fun q h => nomatch h⟩
  | us, r :: rs, h => by
    cases h with
    | cons h1 h2 =>
      obtain ⟨q, hq, rfl, e⟩ := h1
      obtain ⟨L', e1, e2, e3⟩ := each_keys h2
      have hr : r = q.2 := (List.map_inj_right (fun a b h => D.int.inj h)).mp (D.tup.inj e)
      exact ⟨q :: L', by rw [List.map_cons, e1], by rw [List.map_cons, ← e2, hr], fun p hp => by
        rcases List.mem_cons.mp hp with rfl | hp
        · exact hq
        · exact e3 p hp⟩
section
variable {P : Program} {w : World} {A : Around} {E : Value → Shared → Prop} {s : Shared}
open PySem.W in
theorem sorted_setV {a : Addr} {L : List (Addr × List Int)} {es : Array (Int × Value)} {ep : Nat} {t : SetTable} {Q : Value → Shared → Prop} (R : SetTR P w s.heap a L es ep t) (hh : A.handled = none)
    (er : ∀ q ∈ L, ∃ as, Reads s.heap (.ref q.1) (TD q.2).py as) (hs : sortable (L.map fun q => TD q.2) = true) (hu : A.units + 100 < cLine)
    (hQ : ∀ s' p (out : Array Value) (c : Nat) (L' : List (Addr × List Int)), (∀ b o, s.heap.get? b = some o → s'.heap.get? b = some o) → s'.gens = s.gens → s'.os = s.os → s.heap.objs.size ≤ p →
      s'.heap.get? p = some (seqObj "list" out c) → out.toList = L'.map (fun q => Value.ref q.1) → (∀ q ∈ L', q ∈ L) → (L'.map (·.2)).Perm (L.map (·.2)) → (L'.map (·.2)).Pairwise (· ≤ ·) → Q (.ref p) s') :
    wpAny (model P w) A (call (.builtin "sorted") [.ref a]) Q E s := by
  obtain ⟨o, ho, hex, hd⟩ := R.ob
  have hsz := R.size
  have hfew := R.few
  refine call_function_entry_kw kind_sorted plain_sorted entry_sorted (args_sorted1 _) ?_
  unfold Builtin.«sorted»
  refine wpAny_bind (m := checkCount "sorted" 1 1 _) (wpAny_pure ?_)
  refine wpAny_bind (collect_set (A := A.in1) hh ⟨o, ho, hex.1, hd⟩ R.fits (by unfold scanBound; omega) R.tab.ris R.led fun s1 vs k1 hz g1 o1 pm => ?_)
  have hes : es.toList.map (·.2) = L.map fun q => Value.ref q.1 := by
    rw [R.rows]
    unfold L2.rowsOf
    rw [List.map_map] <;> rfl
  rw [hes] at pm
  obtain ⟨L1, pL, rfl⟩ := perm_map_ex pm L rfl
  have sub1 : ∀ q ∈ L1, q ∈ L := fun q hq => pL.mem_iff.mp hq
  have hvl : (L1.map fun q => Value.ref q.1).length ≤ sizeLine := by rw [List.length_map, pL.length_eq, sizeLine_eq]; omega
  refine wpAny_bind (wpAny_newList ?_ hvl)
  generalize hvs : (L1.map fun q => Value.ref q.1) = vs at *
  have at2 : (s1.heap.push { cls := .type "list", data := .seq vs.toArray }).get? s1.heap.objs.size = some (seqObj "list" vs.toArray 0) := Heap.get?_push_size _ rfl
  have k3 : ∀ b o, s.heap.get? b = some o → (sortingHeap (s1.heap.push { cls := .type "list", data := .seq vs.toArray }) s1.heap.objs.size vs).get? b = some o := fun b o q =>
    sortingHeap_old (Nat.ne_of_lt (Heap.lt_size (k1 b o q))) (Heap.get?_push_of_some _ (k1 b o q))
  have hbs : sortable (L1.map fun q => TD q.2) = true := sortable_sub hs fun y hy => by
    obtain ⟨q, hq, rfl⟩ := List.mem_map.mp hy
    exact List.mem_map_of_mem (sub1 q hq)
  have ee : EachIs (fun v d => ∃ q ∈ L, v = Value.ref q.1 ∧ d = TD q.2) vs (L1.map fun q => TD q.2) := by
    rw [← hvs]
    clear hvs at2 k3 hbs pm pL hvl
    induction L1 with
    | nil => exact .nil
    | cons q L1 ih => exact .cons ⟨q, sub1 q List.mem_cons_self, rfl, rfl⟩ (ih fun p hp => sub1 p (List.mem_cons_of_mem _ hp))
  have er' : EachIs (fun v b => ∃ as, Reads (sortingHeap (s1.heap.push { cls := .type "list", data := .seq vs.toArray }) s1.heap.objs.size vs) v (D.py b) as) vs (L1.map fun q => TD q.2) :=
    ee.mono fun v d ⟨q, hq, e1, e2⟩ => by
      subst e1 e2
      obtain ⟨as, r⟩ := er q hq
      exact ⟨as, PyProof.Rows.Reads.keeps k3 r⟩
  generalize hh2 : (s1.heap.push { cls := .type "list", data := .seq vs.toArray } : Heap) = h2 at at2 k3 er' ⊢
  refine wpAny_bind (wpAny_holding (wpAny_call_entry_kw slot_list_sort ⟨_, at2, rfl⟩ entry_list_sort ?body (args_list_sort _)))
  case body =>
    refine wpAny_mono (list_sort_vals (κ := dataKind (sortingHeap h2 s1.heap.objs.size vs) ((L1.map fun q => TD q.2).map D.py)) (s := { s1 with heap := h2 }) (P := fun f s' => f = .done (.ret .none) ∧ s' = { s1 with heap := sortedHeap h2 s1.heap.objs.size vs (sortVals (dataKind (sortingHeap h2 s1.heap.objs.size vs) ((L1.map fun q => TD q.2).map D.py)) false vs vs).toArray }) at2
      (SortsAt.data (s := { s1 with heap := sortingHeap h2 s1.heap.objs.size vs }) (each_map (R := fun v d => ∃ as, Reads (sortingHeap h2 s1.heap.objs.size vs) v d as) D.py er') (sortable_alike hbs) (sortable_sort hbs) (bound_map fun d hd => by
        have := SeqAt.depth_of_shaped (sortable_shp hbs d hd)
        have : A.in1.in1.units = A.units + 2 := rfl
        omega)) hvl ⟨rfl, rfl⟩) (fun f s' hf => ?_) fun _ _ e => e
    obtain ⟨rfl, rfl⟩ := hf
    refine ⟨_, rfl, wpAny_pure ⟨_, rfl, ?_⟩⟩
    obtain ⟨c, hc'⟩ := sortedHeap_at (vs := vs) (out := (sortVals (dataKind (sortingHeap h2 s1.heap.objs.size vs) ((L1.map fun q => TD q.2).map D.py)) false vs vs).toArray) at2
    have eo := sortVals_data (enc := D.py) false ee er' (sortable_alike hbs)
    have e1 : (L1.map fun q => TD q.2) = (L1.map (·.2)).map TD := by rw [List.map_map]; rfl
    rw [e1, sort_TD] at eo
    rw [← e1] at eo
    obtain ⟨L', o1', o2', o3'⟩ := each_keys eo
    have hp2 := List.mergeSort_perm (L1.map (·.2)) fun a b : List Int => decide (a ≤ b)
    have hs2 := List.pairwise_mergeSort (le := fun a b : List Int => decide (a ≤ b)) (fun a b c h1 h2 => by simp only [decide_eq_true_eq] at *; exact Std.le_trans h1 h2) (fun a b => by simp only [Bool.or_eq_true, decide_eq_true_eq]; exact Std.le_total) (L1.map (·.2))
    rw [o2'] at hp2 hs2
    refine hQ _ s1.heap.objs.size _ c L' (fun b o q => ?_) g1 o1 hz hc' o1' o3' (hp2.trans (pL.map _)) (hs2.imp fun q => of_decide_eq_true q)
    have q2 := k1 b o q
    show (sortedHeap h2 s1.heap.objs.size vs _).get? b = some o
    rw [sortedHeap_old (Nat.ne_of_lt (Heap.lt_size q2)) (by rw [← hh2]; exact Heap.lt_size (Heap.get?_push_of_some _ q2)), ← hh2]
    exact Heap.get?_push_of_some _ q2
end
/-! ### the rule -/
section
variable {X : Cx}
def tSs (K : PySem.W.Frag) (ta : TE) : TE := fun σ H Q => ta σ H fun x H1 =>
  (∃ (l : Addr) (ns : List Int), x = V.ref l ∧ (SqL K H1 l (ns.map V.int) ∨ SqT K H1 l (ns.map V.int)) ∧ ns.length < 64 ∧ ∀ p, H1 p = none → Q (.ref p) (upd H1 p (.lst ((setI ns).map V.int)))) ∨
  (∃ (l : Addr) (ks : List (Addr × List Int)), x = V.ref l ∧ (SqL K H1 l (ks.map fun q => V.ref q.1) ∨ SqT K H1 l (ks.map fun q => V.ref q.1)) ∧ ks.length < 64 ∧ (∀ q ∈ ks, SqT K H1 q.1 (q.2.map V.int) ∧ Dp K H1 (.ref q.1) (TD q.2).py) ∧
    sortable (ks.map fun q => TD q.2) = true ∧ ∀ p (L' : List (Addr × List Int)), H1 p = none → (∀ q ∈ L', q ∈ ks) → L'.map (·.2) = setL (ks.map (·.2)) → Q (.ref p) (upd H1 p (.lst (L'.map fun q => V.ref q.1))))
theorem inv_new {pins : List (Addr × Obj)} {σ : L2.St} {H : Hp} {s s' : Shared} {p : Addr} {xs : List V} {out : Array Value} {c : Nat} (I : L2.Inv X pins σ H s) (k : ∀ b o, s.heap.get? b = some o → s'.heap.get? b = some o) (g : s'.gens = s.gens) (o : s'.os = s.os)
    (hp : s.heap.objs.size ≤ p) (hl : xs.length ≤ sizeLine) (hv : Vals xs out.toList) (hg : s'.heap.get? p = some (seqObj "list" out c)) : L2.Inv X pins σ (upd H p (.lst xs)) s' := by
  have hn : H p = none := I.hok.fresh hp
  have J : L2.Inv X pins σ (upd H p (.lst xs)) { s with heap := s'.heap, gens := s'.gens, drawn := s'.drawn, toks := s'.toks } :=
    I.call (ch := []) (Un.laid k hp hn) (I.hok.laid k hp ⟨hl, out.toList, c, hv, hg⟩) (by rw [g]; exact I.bare) (fun _ z => nomatch z)
  have e : s' = { s with heap := s'.heap, gens := s'.gens, drawn := s'.drawn, toks := s'.toks } := by
    cases s'
    cases s
    cases o
    rfl
  rw [e]
  exact J
theorem pe_sset {a : Expr} {ta : TE} {p p2 q pos : Pos} (hc : X.calm = true) (hu : X.A.units + 200 < cLine) (hg : Gl X "sorted") (hm : X.mg "sorted" = none) (hg2 : Gl X "set") (hm2 : X.mg "set" = none) (ha : PE X a ta)
    (na : starEach [a] X.env = (false, eval a X.env) :: starEach [] X.env := by rfl) : PE X (.Call (.Name "sorted" p) [.Call (.Name "set" p2) [a] [] q] [] pos) (tSs X.K ta) := by
  refine ⟨fun pins s σ H Q I h => ?_⟩
  refine Call_ (ld_blt I hg hm PyProof.Rows.boot_sorted ?_)
  refine PyProof.Rows.callWith_builtin1 (PyProof.Rows.args_cons ?_ rfl) rfl rfl
  refine Call_ (ld_blt I hg2 hm2 PyProof.Rows.boot_set ?_)
  refine PyProof.Rows.callWith_type1 (PyProof.Rows.args_cons (thn (ha.run pins s σ H _ I h) fun v s1 ⟨x, H1, I1, r1, q1⟩ => PyProof.Rows.args_nil ?_) na) na rfl
  rcases q1 with ⟨l, ns, rfl, hq, h1, q1⟩ | ⟨l, ks, rfl, hq, h1, hks, hs, q1⟩
  · cases r1
    have fin : ∀ (h' : Heap) (tk c : Nat), SetR X.w h' s1.heap.objs.size (fun j => decide (j ∈ ns)) c → c ≤ ns.length → (∀ b o, s1.heap.get? b = some o → h'.get? b = some o) →
        wpAny (model X.prog X.w) X.A (call (.builtin "sorted") [.ref s1.heap.objs.size]) (EP X pins σ Q) X.xe { s1 with heap := h', toks := tk } := fun h' tk c hS hc' hk => by
      have I2 : L2.Inv X pins σ H1 { s1 with heap := h', toks := tk } := I1.kept hk
      refine sorted_set (s := { s1 with heap := h', toks := tk }) hS (I2.ok.hd hc) (by omega) fun s' p out c' ms k g o hp hgp hi hsm hmem hl => ?_
      have em : setI ns = ms := setI_eq hsm fun j => by rw [hmem j, decide_eq_true_eq]
      have hn : H1 p = none := I2.hok.fresh hp
      exact ⟨.ref p, _, inv_new (xs := ms.map V.int) I2 k g o hp (by rw [List.length_map, hl, sizeLine_eq]; omega) (vals_of_ints hi) hgp, rfl, by rw [← em]; exact q1 p hn⟩
    rcases hq with hq | hq
    · obtain ⟨its, r, pl, hz⟩ := I1.list hq
      exact call_set_lstI (P := X.prog) (w := X.w) ns (I1.ok.hd hc) pl.isList (by simpa using r.ints) (by unfold scanBound; omega) fun h' tk c hS hc' hk => PyProof.Rows.args_nil (fin h' tk c hS hc' hk)
    · obtain ⟨its, r, pl, hz⟩ := I1.tuple hq
      exact call_set_tupI (P := X.prog) (w := X.w) ns (I1.ok.hd hc) pl (by simpa using r.ints) (by unfold scanBound; omega) fun h' tk c hS hc' hk => PyProof.Rows.args_nil (fin h' tk c hS hc' hk)
  · cases r1
    have hT : ∀ p ∈ ks, IsT X.prog X.w s1.heap p.2 p.1 := fun p hp => I1.isT (hks p hp).1
    have hu1 := hu
    have fin : ∀ (h' : Heap) (tk : Nat) L es ep t, SetTR X.prog X.w h' s1.heap.objs.size L es ep t → Got ks ks.length L → (∀ b o, s1.heap.get? b = some o → h'.get? b = some o) →
        wpAny (model X.prog X.w) X.A (call (.builtin "sorted") [.ref s1.heap.objs.size]) (EP X pins σ Q) X.xe { s1 with heap := h', toks := tk } := fun h' tk L es ep t R g hk => by
      have I2 : L2.Inv X pins σ H1 { s1 with heap := h', toks := tk } := I1.kept hk
      have sub : ∀ q ∈ L, q ∈ ks := fun q hq => List.mem_of_mem_take (g.sub q hq)
      refine sorted_setV (s := { s1 with heap := h', toks := tk }) R (I2.ok.hd hc) (fun q hq => Dp.reads I2 _ _ _ (hks q (sub q hq)).2 rfl) (sortable_sub hs fun y hy => by
        obtain ⟨q, hq, rfl⟩ := List.mem_map.mp hy
        exact List.mem_map_of_mem (sub q hq)) (by omega) fun s' p out c L' k gg o hp hgp hout hs' hperm hpw => ?_
      have em : setL (ks.map (·.2)) = L'.map (·.2) := setL_eq hpw (hperm.nodup_iff.mpr R.nd) fun j => by
        rw [hperm.mem_iff, List.mem_map, List.mem_map]
        constructor
        · rintro ⟨q, hq, rfl⟩; exact ⟨q, sub q hq, rfl⟩
        · rintro ⟨q, hq, rfl⟩
          have := g.all q (by rw [List.take_length]; exact hq)
          exact List.mem_map.mp this
      have hn : H1 p = none := I2.hok.fresh hp
      have hfew := R.few
      have hlen : (L'.map fun q => V.ref q.1).length ≤ sizeLine := by
        have := hperm.length_eq
        rw [List.length_map, List.length_map] at this
        rw [List.length_map, sizeLine_eq]
        omega
      exact ⟨.ref p, _, inv_new I2 k gg o hp hlen (by rw [hout]; exact vals_of_refs L') hgp, rfl, q1 p L' hn (fun q hq => sub q (hs' q hq)) em.symm⟩
    rcases hq with hq | hq
    · obtain ⟨its, r, pl, hz⟩ := I1.list hq
      exact call_set_tups (P := X.prog) (w := X.w) ks (I1.ok.hd hc) pl.isList (by simpa using refs_of_vals r) hT h1 (by omega) fun h' tk L es ep t R g hk => PyProof.Rows.args_nil (fin h' tk L es ep t R g hk)
    · obtain ⟨its, r, pl, hz⟩ := I1.tuple hq
      exact call_set_tupT (P := X.prog) (w := X.w) ks (I1.ok.hd hc) pl (by simpa using refs_of_vals r) hT h1 (by omega) fun h' tk L es ep t R g hk => PyProof.Rows.args_nil (fin h' tk L es ep t R g hk)
end
end FC

/-! sorted(set(..)): the data. -/
set_option autoImplicit false
set_option linter.all false
set_option maxRecDepth 100000
set_option maxHeartbeats 4000000
set_option Elab.async false
namespace FC
open PySem L2

section
variable {c : PCx} {H : Hp} {hid : Addr → Prop}
theorem rpl_intsS : ∀ ns : List Int, RpL c H hid (ns.map .int) (ns.map V.int)
  | [] => rfl
  | n :: ns => .cons rfl (rpl_intsS ns)
theorem rp_TD {a : Addr} {r : List Int} (h : H a = some (.tup (r.map V.int))) : Rp c H hid (TD r) (.ref a) := ⟨a, r.map V.int, rfl, h, rpl_intsS r⟩
theorem rows_of : ∀ {ds : List D} {vs : List V} {rs : List (List Int)}, RpL c H hid ds vs → ds.mapM rowD = some rs → ∃ ks : List (Addr × List Int), vs = (ks.map fun q => V.ref q.1) ∧ ds = (ks.map fun q => TD q.2) ∧ rs = ks.map (·.2) ∧ ∀ q ∈ ks, H q.1 = some (.tup (q.2.map V.int))
  | [], vs, rs, h, e => by
    cases e
    exact ⟨[], h, rfl, rfl, fun q h => nomatch h⟩
  | d :: ds, vs, rs, h, e => by
    obtain ⟨v, q, rfl, h1, h2⟩ := h
    rw [List.mapM_cons] at e
    cases e1 : rowD d with
    | none => rw [e1] at e; cases e
    | some r =>
      rw [e1] at e
      cases e2 : ds.mapM rowD with
      | none => rw [e2] at e; cases e
      | some rs' =>
        rw [e2] at e
        cases e
        obtain ⟨ks, a1, a2, a3, a4⟩ := rows_of h2 e2
        cases d with
        | tup xs =>
          have ex : xs = r.map .int := allInts_map (show allInts xs = some r from e1)
          subst ex
          obtain ⟨a, ws, rfl, hh, t⟩ := h1
          rw [t.ints] at hh
          exact ⟨(a, r) :: ks, by rw [List.map_cons, a1], by rw [List.map_cons, a2], by rw [List.map_cons, a3], fun q hq => by
            rcases List.mem_cons.mp hq with rfl | hq
            · exact hh
            · exact a4 q hq⟩
        | _ => cases e1
theorem rpl_rows : ∀ {L : List (Addr × List Int)}, (∀ q ∈ L, H q.1 = some (.tup (q.2.map V.int))) → RpL c H hid ((L.map (·.2)).map fun r => D.tup (r.map .int)) (L.map fun q => V.ref q.1)
  | [], _ => rfl
  | q :: L, h => .cons (rp_TD (h q List.mem_cons_self)) (rpl_rows fun p hp => h p (List.mem_cons_of_mem _ hp))
end
end FC

/-! Code matched with the text's expressions; expressions do what their code says. -/
set_option autoImplicit false
set_option linter.all false
set_option maxRecDepth 100000
set_option maxHeartbeats 4000000
set_option Elab.async false
namespace FC
open PySem L2

/-! ### matching -/
def isM : Fn → Bool
  | .s_winner => true | .s_good => true | .s_behind => true
  | _ => false
def nmS : Fn → String
  | .choose => "choose" | .free_points => "free_points" | .claims => "claims" | .added => "added" | .claimed => "claimed" | .decided => "decided"
  | .s_winner => "winner" | .s_good => "good" | .s_behind => "behind" | .winner_from => "winner_from" | .winner => "winner" | .good_claims => "good_claims"
  | .is_number => "is_number" | .is_rising => "is_rising" | .is_line => "is_line" | .is_field => "is_field" | .is_game => "is_game" | .written => "written" | .figure => "figure" | .read => "read"
  | .behind => "behind" | .grown => "grown" | .tree_for => "tree_for" | .fits => "fits" | .is_one_of => "is_one_of" | .is_tree => "is_tree"
  | .holds_pair => "holds_pair" | .points_of => "points_of" | .search => "search" | .pairing => "pairing" | .is_pairing => "is_pairing" | .partner => "partner" | .reply => "reply"
  | .common => "common" | .power => "power" | .weight => "weight" | .parts => "parts" | .as_fraction => "as_fraction" | .danger => "danger" | .pull => "pull" | .heaviest => "heaviest" | .is_safe => "is_safe"
  | .all_sets => "all_sets" | .head_start => "head_start" | .curb => "curb" | .cover => "cover"
  | .sorted_lines => "sorted_lines" | .with_line => "with_line" | .without_point => "without_point" | .beside => "beside" | .renamed => "renamed" | .essential => "essential"
  | .l_cell => "_law_cell" | .l_mix => "_law_mix" | .l_field => "_law_field" | .l_game => "_law_game" | .l_position => "_law_position" | .l_bad_field => "_law_bad_field" | .l_bad_game => "_law_bad_game"
  | .l_text => "_law_text" | .l_spoilt2 => "_law_spoilt" | .l_spoilt5 => "_law_spoilt" | .l_read => "_law_read" | .l_over => "_law_over" | .l_claims => "_law_claims" | .l_put => "_law_put" | .l_refused => "_law_refused"
  | .l_winner => "_law_winner" | .l_whole => "_law_whole" | .l_is_tree => "_law_is_tree" | .l_holds => "_law_holds" | .l_is_pairing => "_law_is_pairing" | .l_all => "_law_all" | .l_safe6 => "_law_safe" | .l_safe8 => "_law_safe"
  | .l_fraction => "_law_fraction" | .l_weights => "_law_weights" | .l_sets => "_law_sets" | .l_better => "_law_better"
  | .law1 => "law" | .law2 => "law" | .law3 => "law" | .law4 => "law" | .law5 => "law" | .law6 => "law" | .law7 => "law" | .law8 => "law" | .law9 => "law" | .law10 => "law" | .law11 => "law"
abbrev nm (f : Fn) : Str := Str.ofString (nmS f)
def biN : BI → String
  | .len => "len" | .min2 => "min" | .max2 => "max" | .max1 => "max" | .tuple => "tuple" | .list => "list" | .sorted => "sorted" | .any => "any" | .all => "all" | .sum => "sum" | .str => "str" | .int => "int"
/-- the built-in names that code uses -/
def bnames : List String := ["len", "min", "max", "tuple", "list", "sorted", "any", "all", "sum", "str", "int", "isinstance", "bool", "range", "enumerate", "zip", "set"]
def vis (sc : Scope) (x : Str) : Bool := match sc.names.lookup x with
  | some .local => true | some .cell => true | some .free => true | _ => false
def glb (sc : Scope) (x : Str) : Bool := match sc.names.lookup x with
  | some .globalImplicit => true | _ => false
def plainName (x : Str) : Bool := !(x == ("__debug__" : Str)) && !(x == ("__classdict__" : Str)) && !(decide (x = ("__name__" : Str)))
def isStar : Expr → Bool
  | .Starred _ _ => true | _ => false
def isSlice : Expr → Bool
  | .Slice _ _ _ _ => true | _ => false
def isBare : Expr → Bool
  | .Call (.Name _ _) [] [] _ => true | _ => false
def isSet : Expr → Bool
  | .Set _ _ _ => true | _ => false
def ownN (N : List Str) (own : List Nat) : List (Str × Nat) := own.map fun i => (N.getD i "", i)
/-- a target's name: a local, or a cell made here -/
def tgName (N : List Str) (fn : Str → Bool) (sc : Scope) (i : Nat) : Expr → Bool
  | .Name x _ => decide (N[i]? = some x) && (match sc.names.lookup x with | some .local => true | some .cell => fn x | _ => false)
  | _ => false
def tgNames (N : List Str) (fn : Str → Bool) (sc : Scope) : List Nat → List Expr → Bool
  | [], [] => true
  | i :: is, e :: es => tgName N fn sc i e && !isStar e && tgNames N fn sc is es
  | _, _ => false
def tgOk (N : List Str) (fn : Str → Bool) (sc : Scope) : Tg → Expr → Bool
  | .one i, e => tgName N fn sc i e
  | .many is, .Tuple es _ _ => tgNames N fn sc is es
  | _, _ => false
def tgSlots : Tg → List Nat
  | .one i => [i]
  | .many is => is
def isTupE : Expr → Bool
  | .Tuple _ _ _ => true | _ => false

section
variable (dom : Fn → Bool) (N : List Str)
mutual
def mE : Scope → C → Expr → Bool
  | sc, .var i, e => match e with
    | .Name x _ => decide (N[i]? = some x) && vis sc x && plainName x
    | _ => false
  | _, .int n, e => match e with
    | .Constant (.int m) _ _ => decide (n = m)
    | _ => false
  | _, .bl b, e => match e with
    | .Constant (.bool m) _ _ => decide (b = m)
    | _ => false
  | _, .non, e => match e with
    | .Constant .none _ _ => true
    | _ => false
  | _, .str x, e => match e with
    | .Constant (.str m) _ _ => decide (x = m)
    | _ => false
  | sc, .tup a, e => match e with
    | .Tuple es _ _ => mL sc a es
    | _ => false
  | sc, .lst a, e => match e with
    | .List es _ => mL sc a es
    | _ => false
  | sc, .bin o a b, e => match e with
    | .BinOp l op r _ => decide (op = bop o) && mE sc a l && mE sc b r
    | _ => false
  | sc, .neg a, e => match e with
    | .UnaryOp .USub x _ => mE sc a x
    | _ => false
  | sc, .cmp o a b, e => match e with
    | .Compare l [op] [r] _ => decide (op = cop o) && mE sc a l && mE sc b r && !isSet r
    | _ => false
  | sc, .leq2 a b c, e => match e with
    | .Compare l [.LtE, .LtE] [x, y] _ => mE sc a l && mE sc b x && mE sc c y && !isSet y
    | _ => false
  | sc, .and a b, e => match e with
    | .BoolOp .And [x, y] _ => mE sc a x && mE sc b y
    | .BoolOp .And (x :: y :: z :: r) _ => mE sc a x && mAnd sc b (y :: z :: r)
    | _ => false
  | sc, .or a b, e => match e with
    | .BoolOp .Or [x, y] _ => mE sc a x && mE sc b y
    | .BoolOp .Or (x :: y :: z :: r) _ => mE sc a x && mOr sc b (y :: z :: r)
    | _ => false
  | sc, .not a, e => match e with
    | .UnaryOp .Not x _ => mE sc a x
    | _ => false
  | sc, .idx a b, e => match e with
    | .Subscript x y _ => mE sc a x && mE sc b y && !isSlice y
    | _ => false
  | sc, .slc a lo hi, e => match e with
    | .Subscript x (.Slice l h none _) _ => mE sc a x && mO sc lo l && mO sc hi h
    | _ => false
  | sc, .rev a, e => match e with
    | .Subscript x (.Slice none none (some (.UnaryOp .USub (.Constant (.int m) _ _) _)) _) _ => decide (m = 1) && mE sc a x
    | _ => false
  | sc, .call f as, e => match e with
    | .Call (.Name x _) (y :: ys) [] _ => dom f && !isM f && decide (x = nm f) && glb sc x && plainName x && mL sc as (y :: ys)
    | _ => false
  | sc, .bi f as, e => match e with
    | .Call (.Name x _) (y :: ys) [] _ => decide (x = Str.ofString (biN f)) && glb sc x && mL sc as (y :: ys)
    | _ => false
  | sc, .lrng a, e => match e with
    | .Call (.Name x _) [.Call (.Name z _) [y] [] _] [] _ => decide (x = Str.ofString "list") && glb sc x && decide (z = Str.ofString "range") && glb sc z && mE sc a y && !isStar y
    | _ => false
  | sc, .lset a, e => match e with
    | .Call (.Name x _) [.Call (.Name z _) [y] [] _] [] _ => decide (x = Str.ofString "len") && glb sc x && decide (z = Str.ofString "set") && glb sc z && mE sc a y && !isStar y
    | _ => false
  | sc, .sset a, e => match e with
    | .Call (.Name x _) [.Call (.Name z _) [y] [] _] [] _ => decide (x = Str.ofString "sorted") && glb sc x && decide (z = Str.ofString "set") && glb sc z && mE sc a y && !isStar y
    | _ => false
  | sc, .nin a b, e => match e with
    | .Compare l [.NotIn] [.Call (.Name x _) [y] [] _] _ => decide (x = Str.ofString "range") && glb sc x && mE sc a l && mE sc b y && !isStar y
    | _ => false
  | sc, .isi a t, e => match e with
    | .Call (.Name x _) [y, .Name z _] [] _ => decide (x = Str.ofString "isinstance") && glb sc x && decide (z = Str.ofString (tiN t)) && glb sc z && mE sc a y && !isStar y
    | _ => false
  | sc, .join a b, e => match e with
    | .Call (.Attribute x f apos) [y] [] pos => decide (f = Str.ofString "join") && mE sc a x && mE sc b y && !isStar y && !isBare x && apos.endLine == pos.line
    | _ => false
  | sc, .split a b, e => match e with
    | .Call (.Attribute x f apos) [y] [] pos => decide (f = Str.ofString "split") && mE sc a x && mE sc b y && !isStar y && !isBare x && apos.endLine == pos.line
    | _ => false
  | sc, .indx a b, e => match e with
    | .Call (.Attribute x f apos) [y] [] pos => decide (f = Str.ofString "index") && mE sc a x && mE sc b y && !isStar y && !isBare x && apos.endLine == pos.line
    | _ => false
  | sc, .meth f o as, e => match e with
    | .Call (.Attribute x m apos) (y :: ys) [] pos => dom f && isM f && decide (m = nm f) && mE sc o x && mL sc as (y :: ys) && !isBare x && apos.endLine == pos.line && decide (ys.length < 20)
    | _ => false
  | sc, .game a, e => match e with
    | .Attribute x f _ => dom .s_winner && decide (f = Str.ofString "game") && mE sc a x && !isBare x
    | _ => false
  | sc, .slvr a, e => match e with
    | .Call (.Name x _) [y] [] _ => dom .s_winner && decide (x = Str.ofString "Solver") && glb sc x && mE sc a y && !isStar y
    | _ => false
  | _, .mem0 _, e => match e with
    | .Dict [] [] _ => true
    | _ => false
  | sc, .lc own tg it ifs elt, e => match e with
    | .ListComp el [⟨t, i, fs, z⟩] scope _ => decide (z = 0) && blkC N sc scope (ownN N own) && tgOk N (fun x => scope.names.lookup x == some .cell) (relS scope sc) tg t && (tgSlots tg).all (fun i => own.contains i) && own.all (fun i => decide (i < N.length)) &&
        mIt sc it i t && mIf (relS scope sc) ifs fs && mE (relS scope sc) elt el && !isSet i
    | _ => false
  | _, _, _ => false
def mL : Scope → C → List Expr → Bool
  | _, .nil, es => match es with
    | [] => true
    | _ => false
  | sc, .cons a b, es => match es with
    | x :: r => mE sc a x && !isStar x && mL sc b r
    | _ => false
  | _, _, _ => false
def mAnd : Scope → C → List Expr → Bool
  | sc, .and a b, es => match es with
    | [x, y] => mE sc a x && mE sc b y
    | x :: y :: z :: r => mE sc a x && mAnd sc b (y :: z :: r)
    | _ => false
  | _, _, _ => false
def mOr : Scope → C → List Expr → Bool
  | sc, .or a b, es => match es with
    | [x, y] => mE sc a x && mE sc b y
    | x :: y :: z :: r => mE sc a x && mOr sc b (y :: z :: r)
    | _ => false
  | _, _, _ => false
def mO : Scope → C → Option Expr → Bool
  | _, .nil, e => match e with
    | none => true
    | _ => false
  | sc, .cons a .nil, e => match e with
    | some x => mE sc a x
    | _ => false
  | _, _, _ => false
def mIf : Scope → C → List Expr → Bool
  | _, .nil, e => match e with
    | [] => true
    | _ => false
  | sc, .cons a .nil, e => match e with
    | [x] => mE sc a x
    | _ => false
  | _, _, _ => false
def mIt : Scope → C → Expr → Expr → Bool
  | sc, .r1 a, e, _ => match e with
    | .Call (.Name x _) [y] [] _ => decide (x = Str.ofString "range") && glb sc x && mE sc a y && !isStar y
    | _ => false
  | sc, .r2 a b, e, _ => match e with
    | .Call (.Name x _) [y, z] [] _ => decide (x = Str.ofString "range") && glb sc x && mE sc a y && !isStar y && mE sc b z && !isStar z
    | _ => false
  | sc, .en a, e, t => match e with
    | .Call (.Name x _) [y] [] _ => decide (x = Str.ofString "enumerate") && glb sc x && mE sc a y && !isStar y && isTupE t
    | _ => false
  | sc, .zp a b, e, t => match e with
    | .Call (.Name x _) [y, z] [] _ => decide (x = Str.ofString "zip") && glb sc x && mE sc a y && !isStar y && mE sc b z && !isStar z && isTupE t
    | _ => false
  | sc, .cons a .nil, e, _ => mE sc a e
  | _, _, _, _ => false
end
end
end FC

/-! Expressions do what their code says. -/
set_option autoImplicit false
set_option linter.all false
set_option maxRecDepth 100000
set_option maxHeartbeats 4000000
set_option Elab.async false
namespace FC
open PySem L2

/-! ### environments -/
def EnvI (c : PCx) (H : Hp) (hid : Addr → Prop) (σ : L2.St) (ρ : List (Option D)) : Prop := List.length σ = List.length ρ ∧ ∀ (i : Nat) (d : D), ρ[i]? = some (some d) → ∃ v, σ[i]? = some (some v) ∧ Rp c H hid d v
section
variable {c : PCx} {H H1 : Hp} {hid hid' : Addr → Prop} {σ : L2.St} {ρ : List (Option D)}
theorem EnvI.mono (h : EnvI c H hid σ ρ) (k : Kp c hid' H H1) (s : ∀ a, hid' a → hid a) : EnvI c H1 hid σ ρ := ⟨h.1, fun i d e => let ⟨v, a, b⟩ := h.2 i d e; ⟨v, a, b.mono k s⟩⟩
theorem EnvI.keep (h : EnvI c H hid σ ρ) (k : Kp c nohid H H1) : EnvI c H1 hid σ ρ := h.mono k fun _ z => z.elim
theorem EnvI.freshS (h : EnvI c H hid σ ρ) (s : ∀ a, hid' a → hid a ∨ H a = none) : EnvI c H hid' σ ρ := ⟨h.1, fun i d e => let ⟨v, a, b⟩ := h.2 i d e; ⟨v, a, b.freshS s⟩⟩
theorem EnvI.anti (h : EnvI c H hid σ ρ) (s : ∀ a, hid' a → hid a) : EnvI c H hid' σ ρ := ⟨h.1, fun i d e => let ⟨v, a, b⟩ := h.2 i d e; ⟨v, a, b.anti s⟩⟩
theorem EnvI.set {i : Nat} {d : D} {v : V} (h : EnvI c H hid σ ρ) (hd : Rp c H hid d v) : EnvI c H hid (σ.set i (some v)) (ρ.set i (some d)) := ⟨by rw [List.length_set, List.length_set]; exact h.1, fun j e q => by
  by_cases hj : j = i
  · subst hj
    have hr : j < ρ.length := by
      have := (List.getElem?_eq_some_iff.mp q).1
      rwa [List.length_set] at this
    rw [List.getElem?_set_self hr] at q
    cases q
    exact ⟨v, List.getElem?_set_self (by rw [h.1]; exact hr), hd⟩
  · rw [List.getElem?_set_ne (Ne.symm hj)] at q ⊢
    exact h.2 j e q⟩
theorem EnvI.unset (h : EnvI c H hid σ ρ) (i : Nat) : EnvI c H hid (σ.set i none) (ρ.set i none) := ⟨by rw [List.length_set, List.length_set]; exact h.1, fun j e q => by
  by_cases hj : j = i
  · subst hj
    have hr : j < ρ.length := by
      have := (List.getElem?_eq_some_iff.mp q).1
      rwa [List.length_set] at this
    rw [List.getElem?_set_self hr] at q
    cases q
  · rw [List.getElem?_set_ne (Ne.symm hj)] at q ⊢
    exact h.2 j e q⟩
theorem EnvI.wipe (h : EnvI c H hid σ ρ) : ∀ is : List Nat, EnvI c H hid (L2.wipe σ is) (wipeE ρ is)
  | [] => h
  | i :: is => (EnvI.wipe h is).unset i
end
theorem wipe_set (σ : L2.St) (x : Option V) : ∀ (vs : List Nat) (i : Nat), i ∈ vs → wipe (σ.set i x) vs = wipe σ vs
  | [], i, h => (nomatch h)
  | v :: vs, i, h => by
    show (wipe (σ.set i x) vs).set v none = (wipe σ vs).set v none
    have gen : ∀ (vs : List Nat) (σ : L2.St) (i : Nat) (x : Option V), i ∉ vs → wipe (σ.set i x) vs = (wipe σ vs).set i x := by
      intro vs
      induction vs with
      | nil => intros; rfl
      | cons u us ih =>
        intro σ i x hn
        rw [List.mem_cons, not_or] at hn
        show (wipe (σ.set i x) us).set u none = ((wipe σ us).set u none).set i x
        rw [ih σ i x hn.2, List.set_comm _ _ (fun e => hn.1 (by omega))]
    by_cases hv : i ∈ vs
    · rw [wipe_set σ x vs i hv]
    · have : i = v := by
        rcases List.mem_cons.mp h with h | h
        · exact h
        · exact absurd h hv
      subst this
      rw [gen vs σ i x hv, List.set_set]
theorem wipe_wipe (σ : L2.St) (ws : List Nat) : ∀ vs : List Nat, (∀ i ∈ vs, i ∈ ws) → wipe (wipe σ vs) ws = wipe σ ws
  | [], _ => rfl
  | v :: vs, h => by
    show wipe ((wipe σ vs).set v none) ws = _
    rw [wipe_set _ _ _ _ (h v List.mem_cons_self), wipe_wipe σ ws vs fun i hi => h i (List.mem_cons_of_mem _ hi)]

/-! ### what a program's defs promise -/
def spF (c : PCx) (F : Fn → List D → Res D) (ps : Fn → List Str) (f : Fn) : Sp := fun vs H Q E =>
  ∃ hid ds, HA hid H ∧ vs.length = (ps f).length ∧ RpL c H hid ds vs ∧ Post c E (fun H => Rp c H hid) (F f ds) H Q
/-- what Solver's __init__ does -/
def spInit (c : PCx) : Sp := fun vs H Q _ => ∃ x dx vg g, vs = [.ref x, vg] ∧ H x = some (.ins c.C dx []) ∧
  ∀ p, (upd H x (.ins c.C dx [(Str.ofString "game", vg)])) p = none → (p == sysModules) = false → Q .non (upd (upd (upd H x (.ins c.C dx [(Str.ofString "game", vg)])) p (memoO c p (tagN false g) [])) x (.ins c.C dx [(Str.ofString "game", vg), (Str.ofString "known", .ref p)]))
structure SvOk (c : PCx) (mg : Str → Option Value) (base : Heap) : Prop where
  at_ : mg (Str.ofString "Solver") = some (.ref c.C)
  cls : Cls c.K c.C
  ga : NoAttr c.K c.C (Str.ofString "game")
  kn : NoAttr c.K c.C (Str.ofString "known")
  mkr : ∃ f fd, Mk c.K c.C f ∧ Binds c.K fd [Str.ofString "self", Str.ofString "game"] [] ∧ FnOk c.P c.w c.K mg base (L2.CX c.P c.w) 1 f fd [Str.ofString "self", Str.ofString "game"] (spInit c)
theorem lk_no (x : Str) (h1 : (x == Str.ofString "game") = false) (h2 : (x == Str.ofString "known") = false) (u v : V) : List.lookup x [(Str.ofString "game", u), (Str.ofString "known", v)] = none := by
  simp only [List.lookup, h1, h2]
theorem lk_known (u v : V) : List.lookup (Str.ofString "known") [(Str.ofString "game", u), (Str.ofString "known", v)] = some v := by
  have h : (Str.ofString "known" == Str.ofString "game") = false := by decide +kernel
  have h2 : (Str.ofString "known" == Str.ofString "known") = true := by decide +kernel
  simp only [List.lookup, h, h2]
structure Good (c : PCx) (F : Fn → List D → Res D) (dom : Fn → Bool) (ps : Fn → List Str) (k : Nat) (Ex : XK) (X : Cx) : Prop where
  hK : c.K = X.K
  hP : c.P = X.prog
  hw : c.w = X.w
  calm : X.calm = true
  nd : X.N.Nodup
  room : Room (k + 3) X.A
  blt : ∀ x ∈ bnames, X.mg (Str.ofString x) = none
  fn : ∀ f, dom f = true → isM f = false → ∃ a fd, X.mg (nm f) = some (.ref a) ∧ PySem.W.keepIn X.K (.ref a) = true ∧ Binds X.K fd (ps f) [] ∧ FnOk X.prog X.w X.K X.mg X.base (L2.CX X.prog X.w) (k + 3) a fd (ps f) (spF c F ps f)
  mt : ∀ f, dom f = true → isM f = true → ∃ a fd, Meth X.K c.C (nm f) a ∧ Binds X.K fd (ps f) [] ∧ FnOk X.prog X.w X.K X.mg X.base (L2.CX X.prog X.w) (k + 3) a fd (ps f) (spF c F ps f)
  pass : Passes (L2.CX X.prog X.w) X Ex
  np : ∀ f ds, dom f = true → F f ds ≠ .bad → ds.length = (ps f).length
  sv : dom .s_winner = true → SvOk c X.mg X.base
  ss : ∀ f, dom f = true → isM f = true → dom .s_winner = true
theorem Good.un {c : PCx} {F : Fn → List D → Res D} {dom : Fn → Bool} {ps : Fn → List Str} {k : Nat} {Ex : XK} {X : Cx} (G : Good c F dom ps k Ex X) : X.A.units + 200 < cLine := by
  have := G.room.un
  omega
theorem Good.sm {c : PCx} {F : Fn → List D → Res D} {dom : Fn → Bool} {ps : Fn → List Str} {k : Nat} {Ex : XK} {X : Cx} (G : Good c F dom ps k Ex X) (f : Fn) (h : dom f = true) (hm : isM f = true) : dom .s_winner = true := G.ss f h hm
theorem Good.blk {c : PCx} {F : Fn → List D → Res D} {dom : Fn → Bool} {ps : Fn → List Str} {k : Nat} {Ex : XK} {X : Cx} (G : Good c F dom ps k Ex X) (s : Shared) (H : Hp) (scope : Scope) (env : PySem.Env) (fp : List Addr) :
    Good c F dom ps k E0 (X.blk s H scope env fp) :=
  ⟨G.hK, G.hP, G.hw, G.calm, G.nd, G.room, G.blt, G.fn, G.mt, passL, G.np, G.sv, G.ss⟩

theorem pe_imp {X : Cx} {e : Expr} {t t' : TE} (h : PE X e t) (i : ∀ σ H Q, t' σ H Q → t σ H Q) : PE X e t' := ⟨fun pins s σ H Q I w => h.run pins s σ H Q I (i σ H Q w)⟩
theorem pt_imp {X : Cx} {e : Expr} {t t' : TT} (h : PT X e t) (i : ∀ σ H Q, t' σ H Q → t σ H Q) : PT X e t' := ⟨fun pins s σ H Q I w => h.run pins s σ H Q I (i σ H Q w)⟩
theorem pw_imp {X : Cx} {e : Expr} {t t' : TT} (h : PW X e t) (i : ∀ σ H Q, t' σ H Q → t σ H Q) : PW X e t' := ⟨fun wh pins s σ H Q I w => h.run wh pins s σ H Q I (i σ H Q w)⟩
theorem pa_imp {X : Cx} {e : List Expr} {t t' : TA} (h : PA X e t) (i : ∀ σ H Q, t' σ H Q → t σ H Q) : PA X e t' := ⟨fun pos pins s σ H Q I w => h.run pos pins s σ H Q I (i σ H Q w)⟩
theorem po_imp {X : Cx} {e : Option Expr} {t t' : TO} (h : PO X e t) (i : ∀ σ H Q, t' σ H Q → t σ H Q) : PO X e t' := ⟨fun pins s σ H Q I w => h.run pins s σ H Q I (i σ H Q w)⟩
theorem pi_imp {X : Cx} {tg e : Expr} {t t' : TI} (h : PI X tg e t) (i : ∀ σ H Q, t' σ H Q → t σ H Q) : PI X tg e t' := ⟨fun pins s σ H Q I w => h.run pins s σ H Q I (i σ H Q w)⟩

/-! ### syntax -/
theorem star_cons {e : Expr} {es : List Expr} {env : PySem.Env} (h : isStar e = false) : starEach (e :: es) env = (false, eval e env) :: starEach es env := by
  cases e <;> first | rfl | cases h
theorem plainIx_of {e : Expr} (h : isSlice e = false) : PlainIx e := by
  intro o i
  cases e <;> first | rfl | cases h
theorem marks_of {e : Expr} (h : isSet e = false) (op : CmpOp) : behindInMarks op e = false := by
  cases e <;> first | rfl | cases h
theorem base_of {e : Expr} {f : Str} {env : PySem.Env} (h : isBare e = false) : attributeBase e f env (eval e env) = eval e env := by
  cases e with
  | Call g es kw p =>
    cases g with
    | Name x q =>
      cases es with
      | nil =>
        cases kw with
        | nil => cases h
        | cons _ _ => rfl
      | cons _ _ => rfl
    | _ => rfl
  | _ => rfl
theorem set_of {e : Expr} {env : PySem.Env} (h : isSet e = false) : ∀ x, foldedSetIterable e env x = pure x := by
  intro x
  cases e <;> first | rfl | cases h
theorem vis_of {sc : Scope} {x : Str} (h : vis sc x = true) : Vis sc x := by
  unfold vis at h
  split at h
  · exact .inl (by assumption)
  · exact .inr (.inl (by assumption))
  · exact .inr (.inr (by assumption))
  · cases h
theorem glb_of {X : Cx} {x : Str} (h : glb X.env.scope x = true) : Gl X x := by
  unfold glb at h
  split at h
  · assumption
  · cases h
theorem plain_of {x : Str} (h : plainName x = true) : (x == ("__debug__" : Str)) = false ∧ (x == ("__classdict__" : Str)) = false ∧ x ≠ "__name__" := by
  unfold plainName at h
  simp only [Bool.and_eq_true, Bool.not_eq_true', decide_eq_false_iff_not] at h
  exact ⟨h.1.1, h.1.2, h.2⟩
theorem mL_star (dom : Fn → Bool) (N : List Str) (sc : Scope) : ∀ (a : C) (es : List Expr), mL dom N sc a es = true → ∀ e ∈ es, isStar e = false := by
  intro a
  induction a with
  | nil =>
    intro es h e he
    unfold mL at h
    cases es with
    | nil => cases he
    | cons _ _ => cases h
  | cons a b _ ih =>
    intro es h e he
    unfold mL at h
    cases es with
    | nil => cases he
    | cons x r =>
      simp only [Bool.and_eq_true, Bool.not_eq_true'] at h
      rcases List.mem_cons.mp he with rfl | he
      · exact h.1.2
      · exact ih r h.2 e he
  | _ =>
    intro es h
    unfold mL at h
    cases h
theorem starEach_false {env : PySem.Env} : ∀ {es : List Expr}, (∀ e ∈ es, isStar e = false) → ∀ x ∈ starEach es env, x.1 = false
  | [], _, x, h => (nomatch h)
  | e :: es, hs, x, h => by
    rw [star_cons (hs e List.mem_cons_self)] at h
    rcases List.mem_cons.mp h with rfl | h
    · rfl
    · exact starEach_false (fun e he => hs e (List.mem_cons_of_mem _ he)) x h
theorem back_any {env : PySem.Env} {pos : Pos} {es : List Expr} (hs : ∀ e ∈ es, isStar e = false) : (backTo pos (starEach es env)).any (·.1) = false := by
  rw [List.any_eq_false]
  intro x hx
  unfold backTo at hx
  obtain ⟨y, hy, rfl⟩ := List.mem_map.mp hx
  have := starEach_false hs y hy
  simp [this]
/-- the tree of a method's call -/
theorem meth_tree {x y : Expr} {ys : List Expr} {m : Str} {apos pos : Pos} {env : PySem.Env} (hb : attributeBase x m env (eval x env) = eval x env) (hl : (apos.endLine == pos.line) = true) (hs : ∀ e ∈ y :: ys, isStar e = false) (hn : ys.length < 20) :
    eval (.Call (.Attribute x m apos) (y :: ys) [] pos) env = (do
      let ov ← eval x env
      standAt apos.atName
      let (f, first) ← holding [ov] (getMethod ov m (plainOf x env))
      callWith pos f first (backTo pos (starEach (y :: ys) env)) (backToKw pos (keywordEach [] env))) := by
  refine mcall_of hb fun ov => mcall_line ?_ hl
  have h1 : (backTo pos (starEach (y :: ys) env)).all (fun x => !x.1) = true := by
    rw [List.all_eq_true]
    intro z hz
    have := List.any_eq_false.mp (back_any (env := env) (pos := pos) hs) z hz
    simpa using this
  unfold methodCallForm
  rw [h1]
  show (true && true && decide ((y :: ys).length + 0 + 0 < 30)) = true
  rw [List.length_cons, decide_eq_true (by omega)]
  rfl
theorem boot_bi : ∀ f, bootBuiltins (Str.ofString (biN f)) = some (biV f) := by
  intro f
  cases f <;> decide +kernel
theorem biN_plain : ∀ f, (Str.ofString (biN f) == ("__debug__" : Str)) = false ∧ Str.ofString (biN f) ≠ "__name__" := by
  intro f
  cases f <;> decide +kernel
theorem biN_mem : ∀ f, biN f ∈ bnames := by
  intro f
  cases f <;> decide +kernel
theorem boot_isi : bootBuiltins (Str.ofString "isinstance") = some (.builtin "isinstance") := by decide +kernel
theorem boot_ti : ∀ t, bootBuiltins (Str.ofString (tiN t)) = some (.type (tiN t)) := by
  intro t
  cases t <;> decide +kernel
theorem tiN_plain : ∀ f, (Str.ofString (tiN f) == ("__debug__" : Str)) = false ∧ Str.ofString (tiN f) ≠ "__name__" := by
  intro f
  cases f <;> decide +kernel
theorem tiN_mem : ∀ f, tiN f ∈ bnames := by
  intro f
  cases f <;> decide +kernel

/-! ### readings by code -/
section
variable (c : PCx) (F : Fn → List D → Res D) (Ex : XK)
def tD (code : C) : TE := fun σ H Q => ∃ hid ρ, HA hid H ∧ EnvI c H hid σ ρ ∧ Post c Ex (fun H => Rp c H hid) (E F code ρ) H Q
def tDL (code : C) : TA := fun σ H Q => ∃ hid ρ, HA hid H ∧ EnvI c H hid σ ρ ∧ Post c Ex (fun H => RpL c H hid) (EL F code ρ) H Q
def tDT (code : C) : TT := fun σ H Q => ∃ hid ρ, HA hid H ∧ EnvI c H hid σ ρ ∧ Post c Ex (fun _ a b => b = a) ((E F code ρ).bind truthD) H Q
def tDO (code : C) : TO := fun σ H Q => ∃ hid ρ, HA hid H ∧ EnvI c H hid σ ρ ∧ Post c Ex (fun _ a b => b = a) (EO F code ρ) H Q
def tDF (code : C) : TT := fun σ H Q => ∃ hid ρ, HA hid H ∧ EnvI c H hid σ ρ ∧ Post c Ex (fun _ a b => b = a) (IF F code ρ) H Q
/-- what a walked thing's turns are -/
def ItD (hid : Addr → Prop) (H : Hp) (ds : List D) (J : It) : Prop := ds.length ≤ sizeLine ∧ ∀ hid' H1, (∀ a, hid' a → hid a ∨ H a = none) → Kp c hid' H H1 → ∀ (i : Nat), (ds.length ≤ i → J.stop i H1) ∧
  ∀ d, ds[i]? = some d → J.go i H1 ∧ ∀ x H2, J.yld i H1 x H2 → Kp c nohid H1 H2 ∧ Rp c H2 hid' d x
def tDI (code : C) : TI := fun σ H R => ∃ hid ρ, HA hid H ∧ EnvI c H hid σ ρ ∧ Post c Ex (fun H => ItD c hid H) (IT F code ρ) H R
end

/-! ### targets -/
def gAll (K : PySem.W.Frag) : List Nat → TGs
  | [] => gNil
  | i :: is => gCons (gName i) (gAll K is)
def tgG (K : PySem.W.Frag) : Tg → TG
  | .one i => gName i
  | .many is => gTup K is.length (gAll K is)
section
variable {X : Cx}
theorem pg_one {fn : Str → Bool} {i : Nat} {e : Expr} (hfn : ∀ x, fn x = true → X.fn x = true) (nd : X.N.Nodup) (h : tgName X.N fn X.env.scope i e = true) : PG X e (gName i) := by
  unfold tgName at h
  split at h
  · rename_i x pos
    rw [Bool.and_eq_true] at h
    obtain ⟨h1, h2⟩ := h
    have h1 := of_decide_eq_true h1
    split at h2
    · rename_i q
      exact pg_name nd h1 (.inl q) (.inr q)
    · rename_i q
      exact pg_name nd h1 (.inr q) (.inl (hfn x h2))
    · cases h2
  · cases h
theorem pgs_many {fn : Str → Bool} (hfn : ∀ x, fn x = true → X.fn x = true) (nd : X.N.Nodup) : ∀ {is : List Nat} {es : List Expr}, tgNames X.N fn X.env.scope is es = true →
    PGs X es (gAll X.K is) ∧ (assignEach es X.env).length = is.length ∧ (assignEach es X.env).findIdx? (·.1) = none
  | [], [], _ => ⟨pgs_nil, rfl, rfl⟩
  | i :: is, e :: es, h => by
    unfold tgNames at h
    rw [Bool.and_eq_true, Bool.and_eq_true] at h
    obtain ⟨⟨h1, h2⟩, h3⟩ := h
    obtain ⟨a, b, d⟩ := pgs_many hfn nd h3
    have es1 : assignEach (e :: es) X.env = (false, assign e X.env) :: assignEach es X.env := by
      cases e <;> first | rfl | cases h2
    refine ⟨pgs_cons (pg_one hfn nd h1) a (by rw [es1]; rfl), by rw [es1, List.length_cons, List.length_cons, b], ?_⟩
    rw [es1, List.findIdx?_cons, d]
    rfl
  | [], _ :: _, h => by cases h
  | _ :: _, [], h => by cases h
theorem pg_tg {fn : Str → Bool} {tg : Tg} {e : Expr} (hfn : ∀ x, fn x = true → X.fn x = true) (nd : X.N.Nodup) (hc : X.calm = true) (h : tgOk X.N fn X.env.scope tg e = true) : PG X e (tgG X.K tg) := by
  cases tg with
  | one i => exact pg_one hfn nd h
  | many is =>
    unfold tgOk at h
    split at h
    · cases (by assumption : Tg.many is = _)
    · rename_i is' es k pos hh
      cases hh
      obtain ⟨a, b, d⟩ := pgs_many hfn nd h
      exact pg_tup hc a b d
    · cases h
/-- an environment's binding -/
theorem gAll_bind {c : PCx} {hid : Addr → Prop} {H : Hp} {Q : L2.St → Hp → Prop} : ∀ {is : List Nat} {ds : List D} {vs : List V} {σ : L2.St} {ρ ρ' : List (Option D)}, setAllE ρ is ds = some ρ' → EnvI c H hid σ ρ → RpL c H hid ds vs →
    (∀ σ', EnvI c H hid σ' ρ' → σ'.length = σ.length → (∀ ws : List Nat, (∀ i ∈ is, i ∈ ws) → wipe σ' ws = wipe σ ws) → Q σ' H) → gAll X.K is vs σ H Q
  | [], [], vs, σ, ρ, ρ', h, en, hd, q => by
    cases h
    exact ⟨hd, q σ en rfl fun _ _ => rfl⟩
  | i :: is, d :: ds, vs, σ, ρ, ρ', h, en, hd, q => by
    obtain ⟨v, r, rfl, h1, h2⟩ := hd
    refine ⟨v, r, rfl, ?_⟩
    show gAll X.K is r (σ.set i (some v)) H Q
    refine gAll_bind h (en.set h1) h2 fun σ' e1 e2 e3 => q σ' e1 (by rw [e2, List.length_set]) fun ws hw => ?_
    rw [e3 ws fun j hj => hw j (List.mem_cons_of_mem _ hj), wipe_set _ _ _ _ (hw i List.mem_cons_self)]
  | [], _ :: _, _, _, _, _, h, _, _, _ => by cases h
  | _ :: _, [], _, _, _, _, h, _, _, _ => by cases h
theorem tg_bind {c : PCx} {hid : Addr → Prop} {H : Hp} {Q : L2.St → Hp → Prop} {tg : Tg} {d : D} {v : V} {σ : L2.St} {ρ ρ' : List (Option D)} (h : bindE tg d ρ = .ok ρ') (en : EnvI c H hid σ ρ) (hd : Rp c H hid d v)
    (q : ∀ σ', EnvI c H hid σ' ρ' → σ'.length = σ.length → (∀ ws : List Nat, (∀ i ∈ tgSlots tg, i ∈ ws) → wipe σ' ws = wipe σ ws) → Q σ' H) : tgG X.K tg v σ H Q := by
  cases tg with
  | one i =>
    cases h
    refine q _ (en.set hd) (List.length_set ..) fun ws hw => wipe_set _ _ _ _ (hw i List.mem_cons_self)
  | many is =>
    cases d with
    | tup ds =>
      simp only [bindE] at h
      cases e : setAllE ρ is ds with
      | none => rw [e] at h; cases h
      | some ρ2 =>
        rw [e] at h
        cases h
        obtain ⟨a, vs, rfl, h1, t⟩ := hd
        have hl : is.length = ds.length := by
          have gen : ∀ (is : List Nat) (ds : List D) (ρ ρ2 : List (Option D)), setAllE ρ is ds = some ρ2 → is.length = ds.length := by
            intro is
            induction is with
            | nil => intro ds ρ ρ2 h; cases ds with
              | nil => rfl
              | cons _ _ => cases h
            | cons i is ih => intro ds ρ ρ2 h; cases ds with
              | nil => cases h
              | cons d ds => rw [List.length_cons, List.length_cons, ih ds _ _ h]
          exact gen is ds ρ _ e
        exact ⟨a, vs, rfl, SqT.of h1, by rw [t.len, hl], gAll_bind e en t q⟩
    | _ => cases h
end
end FC

/-! Expressions do what their code says: the theorem. -/
set_option autoImplicit false
set_option linter.all false
set_option maxRecDepth 100000
set_option maxHeartbeats 4000000
set_option Elab.async false
namespace FC
open PySem L2

/-! ### what is walked -/
section
variable {X : Cx} {tg : Expr}
def iSeq (K : PySem.W.Frag) (tl : TE) : L2.TI := fun σ H R => tl σ H fun x H1 => (∃ a xs, x = .ref a ∧ H1 a = some (.lst xs) ∧ (xs.length ≤ sizeLine → R (Itl K a) H1)) ∨ ∃ a xs, x = .ref a ∧ H1 a = some (.tup xs) ∧ (xs.length ≤ sizeLine → R (Itt K a) H1)
theorem pi_seq {l : Expr} {tl : TE} (hl : PE X l tl) : PI X tg l (iSeq X.K tl) := by
  refine ⟨fun pins s σ H R I h => ?_⟩
  refine thn (hl.run pins s σ H _ I h) fun v s1 ⟨x, H1, I1, r1, q1⟩ => ?_
  rcases q1 with ⟨a, xs, e, hq, q⟩ | ⟨a, xs, e, hq, q⟩
  · subst e
    cases r1
    obtain ⟨its, rv, p, hz⟩ := I1.list (SqL.of hq)
    refine wpAny_pyIter_list p.isList ?_
    refine ⟨s1.heap.objs.size, [s1.heap.objs.size], _, _, H1, rfl, I1.kept (t' := s1.toks) fun b o e => Heap.get?_push_of_some _ e, turn_list a _, ⟨_, Heap.get?_push_size _ rfl, rfl, rfl⟩, fun b hb => ?_, q hz⟩
    have e : b = s1.heap.objs.size := by simpa using hb
    subst e
    exact I1.fpOk (Nat.le_refl _) (I1.hok.fresh (Nat.le_refl _))
  · subst e
    cases r1
    obtain ⟨its, rv, p, hz⟩ := I1.tuple (SqT.of hq)
    refine wpAny_pyIter_tuple (show s1.heap.IsTuple a its.toArray from p) ?_
    refine ⟨s1.heap.objs.size, [s1.heap.objs.size], _, _, H1, rfl, I1.kept (t' := s1.toks) fun b o e => Heap.get?_push_of_some _ e, turn_tuple a _, ⟨_, Heap.get?_push_size _ rfl, rfl, rfl⟩, fun b hb => ?_, q hz⟩
    have e : b = s1.heap.objs.size := by simpa using hb
    subst e
    exact I1.fpOk (Nat.le_refl _) (I1.hok.fresh (Nat.le_refl _))
def iEn (K : PySem.W.Frag) (ta : TA) : L2.TI := fun σ H R => ta σ H fun vs H1 => ∃ a xs, vs = [.ref a] ∧ ((H1 a = some (.lst xs) ∧ (xs.length ≤ sizeLine → R (Ite K a) H1)) ∨ (H1 a = some (.tup xs) ∧ (xs.length ≤ sizeLine → R (IteT K a) H1)))
open PySem.Spec PyProof.Rows in
theorem pi_en {e : Expr} {ta : TA} {p pos tpos : Pos} {elts : List Expr} {kk : Nat} (hg : Gl X "enumerate") (hm : X.mg "enumerate" = none) (ha : PA X [e] ta) (hs : starEach [e] X.env = [(false, eval e X.env)]) :
    PI X (.Tuple elts kk tpos) (.Call (.Name "enumerate" p) [e] [] pos) (iEn X.K ta) := by
  refine ⟨fun pins s σ H R I h => ?_⟩
  refine Call_ (ld_blt I hg hm boot_enumerate (PyProof.Rows.callWith_type1 (thn (ha.run pos pins s σ H _ I h) fun us s1 ⟨vs, H1, I1, r1, q1⟩ => ?_) hs rfl))
  obtain ⟨a, xs, ex, q⟩ := q1
  subst ex
  have fresh : ∀ b ∈ [s1.heap.objs.size + 1, s1.heap.objs.size], FpOk X pins H1 b := fun b hb => by
    have e' : b = s1.heap.objs.size + 1 ∨ b = s1.heap.objs.size := by simpa using hb
    have hle : s1.heap.objs.size ≤ b := by
      rcases e' with z | z
      · rw [z]; exact Nat.le_add_right _ _
      · rw [z]; exact Nat.le_refl _
    exact I1.fpOk hle (I1.hok.fresh hle)
  cases r1 with
  | cons r rr =>
    cases rr
    cases r
    rcases q with ⟨hq, q⟩ | ⟨hq, q⟩
    · obtain ⟨its, rv, p', hz⟩ := I1.list (SqL.of hq)
      refine call_enumerate_list p'.isList fun h' he hit hsz hk => wpAny_pyIter_enum he ?_
      have I2 : L2.Inv X pins σ H1 { s1 with heap := h' } := I1.kept (t' := s1.toks) hk
      exact ⟨s1.heap.objs.size + 1, [s1.heap.objs.size + 1, s1.heap.objs.size], _, _, H1, rfl, I2, turn_enum a (s1.heap.objs.size + 1) s1.heap.objs.size, ⟨⟨.none, he⟩, hit, Nat.succ_ne_self _⟩, fresh, q hz⟩
    · obtain ⟨its, rv, p', hz⟩ := I1.tuple (SqT.of hq)
      refine call_enumT (show s1.heap.IsTuple a its.toArray from p') fun h' he hit hsz hk => wpAny_pyIter_enum he ?_
      have I2 : L2.Inv X pins σ H1 { s1 with heap := h' } := I1.kept (t' := s1.toks) hk
      exact ⟨s1.heap.objs.size + 1, [s1.heap.objs.size + 1, s1.heap.objs.size], _, _, H1, rfl, I2, turn_enumT a (s1.heap.objs.size + 1) s1.heap.objs.size, ⟨⟨.none, he⟩, hit, Nat.succ_ne_self _⟩, fresh, q hz⟩
def iZp (K : PySem.W.Frag) (ta : TA) : L2.TI := fun σ H R => ta σ H fun vs H1 => ∃ a b xs ys, vs = [.ref a, .ref b] ∧ H1 b = some (.tup ys) ∧ ((H1 a = some (.lst xs) ∧ (xs.length ≤ sizeLine → R (ItzM K a b) H1)) ∨ (H1 a = some (.tup xs) ∧ (xs.length ≤ sizeLine → R (RZ.ItzT K a b) H1)))
open PySem.Spec PyProof.Rows in
theorem pi_zp {e e2 : Expr} {ta : TA} {p pos tpos : Pos} {elts : List Expr} {kk : Nat} (hg : Gl X "zip") (hm : X.mg "zip" = none) (ha : PA X [e, e2] ta)
    (hs : starEach [e, e2] X.env = (false, eval e X.env) :: starEach [e2] X.env) (hpl : (backTo pos (starEach [e2] X.env)).any (·.1) = false) :
    PI X (.Tuple elts kk tpos) (.Call (.Name "zip" p) [e, e2] [] pos) (iZp X.K ta) := by
  refine ⟨fun pins s σ H R I h => ?_⟩
  refine Call_ (ld_blt I hg hm PyProof.Rows.boot_zip (PyProof.Rows.callWith_type1 (thn (ha.run pos pins s σ H _ I h) fun us s1 ⟨vs, H1, I1, r1, q1⟩ => ?_) hs hpl))
  obtain ⟨a, b, xs, ys, ex, hb, q1⟩ := q1
  subst ex
  cases r1 with
  | cons r rr =>
    cases rr with
    | cons r' rr =>
      cases rr
      cases r
      cases r'
      have fresh5 : ∀ c, c ∈ [s1.heap.objs.size + 4, s1.heap.objs.size + 2, s1.heap.objs.size + 3, s1.heap.objs.size, s1.heap.objs.size + 1] → FpOk X pins H1 c := fun c hcm => by
        have e' : c = s1.heap.objs.size + 4 ∨ c = s1.heap.objs.size + 2 ∨ c = s1.heap.objs.size + 3 ∨ c = s1.heap.objs.size ∨ c = s1.heap.objs.size + 1 := by simpa using hcm
        have hle : s1.heap.objs.size ≤ c := by omega
        exact I1.fpOk hle (I1.hok.fresh hle)
      obtain ⟨its2, rv2, p2, _⟩ := I1.tuple (SqT.of hb)
      obtain ⟨o2, ho2, _⟩ := id p2
      have lb : b < s1.heap.objs.size := Heap.lt_size ho2
      rcases q1 with ⟨hq, q⟩ | ⟨hq, q⟩
      · obtain ⟨its, rv, p1, hz⟩ := I1.list (SqL.of hq)
        have la : a < s1.heap.objs.size := p1.lt
        refine zip_begins2 (begins_list a its.toArray) (begins_tuple b its2.toArray) p1.isList (show s1.heap.IsTuple b its2.toArray from p2) fun h' hz' hTI hTO h1 h2 hsz hk => wpAny_pyIter_zip hz' ?_
        have I2 : L2.Inv X pins σ H1 { s1 with heap := h' } := I1.kept (t' := s1.toks) hk
        exact ⟨s1.heap.objs.size + 4, [s1.heap.objs.size + 4, s1.heap.objs.size + 2, s1.heap.objs.size + 3, s1.heap.objs.size, s1.heap.objs.size + 1], _, _, H1, rfl, I2, turn_zipM (zip_sep2 (fp1 := [a]) (fp2 := [b]) (fun c hc => by rw [List.mem_singleton.mp hc]; exact la) (fun c hc => by rw [List.mem_singleton.mp hc]; exact lb)), ⟨hz', hTI, ⟨_, _, hTO⟩, ⟨_, h1, rfl, rfl⟩, ⟨_, h2, rfl, rfl⟩⟩, fresh5, q hz⟩
      · obtain ⟨its, rv, p1, hz⟩ := I1.tuple (SqT.of hq)
        obtain ⟨o1, ho1, _⟩ := id p1
        refine RZ.call_zipT (show s1.heap.IsTuple a its.toArray from p1) (show s1.heap.IsTuple b its2.toArray from p2) fun h' hz' hTI hTO h1 h2 hsz hk => wpAny_pyIter_zip hz' ?_
        have I2 : L2.Inv X pins σ H1 { s1 with heap := h' } := I1.kept (t' := s1.toks) hk
        exact ⟨s1.heap.objs.size + 4, [s1.heap.objs.size + 4, s1.heap.objs.size + 2, s1.heap.objs.size + 3, s1.heap.objs.size, s1.heap.objs.size + 1], _, _, H1, rfl, I2, RZ.turn_zipT (PySem.W.ktu_apart s1.heap.objs.size a b (Heap.lt_size ho1) lb), ⟨hz', hTI, ⟨_, _, hTO⟩, h1, h2⟩, fresh5, q hz⟩
end
section
variable {c : PCx} {hid : Addr → Prop} {H : Hp} {K : PySem.W.Frag} {a : Addr} {ds : List D} {vs : List V}
theorem nh {hid' : Addr → Prop} {o : HO} (s : ∀ a, hid' a → hid a ∨ H a = none) (h : H a = some o) (n : ¬ hid a) : ¬ hid' a := fun z => (s a z).elim n fun q => by rw [h] at q; cases q
theorem itd_list (h : H a = some (.lst vs)) (n : ¬ hid a) (t : RpL c H hid ds vs) (hz : vs.length ≤ sizeLine) : ItD c hid H ds (Itl K a) := by
  refine ⟨by rw [← t.len]; exact hz, fun hid' H1 s k i => ⟨fun hi => ⟨vs, SqL.of (k.lst h (nh s h n)), by rw [t.len]; exact hi⟩, fun d hd => ?_⟩⟩
  have n := nh s h n
  obtain ⟨v, hv, r⟩ := (t.freshS s).get hd
  refine ⟨⟨vs, v, SqL.of (k.lst h n), hv⟩, fun x H2 y => ?_⟩
  obtain ⟨e, hx⟩ := y
  subst e
  have q := hx vs (SqL.of (k.lst h n))
  rw [hv] at q
  cases q
  exact ⟨.refl, r.mono k fun _ z => z⟩
theorem itd_tup (h : H a = some (.tup vs)) (t : RpL c H hid ds vs) (hz : vs.length ≤ sizeLine) : ItD c hid H ds (Itt K a) := by
  refine ⟨by rw [← t.len]; exact hz, fun hid' H1 s k i => ⟨fun hi => ⟨vs, SqT.of (k.tup h), by rw [t.len]; exact hi⟩, fun d hd => ?_⟩⟩
  obtain ⟨v, hv, r⟩ := (t.freshS s).get hd
  refine ⟨⟨vs, v, SqT.of (k.tup h), hv⟩, fun x H2 y => ?_⟩
  obtain ⟨e, hx⟩ := y
  subst e
  have q := hx vs (SqT.of (k.tup h))
  rw [hv] at q
  cases q
  exact ⟨.refl, r.mono k fun _ z => z⟩
theorem itd_enum (h : H a = some (.lst vs)) (n : ¬ hid a) (t : RpL c H hid ds vs) (hz : vs.length ≤ sizeLine) : ItD c hid H (ds.mapIdx fun k u => .tup [.int (k : Nat), u]) (Ite K a) := by
  refine ⟨by rw [List.length_mapIdx, ← t.len]; exact hz, fun hid' H1 s k i => ⟨fun hi => ⟨vs, SqL.of (k.lst h (nh s h n)), by rw [List.length_mapIdx] at hi; rw [t.len]; exact hi⟩, fun d hd => ?_⟩⟩
  have n := nh s h n
  rw [List.getElem?_mapIdx] at hd
  cases e : ds[i]? with
  | none => rw [e] at hd; cases hd
  | some u =>
    rw [e] at hd
    cases hd
    obtain ⟨v, hv, r⟩ := (t.freshS s).get e
    refine ⟨⟨vs, v, SqL.of (k.lst h n), hv⟩, fun x H2 y => ?_⟩
    obtain ⟨T, w, rfl, hT, rfl, hx⟩ := y
    have q := hx vs (SqL.of (k.lst h n))
    rw [hv] at q
    cases q
    exact ⟨.new hT, .newT hT (.cons rfl (.cons (r.mono k fun _ z => z) .nil))⟩
theorem itd_enumT (h : H a = some (.tup vs)) (t : RpL c H hid ds vs) (hz : vs.length ≤ sizeLine) : ItD c hid H (ds.mapIdx fun k u => .tup [.int (k : Nat), u]) (IteT K a) := by
  refine ⟨by rw [List.length_mapIdx, ← t.len]; exact hz, fun hid' H1 s k i => ⟨fun hi => ⟨vs, SqT.of (k.tup h), by rw [List.length_mapIdx] at hi; rw [t.len]; exact hi⟩, fun d hd => ?_⟩⟩
  rw [List.getElem?_mapIdx] at hd
  cases e : ds[i]? with
  | none => rw [e] at hd; cases hd
  | some u =>
    rw [e] at hd
    cases hd
    obtain ⟨v, hv, r⟩ := (t.freshS s).get e
    refine ⟨⟨vs, v, SqT.of (k.tup h), hv⟩, fun x H2 y => ?_⟩
    obtain ⟨T, w, rfl, hT, rfl, hx⟩ := y
    have q := hx vs (SqT.of (k.tup h))
    rw [hv] at q
    cases q
    exact ⟨.new hT, .newT hT (.cons rfl (.cons (r.mono k fun _ z => z) .nil))⟩
theorem itd_zipM {b : Addr} {es : List D} {ws : List V} (h : H a = some (.lst vs)) (n : ¬ hid a) (t : RpL c H hid ds vs) (h2 : H b = some (.tup ws)) (t2 : RpL c H hid es ws) (hz : vs.length ≤ sizeLine) :
    ItD c hid H (List.zipWith (fun u v => .tup [u, v]) ds es) (ItzM K a b) := by
  refine ⟨by rw [List.length_zipWith]; have := t.len; omega, fun hid' H1 s k i => ⟨fun hi => ⟨vs, ws, SqL.of (k.lst h (nh s h n)), SqT.of (k.tup h2), by rw [List.length_zipWith] at hi; have := t.len; have := t2.len; omega⟩, fun d hd => ?_⟩⟩
  have n := nh s h n
  rw [List.getElem?_zipWith] at hd
  cases e : ds[i]? with
  | none => rw [e] at hd; cases hd
  | some u =>
    rw [e] at hd
    cases e2 : es[i]? with
    | none => rw [e2] at hd; cases hd
    | some u2 =>
      rw [e2] at hd
      cases hd
      obtain ⟨v, hv, r⟩ := (t.freshS s).get e
      obtain ⟨v2, hv2, r2⟩ := (t2.freshS s).get e2
      refine ⟨⟨vs, ws, v, v2, SqL.of (k.lst h n), SqT.of (k.tup h2), hv, hv2⟩, fun x H2 y => ?_⟩
      obtain ⟨T, w, w2, rfl, hT, rfl, hx, hy⟩ := y
      have q := hx vs (SqL.of (k.lst h n))
      rw [hv] at q
      cases q
      have q2 := hy ws (SqT.of (k.tup h2))
      rw [hv2] at q2
      cases q2
      exact ⟨.new hT, .newT hT (.cons (r.mono k fun _ z => z) (.cons (r2.mono k fun _ z => z) .nil))⟩
theorem itd_zipT {b : Addr} {es : List D} {ws : List V} (h : H a = some (.tup vs)) (t : RpL c H hid ds vs) (h2 : H b = some (.tup ws)) (t2 : RpL c H hid es ws) (hz : vs.length ≤ sizeLine) :
    ItD c hid H (List.zipWith (fun u v => .tup [u, v]) ds es) (RZ.ItzT K a b) := by
  refine ⟨by rw [List.length_zipWith]; have := t.len; omega, fun hid' H1 s k i => ⟨fun hi => ⟨vs, ws, SqT.of (k.tup h), SqT.of (k.tup h2), by rw [List.length_zipWith] at hi; have := t.len; have := t2.len; omega⟩, fun d hd => ?_⟩⟩
  rw [List.getElem?_zipWith] at hd
  cases e : ds[i]? with
  | none => rw [e] at hd; cases hd
  | some u =>
    rw [e] at hd
    cases e2 : es[i]? with
    | none => rw [e2] at hd; cases hd
    | some u2 =>
      rw [e2] at hd
      cases hd
      obtain ⟨v, hv, r⟩ := (t.freshS s).get e
      obtain ⟨v2, hv2, r2⟩ := (t2.freshS s).get e2
      refine ⟨⟨vs, ws, v, v2, SqT.of (k.tup h), SqT.of (k.tup h2), hv, hv2⟩, fun x H2 y => ?_⟩
      obtain ⟨T, w, w2, rfl, hT, rfl, hx, hy⟩ := y
      have q := hx vs (SqT.of (k.tup h))
      rw [hv] at q
      cases q
      have q2 := hy ws (SqT.of (k.tup h2))
      rw [hv2] at q2
      cases q2
      exact ⟨.new hT, .newT hT (.cons (r.mono k fun _ z => z) (.cons (r2.mono k fun _ z => z) .nil))⟩
theorem itd_rng {lo : Int} {n : Nat} (hz : n ≤ lim) : ItD c hid H (rng lo n) (Itr lo n) := by
  refine ⟨by unfold rng; rw [List.length_map, List.length_range]; exact Nat.le_trans hz lim_le, fun hid' H1 s k i => ⟨fun hi => ?_, fun d hd => ?_⟩⟩
  · unfold rng at hi
    rw [List.length_map, List.length_range] at hi
    exact hi
  · unfold rng at hd
    rw [List.getElem?_map] at hd
    have hi : i < n := by
      cases e : (List.range n)[i]? with
      | none => rw [e] at hd; cases hd
      | some j => simpa using (List.getElem?_eq_some_iff.mp e).1
    rw [List.getElem?_range hi] at hd
    cases hd
    refine ⟨hi, fun x H2 y => ?_⟩
    obtain ⟨e1, e2⟩ := y
    subst e1 e2
    exact ⟨.refl, rfl⟩
end
theorem rngD_ok {x y : D} : (∃ i j, x = .int i ∧ y = .int j ∧ rngOk i = true ∧ rngOk j = true ∧ (j - i).toNat ≤ lim ∧ rngD x y = .ok (rng i (j - i).toNat)) ∨ rngD x y = .bad := by
  cases x with
  | int i => cases y with
    | int j =>
      simp only [rngD]
      split
      · rename_i h
        simp only [Bool.and_eq_true, decide_eq_true_eq] at h
        exact .inl ⟨i, j, rfl, rfl, h.1.1, h.1.2, h.2, rfl⟩
      · exact .inr rfl
    | _ => exact .inr rfl
  | _ => exact .inr rfl
theorem rngOk_of {i : Int} (h : rngOk i = true) : -(2 ^ 62) ≤ i ∧ i < 2 ^ 62 := of_decide_eq_true h
theorem Res.noBad {α : Type} {a : α} : (Res.bad : Res α) ≠ .ok a := fun h => by cases h
theorem cmpD_bl {o : CO} {x y z : D} (h : cmpD o x y = .ok z) : ∃ b, z = .bl b := by
  have fin : ∀ {b : Bool}, Res.ok (D.bl b) = .ok z → ∃ b, z = .bl b := fun e => ⟨_, (Res.ok.inj e).symm⟩
  cases o with
  | is =>
    simp only [cmpD] at h
    rcases @isD_ok x y with ⟨k, hk⟩ | hk <;> rw [hk] at h
    · exact fin h
    · cases h
  | isnot =>
    simp only [cmpD] at h
    rcases @isD_ok x y with ⟨k, hk⟩ | hk <;> rw [hk] at h
    · exact fin h
    · cases h
  | eq => simp only [cmpD] at h; split at h; exact fin h; cases h
  | ne => simp only [cmpD] at h; split at h; exact fin h; cases h
  | lt =>
    cases x <;> cases y <;> first | exact fin h | exact absurd h Res.noBad | skip
    rename_i a b
    simp only [cmpD, ltTup] at h
    split at h
    · exact fin h
    · cases h
  | le => cases x <;> cases y <;> first | exact fin h | exact absurd h Res.noBad
  | gt => cases x <;> cases y <;> first | exact fin h | exact absurd h Res.noBad
  | ge => cases x <;> cases y <;> first | exact fin h | exact absurd h Res.noBad
  | isin =>
    cases y with
    | tup ys => simp only [cmpD] at h; split at h; exact fin h; cases h
    | lst ys => simp only [cmpD] at h; split at h; exact fin h; cases h
    | _ => cases x <;> exact absurd h Res.noBad
  | notin =>
    cases y with
    | tup ys => simp only [cmpD] at h; split at h; exact fin h; cases h
    | lst ys => simp only [cmpD] at h; split at h; exact fin h; cases h
    | _ => cases x <;> exact absurd h Res.noBad

/-! ### texts by methods -/
def rMt (c : PCx) (T : D → Prop) (g : D → D → Res D) : V → List V → Hp → VK → Prop := fun x xs H Q => ∃ hid d e y Ex, xs = [y] ∧ HA hid H ∧ T d ∧ Rp c H hid d x ∧ Rp c H hid e y ∧ Post c Ex (fun H => Rp c H hid) (g d e) H Q
section
variable {X : Cx} {c : PCx}
theorem mt_joinD (hK : c.K = X.K) : MtR X "str.join" (rMt c (fun d => ∃ x, d = .str x) fun x y => match x with | .str x => (seqOf y).bind fun ys => joinD x ys | _ => .bad) := by
  intro pins s σ H x xs v us Q I rx rs ⟨hid, d, e, y, Ex, hxs, ha, ⟨z, hz⟩, hd, he, p⟩
  subst hz hxs
  have main : ∀ es : List D, Post c Ex (fun H => Rp c H hid) (joinD z es) H Q → ∀ vs a, y = .ref a → RpL c H hid es vs → (H a = some (.lst vs) ∨ H a = some (.tup vs)) → wpAny (model X.prog X.w) X.A (call (.builtin "str.join") (v :: us)) (EP X pins σ Q) X.xe s := by
    intro es p vs a hy t hh
    unfold joinD at p
    cases q : es.mapM strOf with
    | none => rw [q] at p; exact p.elim
    | some zs =>
      rw [q] at p
      simp only [ofOpt_some, Res.bind_ok] at p
      have e1 := strOf_map q
      subst e1
      split at p
      · rename_i hl
        have ev := t.strs
        subst ev
        refine mt_join pins s σ H x [y] v us Q I rx rs ⟨z, a, zs, hd, by rw [hy], ?_, hl, p _ H .refl rfl⟩
        rcases hh with h | h
        · exact .inl (SqL.of h)
        · exact .inr (SqT.of h)
      · exact p.elim
  rcases seqOf_cases e with ⟨es, rfl, q⟩ | ⟨es, rfl, q⟩ | q
  · obtain ⟨a, vs, hy, h1, t⟩ := he
    simp only [q, Res.bind_ok] at p
    exact main es p vs a hy t (.inr h1)
  · obtain ⟨a, vs, hy, h1, n, t⟩ := he
    simp only [q, Res.bind_ok] at p
    exact main es p vs a hy t (.inl h1)
  · simp only [q, Res.bind_bad] at p
    exact p.elim
theorem mt_splitD : MtR X "str.split" (rMt c (fun d => ∃ x, d = .str x) splitD) := by
  intro pins s σ H x xs v us Q I rx rs ⟨hid, d, e, y, Ex, hxs, ha, ⟨z, hz⟩, hd, he, p⟩
  subst hz hxs
  cases e <;> first | exact False.elim p | skip
  rename_i w
  simp only [splitD] at p
  split at p
  · rename_i h
    refine mt_split pins s σ H x [y] v us Q I rx rs ⟨z, w, hd, by rw [show y = .str w from he], by simpa using (Nat.ne_of_gt h.1), Nat.le_trans h.2 lim_le, fun q hq => ?_⟩
    have t : RpL c H hid ((Txt.split z w).map .str) ((Txt.split z w).map V.str) := by
      generalize Txt.split z w = l
      induction l with
      | nil => rfl
      | cons a l ih => exact .cons rfl ih
    exact p _ _ (.new hq) (.newL ha hq t)
  · exact p.elim
theorem pys_get : ∀ (xs : List D) (i : Nat), (D.pys xs)[i]? = xs[i]?.map D.py
  | [], i => rfl
  | x :: xs, 0 => rfl
  | x :: xs, i + 1 => by
    show (D.pys xs)[i]? = _
    rw [pys_get xs i]; rfl
theorem indexL_spec (y : D) : ∀ (xs : List D) (k0 k : Nat), indexL xs y k0 = some k → ∃ (j : Nat) (z : D), k = k0 + j ∧ xs[j]? = some z ∧ eqD z y = true ∧ ∀ (m : Nat) z', m < j → xs[m]? = some z' → eqD z' y = false
  | [], _, _, h => by cases h
  | x :: xs, k0, k, h => by
    unfold indexL at h
    cases e : eqD x y with
    | true =>
      rw [e] at h
      simp only [if_true] at h
      cases h
      exact ⟨0, x, rfl, rfl, e, fun m z' hm => absurd hm (Nat.not_lt_zero _)⟩
    | false =>
      rw [e] at h
      simp only [Bool.false_eq_true, if_false] at h
      obtain ⟨j, z, h1, h2, h3, h4⟩ := indexL_spec y xs (k0 + 1) k h
      refine ⟨j + 1, z, by omega, by simpa using h2, h3, fun m z' hm hz => ?_⟩
      cases m with
      | zero => cases hz; exact e
      | succ m => exact h4 m z' (by omega) (by simpa using hz)
theorem mt_indexDD (hK : c.K = X.K) (hu : X.A.units + 65 < cLine) : MtR X "list.index" (rMt c (fun d => ∃ x, d = .lst x) indexD) := by
  intro pins s σ H x xs v us Q I rx rs ⟨hid, d, e, y, Ex, hxs, ha, ⟨z, hz⟩, hd, he, p⟩
  subst hz hxs
  simp only [indexD] at p
  split at p
  · rename_i hc
    rw [Bool.and_eq_true] at hc
    cases q : indexL z e 0 with
    | none => rw [q] at p; exact p.elim
    | some k =>
      rw [q] at p
      obtain ⟨j, w, h1, h2, h3, h4⟩ := indexL_spec e z 0 k q
      have dl := dpX hK hd hc.2
      obtain ⟨a, vs, hx, hh, _⟩ := hd
      subst hx
      have hkj : k = j := by omega
      subst hkj
      refine mt_indexD hu pins s σ H _ [y] v us Q I rx rs ⟨a, y, e.py, D.pys z, k, w.py, rfl, rfl, dl, dpX hK he hc.1, hc.2, hc.1, by rw [pys_get, h2]; rfl, h3, fun m z' hm hz => ?_, p _ H .refl rfl⟩
      rw [pys_get] at hz
      cases e2 : z[m]? with
      | none => rw [e2] at hz; cases hz
      | some w' =>
        rw [e2] at hz
        cases hz
        exact h4 m w' hm e2
  · exact p.elim
end
end FC

/-! Expressions do what their code says: the theorem. -/
set_option autoImplicit false
set_option linter.all false
set_option maxRecDepth 100000
set_option maxHeartbeats 8000000
set_option Elab.async false
namespace FC
open PySem L2

/-- a test's own forms -/
def testy : Expr → Bool
  | .BoolOp _ _ _ => true
  | .UnaryOp .Not _ _ => true
  | .Compare _ _ _ _ => true
  | .IfExp _ _ _ _ => true
  | _ => false
def testC : C → Bool
  | .and _ _ => true | .or _ _ => true | .not _ => true | .cmp _ _ _ => true | .leq2 _ _ _ => true | .nin _ _ => true
  | _ => false
theorem tru_syn {e : Expr} {env : PySem.Env} (h : testy e = false) : ∀ whole, isTrue e env whole = (do let v ← whole; standAt e.pos; holding [v] (truthy v)) := by
  intro w
  cases e with
  | BoolOp o v p => cases h
  | UnaryOp o v p => cases o <;> first | rfl | cases h
  | Compare _ _ _ _ => cases h
  | IfExp _ _ _ _ => cases h
  | _ => rfl
theorem testy_of (dom : Fn → Bool) (N : List Str) (sc : Scope) {code : C} {e : Expr} (ht : testC code = false) (h : mE dom N sc code e = true) : testy e = false := by
  cases code with
  | and _ _ => cases ht
  | or _ _ => cases ht
  | not _ => cases ht
  | cmp _ _ _ => cases ht
  | leq2 _ _ _ => cases ht
  | nin _ _ => cases ht
  | _ =>
    unfold mE at h
    first
      | (split at h <;> first | rfl | cases h)
      | cases h

/-! ### a comprehension's loop -/
section
variable {c : PCx} {K : PySem.W.Frag} {F : Fn → List D → Res D}
theorem lcL_length {f : D → Res (Option D)} : ∀ {xs ys : List D}, lcL f xs = .ok ys → ys.length ≤ xs.length
  | [], ys, h => by cases h; exact Nat.le_refl _
  | x :: xs, ys, h => by
    unfold lcL at h
    cases e : f x with
    | ok o =>
      rw [e] at h
      cases e2 : lcL f xs with
      | ok zs =>
        rw [e2] at h
        cases h
        have := lcL_length e2
        cases o with
        | none => exact Nat.le_succ_of_le this
        | some y => exact Nat.succ_le_succ this
      | exc n => rw [e2] at h; cases h
      | bad => rw [e2] at h; cases h
    | exc n => rw [e] at h; cases h
    | bad => rw [e] at h; cases h
theorem lcL_cons {f : D → Res (Option D)} {x : D} {xs ys : List D} (h : lcL f (x :: xs) = .ok ys) : ∃ o zs, f x = .ok o ∧ lcL f xs = .ok zs ∧ ys = (match o with | some y => y :: zs | none => zs) := by
  unfold lcL at h
  cases e : f x with
  | ok o =>
    rw [e] at h
    cases e2 : lcL f xs with
    | ok zs =>
      rw [e2] at h
      cases h
      exact ⟨o, zs, rfl, rfl, rfl⟩
    | exc n => rw [e2] at h; cases h
    | bad => rw [e2] at h; cases h
  | exc n => rw [e] at h; cases h
  | bad => rw [e] at h; cases h
theorem lcL_cases {f : D → Res (Option D)} : ∀ xs : List D, (∃ ys, lcL f xs = .ok ys) ∨ lcL f xs = .bad
  | [] => .inl ⟨[], rfl⟩
  | x :: xs => by
    unfold lcL
    cases e : f x with
    | ok o =>
      rcases lcL_cases (f := f) xs with ⟨ys, h⟩ | h
      · exact .inl ⟨_, by rw [h]; rfl⟩
      · exact .inr (by rw [h]; rfl)
    | exc n => exact .inr rfl
    | bad => exact .inr rfl
end
theorem bindOk {α β : Type} {r : Res α} {k : α → Res β} {b : β} (h : r.bind k = .ok b) : ∃ a, r = .ok a ∧ k a = .ok b := by
  cases r with
  | ok a => exact ⟨a, rfl, h⟩
  | exc n => cases h
  | bad => cases h

section
variable {c : PCx} {F : Fn → List D → Res D} {dom : Fn → Bool} {ps : Fn → List Str} {k : Nat}

/-- the reading of a comprehension -/
theorem lc_read {X : Cx} {own : List Nat} {tg : Tg} {it ifs elt : C} {σ : L2.St} {H : Hp} {Q : VK} {Ex : XK} (htg : ∀ i ∈ tgSlots tg, i ∈ own)
    (h : tD c F Ex (.lc own tg it ifs elt) σ H Q) : tLc (tDI c F Ex it) (tgG X.K tg) (tDF c F E0 ifs) (tD c F E0 elt) own σ H Q := by
  obtain ⟨hid, ρ, ha, en, p⟩ := h
  rw [E] at p
  refine ⟨hid, ρ, ha, en, (Post.bind p).imp fun J H1 k1 ⟨xs, _, ⟨hz, itd⟩, _, p1⟩ => ?_⟩
  intro Dl hD
  generalize hf : (fun x => (bindE tg x (wipeE ρ own)).bind fun ρ' => (IF F ifs ρ').bind fun t => if t then (E F elt ρ').bind fun y => Res.ok (some y) else .ok none) = f at p1
  have hys : ∃ ys, lcL f xs = .ok ys := by
    rcases lcL_cases (f := f) xs with h | h
    · exact h
    · rw [h] at p1; exact p1.elim
  obtain ⟨ys, hys⟩ := hys
  rw [hys] at p1
  have ha1 : HA hid H1 := ha.keep k1
  have en1 : EnvI c H1 hid σ ρ := en.keep k1
  -- the new list is hidden while it grows
  let hid2 : Addr → Prop := fun a => hid a ∨ a = Dl
  have sB : ∀ a, hid2 a → hid a ∨ H1 a = none := fun a h => h.imp_right fun e => by rw [e]; exact hD
  have sN : ∀ a, a = Dl → nohid a ∨ H1 a = none := fun a e => .inr (by rw [e]; exact hD)
  have kD : Kp c nohid H1 (upd H1 Dl (.lst [])) := .new hD
  have haD : HA hid2 (upd H1 Dl (.lst [])) := fun a e z => by
    rcases z with z | z
    · exact ha1.keep kD a e z
    · rw [z, upd_same] at e; cases e
  refine ⟨fun i m H2 => m = xs.length - i ∧ i ≤ xs.length ∧ Kp c (fun a => a = Dl) (upd H1 Dl (.lst [])) H2 ∧ ∃ acc av rest, H2 Dl = some (.lst av) ∧ RpL c H2 hid2 acc av ∧ acc.length ≤ i ∧ lcL f (xs.drop i) = .ok rest ∧ ys = acc ++ rest,
    ⟨xs.length, by simp, Nat.zero_le _, .refl, [], [], ys, upd_same, rfl, Nat.le_refl _, by simpa using hys, rfl⟩, ?_⟩
  rintro i m H2 ⟨rfl, hi, k2, acc, av, rest, hDl, hacc, hal, hrest, hy⟩
  have k12 : Kp c (fun a => a = Dl) H1 H2 := (kD.all).trans k2
  have kk : Kp c hid2 H1 H2 := k12.weak fun a e => .inr e
  by_cases hlt : i < xs.length
  · right
    obtain ⟨x, hx⟩ : ∃ x, xs[i]? = some x := ⟨xs[i], List.getElem?_eq_getElem hlt⟩
    have hdrop : xs.drop i = x :: xs.drop (i + 1) := by
      rw [List.drop_eq_getElem_cons hlt]
      rw [List.getElem?_eq_getElem hlt] at hx
      rw [Option.some.inj hx]
    rw [hdrop] at hrest
    obtain ⟨o, zs, hfx, hzs, hrest'⟩ := lcL_cons hrest
    obtain ⟨go, yld⟩ := (itd hid2 H2 sB kk i).2 x hx
    refine ⟨go, fun H3 => i + 1 ≤ xs.length ∧ Kp c (fun a => a = Dl) (upd H1 Dl (.lst [])) H3 ∧ ∃ acc av rest, H3 Dl = some (.lst av) ∧ RpL c H3 hid2 acc av ∧ acc.length ≤ i + 1 ∧ lcL f (xs.drop (i + 1)) = .ok rest ∧ ys = acc ++ rest,
      fun H' h => ⟨xs.length - (i + 1), by omega, rfl, h⟩, fun xv H3 hy3 => ?_⟩
    obtain ⟨k3, rx⟩ := yld xv H3 hy3
    have en3 : EnvI c H3 hid2 σ ρ := ((en1.freshS sB).mono kk (fun _ z => z)).keep k3
    have ha3 : HA hid2 H3 := (haD.keep k2).keep k3
    rw [← hf] at hfx
    obtain ⟨ρ', hb, h2⟩ := bindOk hfx
    obtain ⟨t, ht, h3⟩ := bindOk h2
    refine tg_bind hb (en3.wipe own) rx fun σ' en' hl' hw' => ?_
    refine ⟨by rw [hw' own htg, wipe_wipe σ own own fun _ h => h], ?_⟩
    refine ⟨hid2, ρ', ha3, en', ?_⟩
    rw [ht]
    intro b H4 k4 hb4
    subst hb4
    cases b with
    | false =>
      rw [if_neg Bool.false_ne_true] at h3 ⊢
      cases h3
      rw [hrest'] at hy
      exact ⟨hlt, (k2.trans k3.all).trans k4.all, acc, av, zs, (k4.lst (k3.lst hDl id) id), (hacc.keep k3).keep k4, Nat.le_succ_of_le hal, hzs, hy⟩
    | true =>
      rw [if_pos rfl] at h3 ⊢
      obtain ⟨y, hy', h4⟩ := bindOk h3
      cases h4
      refine ⟨hid2, ρ', ha3.keep k4, en'.keep k4, ?_⟩
      rw [hy']
      intro yv H5 k5 ry
      have hD5 : H5 Dl = some (.lst av) := k5.lst (k4.lst (k3.lst hDl id) id) id
      have kl : Kp c (fun a => a = Dl) H5 (upd H5 Dl (.lst (av ++ [yv]))) := .lset hD5 rfl
      refine ⟨av, hD5, ?_, hlt, (((k2.trans k3.all).trans k4.all).trans k5.all).trans kl, acc ++ [y], av ++ [yv], zs, upd_same, ?_, ?_, hzs, ?_⟩
      · rw [hacc.len]; omega
      · exact ((((hacc.keep k3).keep k4).keep k5).append (.cons ry .nil)).mono kl fun a e => .inr e
      · rw [List.length_append]; simpa using hal
      · rw [hy, hrest', List.append_assoc]; rfl
  · left
    have e : i = xs.length := by omega
    subst e
    refine ⟨(itd hid2 H2 sB kk xs.length).1 (Nat.le_refl _), ?_⟩
    rw [List.drop_length] at hrest
    cases hrest
    rw [List.append_nil] at hy
    subst hy
    exact p1 _ H2 (k12.unfresh sN) ⟨Dl, av, rfl, hDl, ha1 Dl hD, hacc.anti fun a z => .inl z⟩
end

section
variable {c : PCx} {F : Fn → List D → Res D} {dom : Fn → Bool} {ps : Fn → List Str} {k : Nat}
theorem read_and {X : Cx} {Ex : XK} {a b : C} {σ : L2.St} {H : Hp} {Q : VK} (G : Good c F dom ps k Ex X) (h : tD c F Ex (.and a b) σ H Q) : tAndT X.K (tD c F Ex a) (tD c F Ex b) σ H Q := by
  obtain ⟨hid, ρ, ha, en, p⟩ := h
  rw [E] at p
  refine ⟨hid, ρ, ha, en, (Post.bind p).imp fun x H1 k1 ⟨d, _, hd, _, p1⟩ => ?_⟩
  rcases truthD_cases d with ⟨t, ht⟩ | ht
  · rw [ht] at p1
    refine ⟨t, tru_of G.hK hd ht, ?_⟩
    cases t with
    | true => exact ⟨hid, ρ, ha.keep k1, en.keep k1, p1⟩
    | false => exact p1 _ H1 .refl hd
  · rw [ht] at p1; exact p1.elim
theorem read_or {X : Cx} {Ex : XK} {a b : C} {σ : L2.St} {H : Hp} {Q : VK} (G : Good c F dom ps k Ex X) (h : tD c F Ex (.or a b) σ H Q) : tOrT X.K (tD c F Ex a) (tD c F Ex b) σ H Q := by
  obtain ⟨hid, ρ, ha, en, p⟩ := h
  rw [E] at p
  refine ⟨hid, ρ, ha, en, (Post.bind p).imp fun x H1 k1 ⟨d, _, hd, _, p1⟩ => ?_⟩
  rcases truthD_cases d with ⟨t, ht⟩ | ht
  · rw [ht] at p1
    refine ⟨t, tru_of G.hK hd ht, ?_⟩
    cases t with
    | false => exact ⟨hid, ρ, ha.keep k1, en.keep k1, p1⟩
    | true => exact p1 _ H1 .refl hd
  · rw [ht] at p1; exact p1.elim
theorem tread_and {Ex : XK} {a b : C} {σ : L2.St} {H : Hp} {Q : Bool → Hp → Prop} (h : tDT c F Ex (.and a b) σ H Q) : tAnd (tDT c F Ex a) (tDT c F Ex b) σ H Q := by
  obtain ⟨hid, ρ, ha, en, p⟩ := h
  have e : (E F (.and a b) ρ).bind truthD = ((E F a ρ).bind truthD).bind fun t => if t then (E F b ρ).bind truthD else .ok false := by
    rw [E]
    cases q : E F a ρ with
    | ok d =>
      simp only [Res.bind_ok]
      rcases truthD_cases d with ⟨t, ht⟩ | ht
      · cases t <;> simp [ht]
      · simp [ht]
    | exc n => rfl
    | bad => rfl
  rw [e] at p
  refine ⟨hid, ρ, ha, en, (Post.bind p).imp fun x H1 k1 ⟨t, _, hd, _, p1⟩ => ?_⟩
  subst hd
  cases x with
  | true => exact ⟨hid, ρ, ha.keep k1, en.keep k1, p1⟩
  | false => exact p1 _ H1 .refl rfl
theorem tread_or {Ex : XK} {a b : C} {σ : L2.St} {H : Hp} {Q : Bool → Hp → Prop} (h : tDT c F Ex (.or a b) σ H Q) : tOr (tDT c F Ex a) (tDT c F Ex b) σ H Q := by
  obtain ⟨hid, ρ, ha, en, p⟩ := h
  have e : (E F (.or a b) ρ).bind truthD = ((E F a ρ).bind truthD).bind fun t => if t then .ok true else (E F b ρ).bind truthD := by
    rw [E]
    cases q : E F a ρ with
    | ok d =>
      simp only [Res.bind_ok]
      rcases truthD_cases d with ⟨t, ht⟩ | ht
      · cases t <;> simp [ht]
      · simp [ht]
    | exc n => rfl
    | bad => rfl
  rw [e] at p
  refine ⟨hid, ρ, ha, en, (Post.bind p).imp fun x H1 k1 ⟨t, _, hd, _, p1⟩ => ?_⟩
  subst hd
  cases x with
  | false => exact ⟨hid, ρ, ha.keep k1, en.keep k1, p1⟩
  | true => exact p1 _ H1 .refl rfl
/-- a test by its value -/
theorem tgen {X : Cx} {Ex : XK} {e : Expr} {code : C} (G : Good c F dom ps k Ex X) (h : PE X e (tD c F Ex code)) (ht : testy e = false) : PT X e (tDT c F Ex code) := by
  refine pt_imp (pt_truth h (tru_syn ht)) fun σ H Q ⟨hid, ρ, ha, en, p⟩ => ?_
  refine ⟨hid, ρ, ha, en, (Post.bind p).imp fun x H1 k1 ⟨d, _, hd, _, p1⟩ => ?_⟩
  rcases truthD_cases d with ⟨t, ht⟩ | ht
  · rw [ht] at p1
    exact ⟨t, tru_of G.hK hd ht, p1 _ H1 .refl rfl⟩
  · rw [ht] at p1; exact p1.elim
theorem both {X : Cx} {Ex : XK} {e : Expr} {code : C} (G : Good c F dom ps k Ex X) (ht : testy e = false) (h : PE X e (tD c F Ex code)) : PE X e (tD c F Ex code) ∧ PT X e (tDT c F Ex code) := ⟨h, tgen G h ht⟩
theorem rgOk_of {j : Int} (o : rngOk j = true) (h : (j - 0).toNat ≤ lim) : L2.RgOk 0 j := by
  have o := rngOk_of o
  refine ⟨by omega, by omega, o.1, o.2, Nat.le_trans h ?_⟩
  decide
theorem rpl_rng {hid : Addr → Prop} {H : Hp} (j : Int) : RpL c H hid (rng 0 (j - 0).toNat) (L2.rgV 0 j) := by
  unfold rng L2.rgV
  generalize List.range (j - 0).toNat = l
  induction l with
  | nil => rfl
  | cons a l ih => exact .cons rfl ih
/-- a built-in by its name, called -/
theorem pe_callV {X : Cx} {x : Str} {p pos : Pos} {e : Expr} {es : List Expr} {t : TA} {v : Value} {r : List V → Hp → VK → Prop} (hv : (∃ id, v = .builtin id) ∨ ∃ T, v = .type T) (hc : CallR X v r) (hg : Gl X x) (hm : X.mg x = none) (hb : bootBuiltins x = some v) (ha : PA X (e :: es) t)
    (hn : x ≠ "__name__") (hdb : (x == ("__debug__" : Str)) = false) (hs : ∀ y ∈ e :: es, isStar y = false) : PE X (.Call (.Name x p) (e :: es) [] pos) (tCB r t) := by
  rcases hv with ⟨id, rfl⟩ | ⟨T, rfl⟩
  · exact pe_callB hc hg hm hb ha hn hdb (star_cons (hs e List.mem_cons_self)) (back_any fun y hy => hs y (List.mem_cons_of_mem _ hy))
  · exact pe_callTy hc hg hm hb ha hn hdb (star_cons (hs e List.mem_cons_self)) (back_any fun y hy => hs y (List.mem_cons_of_mem _ hy))
theorem biV_kind : ∀ f, (∃ id, biV f = .builtin id) ∨ ∃ T, biV f = .type T := by
  intro f
  cases f <;> first | exact .inl ⟨_, rfl⟩ | exact .inr ⟨_, rfl⟩
theorem one_star {X : Cx} {y : Expr} (h : isStar y = false) : starEach [y] X.env = [(false, eval y X.env)] := star_cons h

mutual
theorem seB : ∀ (code : C) (X : Cx) (Ex : XK) (G : Good c F dom ps k Ex X) (e : Expr), mE dom X.N X.env.scope code e = true → PE X e (tD c F Ex code) ∧ PT X e (tDT c F Ex code)
  | .var i, X, Ex, G, e, h => by
    refine both G (testy_of dom _ _ rfl h) ?_
    unfold mE at h
    split at h
    · rename_i x pos
      rw [Bool.and_eq_true, Bool.and_eq_true] at h
      obtain ⟨h1, h2, h3⟩ := plain_of h.2
      refine pe_imp (pe_var (of_decide_eq_true h.1.1) (vis_of h.1.2) h1 h2) fun σ H Q ⟨hid, ρ, ha, en, p⟩ => ?_
      rw [E] at p
      split at p
      · rename_i d hd
        obtain ⟨v, e1, e2⟩ := en.2 i d hd
        exact ⟨v, e1, p _ H .refl e2⟩
      · exact p.elim
    · cases h
  | .int n, X, Ex, G, e, h => by
    refine both G (testy_of dom _ _ rfl h) ?_
    unfold mE at h
    split at h
    · rw [← of_decide_eq_true h]
      exact pe_imp pe_int fun σ H Q ⟨hid, ρ, ha, en, p⟩ => p _ H .refl rfl
    · cases h
  | .bl n, X, Ex, G, e, h => by
    refine both G (testy_of dom _ _ rfl h) ?_
    unfold mE at h
    split at h
    · rw [← of_decide_eq_true h]
      exact pe_imp pe_bl fun σ H Q ⟨hid, ρ, ha, en, p⟩ => p _ H .refl rfl
    · cases h
  | .non, X, Ex, G, e, h => by
    refine both G (testy_of dom _ _ rfl h) ?_
    unfold mE at h
    split at h
    · exact pe_imp pe_non fun σ H Q ⟨hid, ρ, ha, en, p⟩ => p _ H .refl rfl
    · cases h
  | .str n, X, Ex, G, e, h => by
    refine both G (testy_of dom _ _ rfl h) ?_
    unfold mE at h
    split at h
    · rw [← of_decide_eq_true h]
      exact pe_imp pe_str fun σ H Q ⟨hid, ρ, ha, en, p⟩ => p _ H .refl rfl
    · cases h
  | .tup a, X, Ex, G, e, h => by
    refine both G (testy_of dom _ _ rfl h) ?_
    unfold mE at h
    split at h
    · refine pe_imp (pe_tup (seL a X Ex G _ h)) fun σ H Q ⟨hid, ρ, ha, en, p⟩ => ?_
      rw [E] at p
      refine ⟨hid, ρ, ha, en, (Post.bind p).imp fun vs H1 k1 ⟨ds, _, hd, _, p1⟩ => ?_⟩
      unfold mkT at p1
      split at p1
      · rename_i hl
        exact ⟨by rw [hd.len]; exact Nat.le_trans hl lim_le, fun q hq => p1 _ _ (.new hq) (.newT hq hd)⟩
      · exact p1.elim
    · cases h
  | .lst a, X, Ex, G, e, h => by
    refine both G (testy_of dom _ _ rfl h) ?_
    unfold mE at h
    split at h
    · refine pe_imp (pe_lst (seL a X Ex G _ h)) fun σ H Q ⟨hid, ρ, ha, en, p⟩ => ?_
      rw [E] at p
      refine ⟨hid, ρ, ha, en, (Post.bind p).imp fun vs H1 k1 ⟨ds, _, hd, _, p1⟩ => ?_⟩
      unfold mkL at p1
      split at p1
      · rename_i hl
        exact ⟨by rw [hd.len]; exact Nat.le_trans hl lim_le, fun q hq => p1 _ _ (.new hq) (.newL (ha.keep k1) hq hd)⟩
      · exact p1.elim
    · cases h
  | .bin o a b, X, Ex, G, e, h => by
    refine both G (testy_of dom _ _ rfl h) ?_
    unfold mE at h
    split at h
    · rename_i l op r pos
      rw [Bool.and_eq_true, Bool.and_eq_true] at h
      obtain ⟨⟨h1, h2⟩, h3⟩ := h
      rw [of_decide_eq_true h1]
      refine pe_imp (pe_op (opd (c := c) o) (seB a X Ex G _ h2).1 (seB b X Ex G _ h3).1) fun σ H Q ⟨hid, ρ, ha, en, p⟩ => ?_
      rw [E] at p
      refine ⟨hid, ρ, ha, en, (Post.bind p).imp fun x H1 k1 ⟨d, _, hd, _, p1⟩ => ?_⟩
      exact ⟨hid, ρ, ha.keep k1, en.keep k1, (Post.bind p1).imp fun y H2 k2 ⟨e, _, he, _, p2⟩ => ⟨hid, d, e, Ex, (ha.keep k1).keep k2, hd.keep k2, he, p2⟩⟩
    · cases h
  | .neg a, X, Ex, G, e, h => by
    refine both G (testy_of dom _ _ rfl h) ?_
    unfold mE at h
    split at h
    · refine pe_imp (pe_un un_neg (seB a X Ex G _ h).1) fun σ H Q ⟨hid, ρ, ha, en, p⟩ => ?_
      rw [E] at p
      refine ⟨hid, ρ, ha, en, (Post.bind p).imp fun x H1 k1 ⟨d, _, hd, _, p1⟩ => ?_⟩
      cases d with
      | int i => exact ⟨i, hd, p1 _ H1 .refl rfl⟩
      | _ => exact p1.elim
    · cases h
  | .cmp o a b, X, Ex, G, e, h => by
    constructor
    · unfold mE at h
      split at h
      · rename_i l op r pos
        rw [Bool.and_eq_true, Bool.and_eq_true, Bool.and_eq_true, Bool.not_eq_true'] at h
        obtain ⟨⟨⟨h1, h2⟩, h3⟩, h4⟩ := h
        rw [of_decide_eq_true h1]
        refine pe_imp (pe_cmpR (cmpd (c := c) G.hK (by have := G.un; omega) o) (seB a X Ex G _ h2).1 (seB b X Ex G _ h3).1 (marks_of h4 _)) fun σ H Q ⟨hid, ρ, ha, en, p⟩ => ?_
        rw [E] at p
        refine ⟨hid, ρ, ha, en, (Post.bind p).imp fun x H1 k1 ⟨d, _, hd, _, p1⟩ => ?_⟩
        exact ⟨hid, ρ, ha.keep k1, en.keep k1, (Post.bind p1).imp fun y H2 k2 ⟨e, _, he, _, p2⟩ => ⟨hid, d, e, Ex, (ha.keep k1).keep k2, hd.keep k2, he, p2⟩⟩
      · cases h
    · unfold mE at h
      split at h
      · rename_i l op r pos
        rw [Bool.and_eq_true, Bool.and_eq_true, Bool.and_eq_true, Bool.not_eq_true'] at h
        obtain ⟨⟨⟨h1, h2⟩, h3⟩, h4⟩ := h
        rw [of_decide_eq_true h1]
        refine pt_imp (pt_cmpR (cmpd (c := c) G.hK (by have := G.un; omega) o) (seB a X Ex G _ h2).1 (seB b X Ex G _ h3).1 (marks_of h4 _)) fun σ H Q ⟨hid, ρ, ha, en, p⟩ => ?_
        refine ⟨hid, ρ, ha, en, ?_⟩
        have p' : Post c Ex (fun _ a b => b = a) ((E F a ρ).bind fun x => (E F b ρ).bind fun y => (cmpD o x y).bind truthD) H Q := by
          rw [E] at p
          cases q : E F a ρ with
          | ok d =>
            rw [q] at p
            simp only [Res.bind_ok] at p ⊢
            cases q2 : E F b ρ with
            | ok d2 => rw [q2] at p; exact p
            | exc n => rw [q2] at p; exact p
            | bad => rw [q2] at p; exact p
          | exc n => rw [q] at p; exact p
          | bad => rw [q] at p; exact p
        refine (Post.bind p').imp fun x H1 k1 ⟨d, _, hd, _, p1⟩ => ?_
        refine ⟨hid, ρ, ha.keep k1, en.keep k1, (Post.bind p1).imp fun y H2 k2 ⟨e, _, he, _, p2⟩ => ⟨hid, d, e, Ex, (ha.keep k1).keep k2, hd.keep k2, he, ?_⟩⟩
        cases q : cmpD o d e with
        | ok z =>
          rw [q] at p2
          obtain ⟨t, rfl⟩ := cmpD_bl q
          exact fun v H' k' rv => ⟨t, rv, p2 _ H' k' rfl⟩
        | exc n => rw [q] at p2; exact p2
        | bad => rw [q] at p2; exact p2
      · cases h
  | .leq2 a b d, X, Ex, G, e, h => by
    constructor
    · unfold mE at h
      split at h
      · rename_i l x y pos
        rw [Bool.and_eq_true, Bool.and_eq_true, Bool.and_eq_true, Bool.not_eq_true'] at h
        obtain ⟨⟨⟨h1, h2⟩, h3⟩, h4⟩ := h
        refine pe_imp (pe_chain op_le op_le (seB a X Ex G _ h1).1 (seB b X Ex G _ h2).1 (seB d X Ex G _ h3).1 (marks_of h4 _)) fun σ H Q ⟨hid, ρ, ha, en, p⟩ => ?_
        rw [E] at p
        refine ⟨hid, ρ, ha, en, (Post.bind p).imp fun x H1 k1 ⟨d1, _, hd, _, p1⟩ => ?_⟩
        refine ⟨hid, ρ, ha.keep k1, en.keep k1, (Post.bind p1).imp fun y H2 k2 ⟨d2, _, he, _, p2⟩ => ?_⟩
        cases d1 with
        | int i => cases d2 with
          | int j =>
            refine ⟨i, j, hd, he, _, rfl, ?_⟩
            by_cases hij : i ≤ j
            · simp only [hij, if_true] at p2
              rw [decide_eq_true hij, if_pos rfl]
              refine ⟨hid, ρ, (ha.keep k1).keep k2, (en.keep k1).keep k2, (Post.bind p2).imp fun z H3 k3 ⟨d3, _, hz, _, p3⟩ => ?_⟩
              cases d3 with
              | int m => exact ⟨j, m, he, hz, p3 _ H3 .refl rfl⟩
              | _ => exact p3.elim
            · simp only [hij, if_false] at p2
              rw [decide_eq_false hij, if_neg Bool.false_ne_true]
              exact p2 _ H2 .refl rfl
          | _ => exact p2.elim
        | _ => exact p2.elim
      · cases h
    · unfold mE at h
      split at h
      · rename_i l x y pos
        rw [Bool.and_eq_true, Bool.and_eq_true, Bool.and_eq_true, Bool.not_eq_true'] at h
        obtain ⟨⟨⟨h1, h2⟩, h3⟩, h4⟩ := h
        refine pt_imp (pt_chain op_le op_le (seB a X Ex G _ h1).1 (seB b X Ex G _ h2).1 (seB d X Ex G _ h3).1 (marks_of h4 _)) fun σ H Q ⟨hid, ρ, ha, en, p⟩ => ?_
        rw [E] at p
        have pa : Post c Ex (fun _ a b => b = a) ((E F a ρ).bind fun x => ((E F b ρ).bind fun y => match x, y with
            | .int i, .int j => if i ≤ j then (E F d ρ).bind fun z => match z with
                | .int k => Res.ok (D.bl (decide (j ≤ k)))
                | _ => .bad
              else .ok (.bl false)
            | _, _ => .bad).bind truthD) H Q := by
          cases q : E F a ρ with
          | ok d => rw [q] at p; exact p
          | exc n => rw [q] at p; exact p
          | bad => rw [q] at p; exact p
        refine ⟨hid, ρ, ha, en, (Post.bind pa).imp fun x H1 k1 ⟨d1, _, hd, _, p1⟩ => ?_⟩
        have pb : Post c Ex (fun _ a b => b = a) ((E F b ρ).bind fun y => (match d1, y with
            | .int i, .int j => if i ≤ j then (E F d ρ).bind fun z => match z with
                | .int k => Res.ok (D.bl (decide (j ≤ k)))
                | _ => .bad
              else .ok (.bl false)
            | _, _ => .bad).bind truthD) H1 Q := by
          cases q : E F b ρ with
          | ok d => rw [q] at p1; exact p1
          | exc n => rw [q] at p1; exact p1
          | bad => rw [q] at p1; exact p1
        refine ⟨hid, ρ, ha.keep k1, en.keep k1, (Post.bind pb).imp fun y H2 k2 ⟨d2, _, he, _, p2⟩ => ?_⟩
        cases d1 with
        | int i => cases d2 with
          | int j =>
            refine ⟨i, j, hd, he, _, rfl, ?_⟩
            by_cases hij : i ≤ j
            · simp only [hij, if_true] at p2
              rw [decide_eq_true hij, if_pos rfl]
              have pc : Post c Ex (fun _ a b => b = a) ((E F d ρ).bind fun z => (match z with
                | .int k => Res.ok (D.bl (decide (j ≤ k)))
                | _ => .bad).bind truthD) H2 Q := by
                cases q : E F d ρ with
                | ok d => rw [q] at p2; exact p2
                | exc n => rw [q] at p2; exact p2
                | bad => rw [q] at p2; exact p2
              refine ⟨hid, ρ, (ha.keep k1).keep k2, (en.keep k1).keep k2, (Post.bind pc).imp fun z H3 k3 ⟨d3, _, hz, _, p3⟩ => ?_⟩
              cases d3 with
              | int m => exact ⟨j, m, he, hz, _, rfl, p3 _ H3 .refl rfl⟩
              | _ => exact p3.elim
            · simp only [hij, if_false] at p2
              rw [decide_eq_false hij, if_neg Bool.false_ne_true]
              exact ⟨_, rfl, p2 _ H2 .refl rfl⟩
          | _ => exact p2.elim
        | _ => exact p2.elim
      · cases h
  | .and a b, X, Ex, G, e, h => by
    constructor
    · unfold mE at h
      split at h
      · rename_i x y pos
        rw [Bool.and_eq_true] at h
        exact pe_imp (pe_andT (seB a X Ex G _ h.1).1 (pe_one (seB b X Ex G _ h.2).1)) fun σ H Q q => read_and G q
      · rename_i x y z r pos
        rw [Bool.and_eq_true] at h
        exact pe_imp (pe_andT (seB a X Ex G _ h.1).1 (seAnd b X Ex G _ pos h.2)) fun σ H Q q => read_and G q
      · cases h
    · unfold mE at h
      split at h
      · rw [Bool.and_eq_true] at h
        exact pt_imp (PW.pt (pw_and (seB a X Ex G _ h.1).2 (pw_and1 (seB b X Ex G _ h.2).2))) fun σ H Q q => tread_and q
      · rw [Bool.and_eq_true] at h
        exact pt_imp (PW.pt (pw_and (seB a X Ex G _ h.1).2 (seTAnd b X Ex G _ _ h.2))) fun σ H Q q => tread_and q
      · cases h
  | .or a b, X, Ex, G, e, h => by
    constructor
    · unfold mE at h
      split at h
      · rename_i x y pos
        rw [Bool.and_eq_true] at h
        exact pe_imp (pe_orT (seB a X Ex G _ h.1).1 (pe_one (seB b X Ex G _ h.2).1)) fun σ H Q q => read_or G q
      · rename_i x y z r pos
        rw [Bool.and_eq_true] at h
        exact pe_imp (pe_orT (seB a X Ex G _ h.1).1 (seOr b X Ex G _ pos h.2)) fun σ H Q q => read_or G q
      · cases h
    · unfold mE at h
      split at h
      · rw [Bool.and_eq_true] at h
        exact pt_imp (PW.pt (pw_or (seB a X Ex G _ h.1).2 (pw_or1 (seB b X Ex G _ h.2).2))) fun σ H Q q => tread_or q
      · rw [Bool.and_eq_true] at h
        exact pt_imp (PW.pt (pw_or (seB a X Ex G _ h.1).2 (seTOr b X Ex G _ _ h.2))) fun σ H Q q => tread_or q
      · cases h
  | .not a, X, Ex, G, e, h => by
    constructor
    · unfold mE at h
      split at h
      · refine pe_imp (pe_notT (seB a X Ex G _ h).1) fun σ H Q ⟨hid, ρ, ha, en, p⟩ => ?_
        rw [E] at p
        refine ⟨hid, ρ, ha, en, (Post.bind p).imp fun x H1 k1 ⟨d, _, hd, _, p1⟩ => ?_⟩
        rcases truthD_cases d with ⟨t, ht⟩ | ht
        · rw [ht] at p1
          exact ⟨t, tru_of G.hK hd ht, p1 _ H1 .refl rfl⟩
        · rw [ht] at p1; exact p1.elim
      · cases h
    · unfold mE at h
      split at h
      · refine pt_imp (pt_not (seB a X Ex G _ h).2) fun σ H Q ⟨hid, ρ, ha, en, p⟩ => ?_
        rw [E] at p
        refine ⟨hid, ρ, ha, en, ?_⟩
        cases q : E F a ρ with
        | ok d =>
          rw [q] at p
          simp only [Res.bind_ok] at p ⊢
          rcases truthD_cases d with ⟨t, ht⟩ | ht
          · rw [ht] at p ⊢
            exact fun b H' k' e => p _ H' k' (by rw [e])
          · rw [ht] at p; exact p.elim
        | exc n => rw [q] at p; exact p
        | bad => rw [q] at p; exact p
      · cases h
  | .idx a b, X, Ex, G, e, h => by
    refine both G (testy_of dom _ _ rfl h) ?_
    unfold mE at h
    split at h
    · rename_i x y pos
      rw [Bool.and_eq_true, Bool.and_eq_true, Bool.not_eq_true'] at h
      refine pe_imp (pe_ix (ixd (c := c) G.hK) (seB a X Ex G _ h.1.1).1 (seB b X Ex G _ h.1.2).1 (plainIx_of h.2)) fun σ H Q ⟨hid, ρ, ha, en, p⟩ => ?_
      rw [E] at p
      refine ⟨hid, ρ, ha, en, (Post.bind p).imp fun x H1 k1 ⟨d, _, hd, _, p1⟩ => ?_⟩
      exact ⟨hid, ρ, ha.keep k1, en.keep k1, (Post.bind p1).imp fun y H2 k2 ⟨e, _, he, _, p2⟩ => ⟨hid, d, e, Ex, (ha.keep k1).keep k2, hd.keep k2, he, p2⟩⟩
    · cases h
  | .slc a lo hi, X, Ex, G, e, h => by
    refine both G (testy_of dom _ _ rfl h) ?_
    unfold mE at h
    split at h
    · rename_i x l u p2 pos
      rw [Bool.and_eq_true, Bool.and_eq_true] at h
      refine pe_imp (pe_slice (sld (c := c) G.hK) (seB a X Ex G _ h.1.1).1 (seO lo X Ex G _ h.1.2) (seO hi X Ex G _ h.2)) fun σ H Q ⟨hid, ρ, ha, en, p⟩ => ?_
      rw [E] at p
      refine ⟨hid, ρ, ha, en, (Post.bind p).imp fun x H1 k1 ⟨d, _, hd, _, p1⟩ => ?_⟩
      refine ⟨hid, ρ, ha.keep k1, en.keep k1, (Post.bind p1).imp fun y H2 k2 ⟨l1, _, e1, _, p2⟩ => ?_⟩
      refine ⟨hid, ρ, (ha.keep k1).keep k2, (en.keep k1).keep k2, (Post.bind p2).imp fun z H3 k3 ⟨l2, _, e2, _, p3⟩ => ?_⟩
      rw [e1, e2]
      exact ⟨hid, d, Ex, ((ha.keep k1).keep k2).keep k3, (hd.keep k2).keep k3, p3⟩
    · cases h
  | .call f as, X, Ex, G, e, h => by
    refine both G (testy_of dom _ _ rfl h) ?_
    unfold mE at h
    split at h
    · rename_i x px y ys pos
      simp only [Bool.and_eq_true, Bool.not_eq_true', decide_eq_true_eq] at h
      obtain ⟨⟨⟨⟨⟨h1, h2⟩, h3⟩, h4⟩, h5⟩, h6⟩ := h
      subst h3
      obtain ⟨b1, b2, b3⟩ := plain_of h5
      obtain ⟨a, fd, hm, hk, hb, hF⟩ := G.fn f h1 h2
      have hs := mL_star dom _ _ as _ h6
      refine pe_imp (pe_call hF G.room (glb_of h4) hm hk hb .nil G.pass (seL as X Ex G _ h6) b1 (star_cons (hs _ List.mem_cons_self)) (back_any fun z hz => hs z (List.mem_cons_of_mem _ hz))) fun σ H Q ⟨hid, ρ, ha, en, p⟩ => ?_
      rw [E] at p
      refine ⟨hid, ρ, ha, en, (Post.bind p).imp fun vs H1 k1 ⟨ds, _, hd, _, p1⟩ => ?_⟩
      refine ⟨hid, ds, ha.keep k1, ?_, by rw [List.append_nil]; exact hd, p1⟩
      rw [List.append_nil, hd.len]
      exact G.np f ds h1 fun z => by rw [z] at p1; exact p1
    · cases h
  | .bi f as, X, Ex, G, e, h => by
    refine both G (testy_of dom _ _ rfl h) ?_
    unfold mE at h
    split at h
    · rename_i x px y ys pos
      simp only [Bool.and_eq_true, decide_eq_true_eq] at h
      obtain ⟨⟨h1, h2⟩, h3⟩ := h
      subst h1
      refine pe_imp (pe_callV (biV_kind f) (bid (c := c) G.hK G.calm G.un f) (glb_of h2) (G.blt _ (biN_mem f)) (boot_bi f) (seL as X Ex G _ h3) (biN_plain f).2 (biN_plain f).1 (mL_star dom _ _ as _ h3)) fun σ H Q ⟨hid, ρ, ha, en, p⟩ => ?_
      rw [E] at p
      exact ⟨hid, ρ, ha, en, (Post.bind p).imp fun vs H1 k1 ⟨ds, _, hd, _, p1⟩ => ⟨hid, ds, Ex, ha.keep k1, hd, p1⟩⟩
    · cases h
  | .isi a t, X, Ex, G, e, h => by
    refine both G (testy_of dom _ _ rfl h) ?_
    unfold mE at h
    split at h
    · rename_i x px y z pz pos
      simp only [Bool.and_eq_true, decide_eq_true_eq, Bool.not_eq_true'] at h
      obtain ⟨⟨⟨⟨⟨h1, h2⟩, h3⟩, h4⟩, h5⟩, h6⟩ := h
      subst h1 h3
      have hz : PE X (.Name (Str.ofString (tiN t)) pz) (tC (.ty (tiN t))) := pe_bltn (glb_of h4) (G.blt _ (tiN_mem t)) (boot_ti t) rfl (tiN_plain t).2 (tiN_plain t).1
      refine pe_imp (pe_callV (.inl ⟨_, rfl⟩) (isid (c := c) t) (glb_of h2) (G.blt "isinstance" (by decide)) boot_isi (pa_cons (seB a X Ex G _ h5).1 (pa_cons hz pa_nil) (star_cons h6)) (by decide +kernel) (by decide +kernel) (fun w hw => ?_)) fun σ H Q ⟨hid, ρ, ha, en, p⟩ => ?_
      · rcases List.mem_cons.mp hw with rfl | hw
        · exact h6
        · rw [List.mem_singleton.mp hw]; rfl
      · rw [E] at p
        exact ⟨hid, ρ, ha, en, (Post.bind p).imp fun v H1 k1 ⟨d, _, hd, _, p1⟩ => ⟨hid, d, v, Ex, rfl, hd, p1⟩⟩
    · cases h
  | .join a b, X, Ex, G, e, h => by
    refine both G (testy_of dom _ _ rfl h) ?_
    unfold mE at h
    split at h
    · rename_i x f apos y pos
      simp only [Bool.and_eq_true, decide_eq_true_eq, Bool.not_eq_true'] at h
      obtain ⟨⟨⟨⟨⟨h1, h2⟩, h3⟩, h4⟩, h5⟩, h6⟩ := h
      subst h1
      refine pe_imp (pe_m1 PySem.F.slot_str_join PySem.F.type_str_join (mt_joinD (c := c) G.hK) (seB a X Ex G _ h2).1 (seB b X Ex G _ h3).1 (one_star h4) (base_of h5) h6) fun σ H Q ⟨hid, ρ, ha, en, p⟩ => ?_
      rw [E] at p
      refine ⟨hid, ρ, ha, en, (Post.bind p).imp fun x H1 k1 ⟨d, _, hd, _, p1⟩ => ?_⟩
      cases d with
      | str z => exact ⟨⟨z, hd⟩, hid, ρ, ha.keep k1, en.keep k1, (Post.bind p1).imp fun y H2 k2 ⟨e, _, he, _, p2⟩ => ⟨hid, .str z, e, y, Ex, rfl, (ha.keep k1).keep k2, ⟨z, rfl⟩, hd, he, p2⟩⟩
      | _ => exact p1.elim
    · cases h
  | .split a b, X, Ex, G, e, h => by
    refine both G (testy_of dom _ _ rfl h) ?_
    unfold mE at h
    split at h
    · rename_i x f apos y pos
      simp only [Bool.and_eq_true, decide_eq_true_eq, Bool.not_eq_true'] at h
      obtain ⟨⟨⟨⟨⟨h1, h2⟩, h3⟩, h4⟩, h5⟩, h6⟩ := h
      subst h1
      refine pe_imp (pe_m1 PySem.F.slot_str_split PySem.F.type_str_split (mt_splitD (c := c)) (seB a X Ex G _ h2).1 (seB b X Ex G _ h3).1 (one_star h4) (base_of h5) h6) fun σ H Q ⟨hid, ρ, ha, en, p⟩ => ?_
      rw [E] at p
      refine ⟨hid, ρ, ha, en, (Post.bind p).imp fun x H1 k1 ⟨d, _, hd, _, p1⟩ => ?_⟩
      cases d with
      | str z => exact ⟨⟨z, hd⟩, hid, ρ, ha.keep k1, en.keep k1, (Post.bind p1).imp fun y H2 k2 ⟨e, _, he, _, p2⟩ => ⟨hid, .str z, e, y, Ex, rfl, (ha.keep k1).keep k2, ⟨z, rfl⟩, hd, he, p2⟩⟩
      | _ => exact p1.elim
    · cases h
  | .indx a b, X, Ex, G, e, h => by
    refine both G (testy_of dom _ _ rfl h) ?_
    unfold mE at h
    split at h
    · rename_i x f apos y pos
      simp only [Bool.and_eq_true, decide_eq_true_eq, Bool.not_eq_true'] at h
      obtain ⟨⟨⟨⟨⟨h1, h2⟩, h3⟩, h4⟩, h5⟩, h6⟩ := h
      subst h1
      refine pe_imp (pe_bm PySem.F.plainAttrs_list PySem.F.slot_list_index PySem.F.type_list_index (mt_indexDD (c := c) G.hK (by have := G.un; omega)) (seB a X Ex G _ h2).1 (pa_cons (seB b X Ex G _ h3).1 pa_nil (star_cons h4)) (base_of h5) (by rw [one_star h4]; rfl) h6 (star_cons h4) rfl) fun σ H Q ⟨hid, ρ, ha, en, p⟩ => ?_
      rw [E] at p
      refine ⟨hid, ρ, ha, en, (Post.bind p).imp fun x H1 k1 ⟨d, _, hd, _, p1⟩ => ?_⟩
      cases d with
      | lst zs =>
        obtain ⟨q, vs, rfl, hh, hn, t⟩ := id hd
        exact ⟨.inl ⟨rfl, vs, SqL.of hh⟩, hid, ρ, ha.keep k1, en.keep k1, (Post.bind p1).imp fun y H2 k2 ⟨e, _, he, _, p2⟩ => ⟨hid, .lst zs, e, y, Ex, rfl, (ha.keep k1).keep k2, ⟨zs, rfl⟩, hd.keep k2, he, p2⟩⟩
      | _ => exact p1.elim
    · cases h
  | .lc own tg it ifs elt, X, Ex, G, e, h => by
    refine both G (testy_of dom _ _ rfl h) ?_
    unfold mE at h
    split at h
    · rename_i el t i fs z scope pos
      simp only [Bool.and_eq_true, decide_eq_true_eq, Bool.not_eq_true', List.all_eq_true] at h
      obtain ⟨⟨⟨⟨⟨⟨⟨⟨h1, h2⟩, h3⟩, h4⟩, h5⟩, h6⟩, h7⟩, h8⟩, h9⟩ := h
      subst h1
      have hown : (ownN X.N own).map (·.2) = own := by unfold ownN; rw [List.map_map]; exact List.map_id own
      have hl := pe_lc (g := tgG X.K tg) (tt := tDF c F E0 ifs) (te := tD c F E0 elt) (pos := pos) (own := ownN X.N own) (scope := scope) (elt := el) (ifs := fs) G.calm G.nd (seI it X Ex G _ t h6) (blkOk_by h2)
        (fun s H C cl fp => pg_tg (X := X.blk s H scope (compEnvC scope cl C X.env) fp) (fn := fun x => scope.names.lookup x == some .cell) (fun x hx => hx) G.nd G.calm h3)
        (fun s H C cl fp => seF ifs (X.blk s H scope (compEnvC scope cl C X.env) fp) E0 (G.blk s H scope _ fp) fs h7)
        (fun s H C cl fp => (seB elt (X.blk s H scope (compEnvC scope cl C X.env) fp) E0 (G.blk s H scope _ fp) el h8).1) (set_of h9)
      rw [hown] at hl
      exact pe_imp hl fun σ H Q q => lc_read (fun j hj => by simpa using h4 j hj) q
    · cases h
  | .nil, _, _, _, _, h => absurd (show false = true from h) Bool.false_ne_true
  | .cons _ _, _, _, _, _, h => absurd (show false = true from h) Bool.false_ne_true
  | .rev a, X, Ex, G, e, h => by
    refine both G (testy_of dom _ _ rfl h) ?_
    unfold mE at h
    split at h
    · rename_i x m k p1 p2 p3 pos
      rw [Bool.and_eq_true, decide_eq_true_eq] at h
      obtain ⟨rfl, h⟩ := h
      refine pe_imp (pe_revT (seB a X Ex G _ h).1) fun σ H Q ⟨hid, ρ, ha, en, p⟩ => ?_
      rw [E] at p
      refine ⟨hid, ρ, ha, en, (Post.bind p).imp fun x H1 k1 ⟨d, _, hd, _, p1⟩ => ?_⟩
      cases d with
      | tup ds =>
        obtain ⟨a, vs, rfl, h1, t⟩ := hd
        exact ⟨a, vs, rfl, SqT.of h1, fun q hq => p1 _ _ (.new hq) (.newT hq t.reverse)⟩
      | _ => exact False.elim p1
    · cases h
  | .meth f o as, X, Ex, G, e, h => by
    refine both G (testy_of dom _ _ rfl h) ?_
    unfold mE at h
    split at h
    · rename_i x m apos y ys pos
      simp only [Bool.and_eq_true, Bool.not_eq_true', decide_eq_true_eq] at h
      obtain ⟨⟨⟨⟨⟨⟨⟨h1, h2⟩, h3⟩, h4⟩, h5⟩, h6⟩, h7⟩, h8⟩ := h
      subst h3
      obtain ⟨a, fd, hm, hb, hF⟩ := G.mt f h1 h2
      have hs := mL_star dom _ _ as _ h5
      have hsv : dom .s_winner = true := G.sm f h1 h2
      have cl := (G.sv hsv).cls
      rw [G.hK] at cl
      refine pe_imp (pe_meth (seB o X Ex G _ h4).1 cl hm hF G.room hb .nil G.pass (seL as X Ex G _ h5) (star_cons (hs _ List.mem_cons_self)) (back_any fun z hz => hs z (List.mem_cons_of_mem _ hz)) (meth_tree (base_of h6) h7 hs h8)) fun σ H Q ⟨hid, ρ, ha, en, p⟩ => ?_
      rw [E] at p
      refine ⟨hid, ρ, ha, en, (Post.bind p).imp fun v H1 k1 ⟨d, _, hd, _, p1⟩ => ?_⟩
      cases d with
      | slv g =>
        obtain ⟨xa, dx, fs, vg, ma, e1, e2, l1, l2, l3, l4, l5, e3, e4⟩ := id hd
        refine ⟨xa, dx, fs, e1, e2, ?_, hid, ρ, ha.keep k1, en.keep k1, (Post.bind p1).imp fun vs H2 k2 ⟨ds, _, hds, _, p2⟩ => ?_⟩
        · cases f <;> first | (cases h2; done) | exact l3 | exact l4 | exact l5
        · refine ⟨hid, .slv g :: ds, (ha.keep k1).keep k2, ?_, by rw [List.append_nil]; exact .cons (hd.keep k2) hds, p2⟩
          rw [List.append_nil, List.length_cons, hds.len]
          exact G.np f (.slv g :: ds) h1 fun z => by rw [z] at p2; exact p2
      | _ => exact p1.elim
    · cases h
  | .lrng a, X, Ex, G, e, h => by
    refine both G (testy_of dom _ _ rfl h) ?_
    unfold mE at h
    split at h
    · rename_i x px z pz y pz2 pos
      simp only [Bool.and_eq_true, decide_eq_true_eq, Bool.not_eq_true'] at h
      obtain ⟨⟨⟨⟨⟨h1, h2⟩, h3⟩, h4⟩, h5⟩, h6⟩ := h
      subst h1 h3
      refine pe_imp (pe_listRg G.calm (glb_of h2) (G.blt "list" (by decide)) (prg_1 (glb_of h4) (G.blt "range" (by decide)) (seB a X Ex G _ h5).1 (star_cons h6)) rfl) fun σ H Q ⟨hid, ρ, ha, en, p⟩ => ?_
      rw [E] at p
      refine ⟨hid, ρ, ha, en, (Post.bind p).imp fun x H1 k1 ⟨d, _, hd, _, p1⟩ => ?_⟩
      rcases @rngD_ok (.int 0) d with ⟨i, j, e1, rfl, o1, o2, o3, q⟩ | q
      · cases e1
        rw [q] at p1
        refine ⟨j, hd, rgOk_of o2 o3, fun q hq => p1 _ _ (.new hq) (.newL (ha.keep k1) hq (rpl_rng j))⟩
      · rw [q] at p1; exact p1.elim
    · cases h
  | .sset a, X, Ex, G, e, h => by
    refine both G (testy_of dom _ _ rfl h) ?_
    unfold mE at h
    split at h
    · rename_i x px z pz y pz2 pos
      simp only [Bool.and_eq_true, decide_eq_true_eq, Bool.not_eq_true'] at h
      obtain ⟨⟨⟨⟨⟨h1, h2⟩, h3⟩, h4⟩, h5⟩, h6⟩ := h
      subst h1 h3
      refine pe_imp (pe_sset G.calm (by have := G.un; omega) (glb_of h2) (G.blt "sorted" (by decide)) (glb_of h4) (G.blt "set" (by decide)) (seB a X Ex G _ h5).1 (star_cons h6)) fun σ H Q ⟨hid, ρ, ha, en, p⟩ => ?_
      rw [E] at p
      refine ⟨hid, ρ, ha, en, (Post.bind p).imp fun x H1 k1 ⟨d, _, hd, _, p1⟩ => ?_⟩
      have ha1 := ha.keep k1
      have fin : ∀ {ds : List D} {l : Addr} {vs : List V}, RpL c H1 hid ds vs → (SqL X.K H1 l vs ∨ SqT X.K H1 l vs) → x = V.ref l → ssetD d = (match allInts ds with
          | some ns => if ns.length < 64 then Res.ok (D.lst ((setI ns).map .int)) else .bad
          | none => match ds.mapM rowD with
            | some rs => if rs.length < 64 ∧ sortable ds = true then Res.ok (D.lst ((setL rs).map fun r => .tup (r.map .int))) else .bad
            | none => .bad) →
          (∃ (l : Addr) (ns : List Int), x = V.ref l ∧ (SqL X.K H1 l (ns.map V.int) ∨ SqT X.K H1 l (ns.map V.int)) ∧ ns.length < 64 ∧ ∀ p, H1 p = none → Q (.ref p) (upd H1 p (.lst ((setI ns).map V.int)))) ∨
          (∃ (l : Addr) (ks : List (Addr × List Int)), x = V.ref l ∧ (SqL X.K H1 l (ks.map fun q => V.ref q.1) ∨ SqT X.K H1 l (ks.map fun q => V.ref q.1)) ∧ ks.length < 64 ∧ (∀ q ∈ ks, SqT X.K H1 q.1 (q.2.map V.int) ∧ Dp X.K H1 (.ref q.1) (TD q.2).py) ∧
            sortable (ks.map fun q => TD q.2) = true ∧ ∀ p (L' : List (Addr × List Int)), H1 p = none → (∀ q ∈ L', q ∈ ks) → L'.map (·.2) = setL (ks.map (·.2)) → Q (.ref p) (upd H1 p (.lst (L'.map fun q => V.ref q.1)))) := fun {ds l vs} t sq ex e => by
        rw [e] at p1
        cases q : allInts ds with
        | some ns =>
          rw [q] at p1
          dsimp only at p1
          split at p1
          · rename_i hl
            rw [allInts_map q] at t
            rw [t.ints] at sq
            exact .inl ⟨l, ns, ex, sq, hl, fun p hp => p1 _ _ (.new hp) (.newL ha1 hp (rpl_intsS _))⟩
          · exact p1.elim
        | none =>
          rw [q] at p1
          dsimp only at p1
          cases q2 : ds.mapM rowD with
          | none => rw [q2] at p1; exact p1.elim
          | some rs =>
            rw [q2] at p1
            dsimp only at p1
            split at p1
            · rename_i hl
              obtain ⟨hl, hs⟩ := hl
              obtain ⟨ks, rfl, e2, rfl, e4⟩ := rows_of t q2
              rw [e2] at hs
              refine .inr ⟨l, ks, ex, sq, by rw [List.length_map] at hl; exact hl, fun q hq => ⟨SqT.of (e4 q hq), dpX G.hK (rp_TD (c := c) (hid := hid) (e4 q hq)) (sortable_shp hs _ (List.mem_map_of_mem hq))⟩, hs, fun p L' hp hs' hL' => p1 _ _ (.new hp) ?_⟩
              rw [← hL']
              exact .newL ha1 hp (rpl_rows fun q hq => e4 q (hs' q hq))
            · exact p1.elim
      cases d with
      | tup ds =>
        obtain ⟨l, vs, rfl, h1, t⟩ := hd
        exact fin t (.inr (SqT.of h1)) rfl rfl
      | lst ds =>
        obtain ⟨l, vs, rfl, h1, n, t⟩ := hd
        exact fin t (.inl (SqL.of h1)) rfl rfl
      | _ => exact False.elim p1
    · cases h
  | .lset a, X, Ex, G, e, h => by
    refine both G (testy_of dom _ _ rfl h) ?_
    unfold mE at h
    split at h
    · rename_i x px z pz y pz2 pos
      simp only [Bool.and_eq_true, decide_eq_true_eq, Bool.not_eq_true'] at h
      obtain ⟨⟨⟨⟨⟨h1, h2⟩, h3⟩, h4⟩, h5⟩, h6⟩ := h
      subst h1 h3
      refine pe_imp (pe_lset G.calm (glb_of h2) (G.blt "len" (by decide)) (glb_of h4) (G.blt "set" (by decide)) (seB a X Ex G _ h5).1 (star_cons h6)) fun σ H Q ⟨hid, ρ, ha, en, p⟩ => ?_
      rw [E] at p
      refine ⟨hid, ρ, ha, en, (Post.bind p).imp fun x H1 k1 ⟨d, _, hd, _, p1⟩ => ?_⟩
      have fin : ∀ {ds : List D} {a : Addr} {vs : List V}, RpL c H1 hid ds vs → (SqL X.K H1 a vs ∨ SqT X.K H1 a vs) → lsetD d = (match allInts ds with
          | some ns => if ns.length < 64 then Res.ok (D.int (meets ns).length) else Res.bad
          | none => Res.bad) → ∃ (l : Addr) (ns : List Int), V.ref a = V.ref l ∧ (SqL X.K H1 l (ns.map V.int) ∨ SqT X.K H1 l (ns.map V.int)) ∧ ns.length < 64 ∧ Q (.int (meets ns).length) H1 := fun {ds a vs} t sq e => by
        rw [e] at p1
        cases q : allInts ds with
        | none => rw [q] at p1; exact p1.elim
        | some ns =>
          rw [q] at p1
          dsimp only at p1
          split at p1
          · rename_i hl
            rw [allInts_map q] at t
            rw [t.ints] at sq
            exact ⟨a, ns, rfl, sq, hl, p1 _ _ .refl rfl⟩
          · exact p1.elim
      cases d with
      | tup ds =>
        obtain ⟨a, vs, rfl, h1, t⟩ := hd
        exact fin t (.inr (SqT.of h1)) rfl
      | lst ds =>
        obtain ⟨a, vs, rfl, h1, n, t⟩ := hd
        exact fin t (.inl (SqL.of h1)) rfl
      | _ => exact False.elim p1
    · cases h
  | .nin a b, X, Ex, G, e, h => by
    have hE : ∀ ρ, E F (.nin a b) ρ = (E F a ρ).bind fun x => (E F b ρ).bind fun y => match x, y with
        | .int i, .int n => if rngOk n && rngOk i then .ok (.bl (!decide (0 ≤ i ∧ i < n))) else .bad
        | _, _ => .bad := fun ρ => by rw [E] <;> rfl
    unfold mE at h
    split at h
    · rename_i l x px y pc pos
      simp only [Bool.and_eq_true, decide_eq_true_eq, Bool.not_eq_true'] at h
      obtain ⟨⟨⟨⟨h1, h2⟩, h3⟩, h4⟩, h5⟩ := h
      subst h1
      have hr := pe_callTy (p := px) (pos := pc) cr_range1 (glb_of h2) (G.blt "range" (by decide)) PyProof.Rows.boot_range (pa_cons (seB b X Ex G _ h4).1 pa_nil (star_cons h5)) (by decide) (by decide) (star_cons h5) rfl
      constructor
      · refine pe_imp (pe_cmpR (pos := pos) op_notin_rng (seB a X Ex G _ h3).1 hr rfl) fun σ H Q ⟨hid, ρ, ha, en, p⟩ => ?_
        rw [hE] at p
        refine ⟨hid, ρ, ha, en, (Post.bind p).imp fun x H1 k1 ⟨d, _, hd, _, p1⟩ => ?_⟩
        refine ⟨hid, ρ, ha.keep k1, en.keep k1, (Post.bind p1).imp fun y H2 k2 ⟨d2, _, he, _, p2⟩ => ?_⟩
        cases d with
        | int i => cases d2 with
          | int n =>
            dsimp only at p2
            split at p2
            · refine ⟨n, by rw [show y = .int n from he], fun q hq => ⟨i, q, 0, n, (show x = .int i from hd), rfl, by rw [upd_same], p2 _ _ (.new hq) rfl⟩⟩
            · exact p2.elim
          | _ => exact p2.elim
        | _ => exact p2.elim
      · refine pt_imp (pt_cmpR (pos := pos) op_notin_rng (seB a X Ex G _ h3).1 hr rfl) fun σ H Q ⟨hid, ρ, ha, en, p⟩ => ?_
        have p' : Post c Ex (fun _ a b => b = a) ((E F a ρ).bind fun x => (E F b ρ).bind fun y => (match x, y with
            | .int i, .int n => if rngOk n && rngOk i then Res.ok (D.bl (!decide (0 ≤ i ∧ i < n))) else .bad
            | _, _ => .bad).bind truthD) H Q := by
          rw [hE] at p
          cases q : E F a ρ with
          | ok d =>
            rw [q] at p
            simp only [Res.bind_ok] at p ⊢
            cases q2 : E F b ρ with
            | ok d2 => rw [q2] at p; exact p
            | exc n => rw [q2] at p; exact p
            | bad => rw [q2] at p; exact p
          | exc n => rw [q] at p; exact p
          | bad => rw [q] at p; exact p
        refine ⟨hid, ρ, ha, en, (Post.bind p').imp fun x H1 k1 ⟨d, _, hd, _, p1⟩ => ?_⟩
        refine ⟨hid, ρ, ha.keep k1, en.keep k1, (Post.bind p1).imp fun y H2 k2 ⟨d2, _, he, _, p2⟩ => ?_⟩
        cases d with
        | int i => cases d2 with
          | int n =>
            dsimp only at p2
            split at p2
            · refine ⟨n, by rw [show y = .int n from he], fun q hq => ⟨i, q, 0, n, (show x = .int i from hd), rfl, by rw [upd_same], _, rfl, p2 _ _ (.new hq) rfl⟩⟩
            · exact p2.elim
          | _ => exact p2.elim
        | _ => exact p2.elim
    · cases h
  | .r1 _, _, _, _, _, h => absurd (show false = true from h) Bool.false_ne_true
  | .r2 _ _, _, _, _, _, h => absurd (show false = true from h) Bool.false_ne_true
  | .zp _ _, _, _, _, _, h => absurd (show false = true from h) Bool.false_ne_true
  | .en _, _, _, _, _, h => absurd (show false = true from h) Bool.false_ne_true
  | .mem0 i, X, Ex, G, e, h => by
    refine both G (testy_of dom _ _ rfl h) ?_
    unfold mE at h
    split at h
    · refine ⟨fun pins s σ H Q I ⟨hid, ρ, ha, en, p⟩ => ?_⟩
      rw [E] at p
      split at p
      · rename_i g hg
        split at p
        · rename_i hc
          exact (pe_mnew (c := c) (tagN true g) G.hP G.hw).run pins s σ H Q I fun q hq hs => p _ _ (.new hq) ⟨q, rfl, hs, hc, [], upd_same, List.nodup_nil, (fun e he => nomatch he), fun k hk => nomatch hk⟩
        · exact p.elim
      · exact p.elim
    · cases h
  | .slvr a, X, Ex, G, e, h => by
    refine both G (testy_of dom _ _ rfl h) ?_
    unfold mE at h
    split at h
    · rename_i x px y pos
      simp only [Bool.and_eq_true, Bool.not_eq_true', decide_eq_true_eq] at h
      obtain ⟨⟨⟨⟨h1, h2⟩, h3⟩, h4⟩, h5⟩ := h
      subst h2
      obtain ⟨s1, s2, s3, s4, f, fd, s5, s6, s7⟩ := G.sv h1
      have s5' : Mk X.K c.C f := by rw [← G.hK]; exact s5
      have s6' : Binds X.K fd [Str.ofString "self", Str.ofString "game"] [] := by rw [← G.hK]; exact s6
      have s7' : FnOk X.prog X.w X.K X.mg X.base (L2.CX X.prog X.w) 1 f fd [Str.ofString "self", Str.ofString "game"] (spInit c) := by rw [← G.hK, ← G.hP, ← G.hw]; exact s7
      refine pe_imp (pe_make s5' s7' (G.room.mono (by omega)) (glb_of h3) s1 s6' .nil G.pass (pa_cons (seB a X Ex G _ h4).1 pa_nil (star_cons h5)) (by decide +kernel) (star_cons h5) rfl) fun σ H Q ⟨hid, ρ, ha, en, p⟩ => ?_
      rw [E] at p
      refine ⟨hid, ρ, ha, en, (Post.bind p).imp fun vg H1 k1 ⟨g, _, hg, _, p1⟩ => ?_⟩
      split at p1
      · rename_i hc
        intro xa dx hx hdx hne
        refine ⟨xa, dx, vg, g, rfl, upd_same, fun q hq hsys => ?_⟩
        have q1 : q ≠ xa := fun e => by rw [e, upd_same] at hq; cases hq
        rw [upd_ne q1, upd_ne q1] at hq
        have q2 : q ≠ dx := fun e => by rw [e, upd_same] at hq; cases hq
        rw [upd_ne q2] at hq
        refine ⟨rfl, ?_⟩
        have hnew : ∀ (a : Addr) (o : HO), H1 a = some o → a ≠ xa ∧ a ≠ dx ∧ a ≠ q := fun a o e => ⟨ne_of_none e hx, ne_of_none e hdx, ne_of_none e hq⟩
        have get : ∀ (a : Addr) (o : HO), H1 a = some o → (upd (upd (upd (upd (upd H1 dx (.own xa)) xa (.ins c.C dx [])) xa (.ins c.C dx [(Str.ofString "game", vg)])) q (memoO c q (tagN false g) [])) xa (.ins c.C dx [(Str.ofString "game", vg), (Str.ofString "known", .ref q)])) a = some o := fun a o e => by
          obtain ⟨n1, n2, n3⟩ := hnew a o e
          rw [upd_ne n1, upd_ne n3, upd_ne n1, upd_ne n1, upd_ne n2]
          exact e
        have kk : Kp c nohid H1 (upd (upd (upd (upd (upd H1 dx (.own xa)) xa (.ins c.C dx [])) xa (.ins c.C dx [(Str.ofString "game", vg)])) q (memoO c q (tagN false g) [])) xa (.ins c.C dx [(Str.ofString "game", vg), (Str.ofString "known", .ref q)])) := Kp.more get
        refine p1 _ _ kk ⟨xa, dx, _, vg, q, rfl, upd_same, rfl, lk_known _ _, lk_no _ (by decide +kernel) (by decide +kernel) _ _, lk_no _ (by decide +kernel) (by decide +kernel) _ _, lk_no _ (by decide +kernel) (by decide +kernel) _ _, hg.keep kk, hsys, hc, [], ?_, List.nodup_nil, (fun e he => nomatch he), fun k hk => nomatch hk⟩
        rw [upd_ne q1, upd_same]; rfl
      · exact p1.elim
    · cases h
  | .game a, X, Ex, G, e, h => by
    refine both G (testy_of dom _ _ rfl h) ?_
    unfold mE at h
    split at h
    · rename_i x f pos
      simp only [Bool.and_eq_true, Bool.not_eq_true', decide_eq_true_eq] at h
      obtain ⟨⟨⟨h1, h2⟩, h3⟩, h4⟩ := h
      subst h2
      obtain ⟨s1, s2, s3, s4, _⟩ := G.sv h1
      refine pe_imp (pe_fld (seB a X Ex G _ h3).1 (base_of h4)) fun σ H Q ⟨hid, ρ, ha, en, p⟩ => ?_
      rw [E] at p
      refine ⟨hid, ρ, ha, en, (Post.bind p).imp fun v H1 k1 ⟨d, _, hd, _, p1⟩ => ?_⟩
      cases d with
      | slv g =>
        obtain ⟨xa, dx, fs, vg, ma, e1, e2, l1, l2, l3, l4, l5, e3, e4⟩ := hd
        exact ⟨xa, c.C, dx, fs, vg, e1, e2, by rw [← G.hK]; exact s2, by rw [← G.hK]; exact s3, l1, p1 _ H1 .refl e3⟩
      | _ => exact p1.elim
    · cases h
theorem seL : ∀ (code : C) (X : Cx) (Ex : XK) (G : Good c F dom ps k Ex X) (es : List Expr), mL dom X.N X.env.scope code es = true → PA X es (tDL c F Ex code)
  | .nil, X, Ex, G, es, h => by
    unfold mL at h
    split at h
    · exact pa_imp pa_nil fun σ H Q ⟨hid, ρ, ha, en, p⟩ => p _ H .refl rfl
    · cases h
  | .cons a b, X, Ex, G, es, h => by
    unfold mL at h
    split at h
    · simp only [Bool.and_eq_true, Bool.not_eq_true'] at h
      refine pa_imp (pa_cons (seB a X Ex G _ h.1.1).1 (seL b X Ex G _ h.2) (star_cons h.1.2)) fun σ H Q ⟨hid, ρ, ha, en, p⟩ => ?_
      rw [EL] at p
      refine ⟨hid, ρ, ha, en, (Post.bind p).imp fun x H1 k1 ⟨d, _, hd, _, p1⟩ => ?_⟩
      exact ⟨hid, ρ, ha.keep k1, en.keep k1, (Post.bind p1).imp fun ys H2 k2 ⟨es, _, he, _, p2⟩ => p2 _ H2 .refl (.cons (hd.keep k2) he)⟩
    · cases h
  | .var _, _, _, _, _, h => absurd (show false = true from h) Bool.false_ne_true
  | .int _, _, _, _, _, h => absurd (show false = true from h) Bool.false_ne_true
  | .bl _, _, _, _, _, h => absurd (show false = true from h) Bool.false_ne_true
  | .non, _, _, _, _, h => absurd (show false = true from h) Bool.false_ne_true
  | .str _, _, _, _, _, h => absurd (show false = true from h) Bool.false_ne_true
  | .tup _, _, _, _, _, h => absurd (show false = true from h) Bool.false_ne_true
  | .lst _, _, _, _, _, h => absurd (show false = true from h) Bool.false_ne_true
  | .bin _ _ _, _, _, _, _, h => absurd (show false = true from h) Bool.false_ne_true
  | .neg _, _, _, _, _, h => absurd (show false = true from h) Bool.false_ne_true
  | .cmp _ _ _, _, _, _, _, h => absurd (show false = true from h) Bool.false_ne_true
  | .leq2 _ _ _, _, _, _, _, h => absurd (show false = true from h) Bool.false_ne_true
  | .and _ _, _, _, _, _, h => absurd (show false = true from h) Bool.false_ne_true
  | .or _ _, _, _, _, _, h => absurd (show false = true from h) Bool.false_ne_true
  | .not _, _, _, _, _, h => absurd (show false = true from h) Bool.false_ne_true
  | .idx _ _, _, _, _, _, h => absurd (show false = true from h) Bool.false_ne_true
  | .slc _ _ _, _, _, _, _, h => absurd (show false = true from h) Bool.false_ne_true
  | .rev _, _, _, _, _, h => absurd (show false = true from h) Bool.false_ne_true
  | .call _ _, _, _, _, _, h => absurd (show false = true from h) Bool.false_ne_true
  | .meth _ _ _, _, _, _, _, h => absurd (show false = true from h) Bool.false_ne_true
  | .bi _ _, _, _, _, _, h => absurd (show false = true from h) Bool.false_ne_true
  | .lrng _, _, _, _, _, h => absurd (show false = true from h) Bool.false_ne_true
  | .sset _, _, _, _, _, h => absurd (show false = true from h) Bool.false_ne_true
  | .lset _, _, _, _, _, h => absurd (show false = true from h) Bool.false_ne_true
  | .isi _ _, _, _, _, _, h => absurd (show false = true from h) Bool.false_ne_true
  | .join _ _, _, _, _, _, h => absurd (show false = true from h) Bool.false_ne_true
  | .split _ _, _, _, _, _, h => absurd (show false = true from h) Bool.false_ne_true
  | .indx _ _, _, _, _, _, h => absurd (show false = true from h) Bool.false_ne_true
  | .nin _ _, _, _, _, _, h => absurd (show false = true from h) Bool.false_ne_true
  | .lc _ _ _ _ _, _, _, _, _, h => absurd (show false = true from h) Bool.false_ne_true
  | .r1 _, _, _, _, _, h => absurd (show false = true from h) Bool.false_ne_true
  | .r2 _ _, _, _, _, _, h => absurd (show false = true from h) Bool.false_ne_true
  | .zp _ _, _, _, _, _, h => absurd (show false = true from h) Bool.false_ne_true
  | .en _, _, _, _, _, h => absurd (show false = true from h) Bool.false_ne_true
  | .mem0 _, _, _, _, _, h => absurd (show false = true from h) Bool.false_ne_true
  | .slvr _, _, _, _, _, h => absurd (show false = true from h) Bool.false_ne_true
  | .game _, _, _, _, _, h => absurd (show false = true from h) Bool.false_ne_true
theorem seAnd : ∀ (code : C) (X : Cx) (Ex : XK) (G : Good c F dom ps k Ex X) (es : List Expr) (pos : Pos), mAnd dom X.N X.env.scope code es = true → PE X (.BoolOp .And es pos) (tD c F Ex code)
  | .and a b, X, Ex, G, es, pos, h => by
    unfold mAnd at h
    split at h
    · rw [Bool.and_eq_true] at h
      exact pe_imp (pe_andT (seB a X Ex G _ h.1).1 (pe_one (seB b X Ex G _ h.2).1)) fun σ H Q q => read_and G q
    · rw [Bool.and_eq_true] at h
      exact pe_imp (pe_andT (seB a X Ex G _ h.1).1 (seAnd b X Ex G _ pos h.2)) fun σ H Q q => read_and G q
    · cases h
  | .var _, _, _, _, _, _, h => absurd (show false = true from h) Bool.false_ne_true
  | .int _, _, _, _, _, _, h => absurd (show false = true from h) Bool.false_ne_true
  | .bl _, _, _, _, _, _, h => absurd (show false = true from h) Bool.false_ne_true
  | .non, _, _, _, _, _, h => absurd (show false = true from h) Bool.false_ne_true
  | .str _, _, _, _, _, _, h => absurd (show false = true from h) Bool.false_ne_true
  | .nil, _, _, _, _, _, h => absurd (show false = true from h) Bool.false_ne_true
  | .cons _ _, _, _, _, _, _, h => absurd (show false = true from h) Bool.false_ne_true
  | .tup _, _, _, _, _, _, h => absurd (show false = true from h) Bool.false_ne_true
  | .lst _, _, _, _, _, _, h => absurd (show false = true from h) Bool.false_ne_true
  | .bin _ _ _, _, _, _, _, _, h => absurd (show false = true from h) Bool.false_ne_true
  | .neg _, _, _, _, _, _, h => absurd (show false = true from h) Bool.false_ne_true
  | .cmp _ _ _, _, _, _, _, _, h => absurd (show false = true from h) Bool.false_ne_true
  | .leq2 _ _ _, _, _, _, _, _, h => absurd (show false = true from h) Bool.false_ne_true
  | .or _ _, _, _, _, _, _, h => absurd (show false = true from h) Bool.false_ne_true
  | .not _, _, _, _, _, _, h => absurd (show false = true from h) Bool.false_ne_true
  | .idx _ _, _, _, _, _, _, h => absurd (show false = true from h) Bool.false_ne_true
  | .slc _ _ _, _, _, _, _, _, h => absurd (show false = true from h) Bool.false_ne_true
  | .rev _, _, _, _, _, _, h => absurd (show false = true from h) Bool.false_ne_true
  | .call _ _, _, _, _, _, _, h => absurd (show false = true from h) Bool.false_ne_true
  | .meth _ _ _, _, _, _, _, _, h => absurd (show false = true from h) Bool.false_ne_true
  | .bi _ _, _, _, _, _, _, h => absurd (show false = true from h) Bool.false_ne_true
  | .lrng _, _, _, _, _, _, h => absurd (show false = true from h) Bool.false_ne_true
  | .sset _, _, _, _, _, _, h => absurd (show false = true from h) Bool.false_ne_true
  | .lset _, _, _, _, _, _, h => absurd (show false = true from h) Bool.false_ne_true
  | .isi _ _, _, _, _, _, _, h => absurd (show false = true from h) Bool.false_ne_true
  | .join _ _, _, _, _, _, _, h => absurd (show false = true from h) Bool.false_ne_true
  | .split _ _, _, _, _, _, _, h => absurd (show false = true from h) Bool.false_ne_true
  | .indx _ _, _, _, _, _, _, h => absurd (show false = true from h) Bool.false_ne_true
  | .nin _ _, _, _, _, _, _, h => absurd (show false = true from h) Bool.false_ne_true
  | .lc _ _ _ _ _, _, _, _, _, _, h => absurd (show false = true from h) Bool.false_ne_true
  | .r1 _, _, _, _, _, _, h => absurd (show false = true from h) Bool.false_ne_true
  | .r2 _ _, _, _, _, _, _, h => absurd (show false = true from h) Bool.false_ne_true
  | .zp _ _, _, _, _, _, _, h => absurd (show false = true from h) Bool.false_ne_true
  | .en _, _, _, _, _, _, h => absurd (show false = true from h) Bool.false_ne_true
  | .mem0 _, _, _, _, _, _, h => absurd (show false = true from h) Bool.false_ne_true
  | .slvr _, _, _, _, _, _, h => absurd (show false = true from h) Bool.false_ne_true
  | .game _, _, _, _, _, _, h => absurd (show false = true from h) Bool.false_ne_true
theorem seOr : ∀ (code : C) (X : Cx) (Ex : XK) (G : Good c F dom ps k Ex X) (es : List Expr) (pos : Pos), mOr dom X.N X.env.scope code es = true → PE X (.BoolOp .Or es pos) (tD c F Ex code)
  | .or a b, X, Ex, G, es, pos, h => by
    unfold mOr at h
    split at h
    · rw [Bool.and_eq_true] at h
      exact pe_imp (pe_orT (seB a X Ex G _ h.1).1 (pe_one (seB b X Ex G _ h.2).1)) fun σ H Q q => read_or G q
    · rw [Bool.and_eq_true] at h
      exact pe_imp (pe_orT (seB a X Ex G _ h.1).1 (seOr b X Ex G _ pos h.2)) fun σ H Q q => read_or G q
    · cases h
  | .var _, _, _, _, _, _, h => absurd (show false = true from h) Bool.false_ne_true
  | .int _, _, _, _, _, _, h => absurd (show false = true from h) Bool.false_ne_true
  | .bl _, _, _, _, _, _, h => absurd (show false = true from h) Bool.false_ne_true
  | .non, _, _, _, _, _, h => absurd (show false = true from h) Bool.false_ne_true
  | .str _, _, _, _, _, _, h => absurd (show false = true from h) Bool.false_ne_true
  | .nil, _, _, _, _, _, h => absurd (show false = true from h) Bool.false_ne_true
  | .cons _ _, _, _, _, _, _, h => absurd (show false = true from h) Bool.false_ne_true
  | .tup _, _, _, _, _, _, h => absurd (show false = true from h) Bool.false_ne_true
  | .lst _, _, _, _, _, _, h => absurd (show false = true from h) Bool.false_ne_true
  | .bin _ _ _, _, _, _, _, _, h => absurd (show false = true from h) Bool.false_ne_true
  | .neg _, _, _, _, _, _, h => absurd (show false = true from h) Bool.false_ne_true
  | .cmp _ _ _, _, _, _, _, _, h => absurd (show false = true from h) Bool.false_ne_true
  | .leq2 _ _ _, _, _, _, _, _, h => absurd (show false = true from h) Bool.false_ne_true
  | .and _ _, _, _, _, _, _, h => absurd (show false = true from h) Bool.false_ne_true
  | .not _, _, _, _, _, _, h => absurd (show false = true from h) Bool.false_ne_true
  | .idx _ _, _, _, _, _, _, h => absurd (show false = true from h) Bool.false_ne_true
  | .slc _ _ _, _, _, _, _, _, h => absurd (show false = true from h) Bool.false_ne_true
  | .rev _, _, _, _, _, _, h => absurd (show false = true from h) Bool.false_ne_true
  | .call _ _, _, _, _, _, _, h => absurd (show false = true from h) Bool.false_ne_true
  | .meth _ _ _, _, _, _, _, _, h => absurd (show false = true from h) Bool.false_ne_true
  | .bi _ _, _, _, _, _, _, h => absurd (show false = true from h) Bool.false_ne_true
  | .lrng _, _, _, _, _, _, h => absurd (show false = true from h) Bool.false_ne_true
  | .sset _, _, _, _, _, _, h => absurd (show false = true from h) Bool.false_ne_true
  | .lset _, _, _, _, _, _, h => absurd (show false = true from h) Bool.false_ne_true
  | .isi _ _, _, _, _, _, _, h => absurd (show false = true from h) Bool.false_ne_true
  | .join _ _, _, _, _, _, _, h => absurd (show false = true from h) Bool.false_ne_true
  | .split _ _, _, _, _, _, _, h => absurd (show false = true from h) Bool.false_ne_true
  | .indx _ _, _, _, _, _, _, h => absurd (show false = true from h) Bool.false_ne_true
  | .nin _ _, _, _, _, _, _, h => absurd (show false = true from h) Bool.false_ne_true
  | .lc _ _ _ _ _, _, _, _, _, _, h => absurd (show false = true from h) Bool.false_ne_true
  | .r1 _, _, _, _, _, _, h => absurd (show false = true from h) Bool.false_ne_true
  | .r2 _ _, _, _, _, _, _, h => absurd (show false = true from h) Bool.false_ne_true
  | .zp _ _, _, _, _, _, _, h => absurd (show false = true from h) Bool.false_ne_true
  | .en _, _, _, _, _, _, h => absurd (show false = true from h) Bool.false_ne_true
  | .mem0 _, _, _, _, _, _, h => absurd (show false = true from h) Bool.false_ne_true
  | .slvr _, _, _, _, _, _, h => absurd (show false = true from h) Bool.false_ne_true
  | .game _, _, _, _, _, _, h => absurd (show false = true from h) Bool.false_ne_true
theorem seO : ∀ (code : C) (X : Cx) (Ex : XK) (G : Good c F dom ps k Ex X) (e : Option Expr), mO dom X.N X.env.scope code e = true → PO X e (tDO c F Ex code)
  | .nil, X, Ex, G, e, h => by
    unfold mO at h
    split at h
    · exact po_imp po_none fun σ H Q ⟨hid, ρ, ha, en, p⟩ => p _ H .refl rfl
    · cases h
  | .cons a .nil, X, Ex, G, e, h => by
    unfold mO at h
    split at h
    · refine po_imp (po_some (seB a X Ex G _ h).1) fun σ H Q ⟨hid, ρ, ha, en, p⟩ => ?_
      rw [EO] at p
      refine ⟨hid, ρ, ha, en, (Post.bind p).imp fun x H1 k1 ⟨d, _, hd, _, p1⟩ => ?_⟩
      cases d with
      | int i => exact ⟨i, hd, p1 _ H1 .refl rfl⟩
      | _ => exact p1.elim
    · cases h
  | .var _, _, _, _, _, h => absurd (show false = true from h) Bool.false_ne_true
  | .int _, _, _, _, _, h => absurd (show false = true from h) Bool.false_ne_true
  | .bl _, _, _, _, _, h => absurd (show false = true from h) Bool.false_ne_true
  | .non, _, _, _, _, h => absurd (show false = true from h) Bool.false_ne_true
  | .str _, _, _, _, _, h => absurd (show false = true from h) Bool.false_ne_true
  | .tup _, _, _, _, _, h => absurd (show false = true from h) Bool.false_ne_true
  | .lst _, _, _, _, _, h => absurd (show false = true from h) Bool.false_ne_true
  | .bin _ _ _, _, _, _, _, h => absurd (show false = true from h) Bool.false_ne_true
  | .neg _, _, _, _, _, h => absurd (show false = true from h) Bool.false_ne_true
  | .cmp _ _ _, _, _, _, _, h => absurd (show false = true from h) Bool.false_ne_true
  | .leq2 _ _ _, _, _, _, _, h => absurd (show false = true from h) Bool.false_ne_true
  | .and _ _, _, _, _, _, h => absurd (show false = true from h) Bool.false_ne_true
  | .or _ _, _, _, _, _, h => absurd (show false = true from h) Bool.false_ne_true
  | .not _, _, _, _, _, h => absurd (show false = true from h) Bool.false_ne_true
  | .idx _ _, _, _, _, _, h => absurd (show false = true from h) Bool.false_ne_true
  | .slc _ _ _, _, _, _, _, h => absurd (show false = true from h) Bool.false_ne_true
  | .rev _, _, _, _, _, h => absurd (show false = true from h) Bool.false_ne_true
  | .call _ _, _, _, _, _, h => absurd (show false = true from h) Bool.false_ne_true
  | .meth _ _ _, _, _, _, _, h => absurd (show false = true from h) Bool.false_ne_true
  | .bi _ _, _, _, _, _, h => absurd (show false = true from h) Bool.false_ne_true
  | .lrng _, _, _, _, _, h => absurd (show false = true from h) Bool.false_ne_true
  | .sset _, _, _, _, _, h => absurd (show false = true from h) Bool.false_ne_true
  | .lset _, _, _, _, _, h => absurd (show false = true from h) Bool.false_ne_true
  | .isi _ _, _, _, _, _, h => absurd (show false = true from h) Bool.false_ne_true
  | .join _ _, _, _, _, _, h => absurd (show false = true from h) Bool.false_ne_true
  | .split _ _, _, _, _, _, h => absurd (show false = true from h) Bool.false_ne_true
  | .indx _ _, _, _, _, _, h => absurd (show false = true from h) Bool.false_ne_true
  | .nin _ _, _, _, _, _, h => absurd (show false = true from h) Bool.false_ne_true
  | .lc _ _ _ _ _, _, _, _, _, h => absurd (show false = true from h) Bool.false_ne_true
  | .r1 _, _, _, _, _, h => absurd (show false = true from h) Bool.false_ne_true
  | .r2 _ _, _, _, _, _, h => absurd (show false = true from h) Bool.false_ne_true
  | .zp _ _, _, _, _, _, h => absurd (show false = true from h) Bool.false_ne_true
  | .en _, _, _, _, _, h => absurd (show false = true from h) Bool.false_ne_true
  | .mem0 _, _, _, _, _, h => absurd (show false = true from h) Bool.false_ne_true
  | .slvr _, _, _, _, _, h => absurd (show false = true from h) Bool.false_ne_true
  | .game _, _, _, _, _, h => absurd (show false = true from h) Bool.false_ne_true
  | .cons _ (.var _), _, _, _, _, h => absurd (show false = true from h) Bool.false_ne_true
  | .cons _ (.int _), _, _, _, _, h => absurd (show false = true from h) Bool.false_ne_true
  | .cons _ (.bl _), _, _, _, _, h => absurd (show false = true from h) Bool.false_ne_true
  | .cons _ (.non), _, _, _, _, h => absurd (show false = true from h) Bool.false_ne_true
  | .cons _ (.str _), _, _, _, _, h => absurd (show false = true from h) Bool.false_ne_true
  | .cons _ (.cons _ _), _, _, _, _, h => absurd (show false = true from h) Bool.false_ne_true
  | .cons _ (.tup _), _, _, _, _, h => absurd (show false = true from h) Bool.false_ne_true
  | .cons _ (.lst _), _, _, _, _, h => absurd (show false = true from h) Bool.false_ne_true
  | .cons _ (.bin _ _ _), _, _, _, _, h => absurd (show false = true from h) Bool.false_ne_true
  | .cons _ (.neg _), _, _, _, _, h => absurd (show false = true from h) Bool.false_ne_true
  | .cons _ (.cmp _ _ _), _, _, _, _, h => absurd (show false = true from h) Bool.false_ne_true
  | .cons _ (.leq2 _ _ _), _, _, _, _, h => absurd (show false = true from h) Bool.false_ne_true
  | .cons _ (.and _ _), _, _, _, _, h => absurd (show false = true from h) Bool.false_ne_true
  | .cons _ (.or _ _), _, _, _, _, h => absurd (show false = true from h) Bool.false_ne_true
  | .cons _ (.not _), _, _, _, _, h => absurd (show false = true from h) Bool.false_ne_true
  | .cons _ (.idx _ _), _, _, _, _, h => absurd (show false = true from h) Bool.false_ne_true
  | .cons _ (.slc _ _ _), _, _, _, _, h => absurd (show false = true from h) Bool.false_ne_true
  | .cons _ (.rev _), _, _, _, _, h => absurd (show false = true from h) Bool.false_ne_true
  | .cons _ (.call _ _), _, _, _, _, h => absurd (show false = true from h) Bool.false_ne_true
  | .cons _ (.meth _ _ _), _, _, _, _, h => absurd (show false = true from h) Bool.false_ne_true
  | .cons _ (.bi _ _), _, _, _, _, h => absurd (show false = true from h) Bool.false_ne_true
  | .cons _ (.lrng _), _, _, _, _, h => absurd (show false = true from h) Bool.false_ne_true
  | .cons _ (.sset _), _, _, _, _, h => absurd (show false = true from h) Bool.false_ne_true
  | .cons _ (.lset _), _, _, _, _, h => absurd (show false = true from h) Bool.false_ne_true
  | .cons _ (.isi _ _), _, _, _, _, h => absurd (show false = true from h) Bool.false_ne_true
  | .cons _ (.join _ _), _, _, _, _, h => absurd (show false = true from h) Bool.false_ne_true
  | .cons _ (.split _ _), _, _, _, _, h => absurd (show false = true from h) Bool.false_ne_true
  | .cons _ (.indx _ _), _, _, _, _, h => absurd (show false = true from h) Bool.false_ne_true
  | .cons _ (.nin _ _), _, _, _, _, h => absurd (show false = true from h) Bool.false_ne_true
  | .cons _ (.lc _ _ _ _ _), _, _, _, _, h => absurd (show false = true from h) Bool.false_ne_true
  | .cons _ (.r1 _), _, _, _, _, h => absurd (show false = true from h) Bool.false_ne_true
  | .cons _ (.r2 _ _), _, _, _, _, h => absurd (show false = true from h) Bool.false_ne_true
  | .cons _ (.zp _ _), _, _, _, _, h => absurd (show false = true from h) Bool.false_ne_true
  | .cons _ (.en _), _, _, _, _, h => absurd (show false = true from h) Bool.false_ne_true
  | .cons _ (.mem0 _), _, _, _, _, h => absurd (show false = true from h) Bool.false_ne_true
  | .cons _ (.slvr _), _, _, _, _, h => absurd (show false = true from h) Bool.false_ne_true
  | .cons _ (.game _), _, _, _, _, h => absurd (show false = true from h) Bool.false_ne_true
theorem seF : ∀ (code : C) (X : Cx) (Ex : XK) (G : Good c F dom ps k Ex X) (es : List Expr), mIf dom X.N X.env.scope code es = true → PTs X es (tDF c F Ex code)
  | .nil, X, Ex, G, e, h => by
    unfold mIf at h
    split at h
    · exact ⟨fun pins s σ H Q I ⟨hid, ρ, ha, en, p⟩ => pts_nil.run pins s σ H Q I (p _ H .refl rfl)⟩
    · cases h
  | .cons a .nil, X, Ex, G, e, h => by
    unfold mIf at h
    split at h
    · exact ⟨fun pins s σ H Q I ⟨hid, ρ, ha, en, p⟩ => (pts_one (seB a X Ex G _ h).2).run pins s σ H Q I ⟨hid, ρ, ha, en, p⟩⟩
    · cases h
  | .var _, _, _, _, _, h => absurd (show false = true from h) Bool.false_ne_true
  | .int _, _, _, _, _, h => absurd (show false = true from h) Bool.false_ne_true
  | .bl _, _, _, _, _, h => absurd (show false = true from h) Bool.false_ne_true
  | .non, _, _, _, _, h => absurd (show false = true from h) Bool.false_ne_true
  | .str _, _, _, _, _, h => absurd (show false = true from h) Bool.false_ne_true
  | .tup _, _, _, _, _, h => absurd (show false = true from h) Bool.false_ne_true
  | .lst _, _, _, _, _, h => absurd (show false = true from h) Bool.false_ne_true
  | .bin _ _ _, _, _, _, _, h => absurd (show false = true from h) Bool.false_ne_true
  | .neg _, _, _, _, _, h => absurd (show false = true from h) Bool.false_ne_true
  | .cmp _ _ _, _, _, _, _, h => absurd (show false = true from h) Bool.false_ne_true
  | .leq2 _ _ _, _, _, _, _, h => absurd (show false = true from h) Bool.false_ne_true
  | .and _ _, _, _, _, _, h => absurd (show false = true from h) Bool.false_ne_true
  | .or _ _, _, _, _, _, h => absurd (show false = true from h) Bool.false_ne_true
  | .not _, _, _, _, _, h => absurd (show false = true from h) Bool.false_ne_true
  | .idx _ _, _, _, _, _, h => absurd (show false = true from h) Bool.false_ne_true
  | .slc _ _ _, _, _, _, _, h => absurd (show false = true from h) Bool.false_ne_true
  | .rev _, _, _, _, _, h => absurd (show false = true from h) Bool.false_ne_true
  | .call _ _, _, _, _, _, h => absurd (show false = true from h) Bool.false_ne_true
  | .meth _ _ _, _, _, _, _, h => absurd (show false = true from h) Bool.false_ne_true
  | .bi _ _, _, _, _, _, h => absurd (show false = true from h) Bool.false_ne_true
  | .lrng _, _, _, _, _, h => absurd (show false = true from h) Bool.false_ne_true
  | .sset _, _, _, _, _, h => absurd (show false = true from h) Bool.false_ne_true
  | .lset _, _, _, _, _, h => absurd (show false = true from h) Bool.false_ne_true
  | .isi _ _, _, _, _, _, h => absurd (show false = true from h) Bool.false_ne_true
  | .join _ _, _, _, _, _, h => absurd (show false = true from h) Bool.false_ne_true
  | .split _ _, _, _, _, _, h => absurd (show false = true from h) Bool.false_ne_true
  | .indx _ _, _, _, _, _, h => absurd (show false = true from h) Bool.false_ne_true
  | .nin _ _, _, _, _, _, h => absurd (show false = true from h) Bool.false_ne_true
  | .lc _ _ _ _ _, _, _, _, _, h => absurd (show false = true from h) Bool.false_ne_true
  | .r1 _, _, _, _, _, h => absurd (show false = true from h) Bool.false_ne_true
  | .r2 _ _, _, _, _, _, h => absurd (show false = true from h) Bool.false_ne_true
  | .zp _ _, _, _, _, _, h => absurd (show false = true from h) Bool.false_ne_true
  | .en _, _, _, _, _, h => absurd (show false = true from h) Bool.false_ne_true
  | .mem0 _, _, _, _, _, h => absurd (show false = true from h) Bool.false_ne_true
  | .slvr _, _, _, _, _, h => absurd (show false = true from h) Bool.false_ne_true
  | .game _, _, _, _, _, h => absurd (show false = true from h) Bool.false_ne_true
  | .cons _ (.var _), _, _, _, _, h => absurd (show false = true from h) Bool.false_ne_true
  | .cons _ (.int _), _, _, _, _, h => absurd (show false = true from h) Bool.false_ne_true
  | .cons _ (.bl _), _, _, _, _, h => absurd (show false = true from h) Bool.false_ne_true
  | .cons _ (.non), _, _, _, _, h => absurd (show false = true from h) Bool.false_ne_true
  | .cons _ (.str _), _, _, _, _, h => absurd (show false = true from h) Bool.false_ne_true
  | .cons _ (.cons _ _), _, _, _, _, h => absurd (show false = true from h) Bool.false_ne_true
  | .cons _ (.tup _), _, _, _, _, h => absurd (show false = true from h) Bool.false_ne_true
  | .cons _ (.lst _), _, _, _, _, h => absurd (show false = true from h) Bool.false_ne_true
  | .cons _ (.bin _ _ _), _, _, _, _, h => absurd (show false = true from h) Bool.false_ne_true
  | .cons _ (.neg _), _, _, _, _, h => absurd (show false = true from h) Bool.false_ne_true
  | .cons _ (.cmp _ _ _), _, _, _, _, h => absurd (show false = true from h) Bool.false_ne_true
  | .cons _ (.leq2 _ _ _), _, _, _, _, h => absurd (show false = true from h) Bool.false_ne_true
  | .cons _ (.and _ _), _, _, _, _, h => absurd (show false = true from h) Bool.false_ne_true
  | .cons _ (.or _ _), _, _, _, _, h => absurd (show false = true from h) Bool.false_ne_true
  | .cons _ (.not _), _, _, _, _, h => absurd (show false = true from h) Bool.false_ne_true
  | .cons _ (.idx _ _), _, _, _, _, h => absurd (show false = true from h) Bool.false_ne_true
  | .cons _ (.slc _ _ _), _, _, _, _, h => absurd (show false = true from h) Bool.false_ne_true
  | .cons _ (.rev _), _, _, _, _, h => absurd (show false = true from h) Bool.false_ne_true
  | .cons _ (.call _ _), _, _, _, _, h => absurd (show false = true from h) Bool.false_ne_true
  | .cons _ (.meth _ _ _), _, _, _, _, h => absurd (show false = true from h) Bool.false_ne_true
  | .cons _ (.bi _ _), _, _, _, _, h => absurd (show false = true from h) Bool.false_ne_true
  | .cons _ (.lrng _), _, _, _, _, h => absurd (show false = true from h) Bool.false_ne_true
  | .cons _ (.sset _), _, _, _, _, h => absurd (show false = true from h) Bool.false_ne_true
  | .cons _ (.lset _), _, _, _, _, h => absurd (show false = true from h) Bool.false_ne_true
  | .cons _ (.isi _ _), _, _, _, _, h => absurd (show false = true from h) Bool.false_ne_true
  | .cons _ (.join _ _), _, _, _, _, h => absurd (show false = true from h) Bool.false_ne_true
  | .cons _ (.split _ _), _, _, _, _, h => absurd (show false = true from h) Bool.false_ne_true
  | .cons _ (.indx _ _), _, _, _, _, h => absurd (show false = true from h) Bool.false_ne_true
  | .cons _ (.nin _ _), _, _, _, _, h => absurd (show false = true from h) Bool.false_ne_true
  | .cons _ (.lc _ _ _ _ _), _, _, _, _, h => absurd (show false = true from h) Bool.false_ne_true
  | .cons _ (.r1 _), _, _, _, _, h => absurd (show false = true from h) Bool.false_ne_true
  | .cons _ (.r2 _ _), _, _, _, _, h => absurd (show false = true from h) Bool.false_ne_true
  | .cons _ (.zp _ _), _, _, _, _, h => absurd (show false = true from h) Bool.false_ne_true
  | .cons _ (.en _), _, _, _, _, h => absurd (show false = true from h) Bool.false_ne_true
  | .cons _ (.mem0 _), _, _, _, _, h => absurd (show false = true from h) Bool.false_ne_true
  | .cons _ (.slvr _), _, _, _, _, h => absurd (show false = true from h) Bool.false_ne_true
  | .cons _ (.game _), _, _, _, _, h => absurd (show false = true from h) Bool.false_ne_true
theorem seI : ∀ (code : C) (X : Cx) (Ex : XK) (G : Good c F dom ps k Ex X) (e t : Expr), mIt dom X.N X.env.scope code e t = true → PI X t e (tDI c F Ex code)
  | .r1 a, X, Ex, G, e, t, h => by
    unfold mIt at h
    split at h
    · simp only [Bool.and_eq_true, decide_eq_true_eq, Bool.not_eq_true'] at h
      obtain ⟨⟨⟨h1, h2⟩, h3⟩, h4⟩ := h
      subst h1
      refine pi_imp (pi_range1 (glb_of h2) (G.blt "range" (by decide)) (pa_cons (seB a X Ex G _ h3).1 pa_nil (star_cons h4)) (one_star h4)) fun σ H R ⟨hid, ρ, ha, en, p⟩ => ?_
      rw [IT] at p
      refine ⟨hid, ρ, ha, en, (Post.bind p).imp fun x H1 k1 ⟨d, _, hd, _, p1⟩ => ?_⟩
      rcases @rngD_ok (.int 0) d with ⟨i, j, e1, rfl, o1, o2, o3, q⟩ | q
      · cases e1
        rw [q, Int.sub_zero] at p1
        rw [Int.sub_zero] at o3
        exact ⟨j, by rw [show x = .int j from hd], (rngOk_of o2).1, (rngOk_of o2).2, p1 _ H1 .refl (itd_rng o3)⟩
      · rw [q] at p1; exact p1.elim
    · cases h
  | .r2 a b, X, Ex, G, e, t, h => by
    unfold mIt at h
    split at h
    · simp only [Bool.and_eq_true, decide_eq_true_eq, Bool.not_eq_true'] at h
      obtain ⟨⟨⟨⟨⟨h1, h2⟩, h3⟩, h4⟩, h5⟩, h6⟩ := h
      subst h1
      refine pi_imp (pi_range2 (glb_of h2) (G.blt "range" (by decide)) (pa_cons (seB a X Ex G _ h3).1 (pa_cons (seB b X Ex G _ h5).1 pa_nil (star_cons h6)) (star_cons h4)) (by rw [star_cons h4, one_star h6]) (one_star h6)) fun σ H R ⟨hid, ρ, ha, en, p⟩ => ?_
      rw [IT] at p
      refine ⟨hid, ρ, ha, en, (Post.bind p).imp fun x H1 k1 ⟨d, _, hd, _, p1⟩ => ?_⟩
      refine ⟨hid, ρ, ha.keep k1, en.keep k1, (Post.bind p1).imp fun y H2 k2 ⟨d2, _, he, _, p2⟩ => ?_⟩
      rcases @rngD_ok d d2 with ⟨i, j, rfl, rfl, o1, o2, o3, q⟩ | q
      · rw [q] at p2
        exact ⟨i, j, by rw [show x = .int i from hd, show y = .int j from he], ⟨(rngOk_of o1).1, (rngOk_of o1).2, (rngOk_of o2).1, (rngOk_of o2).2⟩, p2 _ H2 .refl (itd_rng o3)⟩
      · rw [q] at p2; exact p2.elim
    · cases h
  | .en a, X, Ex, G, e, t, h => by
    unfold mIt at h
    split at h
    · simp only [Bool.and_eq_true, decide_eq_true_eq, Bool.not_eq_true'] at h
      obtain ⟨⟨⟨⟨h1, h2⟩, h3⟩, h4⟩, h5⟩ := h
      subst h1
      cases t with
      | Tuple es kk tpos =>
        refine pi_imp (pi_en (glb_of h2) (G.blt "enumerate" (by decide)) (pa_cons (seB a X Ex G _ h3).1 pa_nil (star_cons h4)) (one_star h4)) fun σ H R ⟨hid, ρ, ha, en, p⟩ => ?_
        rw [IT] at p
        refine ⟨hid, ρ, ha, en, (Post.bind p).imp fun x H1 k1 ⟨d, _, hd, _, p1⟩ => ?_⟩
        cases d with
        | lst ds =>
          obtain ⟨q, vs, rfl, hh, hn, tt⟩ := hd
          exact ⟨q, vs, rfl, .inl ⟨hh, fun hz => p1 _ H1 .refl (itd_enum hh hn tt hz)⟩⟩
        | tup ds =>
          obtain ⟨q, vs, rfl, hh, tt⟩ := hd
          exact ⟨q, vs, rfl, .inr ⟨hh, fun hz => p1 _ H1 .refl (itd_enumT hh tt hz)⟩⟩
        | _ => exact p1.elim
      | _ => cases h5
    · cases h
  | .zp a b, X, Ex, G, e, t, h => by
    unfold mIt at h
    split at h
    · simp only [Bool.and_eq_true, decide_eq_true_eq, Bool.not_eq_true'] at h
      obtain ⟨⟨⟨⟨⟨⟨h1, h2⟩, h3⟩, h4⟩, h5⟩, h6⟩, h7⟩ := h
      subst h1
      cases t with
      | Tuple es kk tpos =>
        refine pi_imp (pi_zp (glb_of h2) (G.blt "zip" (by decide)) (pa_cons (seB a X Ex G _ h3).1 (pa_cons (seB b X Ex G _ h5).1 pa_nil (star_cons h6)) (star_cons h4)) (star_cons h4) (by rw [one_star h6]; rfl)) fun σ H R ⟨hid, ρ, ha, en, p⟩ => ?_
        rw [IT] at p
        refine ⟨hid, ρ, ha, en, (Post.bind p).imp fun x H1 k1 ⟨d, _, hd, _, p1⟩ => ?_⟩
        refine ⟨hid, ρ, ha.keep k1, en.keep k1, (Post.bind p1).imp fun y H2 k2 ⟨d2, _, he, _, p2⟩ => ?_⟩
        have hd := hd.keep k2
        cases d2 with
        | tup es =>
          obtain ⟨qb, ws, rfl, hhb, ttb⟩ := he
          cases d with
          | lst ds =>
            obtain ⟨q, vs, rfl, hh, hn, tt⟩ := hd
            exact ⟨q, qb, vs, ws, rfl, hhb, .inl ⟨hh, fun hz => p2 _ H2 .refl (itd_zipM hh hn tt hhb ttb hz)⟩⟩
          | tup ds =>
            obtain ⟨q, vs, rfl, hh, tt⟩ := hd
            exact ⟨q, qb, vs, ws, rfl, hhb, .inr ⟨hh, fun hz => p2 _ H2 .refl (itd_zipT hh tt hhb ttb hz)⟩⟩
          | _ => exact p2.elim
        | _ => exact p2.elim
      | _ => cases h7
    · cases h
  | .cons a .nil, X, Ex, G, e, t, h => by
    unfold mIt at h
    refine pi_imp (pi_seq (seB a X Ex G _ h).1) fun σ H R ⟨hid, ρ, ha, en, p⟩ => ?_
    rw [IT] at p
    refine ⟨hid, ρ, ha, en, (Post.bind p).imp fun x H1 k1 ⟨d, _, hd, _, p1⟩ => ?_⟩
    rcases seqOf_cases d with ⟨es, rfl, q⟩ | ⟨es, rfl, q⟩ | q
    · rw [q] at p1
      obtain ⟨q, vs, rfl, hh, tt⟩ := hd
      exact .inr ⟨q, vs, rfl, hh, fun hz => p1 _ H1 .refl (itd_tup hh tt hz)⟩
    · rw [q] at p1
      obtain ⟨q, vs, rfl, hh, hn, tt⟩ := hd
      exact .inl ⟨q, vs, rfl, hh, fun hz => p1 _ H1 .refl (itd_list hh hn tt hz)⟩
    · rw [q] at p1; exact p1.elim
  | .var _, _, _, _, _, _, h => absurd (show false = true from h) Bool.false_ne_true
  | .int _, _, _, _, _, _, h => absurd (show false = true from h) Bool.false_ne_true
  | .bl _, _, _, _, _, _, h => absurd (show false = true from h) Bool.false_ne_true
  | .non, _, _, _, _, _, h => absurd (show false = true from h) Bool.false_ne_true
  | .str _, _, _, _, _, _, h => absurd (show false = true from h) Bool.false_ne_true
  | .nil, _, _, _, _, _, h => absurd (show false = true from h) Bool.false_ne_true
  | .tup _, _, _, _, _, _, h => absurd (show false = true from h) Bool.false_ne_true
  | .lst _, _, _, _, _, _, h => absurd (show false = true from h) Bool.false_ne_true
  | .bin _ _ _, _, _, _, _, _, h => absurd (show false = true from h) Bool.false_ne_true
  | .neg _, _, _, _, _, _, h => absurd (show false = true from h) Bool.false_ne_true
  | .cmp _ _ _, _, _, _, _, _, h => absurd (show false = true from h) Bool.false_ne_true
  | .leq2 _ _ _, _, _, _, _, _, h => absurd (show false = true from h) Bool.false_ne_true
  | .and _ _, _, _, _, _, _, h => absurd (show false = true from h) Bool.false_ne_true
  | .or _ _, _, _, _, _, _, h => absurd (show false = true from h) Bool.false_ne_true
  | .not _, _, _, _, _, _, h => absurd (show false = true from h) Bool.false_ne_true
  | .idx _ _, _, _, _, _, _, h => absurd (show false = true from h) Bool.false_ne_true
  | .slc _ _ _, _, _, _, _, _, h => absurd (show false = true from h) Bool.false_ne_true
  | .rev _, _, _, _, _, _, h => absurd (show false = true from h) Bool.false_ne_true
  | .call _ _, _, _, _, _, _, h => absurd (show false = true from h) Bool.false_ne_true
  | .meth _ _ _, _, _, _, _, _, h => absurd (show false = true from h) Bool.false_ne_true
  | .bi _ _, _, _, _, _, _, h => absurd (show false = true from h) Bool.false_ne_true
  | .lrng _, _, _, _, _, _, h => absurd (show false = true from h) Bool.false_ne_true
  | .sset _, _, _, _, _, _, h => absurd (show false = true from h) Bool.false_ne_true
  | .lset _, _, _, _, _, _, h => absurd (show false = true from h) Bool.false_ne_true
  | .isi _ _, _, _, _, _, _, h => absurd (show false = true from h) Bool.false_ne_true
  | .join _ _, _, _, _, _, _, h => absurd (show false = true from h) Bool.false_ne_true
  | .split _ _, _, _, _, _, _, h => absurd (show false = true from h) Bool.false_ne_true
  | .indx _ _, _, _, _, _, _, h => absurd (show false = true from h) Bool.false_ne_true
  | .nin _ _, _, _, _, _, _, h => absurd (show false = true from h) Bool.false_ne_true
  | .lc _ _ _ _ _, _, _, _, _, _, h => absurd (show false = true from h) Bool.false_ne_true
  | .mem0 _, _, _, _, _, _, h => absurd (show false = true from h) Bool.false_ne_true
  | .slvr _, _, _, _, _, _, h => absurd (show false = true from h) Bool.false_ne_true
  | .game _, _, _, _, _, _, h => absurd (show false = true from h) Bool.false_ne_true
  | .cons _ (.var _), _, _, _, _, _, h => absurd (show false = true from h) Bool.false_ne_true
  | .cons _ (.int _), _, _, _, _, _, h => absurd (show false = true from h) Bool.false_ne_true
  | .cons _ (.bl _), _, _, _, _, _, h => absurd (show false = true from h) Bool.false_ne_true
  | .cons _ (.non), _, _, _, _, _, h => absurd (show false = true from h) Bool.false_ne_true
  | .cons _ (.str _), _, _, _, _, _, h => absurd (show false = true from h) Bool.false_ne_true
  | .cons _ (.cons _ _), _, _, _, _, _, h => absurd (show false = true from h) Bool.false_ne_true
  | .cons _ (.tup _), _, _, _, _, _, h => absurd (show false = true from h) Bool.false_ne_true
  | .cons _ (.lst _), _, _, _, _, _, h => absurd (show false = true from h) Bool.false_ne_true
  | .cons _ (.bin _ _ _), _, _, _, _, _, h => absurd (show false = true from h) Bool.false_ne_true
  | .cons _ (.neg _), _, _, _, _, _, h => absurd (show false = true from h) Bool.false_ne_true
  | .cons _ (.cmp _ _ _), _, _, _, _, _, h => absurd (show false = true from h) Bool.false_ne_true
  | .cons _ (.leq2 _ _ _), _, _, _, _, _, h => absurd (show false = true from h) Bool.false_ne_true
  | .cons _ (.and _ _), _, _, _, _, _, h => absurd (show false = true from h) Bool.false_ne_true
  | .cons _ (.or _ _), _, _, _, _, _, h => absurd (show false = true from h) Bool.false_ne_true
  | .cons _ (.not _), _, _, _, _, _, h => absurd (show false = true from h) Bool.false_ne_true
  | .cons _ (.idx _ _), _, _, _, _, _, h => absurd (show false = true from h) Bool.false_ne_true
  | .cons _ (.slc _ _ _), _, _, _, _, _, h => absurd (show false = true from h) Bool.false_ne_true
  | .cons _ (.rev _), _, _, _, _, _, h => absurd (show false = true from h) Bool.false_ne_true
  | .cons _ (.call _ _), _, _, _, _, _, h => absurd (show false = true from h) Bool.false_ne_true
  | .cons _ (.meth _ _ _), _, _, _, _, _, h => absurd (show false = true from h) Bool.false_ne_true
  | .cons _ (.bi _ _), _, _, _, _, _, h => absurd (show false = true from h) Bool.false_ne_true
  | .cons _ (.lrng _), _, _, _, _, _, h => absurd (show false = true from h) Bool.false_ne_true
  | .cons _ (.sset _), _, _, _, _, _, h => absurd (show false = true from h) Bool.false_ne_true
  | .cons _ (.lset _), _, _, _, _, _, h => absurd (show false = true from h) Bool.false_ne_true
  | .cons _ (.isi _ _), _, _, _, _, _, h => absurd (show false = true from h) Bool.false_ne_true
  | .cons _ (.join _ _), _, _, _, _, _, h => absurd (show false = true from h) Bool.false_ne_true
  | .cons _ (.split _ _), _, _, _, _, _, h => absurd (show false = true from h) Bool.false_ne_true
  | .cons _ (.indx _ _), _, _, _, _, _, h => absurd (show false = true from h) Bool.false_ne_true
  | .cons _ (.nin _ _), _, _, _, _, _, h => absurd (show false = true from h) Bool.false_ne_true
  | .cons _ (.lc _ _ _ _ _), _, _, _, _, _, h => absurd (show false = true from h) Bool.false_ne_true
  | .cons _ (.r1 _), _, _, _, _, _, h => absurd (show false = true from h) Bool.false_ne_true
  | .cons _ (.r2 _ _), _, _, _, _, _, h => absurd (show false = true from h) Bool.false_ne_true
  | .cons _ (.zp _ _), _, _, _, _, _, h => absurd (show false = true from h) Bool.false_ne_true
  | .cons _ (.en _), _, _, _, _, _, h => absurd (show false = true from h) Bool.false_ne_true
  | .cons _ (.mem0 _), _, _, _, _, _, h => absurd (show false = true from h) Bool.false_ne_true
  | .cons _ (.slvr _), _, _, _, _, _, h => absurd (show false = true from h) Bool.false_ne_true
  | .cons _ (.game _), _, _, _, _, _, h => absurd (show false = true from h) Bool.false_ne_true
theorem seTAnd : ∀ (code : C) (X : Cx) (Ex : XK) (G : Good c F dom ps k Ex X) (es : List Expr) (pos : Pos), mAnd dom X.N X.env.scope code es = true → PW X (.BoolOp .And es pos) (tDT c F Ex code)
  | .and a b, X, Ex, G, es, pos, h => by
    unfold mAnd at h
    split at h
    · rw [Bool.and_eq_true] at h
      exact pw_imp (pw_and (seB a X Ex G _ h.1).2 (pw_and1 (seB b X Ex G _ h.2).2)) fun σ H Q q => tread_and q
    · rw [Bool.and_eq_true] at h
      exact pw_imp (pw_and (seB a X Ex G _ h.1).2 (seTAnd b X Ex G _ pos h.2)) fun σ H Q q => tread_and q
    · cases h
  | .var _, _, _, _, _, _, h => absurd (show false = true from h) Bool.false_ne_true
  | .int _, _, _, _, _, _, h => absurd (show false = true from h) Bool.false_ne_true
  | .bl _, _, _, _, _, _, h => absurd (show false = true from h) Bool.false_ne_true
  | .non, _, _, _, _, _, h => absurd (show false = true from h) Bool.false_ne_true
  | .str _, _, _, _, _, _, h => absurd (show false = true from h) Bool.false_ne_true
  | .nil, _, _, _, _, _, h => absurd (show false = true from h) Bool.false_ne_true
  | .cons _ _, _, _, _, _, _, h => absurd (show false = true from h) Bool.false_ne_true
  | .tup _, _, _, _, _, _, h => absurd (show false = true from h) Bool.false_ne_true
  | .lst _, _, _, _, _, _, h => absurd (show false = true from h) Bool.false_ne_true
  | .bin _ _ _, _, _, _, _, _, h => absurd (show false = true from h) Bool.false_ne_true
  | .neg _, _, _, _, _, _, h => absurd (show false = true from h) Bool.false_ne_true
  | .cmp _ _ _, _, _, _, _, _, h => absurd (show false = true from h) Bool.false_ne_true
  | .leq2 _ _ _, _, _, _, _, _, h => absurd (show false = true from h) Bool.false_ne_true
  | .or _ _, _, _, _, _, _, h => absurd (show false = true from h) Bool.false_ne_true
  | .not _, _, _, _, _, _, h => absurd (show false = true from h) Bool.false_ne_true
  | .idx _ _, _, _, _, _, _, h => absurd (show false = true from h) Bool.false_ne_true
  | .slc _ _ _, _, _, _, _, _, h => absurd (show false = true from h) Bool.false_ne_true
  | .rev _, _, _, _, _, _, h => absurd (show false = true from h) Bool.false_ne_true
  | .call _ _, _, _, _, _, _, h => absurd (show false = true from h) Bool.false_ne_true
  | .meth _ _ _, _, _, _, _, _, h => absurd (show false = true from h) Bool.false_ne_true
  | .bi _ _, _, _, _, _, _, h => absurd (show false = true from h) Bool.false_ne_true
  | .lrng _, _, _, _, _, _, h => absurd (show false = true from h) Bool.false_ne_true
  | .sset _, _, _, _, _, _, h => absurd (show false = true from h) Bool.false_ne_true
  | .lset _, _, _, _, _, _, h => absurd (show false = true from h) Bool.false_ne_true
  | .isi _ _, _, _, _, _, _, h => absurd (show false = true from h) Bool.false_ne_true
  | .join _ _, _, _, _, _, _, h => absurd (show false = true from h) Bool.false_ne_true
  | .split _ _, _, _, _, _, _, h => absurd (show false = true from h) Bool.false_ne_true
  | .indx _ _, _, _, _, _, _, h => absurd (show false = true from h) Bool.false_ne_true
  | .nin _ _, _, _, _, _, _, h => absurd (show false = true from h) Bool.false_ne_true
  | .lc _ _ _ _ _, _, _, _, _, _, h => absurd (show false = true from h) Bool.false_ne_true
  | .r1 _, _, _, _, _, _, h => absurd (show false = true from h) Bool.false_ne_true
  | .r2 _ _, _, _, _, _, _, h => absurd (show false = true from h) Bool.false_ne_true
  | .zp _ _, _, _, _, _, _, h => absurd (show false = true from h) Bool.false_ne_true
  | .en _, _, _, _, _, _, h => absurd (show false = true from h) Bool.false_ne_true
  | .mem0 _, _, _, _, _, _, h => absurd (show false = true from h) Bool.false_ne_true
  | .slvr _, _, _, _, _, _, h => absurd (show false = true from h) Bool.false_ne_true
  | .game _, _, _, _, _, _, h => absurd (show false = true from h) Bool.false_ne_true
theorem seTOr : ∀ (code : C) (X : Cx) (Ex : XK) (G : Good c F dom ps k Ex X) (es : List Expr) (pos : Pos), mOr dom X.N X.env.scope code es = true → PW X (.BoolOp .Or es pos) (tDT c F Ex code)
  | .or a b, X, Ex, G, es, pos, h => by
    unfold mOr at h
    split at h
    · rw [Bool.and_eq_true] at h
      exact pw_imp (pw_or (seB a X Ex G _ h.1).2 (pw_or1 (seB b X Ex G _ h.2).2)) fun σ H Q q => tread_or q
    · rw [Bool.and_eq_true] at h
      exact pw_imp (pw_or (seB a X Ex G _ h.1).2 (seTOr b X Ex G _ pos h.2)) fun σ H Q q => tread_or q
    · cases h
  | .var _, _, _, _, _, _, h => absurd (show false = true from h) Bool.false_ne_true
  | .int _, _, _, _, _, _, h => absurd (show false = true from h) Bool.false_ne_true
  | .bl _, _, _, _, _, _, h => absurd (show false = true from h) Bool.false_ne_true
  | .non, _, _, _, _, _, h => absurd (show false = true from h) Bool.false_ne_true
  | .str _, _, _, _, _, _, h => absurd (show false = true from h) Bool.false_ne_true
  | .nil, _, _, _, _, _, h => absurd (show false = true from h) Bool.false_ne_true
  | .cons _ _, _, _, _, _, _, h => absurd (show false = true from h) Bool.false_ne_true
  | .tup _, _, _, _, _, _, h => absurd (show false = true from h) Bool.false_ne_true
  | .lst _, _, _, _, _, _, h => absurd (show false = true from h) Bool.false_ne_true
  | .bin _ _ _, _, _, _, _, _, h => absurd (show false = true from h) Bool.false_ne_true
  | .neg _, _, _, _, _, _, h => absurd (show false = true from h) Bool.false_ne_true
  | .cmp _ _ _, _, _, _, _, _, h => absurd (show false = true from h) Bool.false_ne_true
  | .leq2 _ _ _, _, _, _, _, _, h => absurd (show false = true from h) Bool.false_ne_true
  | .and _ _, _, _, _, _, _, h => absurd (show false = true from h) Bool.false_ne_true
  | .not _, _, _, _, _, _, h => absurd (show false = true from h) Bool.false_ne_true
  | .idx _ _, _, _, _, _, _, h => absurd (show false = true from h) Bool.false_ne_true
  | .slc _ _ _, _, _, _, _, _, h => absurd (show false = true from h) Bool.false_ne_true
  | .rev _, _, _, _, _, _, h => absurd (show false = true from h) Bool.false_ne_true
  | .call _ _, _, _, _, _, _, h => absurd (show false = true from h) Bool.false_ne_true
  | .meth _ _ _, _, _, _, _, _, h => absurd (show false = true from h) Bool.false_ne_true
  | .bi _ _, _, _, _, _, _, h => absurd (show false = true from h) Bool.false_ne_true
  | .lrng _, _, _, _, _, _, h => absurd (show false = true from h) Bool.false_ne_true
  | .sset _, _, _, _, _, _, h => absurd (show false = true from h) Bool.false_ne_true
  | .lset _, _, _, _, _, _, h => absurd (show false = true from h) Bool.false_ne_true
  | .isi _ _, _, _, _, _, _, h => absurd (show false = true from h) Bool.false_ne_true
  | .join _ _, _, _, _, _, _, h => absurd (show false = true from h) Bool.false_ne_true
  | .split _ _, _, _, _, _, _, h => absurd (show false = true from h) Bool.false_ne_true
  | .indx _ _, _, _, _, _, _, h => absurd (show false = true from h) Bool.false_ne_true
  | .nin _ _, _, _, _, _, _, h => absurd (show false = true from h) Bool.false_ne_true
  | .lc _ _ _ _ _, _, _, _, _, _, h => absurd (show false = true from h) Bool.false_ne_true
  | .r1 _, _, _, _, _, _, h => absurd (show false = true from h) Bool.false_ne_true
  | .r2 _ _, _, _, _, _, _, h => absurd (show false = true from h) Bool.false_ne_true
  | .zp _ _, _, _, _, _, _, h => absurd (show false = true from h) Bool.false_ne_true
  | .en _, _, _, _, _, _, h => absurd (show false = true from h) Bool.false_ne_true
  | .mem0 _, _, _, _, _, _, h => absurd (show false = true from h) Bool.false_ne_true
  | .slvr _, _, _, _, _, _, h => absurd (show false = true from h) Bool.false_ne_true
  | .game _, _, _, _, _, _, h => absurd (show false = true from h) Bool.false_ne_true
end
end
end FC

/-! Statements: what the frame's names stand for; blocks; small statements. -/
set_option autoImplicit false
set_option linter.all false
set_option maxRecDepth 100000
set_option maxHeartbeats 8000000
set_option Elab.async false
namespace FC
open PySem L2

/-- the names of a frame: data that stays; lists of its own, each at one name -/
structure EnvS (c : PCx) (hid own : Addr → Prop) (H : Hp) (σ : L2.St) (ρ : FC.Env) : Prop where
  len : List.length σ = List.length ρ
  im : ∀ (i : Nat) (d : D), ρ[i]? = some (.im d) → ∃ v, σ[i]? = some (some v) ∧ Rp c H (fun a => hid a ∨ own a) d v
  ow : ∀ (i : Nat) (ds : List D), ρ[i]? = some (.ow ds) → ∃ a vs, σ[i]? = some (some (.ref a)) ∧ H a = some (.lst vs) ∧ RpL c H (fun a => hid a ∨ own a) ds vs ∧ own a ∧ ¬ hid a
  inj : ∀ (i j : Nat) (a : Addr) (ds es : List D), ρ[i]? = some (.ow ds) → ρ[j]? = some (.ow es) → σ[i]? = some (some (.ref a)) → σ[j]? = some (some (.ref a)) → i = j
  al : HA own H
section
variable {c : PCx} {hid own own' : Addr → Prop} {H H1 : Hp} {σ : L2.St} {ρ : FC.Env}
theorem strict_get {i : Nat} {d : D} (h : (strict ρ)[i]? = some (some d)) : ρ[i]? = some (.im d) := by
  unfold strict at h
  rw [List.getElem?_map] at h
  cases e : ρ[i]? with
  | none => rw [e] at h; cases h
  | some s =>
    rw [e] at h
    cases s with
    | no => cases h
    | im d' => cases h; rfl
    | ow ds => cases h
theorem EnvS.strict (h : EnvS c hid own H σ ρ) : EnvI c H (fun a => hid a ∨ own a) σ (FC.strict ρ) :=
  ⟨by rw [h.len]; unfold FC.strict; rw [List.length_map], fun i d e => h.im i d (strict_get e)⟩
theorem EnvS.view (h : EnvS c hid own H σ ρ) : EnvI c H hid σ (FC.view ρ) := by
  refine ⟨by rw [h.len]; unfold FC.view; rw [List.length_map], fun i d e => ?_⟩
  unfold FC.view at e
  rw [List.getElem?_map] at e
  cases q : ρ[i]? with
  | none => rw [q] at e; cases e
  | some s =>
    rw [q] at e
    cases s with
    | no => cases e
    | im d' =>
      cases e
      obtain ⟨v, a, b⟩ := h.im i d q
      exact ⟨v, a, b.anti fun a z => .inl z⟩
    | ow ds =>
      cases e
      obtain ⟨a, vs, e1, e2, e3, _, e5⟩ := h.ow i ds q
      exact ⟨.ref a, e1, a, vs, rfl, e2, e5, e3.anti fun a z => .inl z⟩
theorem HA.or {p q : Addr → Prop} (a : HA p H) (b : HA q H) : HA (fun x => p x ∨ q x) H := fun x e z => z.elim (a x e) (b x e)
/-- the heap grows, own lists as they are -/
theorem EnvS.keep (h : EnvS c hid own H σ ρ) (k : Kp c nohid H H1) : EnvS c hid own H1 σ ρ :=
  ⟨h.len, fun i d e => let ⟨v, a, b⟩ := h.im i d e; ⟨v, a, b.keep k⟩, fun i ds e => let ⟨a, vs, e1, e2, e3, e4, e5⟩ := h.ow i ds e; ⟨a, vs, e1, k.lst e2 id, e3.keep k, e4, e5⟩, h.inj, h.al.keep k⟩
/-- a name given data -/
theorem EnvS.setIm {i : Nat} {d : D} {v : V} (h : EnvS c hid own H σ ρ) (hd : Rp c H (fun a => hid a ∨ own a) d v) : EnvS c hid own H (σ.set i (some v)) (ρ.set i (.im d)) := by
  have get : ∀ {j : Nat} {s : Sl}, (ρ.set i (.im d))[j]? = some s → (j = i ∧ i < ρ.length ∧ s = .im d) ∨ (j ≠ i ∧ ρ[j]? = some s) := fun {j s} e => by
    by_cases hj : j = i
    · subst hj
      have hl : j < ρ.length := by simpa using (List.getElem?_eq_some_iff.mp e).1
      rw [List.getElem?_set_self hl] at e
      exact .inl ⟨rfl, hl, (Option.some.inj e).symm⟩
    · rw [List.getElem?_set_ne (Ne.symm hj)] at e
      exact .inr ⟨hj, e⟩
  have sg : ∀ {j : Nat}, j ≠ i → (σ.set i (some v))[j]? = σ[j]? := fun {j} hj => List.getElem?_set_ne (Ne.symm hj)
  refine ⟨by rw [List.length_set, List.length_set]; exact h.len, fun j e q => ?_, fun j ds q => ?_, fun j k a ds es q1 q2 p1 p2 => ?_, h.al⟩
  · rcases get q with ⟨rfl, hl, e1⟩ | ⟨hj, q⟩
    · cases e1
      exact ⟨v, List.getElem?_set_self (by rw [h.len]; exact hl), hd⟩
    · rw [sg hj]; exact h.im j e q
  · rcases get q with ⟨rfl, hl, e1⟩ | ⟨hj, q⟩
    · cases e1
    · rw [sg hj]; exact h.ow j ds q
  · rcases get q1 with ⟨rfl, hl, e1⟩ | ⟨hj, q1⟩
    · cases e1
    · rcases get q2 with ⟨rfl, hl, e1⟩ | ⟨hk, q2⟩
      · cases e1
      · rw [sg hj] at p1
        rw [sg hk] at p2
        exact h.inj j k a ds es q1 q2 p1 p2
/-- a name given a new list of its own -/
theorem EnvS.setOw {i : Nat} {ds : List D} {vs : List V} {p : Addr} (h : EnvS c hid own H σ ρ) (ha : HA hid H) (hp : H p = none) (hd : RpL c H (fun a => hid a ∨ own a) ds vs) :
    EnvS c hid (fun a => own a ∨ a = p) (upd H p (.lst vs)) (σ.set i (some (.ref p))) (ρ.set i (.ow ds)) := by
  have k : Kp c nohid H (upd H p (.lst vs)) := .new hp
  have fr : ∀ {d : D} {v : V}, Rp c H (fun a => hid a ∨ own a) d v → Rp c (upd H p (.lst vs)) (fun a => hid a ∨ own a ∨ a = p) d v := fun r => (r.freshS fun a z => by
    rcases z with z | z | z
    · exact .inl (.inl z)
    · exact .inl (.inr z)
    · exact .inr (by rw [z]; exact hp)).keep k
  have frL : ∀ {d : List D} {v : List V}, RpL c H (fun a => hid a ∨ own a) d v → RpL c (upd H p (.lst vs)) (fun a => hid a ∨ own a ∨ a = p) d v := fun r => (r.freshS fun a z => by
    rcases z with z | z | z
    · exact .inl (.inl z)
    · exact .inl (.inr z)
    · exact .inr (by rw [z]; exact hp)).keep k
  have get : ∀ {j : Nat} {s : Sl}, (ρ.set i (.ow ds))[j]? = some s → (j = i ∧ i < ρ.length ∧ s = .ow ds) ∨ (j ≠ i ∧ ρ[j]? = some s) := fun {j s} e => by
    by_cases hj : j = i
    · subst hj
      have hl : j < ρ.length := by simpa using (List.getElem?_eq_some_iff.mp e).1
      rw [List.getElem?_set_self hl] at e
      exact .inl ⟨rfl, hl, (Option.some.inj e).symm⟩
    · rw [List.getElem?_set_ne (Ne.symm hj)] at e
      exact .inr ⟨hj, e⟩
  have sg : ∀ {j : Nat}, j ≠ i → (σ.set i (some (V.ref p)))[j]? = σ[j]? := fun {j} hj => List.getElem?_set_ne (Ne.symm hj)
  refine ⟨by rw [List.length_set, List.length_set]; exact h.len, fun j e q => ?_, fun j ds' q => ?_, fun j k a ds' es q1 q2 p1 p2 => ?_, ?_⟩
  · rcases get q with ⟨rfl, hl, e1⟩ | ⟨hj, q⟩
    · cases e1
    · rw [sg hj]
      obtain ⟨v, a, b⟩ := h.im j e q
      exact ⟨v, a, fr b⟩
  · rcases get q with ⟨rfl, hl, e1⟩ | ⟨hj, q⟩
    · cases e1
      exact ⟨p, vs, List.getElem?_set_self (by rw [h.len]; exact hl), upd_same, frL hd, .inr rfl, ha p hp⟩
    · rw [sg hj]
      obtain ⟨a, ws, e1, e2, e3, e4, e5⟩ := h.ow j ds' q
      exact ⟨a, ws, e1, k.lst e2 id, frL e3, .inl e4, e5⟩
  · rcases get q1 with ⟨rfl, hl, e1⟩ | ⟨hj, q1⟩
    · rcases get q2 with ⟨rfl, hl2, e2⟩ | ⟨hk, q2⟩
      · rfl
      · rw [List.getElem?_set_self (by rw [h.len]; exact hl)] at p1
        cases p1
        rw [sg hk] at p2
        obtain ⟨a, ws, e1, e2, _⟩ := h.ow k es q2
        rw [e1] at p2
        cases p2
        rw [hp] at e2
        cases e2
    · have r1 := q1
      rcases get q2 with ⟨rfl, hl2, e2⟩ | ⟨hk, q2⟩
      · rw [List.getElem?_set_self (by rw [h.len]; exact hl2)] at p2
        cases p2
        rw [sg hj] at p1
        obtain ⟨a, ws, e1, e2, _⟩ := h.ow j ds' r1
        rw [e1] at p1
        cases p1
        rw [hp] at e2
        cases e2
      · rw [sg hj] at p1
        rw [sg hk] at p2
        exact h.inj j k a ds' es q1 q2 p1 p2
  · intro a e z
    rcases z with z | z
    · exact h.al.keep k a e z
    · rw [z, upd_same] at e; cases e
/-- an own list changed in its place -/
theorem EnvS.updOw {i : Nat} {ds es : List D} {vs ws : List V} {p : Addr} (h : EnvS c hid own H σ ρ) (hi : ρ[i]? = some (.ow ds)) (hs : σ[i]? = some (some (.ref p))) (hp : H p = some (.lst vs)) (ho : own p) (nh : ¬ hid p) (hd : RpL c H (fun a => hid a ∨ own a) es ws) :
    EnvS c hid own (upd H p (.lst ws)) σ (ρ.set i (.ow es)) := by
  have k : Kp c (fun a => hid a ∨ own a) H (upd H p (.lst ws)) := .lset hp (.inr ho)
  have hl : i < ρ.length := (List.getElem?_eq_some_iff.mp hi).1
  have get : ∀ {j : Nat} {s : Sl}, (ρ.set i (.ow es))[j]? = some s → (j = i ∧ s = .ow es) ∨ (j ≠ i ∧ ρ[j]? = some s) := fun {j s} e => by
    by_cases hj : j = i
    · subst hj
      rw [List.getElem?_set_self hl] at e
      exact .inl ⟨rfl, (Option.some.inj e).symm⟩
    · rw [List.getElem?_set_ne (Ne.symm hj)] at e
      exact .inr ⟨hj, e⟩
  refine ⟨by rw [List.length_set]; exact h.len, fun j e q => ?_, fun j ds' q => ?_, fun j m a ds' es' q1 q2 p1 p2 => ?_, fun a e z => h.al a (k.alive a e) z⟩
  · rcases get q with ⟨rfl, e1⟩ | ⟨hj, q⟩
    · cases e1
    · obtain ⟨v, a, b⟩ := h.im j e q
      exact ⟨v, a, b.mono k fun _ z => z⟩
  · rcases get q with ⟨rfl, e1⟩ | ⟨hj, q⟩
    · cases e1
      exact ⟨p, ws, hs, upd_same, hd.mono k fun _ z => z, ho, nh⟩
    · obtain ⟨a, us, e1, e2, e3, e4, e5⟩ := h.ow j ds' q
      have ne : a ≠ p := fun e => hj (h.inj j i p ds' ds q hi (by rw [e1, e]) hs)
      exact ⟨a, us, e1, by rw [upd_ne ne]; exact e2, e3.mono k fun _ z => z, e4, e5⟩
  · have f : ∀ {j : Nat} {x : List D}, (ρ.set i (.ow es))[j]? = some (.ow x) → ∃ y, ρ[j]? = some (.ow y) := fun {j x} q => by
      rcases get q with ⟨rfl, e1⟩ | ⟨_, q⟩
      · exact ⟨ds, hi⟩
      · exact ⟨_, q⟩
    obtain ⟨y1, r1⟩ := f q1
    obtain ⟨y2, r2⟩ := f q2
    exact h.inj j m a y1 y2 r1 r2 p1 p2
/-- a list of its own is no more changed -/
theorem EnvS.frz {i : Nat} {s : Sl} (h : EnvS c hid own H σ ρ) (hi : ρ[i]? = some s) : ∃ own', (∀ a, own' a → own a) ∧ EnvS c hid own' H σ (ρ.set i s.frz) := by
  have hl : i < ρ.length := (List.getElem?_eq_some_iff.mp hi).1
  cases s with
  | no =>
    refine ⟨own, fun _ z => z, ?_⟩
    have e : ρ.set i (Sl.frz .no) = ρ := by
      apply List.ext_getElem?
      intro j
      by_cases hj : j = i
      · subst hj; rw [List.getElem?_set_self hl, hi]; rfl
      · rw [List.getElem?_set_ne (Ne.symm hj)]
    rw [e]; exact h
  | im d =>
    refine ⟨own, fun _ z => z, ?_⟩
    have e : ρ.set i (Sl.frz (.im d)) = ρ := by
      apply List.ext_getElem?
      intro j
      by_cases hj : j = i
      · subst hj; rw [List.getElem?_set_self hl, hi]; rfl
      · rw [List.getElem?_set_ne (Ne.symm hj)]
    rw [e]; exact h
  | ow ds =>
    obtain ⟨p, vs, e1, e2, e3, e4, e5⟩ := h.ow i ds hi
    refine ⟨fun a => own a ∧ a ≠ p, fun _ z => z.1, ?_⟩
    have get : ∀ {j : Nat} {s : Sl}, (ρ.set i (.im (.lst ds)))[j]? = some s → (j = i ∧ s = .im (.lst ds)) ∨ (j ≠ i ∧ ρ[j]? = some s) := fun {j s} e => by
      by_cases hj : j = i
      · subst hj
        rw [List.getElem?_set_self hl] at e
        exact .inl ⟨rfl, (Option.some.inj e).symm⟩
      · rw [List.getElem?_set_ne (Ne.symm hj)] at e
        exact .inr ⟨hj, e⟩
    have sub : ∀ a, (hid a ∨ (own a ∧ a ≠ p)) → (hid a ∨ own a) := fun a z => z.imp_right And.left
    refine ⟨by rw [List.length_set]; exact h.len, fun j e q => ?_, fun j ds' q => ?_, fun j m a ds' es' q1 q2 p1 p2 => ?_, fun a e z => h.al a e z.1⟩
    · rcases get q with ⟨rfl, r⟩ | ⟨hj, q⟩
      · cases r
        exact ⟨.ref p, e1, p, vs, rfl, e2, fun z => z.elim e5 fun z => z.2 rfl, e3.anti sub⟩
      · obtain ⟨v, a, b⟩ := h.im j e q
        exact ⟨v, a, b.anti sub⟩
    · rcases get q with ⟨rfl, r⟩ | ⟨hj, q⟩
      · cases r
      · obtain ⟨a, us, g1, g2, g3, g4, g5⟩ := h.ow j ds' q
        have ne : a ≠ p := fun e => hj (h.inj j i p ds' ds q hi (by rw [g1, e]) e1)
        exact ⟨a, us, g1, g2, g3.anti sub, ⟨g4, ne⟩, g5⟩
    · rcases get q1 with ⟨_, r⟩ | ⟨_, q1⟩
      · cases r
      · rcases get q2 with ⟨_, r⟩ | ⟨_, q2⟩
        · cases r
        · exact h.inj j m a ds' es' q1 q2 p1 p2
theorem Kp.step {H2 : Hp} (a : Kp c own H H1) (b : Kp c own' H1 H2) (s : ∀ x, own' x → own x ∨ H x = none) : Kp c own H H2 :=
  ⟨fun x o e n q => b.keep x o (a.keep x o e n q) n fun z => (s x z).elim q fun z => (by rw [z] at e; cases e), fun p g x ks h => b.memoP p g x ks (a.memoP p g x ks h), fun x e => a.alive x (b.alive x e)⟩
end

/-! ### what is wanted behind statements -/
def FlP (c : PCx) (Ex : XK) (hid own : Addr → Prop) (H : Hp) (r : Res Fl) (Dn : Ends) : Prop := match r with
  | .ok (.nx ρ') => ∀ own' σ' H', Kp c own H H' → (∀ a, own' a → own a ∨ H a = none) → EnvS c hid own' H' σ' ρ' → Dn.nx σ' H'
  | .ok (.rt d) => ∀ v H', Kp c own H H' → Rp c H' hid d v → Dn.rt v H'
  | .exc n => ∀ H', Kp c own H H' → Ex (.ref (c.xc n)) none H'
  | .bad => False
def tS (c : PCx) (F : Fn → List D → Res D) (Ex : XK) (code : S) : TS := fun Dn σ H => ∃ hid own ρ, HA hid H ∧ EnvS c hid own H σ ρ ∧ FlP c Ex hid own H (exec F code ρ) Dn
section
variable {c : PCx} {Ex : XK} {hid own own' : Addr → Prop} {H H1 : Hp} {r : Res Fl} {Dn : Ends}
theorem FlP.step (h : FlP c Ex hid own H r Dn) (k : Kp c own H H1) (s : ∀ a, own' a → own a ∨ H a = none) : FlP c Ex hid own' H1 r Dn := by
  cases r with
  | ok f =>
    cases f with
    | nx ρ' => exact fun own'' σ' H' k' s' en => h own'' σ' H' (k.step k' s) (fun a z => (s' a z).elim (s a) fun e => .inr (k.alive a e)) en
    | rt d => exact fun v H' k' rv => h v H' (k.step k' s) rv
  | exc n => exact fun H' k' => h H' (k.step k' s)
  | bad => exact h
theorem FlP.keep (h : FlP c Ex hid own H r Dn) (k : Kp c nohid H H1) : FlP c Ex hid own H1 r Dn := h.step k.all fun a z => .inl z
/-- behind a piece that gives data -/
theorem FlP.bindD {α β : Type} {R : Hp → α → β → Prop} {r : Res α} {k : α → Res Fl} (h : FlP c Ex hid own H (r.bind k) Dn) :
    Post c Ex R r H (fun b H1 => ∃ a, r = .ok a ∧ R H1 a b ∧ Kp c nohid H H1 ∧ FlP c Ex hid own H1 (k a) Dn) := by
  cases r with
  | ok a => exact fun b H' k' q => ⟨a, rfl, q, k', h.keep k'⟩
  | exc n => exact fun H' k' => h H' k'.all
  | bad => exact h
end
theorem ps_imp {X : Cx} {st : Stmt} {t t' : TS} (h : PS X st t) (i : ∀ D σ H, t' D σ H → t D σ H) : PS X st t' := ⟨fun pins s σ H D I w => h.run pins s σ H D I (i D σ H w)⟩
theorem pss_imp {X : Cx} {st : List Stmt} {t t' : TS} (h : PSs X st t) (i : ∀ D σ H, t' D σ H → t D σ H) : PSs X st t' := ⟨fun pins s σ H D I w => h.run pins s σ H D I (i D σ H w)⟩
end FC

/-! Statements do what their code says. -/
set_option autoImplicit false
set_option linter.all false
set_option maxRecDepth 100000
set_option maxHeartbeats 8000000
set_option Elab.async false
namespace FC
open PySem L2

/-! ### a new list -/
def freshC : C → Bool
  | .lst _ => true | .lrng _ => true | .bi .list (.cons _ .nil) => true | .bin .add _ _ => true
  | _ => false
def PostF (c : PCx) (Ex : XK) (hid : Addr → Prop) (r : Res D) (H : Hp) (Q : VK) : Prop := match r with
  | .ok (.lst ds) => ∀ p vs H1, Kp c nohid H H1 → H1 p = none → RpL c H1 hid ds vs → Q (.ref p) (upd H1 p (.lst vs))
  | .ok _ => False
  | .exc n => ∀ H', Kp c nohid H H' → Ex (.ref (c.xc n)) none H'
  | .bad => False
def tF (c : PCx) (F : Fn → List D → Res D) (Ex : XK) (code : C) : TE := fun σ H Q => ∃ hid ρ, HA hid H ∧ EnvI c H hid σ ρ ∧ PostF c Ex hid (E F code ρ) H Q
section
variable {c : PCx} {Ex : XK} {hid : Addr → Prop} {H H1 : Hp} {r : Res D} {Q : VK}
theorem PostF.mono (k : Kp c nohid H H1) (h : PostF c Ex hid r H Q) : PostF c Ex hid r H1 Q := by
  cases r with
  | ok d =>
    cases d with
    | lst ds => exact fun p vs H2 k2 => h p vs H2 (k.trans k2)
    | _ => exact h
  | exc n => exact fun H' k' => h H' (k.trans k')
  | bad => exact h
theorem PostF.bind {α β : Type} {R : Hp → α → β → Prop} {r : Res α} {k : α → Res D} (h : PostF c Ex hid (r.bind k) H Q) :
    Post c Ex R r H (fun b H1 => ∃ a, r = .ok a ∧ R H1 a b ∧ Kp c nohid H H1 ∧ PostF c Ex hid (k a) H1 Q) := by
  cases r with
  | ok a => exact fun b H' k' q => ⟨a, rfl, q, k', h.mono k'⟩
  | exc n => exact h
  | bad => exact h
end
def rCatF (c : PCx) : R2 := fun x y H Q => ∃ hid d e Ex, HA hid H ∧ Rp c H hid d x ∧ Rp c H hid e y ∧ PostF c Ex hid (binD .add d e) H Q
theorem op_catF {X : Cx} {c : PCx} : OpR X (binaryOp .Add) (rCatF c) := by
  intro pins s σ H x y v u Q I rx ry ⟨hid, d, e, Ex, ha, hd, he, p⟩
  cases d <;> cases e <;> first | exact False.elim p | skip
  · rename_i i j
    simp only [binD] at p
    split at p <;> exact p.elim
  · rename_i ds es
    simp only [binD, mkT] at p
    split at p <;> exact p.elim
  · rename_i ds es
    simp only [binD, mkL] at p
    split at p
    · rename_i hl
      obtain ⟨a, vs, rfl, h1, n1, t1⟩ := hd
      obtain ⟨b, ws, rfl, h2, n2, t2⟩ := he
      refine op_cat pins s σ H _ _ v u Q I rx ry ⟨a, b, vs, ws, rfl, rfl, h1, h2, ?_, fun q hq => ?_⟩
      · rw [t1.len, t2.len, ← List.length_append]; exact Nat.le_trans hl lim_le
      · exact p q _ H .refl hq (t1.append t2)
    · exact p.elim
def rLstF (c : PCx) : List V → Hp → VK → Prop := fun xs H Q => ∃ hid ds Ex, HA hid H ∧ RpL c H hid ds xs ∧ PostF c Ex hid (biD .list ds) H Q
theorem call_listF {X : Cx} {c : PCx} : CallR X (.type "list") (rLstF c) := by
  intro pins s σ H xs us Q I r ⟨hid, ds, Ex, ha, hd, p⟩
  rcases ds with _ | ⟨d, _ | ⟨d', ds⟩⟩
  · exact p.elim
  · obtain ⟨v, rfl, h⟩ := hd.one
    simp only [biD] at p
    rcases seqOf_cases d with ⟨es, rfl, e⟩ | ⟨es, rfl, e⟩ | e
    · rw [e] at p
      obtain ⟨a, vs, rfl, h1, t⟩ := h
      exact call_list_of pins s σ H _ us Q I r ⟨a, vs, rfl, .inr (SqT.of h1), fun l hl => p l _ H .refl hl t⟩
    · rw [e] at p
      obtain ⟨a, vs, rfl, h1, n, t⟩ := h
      exact call_list_of pins s σ H _ us Q I r ⟨a, vs, rfl, .inl (SqL.of h1), fun l hl => p l _ H .refl hl t⟩
    · rw [e] at p; exact p.elim
  · exact p.elim
section
variable {c : PCx} {F : Fn → List D → Res D} {dom : Fn → Bool} {ps : Fn → List Str} {k : Nat}
theorem seFresh : ∀ (code : C) (X : Cx) (Ex : XK) (G : Good c F dom ps k Ex X) (e : Expr), freshC code = true → mE dom X.N X.env.scope code e = true → PE X e (tF c F Ex code) := by
  intro code X Ex G e hf h
  cases code with
  | lst a =>
    unfold mE at h
    split at h
    · refine pe_imp (pe_lst (seL a X Ex G _ h)) fun σ H Q ⟨hid, ρ, ha, en, p⟩ => ?_
      rw [E] at p
      refine ⟨hid, ρ, ha, en, (PostF.bind p).imp fun vs H1 k1 ⟨ds, _, hd, _, p1⟩ => ?_⟩
      unfold mkL at p1
      split at p1
      · rename_i hl
        exact ⟨by rw [hd.len]; exact Nat.le_trans hl lim_le, fun q hq => p1 q _ H1 .refl hq hd⟩
      · exact p1.elim
    · cases h
  | lrng a =>
    unfold mE at h
    split at h
    · rename_i x px z pz y pz2 pos
      simp only [Bool.and_eq_true, decide_eq_true_eq, Bool.not_eq_true'] at h
      obtain ⟨⟨⟨⟨⟨h1, h2⟩, h3⟩, h4⟩, h5⟩, h6⟩ := h
      subst h1 h3
      refine pe_imp (pe_listRg G.calm (glb_of h2) (G.blt "list" (by decide)) (prg_1 (glb_of h4) (G.blt "range" (by decide)) (seB a X Ex G _ h5).1 (star_cons h6)) rfl) fun σ H Q ⟨hid, ρ, ha, en, p⟩ => ?_
      rw [E] at p
      refine ⟨hid, ρ, ha, en, (PostF.bind p).imp fun x H1 k1 ⟨d, _, hd, _, p1⟩ => ?_⟩
      rcases @rngD_ok (.int 0) d with ⟨i, j, e1, rfl, o1, o2, o3, q⟩ | q
      · cases e1
        rw [q] at p1
        refine ⟨j, hd, rgOk_of o2 o3, fun q hq => p1 q _ H1 .refl hq (rpl_rng j)⟩
      · rw [q] at p1; exact p1.elim
    · cases h
  | bin o a b =>
    cases o <;> first | cases hf | skip
    unfold mE at h
    split at h
    · rename_i l op r pos
      rw [Bool.and_eq_true, Bool.and_eq_true] at h
      obtain ⟨⟨h1, h2⟩, h3⟩ := h
      rw [of_decide_eq_true h1]
      refine pe_imp (pe_op (op_catF (c := c)) (seB a X Ex G _ h2).1 (seB b X Ex G _ h3).1) fun σ H Q ⟨hid, ρ, ha, en, p⟩ => ?_
      rw [E] at p
      refine ⟨hid, ρ, ha, en, (PostF.bind p).imp fun x H1 k1 ⟨d, _, hd, _, p1⟩ => ?_⟩
      exact ⟨hid, ρ, ha.keep k1, en.keep k1, (PostF.bind p1).imp fun y H2 k2 ⟨e, _, he, _, p2⟩ => ⟨hid, d, e, Ex, (ha.keep k1).keep k2, hd.keep k2, he, p2⟩⟩
    · cases h
  | bi f as =>
    cases f <;> first | cases hf | skip
    unfold mE at h
    split at h
    · rename_i x px y ys pos
      simp only [Bool.and_eq_true, decide_eq_true_eq] at h
      obtain ⟨⟨h1, h2⟩, h3⟩ := h
      subst h1
      refine pe_imp (pe_callV (.inr ⟨_, rfl⟩) (call_listF (c := c)) (glb_of h2) (G.blt _ (biN_mem .list)) (boot_bi .list) (seL as X Ex G _ h3) (biN_plain .list).2 (biN_plain .list).1 (mL_star dom _ _ as _ h3)) fun σ H Q ⟨hid, ρ, ha, en, p⟩ => ?_
      rw [E] at p
      exact ⟨hid, ρ, ha, en, (PostF.bind p).imp fun vs H1 k1 ⟨ds, _, hd, _, p1⟩ => ⟨hid, ds, Ex, ha.keep k1, hd, p1⟩⟩
    · cases h
  | _ => cases hf
end

/-! ### matching statements -/
def excN : Nat → String
  | 0 => "NoText" | _ => "NoClaim"
def compOk (sc : Scope) (t v : Expr) : Bool := match v with
  | .ListComp _ _ scope p => (match t with
    | .Name y py => (match sc.names.lookup y with
      | some .local => py.line == p.line && !(scope.names.any fun (n, k) => n == y && (k == .local || k == .cell))
      | some .cell => true
      | _ => false)
    | _ => false)
  | .SetComp _ _ _ _ => false
  | .DictComp _ _ _ _ _ => false
  | _ => true
def isComp : Expr → Bool
  | .ListComp _ _ _ _ => true | .SetComp _ _ _ _ => true | .DictComp _ _ _ _ _ => true
  | _ => false
def isNameE : Expr → Bool
  | .Name _ _ => true | _ => false
/-- two names stored at once -/
def parOk (sc : Scope) (x y : Str) (px py : Pos) (u v : Expr) : Bool :=
  !isStar u && !isStar v && decide (sc.names.lookup x = some .local) && decide (sc.names.lookup y = some .local) && py.line == px.line && !(x == y) && !(foldedForSure 8 u && foldedForSure 8 v) && !(constantsAlone 8 u && constantsAlone 8 v)
def meth1 (f : String) (x : Expr) (apos pos : Pos) (g : Str) : Bool := decide (g = Str.ofString f) && !isBare x && apos.endLine == pos.line
section
variable (dom : Fn → Bool) (xd : Nat → Bool) (N : List Str) (sc : Scope)
mutual
def mS : S → Stmt → Bool
  | .asg i e, st => match st with
    | .Assign [t] v _ => tgName N (fun _ => true) sc i t && mE dom N sc e v && compOk sc t v
    | _ => false
  | .asgF i e, st => match st with
    | .Assign [t] v _ => tgName N (fun _ => true) sc i t && freshC e && mE dom N sc e v && !isComp v
    | _ => false
  | .unp is e, st => match st with
    | .Assign [t] v _ => tgOk N (fun _ => true) sc (.many is) t && mE dom N sc e v && !isComp v && !isTupE v
    | _ => false
  | .par i j a b, st => match st with
    | .Assign [.Tuple [.Name x px, .Name y py] _ _] (.Tuple [u, v] _ _) _ => decide (N[i]? = some x) && decide (N[j]? = some y) && parOk sc x y px py u v && mE dom N sc a u && mE dom N sc b v
    | _ => false
  | .app i e, st => match st with
    | .Expr (.Call (.Attribute (.Name x _) f apos) [y] [] cpos) _ => decide (N[i]? = some x) && vis sc x && plainName x && meth1 "append" (.Name x apos) apos cpos f && mE dom N sc e y && !isStar y
    | _ => false
  | .ext i e, st => match st with
    | .Expr (.Call (.Attribute (.Name x _) f apos) [y] [] cpos) _ => decide (N[i]? = some x) && vis sc x && plainName x && meth1 "extend" (.Name x apos) apos cpos f && mE dom N sc e y && !isStar y
    | _ => false
  | .ret e, st => match st with
    | .Return (some v) _ => mE dom N sc e v
    | _ => false
  | .ife t a b, st => match st with
    | .If x y z _ => mE dom N sc t x && mB a y && mB b z
    | _ => false
  | .for_ tg it b, st => match st with
    | .For t i y [] _ => tgOk N (fun _ => true) sc tg t && mIt dom N sc it i t && mB b y && !isSet i
    | _ => false
  | .whl _ t b, st => match st with
    | .While x y [] _ => mE dom N sc t x && mB b y
    | _ => false
  | .rai n, st => match st with
    | .Raise (some (.Call (.Name x _) [.Constant (.str _) _ _] [] _)) none _ => xd n && decide (x = Str.ofString (excN n)) && glb sc x && plainName x
    | _ => false
  | .pops tp i j own tg it e, st => match st with
    | .Assign [t] v _ => tgName N (fun _ => true) sc i t && !own.contains j && decide (i ≠ j) && (match tp, v with
      | false, .ListComp (.Call (.Attribute (.Name x _) f apos) [y] [] cpos) [⟨tt, ii, [], z⟩] scope p => compOk sc t (.ListComp (.Call (.Attribute (.Name x apos) f apos) [y] [] cpos) [⟨tt, ii, [], z⟩] scope p) && decide (z = 0) && blkC N sc scope (ownN N own) && tgOk N (fun x => scope.names.lookup x == some .cell) (relS scope sc) tg tt && (tgSlots tg).all (fun i => own.contains i) &&
          mIt dom N sc it ii tt && decide (N[j]? = some x) && vis (relS scope sc) x && plainName x && meth1 "pop" (.Name x apos) apos cpos f && mE dom N (relS scope sc) e y && !isStar y && !isSet ii
      | true, .Call (.Name w _) [.ListComp (.Call (.Attribute (.Name x _) f apos) [y] [] cpos) [⟨tt, ii, [], z⟩] scope p] [] _ => decide (w = Str.ofString "tuple") && glb sc w && decide (z = 0) && blkC N sc scope (ownN N own) && tgOk N (fun x => scope.names.lookup x == some .cell) (relS scope sc) tg tt && (tgSlots tg).all (fun i => own.contains i) &&
          mIt dom N sc it ii tt && decide (N[j]? = some x) && vis (relS scope sc) x && plainName x && meth1 "pop" (.Name x apos) apos cpos f && mE dom N (relS scope sc) e y && !isStar y && !isSet ii
      | _, _ => false)
    | _ => false
  | _, _ => false
def mB : S → List Stmt → Bool
  | .skip, sts => match sts with
    | [] => true
    | _ => false
  | .seq a b, sts => match a with
    | .frz _ => mB b sts
    | _ => match sts with
      | st :: r => mS a st && mB b r
      | [] => false
  | _, _ => false
end
end
theorem frz_or (a : S) : (∃ i, a = .frz i) ∨ ∀ (dom : Fn → Bool) (xd : Nat → Bool) (N : List Str) (sc : Scope) (b : S) (sts : List Stmt), mB dom xd N sc (.seq a b) sts = true → ∃ st r, sts = st :: r ∧ mS dom xd N sc a st = true ∧ mB dom xd N sc b r = true := by
  cases a with
  | frz i => exact .inl ⟨i, rfl⟩
  | _ =>
    refine .inr fun dom xd N sc b sts h => ?_
    unfold mB at h
    cases sts with
    | nil => cases h
    | cons st r =>
      rw [Bool.and_eq_true] at h
      exact ⟨st, r, rfl, h.1, h.2⟩

/-! ### small facts of syntax -/
theorem swaps_no {v : Expr} {tg : Option Expr} {l : Nat} {env : PySem.Env} (h : isComp v = false) : swapsWith v tg l env = pure false := by
  cases v <;> first | rfl | cases h
theorem swaps_sole {t v : Expr} {l : Nat} {env : PySem.Env} (h : isComp v = false) : swapsWithSole [t] v l env = pure false := swaps_no h
theorem swaps_tup {es : List Expr} {kk : Nat} {tp : Pos} {v : Expr} {l : Nat} {env : PySem.Env} (h : isComp v = false) : swapsWithSole [.Tuple es kk tp] v l env = pure false := by
  cases v <;> first | rfl | cases h
theorem stores_name {x : Str} {px : Pos} {v : Expr} {env : PySem.Env} : swappedStores [.Name x px] v env = pure none := by
  cases v <;> rfl
theorem stores_tup {es : List Expr} {kk : Nat} {tp : Pos} {v : Expr} {env : PySem.Env} (h : isTupE v = false) : swappedStores [.Tuple es kk tp] v env = pure none := by
  cases v <;> first | rfl | cases h
theorem swaps_cell {el : Expr} {gs : List Comprehension} {scope : Scope} {p py : Pos} {y : Str} {l : Nat} {env : PySem.Env} (h : env.scope.names.lookup y = some .cell) : swapsWith (.ListComp el gs scope p) (some (.Name y py)) l env = pure false := by
  have ky : env.kindOf y = some .cell := h
  unfold swapsWith
  simp only [ky]
  have : (some NameKind.cell == some NameKind.local) = false := by decide
  simp only [this, Bool.and_false, Bool.false_and]
theorem par_stores {x y : Str} {px py pt pt2 : Pos} {kt k2 : Nat} {u v : Expr} {env : PySem.Env} (hk : env.scope.kind = .function) (h : parOk env.scope x y px py u v = true) :
    swappedStores [.Tuple [.Name x px, .Name y py] kt pt] (.Tuple [u, v] k2 pt2) env = pure (some [x, y]) := by
  unfold parOk at h
  simp only [Bool.and_eq_true, Bool.not_eq_true', decide_eq_true_eq] at h
  obtain ⟨⟨⟨⟨⟨⟨⟨h1, h2⟩, h3⟩, h4⟩, h5⟩, h6⟩, h7⟩, h8⟩ := h
  have hb : env.blockKind = .function := by unfold PySem.Env.blockKind; rw [hk]; rfl
  have kx : env.kindOf x = some .local := h3
  have ky : env.kindOf y = some .local := h4
  have hxy : x ≠ y := fun e => by rw [e] at h6; simp at h6
  have hed : [x, y].eraseDups = [x, y] := by
    have h6' : (y == x) = false := by simpa using Ne.symm hxy
    simp [List.eraseDups_cons, h6']
  have kk : (some NameKind.local == some NameKind.local) = true := by decide
  have h55 : (px.line == px.line) = true := by simp
  unfold swappedStores
  simp only [List.length_cons, List.length_nil, hb, List.any_cons, List.any_nil, List.head?_cons, Option.map_some, Option.getD_some, Expr.pos, List.all_cons, List.all_nil, h7, h8, Bool.and_true]
  refine (if_neg (by decide)).trans ((if_neg ?_).trans ?_)
  · rw [Bool.not_eq_true, Bool.or_eq_false_iff, Bool.or_eq_false_iff]
    exact ⟨(by cases u <;> first | rfl | cases h1), (by cases v <;> first | rfl | cases h2), rfl⟩
  · simp only [List.filterMap_cons, List.filterMap_nil, kx, ky, kk, h5, h55, Bool.and_true, Bool.true_and, if_true, hed]
    rfl
end FC

/-! Statements: the theorem. -/
set_option autoImplicit false
set_option linter.all false
set_option maxRecDepth 100000
set_option maxHeartbeats 8000000
set_option Elab.async false
namespace FC
open PySem L2

def excT : List Value := [.type "ValueError", .type "Exception", .type "BaseException", .type "object"]
structure GoodS (c : PCx) (F : Fn → List D → Res D) (dom : Fn → Bool) (xd : Nat → Bool) (ps : Fn → List Str) (k : Nat) (Ex : XK) (X : Cx) : Prop extends Good c F dom ps k Ex X where
  tk : Takes X (fun cls d _ H => Ex cls d H)
  po : PassesOwn (model X.prog X.w) X.A X.env X.xe
  al : ∀ x, X.fn x = true
  kd : X.env.scope.kind = .function
  rs : ∀ n, xd n = true → X.mg (Str.ofString (excN n)) = some (.ref (c.xc n)) ∧ PySem.W.excIn X.K (c.xc n) excT "ValueError.__new__" = true ∧ PySem.W.keepIn X.K (.ref (c.xc n)) = true ∧ Raises X (.ref (c.xc n))

/-! ### names bound -/
section
variable {c : PCx} {hid own : Addr → Prop} {H : Hp} {K : PySem.W.Frag}
theorem gAll_bindS {Q : L2.St → Hp → Prop} : ∀ {is : List Nat} {ds : List D} {vs : List V} {σ : L2.St} {ρ ρ' : FC.Env}, setAll ρ is ds = some ρ' → EnvS c hid own H σ ρ → RpL c H (fun a => hid a ∨ own a) ds vs →
    (∀ σ', EnvS c hid own H σ' ρ' → Q σ' H) → gAll K is vs σ H Q
  | [], [], vs, σ, ρ, ρ', h, en, hd, q => by
    cases h
    exact ⟨hd, q σ en⟩
  | i :: is, d :: ds, vs, σ, ρ, ρ', h, en, hd, q => by
    obtain ⟨v, r, rfl, h1, h2⟩ := hd
    refine ⟨v, r, rfl, ?_⟩
    show gAll K is r (σ.set i (some v)) H Q
    exact gAll_bindS h (en.setIm h1) h2 q
  | [], _ :: _, _, _, _, _, h, _, _, _ => by cases h
  | _ :: _, [], _, _, _, _, h, _, _, _ => by cases h
theorem setAll_len : ∀ {is : List Nat} {ds : List D} {ρ ρ' : FC.Env}, setAll ρ is ds = some ρ' → is.length = ds.length
  | [], [], _, _, _ => rfl
  | i :: is, d :: ds, _, _, h => by rw [List.length_cons, List.length_cons, setAll_len (is := is) (ds := ds) h]
  | [], _ :: _, _, _, h => by cases h
  | _ :: _, [], _, _, h => by cases h
theorem tg_bindS {Q : L2.St → Hp → Prop} {tg : Tg} {d : D} {v : V} {σ : L2.St} {ρ ρ' : FC.Env} (h : bindS tg d ρ = .ok ρ') (en : EnvS c hid own H σ ρ) (hd : Rp c H (fun a => hid a ∨ own a) d v)
    (q : ∀ σ', EnvS c hid own H σ' ρ' → Q σ' H) : tgG K tg v σ H Q := by
  cases tg with
  | one i =>
    cases h
    exact q _ (en.setIm hd)
  | many is =>
    cases d with
    | tup ds =>
      simp only [bindS] at h
      cases e : setAll ρ is ds with
      | none => rw [e] at h; cases h
      | some ρ2 =>
        rw [e] at h
        cases h
        obtain ⟨a, vs, rfl, h1, t⟩ := hd
        exact ⟨a, vs, rfl, SqT.of h1, by rw [t.len, setAll_len e], gAll_bindS e en t q⟩
    | _ => cases h
theorem bindS_cases (tg : Tg) (d : D) (ρ : FC.Env) : (∃ ρ', bindS tg d ρ = .ok ρ') ∨ bindS tg d ρ = .bad := by
  cases tg with
  | one i => exact .inl ⟨_, rfl⟩
  | many is =>
    cases d with
    | tup ds =>
      show (∃ ρ', ofOpt (setAll ρ is ds) = .ok ρ') ∨ ofOpt (setAll ρ is ds) = .bad
      cases setAll ρ is ds with
      | none => exact .inr rfl
      | some x => exact .inl ⟨x, rfl⟩
    | _ => exact .inr rfl
end
theorem Res.assoc {α β γ : Type} (r : Res α) (f : α → Res β) (g : β → Res γ) : (r.bind f).bind g = r.bind fun a => (f a).bind g := by
  cases r <;> rfl

/-! ### flow -/
section
variable {c : PCx} {Ex : XK} {hid own : Addr → Prop} {H : Hp} {r : Res Fl} {Dn : Ends} {k : FC.Env → Res Fl}
theorem FlP.seq {ct bk : L2.St → Hp → Prop} (ha : HA hid H) (h : FlP c Ex hid own H (r.bind fun x => match x with
    | .nx ρ' => k ρ'
    | .rt d => .ok (.rt d)) Dn) {nx : L2.St → Hp → Prop}
    (q : ∀ own' σ' H' ρ', Kp c own H H' → (∀ a, own' a → own a ∨ H a = none) → HA hid H' → EnvS c hid own' H' σ' ρ' → FlP c Ex hid own' H' (k ρ') Dn → nx σ' H') :
    FlP c Ex hid own H r { Dn with nx := nx, ct := ct, bk := bk } := by
  cases r with
  | ok f =>
    cases f with
    | nx ρ' => exact fun own' σ' H' k' s' en => q own' σ' H' ρ' k' s' (ha.keep k') en (FlP.step h k' s')
    | rt d => exact h
  | exc n => exact h
  | bad => exact h
end

/-! ### the theorem -/
theorem dia {X : Cx} {c : PCx} {F : Fn → List D → Res D} {Ex : XK} {i : Nat} {e : C} {p : Ends} {σ : L2.St} {H : Hp} (h : tS c F Ex (.asg i e) p σ H) : tAsg (tD c F Ex e) (gName i) p σ H := by
  obtain ⟨hid, own, ρ, ha, en, q⟩ := h
  rw [exec] at q
  refine ⟨_, _, ha.or en.al, en.strict, q.bindD.imp fun v H1 k1 ⟨d, _, hd, _, q1⟩ => ?_⟩
  exact q1 own _ H1 .refl (fun a z => .inl z) ((en.keep k1).setIm hd)
section
variable {c : PCx} {F : Fn → List D → Res D} {dom : Fn → Bool} {xd : Nat → Bool} {ps : Fn → List Str} {k : Nat}
theorem stS_asg {X : Cx} {Ex : XK} (G : GoodS c F dom xd ps k Ex X) {i : Nat} {e : C} {st : Stmt} (h : mS dom xd X.N X.env.scope (.asg i e) st = true) : PS X st (tS c F Ex (.asg i e)) := by
  unfold mS at h
  split at h
  · rename_i t v pos
    rw [Bool.and_eq_true, Bool.and_eq_true] at h
    obtain ⟨⟨h1, h2⟩, h3⟩ := h
    have hg := pg_one (X := X) (fn := fun _ => true) (fun x _ => G.al x) G.nd h1
    have plain : isComp v = false → PS X (.Assign [t] v pos) (tS c F Ex (.asg i e)) := fun hc => by
      refine ps_imp (ps_asg (seB e X Ex G.toGood _ h2).1 hg (swaps_sole hc) ?_ ?_) fun D σ H q => dia (X := X) q
      · unfold tgName at h1
        split at h1
        · exact stores_name
        · cases h1
      · unfold tgName at h1
        split at h1
        · rfl
        · cases h1
    cases v with
    | ListComp el gs scope p =>
      unfold tgName at h1
      split at h1
      · rename_i y py
        rw [Bool.and_eq_true] at h1
        have hy := of_decide_eq_true h1.1
        simp only [compOk] at h3
        split at h3
        · rename_i hl
          rw [Bool.and_eq_true, Bool.not_eq_true'] at h3
          have hsw := sw_true (elt := el) (gs := gs) (l := pos.line) G.kd hl h3.1 h3.2
          cases e with
          | lc own tg it ifs elt =>
            unfold mE at h2
            split at h2
            · rename_i el' t' i' fs z scope' pos' heq
              injection heq with e1 e2 e3 e4
              subst e1 e2 e3 e4
              simp only [Bool.and_eq_true, decide_eq_true_eq, Bool.not_eq_true', List.all_eq_true] at h2
              obtain ⟨⟨⟨⟨⟨⟨⟨⟨g1, g2⟩, g3⟩, g4⟩, g5⟩, g6⟩, g7⟩, g8⟩, g9⟩ := h2
              subst g1
              have hown : (ownN X.N own).map (·.2) = own := by unfold ownN; rw [List.map_map]; exact List.map_id own
              have hl := ps_setLc (g := tgG X.K tg) (tt := tDF c F E0 ifs) (te := tD c F E0 elt) (pos := p) (spos := pos) (py := py) (own := ownN X.N own) (scope := scope) (elt := el) (ifs := fs) G.calm G.nd hy hl hsw (seI it X Ex G.toGood _ t' g6) (blkOk_by g2)
                (fun s H C cl fp => pg_tg (X := X.blk s H scope (compEnvC scope cl C X.env) fp) (fn := fun x => scope.names.lookup x == some .cell) (fun x hx => hx) G.nd G.calm g3)
                (fun s H C cl fp => seF ifs (X.blk s H scope (compEnvC scope cl C X.env) fp) E0 (G.toGood.blk s H scope _ fp) fs g7)
                (fun s H C cl fp => (seB elt (X.blk s H scope (compEnvC scope cl C X.env) fp) E0 (G.toGood.blk s H scope _ fp) el g8).1) (set_of g9)
              rw [hown] at hl
              refine ps_imp hl fun D σ H q => ?_
              have q' := dia (X := X) q
              exact lc_read (X := X) (fun j hj => by simpa using g4 j hj) q'
            · cases h2
          | _ => exact absurd (show false = true from h2) Bool.false_ne_true
        · rename_i hl
          exact ps_imp (ps_asg (seB e X Ex G.toGood _ h2).1 hg (swaps_cell (l := pos.line) hl) stores_name rfl) fun D σ H q => dia (X := X) q
        · cases h3
      · cases h1
    | SetComp _ _ _ _ => exact absurd (show false = true from h3) Bool.false_ne_true
    | DictComp _ _ _ _ _ => exact absurd (show false = true from h3) Bool.false_ne_true
    | _ => exact plain rfl
  · cases h
end
end FC

/-! Statements: the rest. -/
set_option autoImplicit false
set_option linter.all false
set_option maxRecDepth 100000
set_option maxHeartbeats 8000000
set_option Elab.async false
namespace FC
open PySem L2

section
variable {c : PCx} {F : Fn → List D → Res D} {dom : Fn → Bool} {xd : Nat → Bool} {ps : Fn → List Str} {k : Nat} {X : Cx} {Ex : XK}
theorem stS_asgF (G : GoodS c F dom xd ps k Ex X) {i : Nat} {e : C} {st : Stmt} (h : mS dom xd X.N X.env.scope (.asgF i e) st = true) : PS X st (tS c F Ex (.asgF i e)) := by
  unfold mS at h
  split at h
  · rename_i t v pos
    simp only [Bool.and_eq_true, Bool.not_eq_true'] at h
    obtain ⟨⟨⟨h1, h2⟩, h3⟩, h4⟩ := h
    have hg := pg_one (X := X) (fn := fun _ => true) (fun x _ => G.al x) G.nd h1
    have hw : swappedStores [t] v X.env = pure none := by
      unfold tgName at h1
      split at h1
      · exact stores_name
      · cases h1
    have ht : (assignEach [t] X.env).map (·.2) = [assign t X.env] := by
      unfold tgName at h1
      split at h1
      · rfl
      · cases h1
    refine ps_imp (ps_asg (seFresh e X Ex G.toGood _ h2 h3) hg (swaps_sole h4) hw ht) fun Dn σ H ⟨hid, own, ρ, ha, en, q⟩ => ?_
    rw [exec] at q
    refine ⟨_, _, ha.or en.al, en.strict, ?_⟩
    cases hr : E F e (FC.strict ρ) with
    | ok d =>
      rw [hr] at q
      cases d with
      | lst ds =>
        intro p vs H1 k1 n1 rr
        have n0 : H p = none := k1.alive p n1
        exact q (fun a => own a ∨ a = p) _ _ (k1.trans (.new n1)).all (fun a z => z.imp_right fun e => by rw [e]; exact n0) ((en.keep k1).setOw (ha.keep k1) n1 rr)
      | _ => exact q.elim
    | exc n => rw [hr] at q; exact fun H' k' => q H' k'.all
    | bad => rw [hr] at q; exact q.elim
  · cases h
theorem stS_unp (G : GoodS c F dom xd ps k Ex X) {is : List Nat} {e : C} {st : Stmt} (h : mS dom xd X.N X.env.scope (.unp is e) st = true) : PS X st (tS c F Ex (.unp is e)) := by
  unfold mS at h
  split at h
  · rename_i t v pos
    simp only [Bool.and_eq_true, Bool.not_eq_true'] at h
    obtain ⟨⟨⟨h1, h2⟩, h3⟩, h4⟩ := h
    have hg := pg_tg (X := X) (fn := fun _ => true) (fun x _ => G.al x) G.nd G.calm h1
    have hsp : ∃ es kk tp, t = .Tuple es kk tp := by
      unfold tgOk at h1
      split at h1
      · cases (by assumption : Tg.many is = _)
      · exact ⟨_, _, _, rfl⟩
      · cases h1
    obtain ⟨es, kk, tp, rfl⟩ := hsp
    refine ps_imp (ps_asg (seB e X Ex G.toGood _ h2).1 hg (swaps_tup h3) (stores_tup h4) rfl) fun Dn σ H ⟨hid, own, ρ, ha, en, q⟩ => ?_
    rw [exec] at q
    refine ⟨_, _, ha.or en.al, en.strict, q.bindD.imp fun v H1 k1 ⟨d, _, hd, _, q1⟩ => ?_⟩
    rcases bindS_cases (.many is) d ρ with ⟨ρ', hb⟩ | hb
    · rw [hb] at q1
      exact tg_bindS hb (en.keep k1) hd fun σ' en' => q1 own σ' H1 .refl (fun a z => .inl z) en'
    · rw [hb] at q1; exact q1.elim
  · cases h
theorem stS_par (G : GoodS c F dom xd ps k Ex X) {i j : Nat} {a b : C} {st : Stmt} (h : mS dom xd X.N X.env.scope (.par i j a b) st = true) : PS X st (tS c F Ex (.par i j a b)) := by
  unfold mS at h
  split at h
  · rename_i x px y py kt pt u v k2 pt2 pos
    simp only [Bool.and_eq_true] at h
    obtain ⟨⟨⟨⟨h1, h2⟩, h3⟩, h4⟩, h5⟩ := h
    have h1 := of_decide_eq_true h1
    have h2 := of_decide_eq_true h2
    have hp := h3
    unfold parOk at h3
    simp only [Bool.and_eq_true, Bool.not_eq_true', decide_eq_true_eq] at h3
    obtain ⟨⟨⟨⟨⟨⟨⟨p1, p2⟩, p3⟩, p4⟩, p5⟩, p6⟩, p7⟩, p8⟩ := h3
    have hij : i ≠ j := fun e => by rw [e, h2] at h1; cases h1; simp at p6
    refine ps_imp (ps_par G.calm G.nd h1 h2 hij p3 p4 (pa_cons (seB a X Ex G.toGood _ h4).1 (pa_cons (seB b X Ex G.toGood _ h5).1 pa_nil (star_cons p2)) (star_cons p1)) (par_stores G.kd hp) rfl) fun Dn σ H ⟨hid, own, ρ, ha, en, q⟩ => ?_
    rw [exec] at q
    refine ⟨_, _, ha.or en.al, en.strict, q.bindD.imp fun v H1 k1 ⟨d, _, hd, _, q1⟩ => ?_⟩
    refine ⟨_, _, (ha.or en.al).keep k1, (en.keep k1).strict, q1.bindD.imp fun w H2 k2 ⟨e, _, he, _, q2⟩ => ?_⟩
    exact ⟨_, _, rfl, q2 own _ H2 .refl (fun a z => .inl z) ((((en.keep k1).keep k2).setIm (hd.keep k2)).setIm he)⟩
  · cases h
theorem stS_app (G : GoodS c F dom xd ps k Ex X) {i : Nat} {e : C} {st : Stmt} (h : mS dom xd X.N X.env.scope (.app i e) st = true) : PS X st (tS c F Ex (.app i e)) := by
  unfold mS at h
  split at h
  · rename_i x px f apos y cpos pos
    unfold meth1 at h
    simp only [Bool.and_eq_true, decide_eq_true_eq, Bool.not_eq_true'] at h
    obtain ⟨⟨⟨⟨⟨h1, h2⟩, h3⟩, ⟨⟨h4, h5⟩, h6⟩⟩, h7⟩, h8⟩ := h
    subst h4
    obtain ⟨g1, g2, g3⟩ := plain_of h3
    refine ps_imp (ps_expr (pe_bm PySem.F.plainAttrs_list PySem.F.slot_list_append PySem.F.type_list_append mt_append (pe_var h1 (vis_of h2) g1 g2) (pa_cons (seB e X Ex G.toGood _ h7).1 pa_nil (star_cons h8)) rfl (by rw [one_star h8]; rfl) h6 (star_cons h8) rfl) rfl) fun Dn σ H ⟨hid, own, ρ, ha, en, q⟩ => ?_
    rw [exec] at q
    split at q
    · rename_i ds hi
      obtain ⟨a, vs, e1, e2, e3, e4, e5⟩ := en.ow i ds hi
      refine ⟨_, e1, .inl ⟨rfl, vs, SqL.of e2⟩, ?_⟩
      refine ⟨_, _, ha.or en.al, en.strict, q.bindD.imp fun v H1 k1 ⟨d, _, hd, _, q1⟩ => ?_⟩
      split at q1
      · rename_i hl
        have hH := k1.lst e2 id
        refine ⟨a, vs, v, rfl, rfl, hH, by rw [e3.len]; exact Nat.lt_of_lt_of_le hl lim_le, ?_⟩
        exact q1 own σ _ (.lset hH e4) (fun a z => .inl z) ((en.keep k1).updOw hi e1 hH e4 e5 ((e3.keep k1).append (.cons hd .nil)))
      · exact q1.elim
    · exact q.elim
  · cases h
theorem stS_ext (G : GoodS c F dom xd ps k Ex X) {i : Nat} {e : C} {st : Stmt} (h : mS dom xd X.N X.env.scope (.ext i e) st = true) : PS X st (tS c F Ex (.ext i e)) := by
  unfold mS at h
  split at h
  · rename_i x px f apos y cpos pos
    unfold meth1 at h
    simp only [Bool.and_eq_true, decide_eq_true_eq, Bool.not_eq_true'] at h
    obtain ⟨⟨⟨⟨⟨h1, h2⟩, h3⟩, ⟨⟨h4, h5⟩, h6⟩⟩, h7⟩, h8⟩ := h
    subst h4
    obtain ⟨g1, g2, g3⟩ := plain_of h3
    refine ps_imp (ps_expr (pe_bm PySem.F.plainAttrs_list PySem.F.slot_list_extend PySem.F.type_list_extend mt_extend (pe_var h1 (vis_of h2) g1 g2) (pa_cons (seB e X Ex G.toGood _ h7).1 pa_nil (star_cons h8)) rfl (by rw [one_star h8]; rfl) h6 (star_cons h8) rfl) rfl) fun Dn σ H ⟨hid, own, ρ, ha, en, q⟩ => ?_
    rw [exec] at q
    split at q
    · rename_i ds hi
      obtain ⟨a, vs, e1, e2, e3, e4, e5⟩ := en.ow i ds hi
      refine ⟨_, e1, .inl ⟨rfl, vs, SqL.of e2⟩, ?_⟩
      refine ⟨_, _, ha.or en.al, en.strict, q.bindD.imp fun v H1 k1 ⟨d, _, hd, _, q1⟩ => ?_⟩
      cases d with
      | lst xs =>
        dsimp only at q1
        split at q1
        · rename_i hl
          have hH := k1.lst e2 id
          obtain ⟨b, ws, rfl, hb, nb, tb⟩ := hd
          refine ⟨a, b, vs, ws, rfl, rfl, hH, hb, by rw [e3.len, tb.len]; exact Nat.le_trans hl lim_le, ?_⟩
          exact q1 own σ _ (.lset hH e4) (fun a z => .inl z) ((en.keep k1).updOw hi e1 hH e4 e5 ((e3.keep k1).append tb))
        · exact q1.elim
      | _ => exact q1.elim
    · exact q.elim
  · cases h
theorem stS_ret (G : GoodS c F dom xd ps k Ex X) {e : C} {st : Stmt} (h : mS dom xd X.N X.env.scope (.ret e) st = true) : PS X st (tS c F Ex (.ret e)) := by
  unfold mS at h
  split at h
  · refine ps_imp (ps_ret (seB e X Ex G.toGood _ h).1) fun Dn σ H ⟨hid, own, ρ, ha, en, q⟩ => ?_
    rw [exec] at q
    exact ⟨_, _, ha, en.view, q.bindD.imp fun v H1 k1 ⟨d, _, hd, _, q1⟩ => q1 v H1 .refl hd⟩
  · cases h
theorem stS_rai (G : GoodS c F dom xd ps k Ex X) {n : Nat} {st : Stmt} (h : mS dom xd X.N X.env.scope (.rai n) st = true) : PS X st (tS c F Ex (.rai n)) := by
  unfold mS at h
  split at h
  · rename_i x px m jj p2 cpos pos
    simp only [Bool.and_eq_true, decide_eq_true_eq] at h
    obtain ⟨⟨⟨h1, h2⟩, h3⟩, h4⟩ := h
    subst h2
    obtain ⟨r1, r2, r3, r4⟩ := G.rs n h1
    refine ps_imp (ps_raise G.calm G.tk (pmk_own PySem.F.excBase_ValueError r2 r1 r3 r4 (glb_of h3) (plain_of h4).1)) fun Dn σ H ⟨hid, own, ρ, ha, en, q⟩ => ?_
    rw [exec] at q
    exact q H .refl
  · cases h
theorem mS_skip {dom : Fn → Bool} {xd : Nat → Bool} {N : List Str} {sc : Scope} {st : Stmt} : mS dom xd N sc .skip st = false := rfl
end
end FC

/-! Statements: the control flow. -/
set_option autoImplicit false
set_option linter.all false
set_option maxRecDepth 100000
set_option maxHeartbeats 8000000
set_option Elab.async false
namespace FC
open PySem L2

section
variable {c : PCx} {hid hid' own : Addr → Prop} {H : Hp} {σ : L2.St} {ρ : FC.Env} {p : Addr}
theorem EnvS.hide (h : EnvS c hid own H σ ρ) (hp : H p = none) : EnvS c (fun a => hid a ∨ a = p) own H σ ρ := by
  have fr : ∀ a, ((hid a ∨ a = p) ∨ own a) → (hid a ∨ own a) ∨ H a = none := fun a z => by
    rcases z with (z | z) | z
    · exact .inl (.inl z)
    · exact .inr (by rw [z]; exact hp)
    · exact .inl (.inr z)
  refine ⟨h.len, fun i d e => ?_, fun i ds e => ?_, h.inj, h.al⟩
  · obtain ⟨v, a, b⟩ := h.im i d e
    exact ⟨v, a, b.freshS fr⟩
  · obtain ⟨a, vs, e1, e2, e3, e4, e5⟩ := h.ow i ds e
    exact ⟨a, vs, e1, e2, e3.freshS fr, e4, fun z => z.elim e5 fun z => by rw [z, hp] at e2; cases e2⟩
theorem EnvS.less (h : EnvS c hid own H σ ρ) (s : ∀ a, hid' a → hid a) : EnvS c hid' own H σ ρ := by
  have fr : ∀ a, (hid' a ∨ own a) → (hid a ∨ own a) := fun a z => z.imp_left (s a)
  refine ⟨h.len, fun i d e => ?_, fun i ds e => ?_, h.inj, h.al⟩
  · obtain ⟨v, a, b⟩ := h.im i d e
    exact ⟨v, a, b.anti fr⟩
  · obtain ⟨a, vs, e1, e2, e3, e4, e5⟩ := h.ow i ds e
    exact ⟨a, vs, e1, e2, e3.anti fr, e4, fun z => e5 (s a z)⟩
end

section
variable {c : PCx} {F : Fn → List D → Res D} {dom : Fn → Bool} {xd : Nat → Bool} {ps : Fn → List Str} {k : Nat} {X : Cx} {Ex : XK}
theorem stS_ife (G : GoodS c F dom xd ps k Ex X) {t : C} {a b : S} (ha : ∀ sts, mB dom xd X.N X.env.scope a sts = true → PSs X sts (tS c F Ex a)) (hb : ∀ sts, mB dom xd X.N X.env.scope b sts = true → PSs X sts (tS c F Ex b))
    {st : Stmt} (h : mS dom xd X.N X.env.scope (.ife t a b) st = true) : PS X st (tS c F Ex (.ife t a b)) := by
  unfold mS at h
  split at h
  · rename_i x y z pos
    rw [Bool.and_eq_true, Bool.and_eq_true] at h
    refine ps_imp (ps_if (seB t X Ex G.toGood _ h.1.1).2 (ha y h.1.2) (hb z h.2)) fun Dn σ H ⟨hid, own, ρ, hA, en, q⟩ => ?_
    rw [exec, ← Res.assoc] at q
    refine ⟨_, _, hA, en.view, q.bindD.imp fun v H1 k1 ⟨d, _, hd, _, q1⟩ => ?_⟩
    subst hd
    cases v with
    | true => exact ⟨hid, own, ρ, hA.keep k1, en.keep k1, q1⟩
    | false => exact ⟨hid, own, ρ, hA.keep k1, en.keep k1, q1⟩
  · cases h
theorem stS_whl (G : GoodS c F dom xd ps k Ex X) {n : Nat} {t : C} {b : S} (hb : ∀ sts, mB dom xd X.N X.env.scope b sts = true → PSs X sts (tS c F Ex b))
    {st : Stmt} (h : mS dom xd X.N X.env.scope (.whl n t b) st = true) : PS X st (tS c F Ex (.whl n t b)) := by
  unfold mS at h
  split at h
  · rename_i x y pos
    rw [Bool.and_eq_true] at h
    refine ps_imp (ps_while G.po (seB t X Ex G.toGood _ h.1).2 (hb y h.2)) fun Dn σ H ⟨hid, own, ρ, hA, en, q⟩ => ?_
    rw [exec] at q
    generalize hf : (fun ρ => exec F b ρ) = f at q
    generalize ht : (fun ρ => (E F t (FC.view ρ)).bind truthD) = g at q
    refine ⟨fun m σ' H' => ∃ own' ρ', HA hid H' ∧ EnvS c hid own' H' σ' ρ' ∧ FlP c Ex hid own' H' (whileN g f m ρ') Dn, ⟨n, own, ρ, hA, en, q⟩, ?_⟩
    rintro m σ1 H1 ⟨own1, ρ1, hA1, en1, q1⟩
    cases m with
    | zero => exact q1.elim
    | succ m =>
      rw [whileN, ← ht] at q1
      refine ⟨_, _, hA1, en1.view, q1.bindD.imp fun v H2 k2 ⟨d, _, hd, _, q2⟩ => ?_⟩
      subst hd
      cases v with
      | true =>
        refine ⟨_, fun σ' H' z => ⟨m, Nat.lt_succ_self m, z⟩, ?_⟩
        rw [if_pos rfl] at q2
        rw [ht] at q2
        refine ⟨hid, own1, ρ1, hA1.keep k2, en1.keep k2, ?_⟩
        have e : exec F b ρ1 = f ρ1 := by rw [← hf]
        rw [e]
        exact FlP.seq (hA1.keep k2) q2 fun own' σ' H' ρ' k' s' a' e' p' => ⟨own', ρ', a', e', p'⟩
      | false =>
        rw [if_neg Bool.false_ne_true] at q2
        exact q2 own1 σ1 H2 .refl (fun a z => .inl z) (en1.keep k2)
  · cases h
theorem stS_for (G : GoodS c F dom xd ps k Ex X) {tg : Tg} {it : C} {b : S} (hb : ∀ sts, mB dom xd X.N X.env.scope b sts = true → PSs X sts (tS c F Ex b))
    {st : Stmt} (h : mS dom xd X.N X.env.scope (.for_ tg it b) st = true) : PS X st (tS c F Ex (.for_ tg it b)) := by
  unfold mS at h
  split at h
  · rename_i t i y pos
    simp only [Bool.and_eq_true, Bool.not_eq_true'] at h
    obtain ⟨⟨⟨h1, h2⟩, h3⟩, h4⟩ := h
    refine ps_imp (ps_for G.po G.calm (seI it X Ex G.toGood _ t h2) (pg_tg (X := X) (fn := fun _ => true) (fun x _ => G.al x) G.nd G.calm h1) (hb y h3) (set_of h4)) fun Dn σ H ⟨hid, own, ρ, hA, en, q⟩ => ?_
    rw [exec] at q
    refine ⟨_, _, hA.or en.al, en.strict, q.bindD.imp fun J H1 k1 ⟨xs, _, ⟨hz, itd⟩, _, q1⟩ => ?_⟩
    generalize hf : (fun x ρ => (bindS tg x ρ).bind fun ρ' => exec F b ρ') = f at q1
    refine ⟨fun i m σ' H' => m = xs.length - i ∧ i ≤ xs.length ∧ ∃ own' ρ', Kp c own H1 H' ∧ (∀ a, own' a → own a ∨ H1 a = none) ∧ HA hid H' ∧ EnvS c hid own' H' σ' ρ' ∧ FlP c Ex hid own' H' (forL f (xs.drop i) ρ') Dn,
      ⟨xs.length, rfl, Nat.zero_le _, own, ρ, .refl, fun a z => .inl z, hA.keep k1, en.keep k1, q1⟩, ?_⟩
    rintro i m σ2 H2 ⟨rfl, hi, own2, ρ2, k2, s2, hA2, en2, q2⟩
    have sH : ∀ a, (hid a ∨ own a ∨ own2 a) → (hid a ∨ own a) ∨ H1 a = none := fun a z => by
      rcases z with z | z | z
      · exact .inl (.inl z)
      · exact .inl (.inr z)
      · exact (s2 a z).imp_left .inr
    have kk : Kp c (fun a => hid a ∨ own a ∨ own2 a) H1 H2 := k2.weak fun a z => .inr (.inl z)
    by_cases hlt : i < xs.length
    · right
      obtain ⟨x, hx⟩ : ∃ x, xs[i]? = some x := ⟨xs[i], List.getElem?_eq_getElem hlt⟩
      have hdrop : xs.drop i = x :: xs.drop (i + 1) := by
        rw [List.drop_eq_getElem_cons hlt]
        rw [List.getElem?_eq_getElem hlt] at hx
        rw [Option.some.inj hx]
      rw [hdrop] at q2
      obtain ⟨go, yld⟩ := (itd _ H2 sH kk i).2 x hx
      refine ⟨go, _, fun σ' H' z => ⟨xs.length - (i + 1), by omega, z⟩, fun xv H3 hy3 => ?_⟩
      obtain ⟨k3, rx⟩ := yld xv H3 hy3
      have q3 := q2.keep k3
      rw [forL] at q3
      have en3 := en2.keep k3
      have rx' : Rp c H3 (fun a => hid a ∨ own2 a) x xv := rx.anti fun a z => z.imp_right .inr
      rcases bindS_cases tg x ρ2 with ⟨ρ3, hb3⟩ | hb3
      · refine tg_bindS hb3 en3 rx' fun σ3 en4 => ⟨hid, own2, ρ3, hA2.keep k3, en4, ?_⟩
        have e : f x ρ2 = exec F b ρ3 := by rw [← hf]; dsimp only; rw [hb3]; rfl
        rw [e] at q3
        refine FlP.seq (hA2.keep k3) q3 fun own' σ' H' ρ' k' s' a' e' p' => ⟨rfl, hlt, own', ρ', ?_, ?_, a', e', p'⟩
        · exact (k2.trans k3.all).step k' fun a z => s2 a z
        · exact fun a z => (s' a z).elim (s2 a) fun n => .inr (k2.alive a (k3.alive a n))
      · have e : f x ρ2 = .bad := by rw [← hf]; dsimp only; rw [hb3]; rfl
        rw [e] at q3
        exact q3.elim
    · left
      have e : i = xs.length := by omega
      subst e
      rw [List.drop_length] at q2
      exact ⟨(itd _ H2 sH kk xs.length).1 (Nat.le_refl _), q2 own2 σ2 H2 .refl (fun a z => .inl z) en2⟩
  · cases h
end
end FC

/-! A comprehension that takes items out of a list of one's own. -/
set_option autoImplicit false
set_option linter.all false
set_option maxRecDepth 100000
set_option maxHeartbeats 8000000
set_option Elab.async false
namespace FC
open PySem L2

theorem popL_cons {f : D → List D → Res Int} {x : D} {xs ds : List D} {r : List D × List D} (h : popL f (x :: xs) ds = .ok r) :
    ∃ i kk y r', f x ds = .ok i ∧ L2.ixN ds.length i = some kk ∧ ds[kk]? = some y ∧ popL f xs (ds.eraseIdx kk) = .ok r' ∧ r = (y :: r'.1, r'.2) := by
  unfold popL at h
  cases e : f x ds with
  | ok i =>
    rw [e] at h
    have h : (match L2.ixN ds.length i with
      | some k => (match ds[k]? with
        | some y => (popL f xs (ds.eraseIdx k)).bind fun r => Res.ok (y :: r.1, r.2)
        | none => Res.bad)
      | none => Res.bad) = Res.ok r := h
    split at h
    · rename_i _ kk hk
      split at h
      · rename_i _ y hy
        obtain ⟨r', h1, h2⟩ := bindOk h
        exact ⟨i, kk, y, r', rfl, hk, hy, h1, (Res.ok.inj h2).symm⟩
      · cases h
    · cases h
  | exc n => rw [e] at h; cases h
  | bad => rw [e] at h; cases h
theorem popL_cases {f : D → List D → Res Int} : ∀ (xs ds : List D), (∃ ys, popL f xs ds = .ok ys) ∨ popL f xs ds = .bad
  | [], ds => .inl ⟨([], ds), rfl⟩
  | x :: xs, ds => by
    unfold popL
    cases e : f x ds with
    | ok o =>
      show (∃ ys, (match L2.ixN ds.length o with
        | some k => (match ds[k]? with
          | some y => (popL f xs (ds.eraseIdx k)).bind fun r => Res.ok (y :: r.1, r.2)
          | none => Res.bad)
        | none => Res.bad) = .ok ys) ∨ (match L2.ixN ds.length o with
        | some k => (match ds[k]? with
          | some y => (popL f xs (ds.eraseIdx k)).bind fun r => Res.ok (y :: r.1, r.2)
          | none => Res.bad)
        | none => Res.bad) = .bad
      split
      · rename_i _ kk hk
        split
        · rename_i _ y hy
          rcases popL_cases (f := f) xs (ds.eraseIdx kk) with ⟨ys, h⟩ | h
          · exact .inl ⟨_, by rw [h]; rfl⟩
          · exact .inr (by rw [h]; rfl)
        · exact .inr rfl
      · exact .inr rfl
    | exc n => exact .inr rfl
    | bad => exact .inr rfl
theorem wipe_get (σ : L2.St) {j : Nat} : ∀ ws : List Nat, j ∉ ws → (wipe σ ws)[j]? = σ[j]?
  | [], _ => rfl
  | w :: ws, h => by
    rw [List.mem_cons, not_or] at h
    show ((wipe σ ws).set w none)[j]? = _
    rw [List.getElem?_set_ne (Ne.symm h.1), wipe_get σ ws h.2]
theorem set_self {ρ : FC.Env} {j : Nat} {s : Sl} (h : ρ[j]? = some s) : ρ.set j s = ρ := by
  apply List.ext_getElem?
  intro i
  by_cases e : i = j
  · subst e
    rw [List.getElem?_set_self (List.getElem?_eq_some_iff.mp h).1, h]
  · rw [List.getElem?_set_ne (Ne.symm e)]

/-- an item's turn -/
def popF (F : Fn → List D → Res D) (own : List Nat) (tg : Tg) (e : C) (ρ : FC.Env) (j : Nat) : D → List D → Res Int := fun x ds =>
  (bindE tg x (wipeE (FC.view (ρ.set j (.ow ds))) own)).bind fun ρ' => (E F e ρ').bind fun d => match d with
    | .int i => .ok i
    | _ => .bad
def popR (F : Fn → List D → Res D) (j : Nat) (own : List Nat) (tg : Tg) (it e : C) (ρ : FC.Env) : Res (List D × List D) := (IT F it (FC.strict ρ)).bind fun xs => match ρ[j]? with
  | some (.ow ds) => if ds.length ≤ lim then popL (popF F own tg e ρ j) xs ds else .bad
  | _ => .bad
def PopP (c : PCx) (Ex : XK) (hid ow : Addr → Prop) (H : Hp) (σ : L2.St) (ρ : FC.Env) (j : Nat) (r : Res (List D × List D)) (Q : VK) : Prop := match r with
  | .ok (ys, es) => ∀ (Dl : Addr) (vs : List V) (H' : Hp), Kp c ow H H' → H' Dl = some (.lst vs) → RpL c H' (fun a => hid a ∨ ow a) ys vs → ¬ (hid Dl ∨ ow Dl) → EnvS c hid ow H' σ (ρ.set j (.ow es)) → Q (.ref Dl) H'
  | .exc n => ∀ H', Kp c nohid H H' → Ex (.ref (c.xc n)) none H'
  | .bad => False
def tPop (c : PCx) (F : Fn → List D → Res D) (Ex : XK) (j : Nat) (own : List Nat) (tg : Tg) (it e : C) : TE := fun σ H Q => ∃ hid ow ρ, HA hid H ∧ EnvS c hid ow H σ ρ ∧ PopP c Ex hid ow H σ ρ j (popR F j own tg it e ρ) Q
theorem exec_pops {F : Fn → List D → Res D} {tp : Bool} {i j : Nat} {own : List Nat} {tg : Tg} {it e : C} {ρ : FC.Env} :
    exec F (.pops tp i j own tg it e) ρ = (popR F j own tg it e ρ).bind fun r => .ok (.nx ((ρ.set j (.ow r.2)).set i (.im (if tp then .tup r.1 else .lst r.1)))) := by
  rw [exec]
  unfold popR
  rw [Res.assoc]
  congr 1
  funext xs
  cases ρ[j]? with
  | none => rfl
  | some s =>
    cases s with
    | ow ds =>
      by_cases hl : ds.length ≤ lim
      · show (if ds.length ≤ lim then _ else _) = Res.bind (if ds.length ≤ lim then _ else _) _
        rw [if_pos hl, if_pos hl]; rfl
      · show (if ds.length ≤ lim then _ else _) = Res.bind (if ds.length ≤ lim then _ else _) _
        rw [if_neg hl, if_neg hl]; rfl
    | no => rfl
    | im d => rfl
section
variable {c : PCx} {F : Fn → List D → Res D} {dom : Fn → Bool} {xd : Nat → Bool} {ps : Fn → List Str} {k : Nat} {X : Cx} {Ex : XK}
theorem pop_read {j : Nat} {own : List Nat} {tg : Tg} {it e : C} {σ : L2.St} {H : Hp} {Q : VK} (htg : ∀ i ∈ tgSlots tg, i ∈ own) (hj : j ∉ own) (h : tPop c F Ex j own tg it e σ H Q) :
    tLc (tDI c F Ex it) (tgG X.K tg) (tDF c F E0 .nil) (tBM X.K "list" rPopAt (fun σ H Q => ∃ v, σ[j]? = some (some v) ∧ Q v H) (tCons (tD c F E0 e) tNil)) own σ H Q := by
  obtain ⟨hid, ow, ρ, ha, en, p⟩ := h
  refine ⟨_, _, ha.or en.al, en.strict, ?_⟩
  unfold popR at p
  cases hit : IT F it (FC.strict ρ) with
  | exc n => rw [hit] at p; exact p
  | bad => rw [hit] at p; exact p
  | ok xs =>
  rw [hit] at p
  intro J H1 k1 ⟨hz, itd⟩
  simp only [Res.bind] at p
  split at p
  rotate_left
  · exact p.elim
  rename_i ds hds
  split at p
  rotate_left
  · exact p.elim
  rename_i hlim
  intro Dl hD
  obtain ⟨ys, es, hys⟩ : ∃ ys es, popL (popF F own tg e ρ j) xs ds = .ok (ys, es) := by
    rcases popL_cases (f := popF F own tg e ρ j) xs ds with ⟨⟨ys, es⟩, h⟩ | h
    · exact ⟨ys, es, h⟩
    · rw [h] at p; exact p.elim
  rw [hys] at p
  have ha1 : HA hid H1 := ha.keep k1
  have en1 : EnvS c hid ow H1 σ ρ := en.keep k1
  let hid2 : Addr → Prop := fun a => hid a ∨ a = Dl
  let hid3 : Addr → Prop := fun a => hid2 a ∨ ow a
  have sB : ∀ a, hid3 a → (hid a ∨ ow a) ∨ H1 a = none := fun a z => by
    rcases z with (z | z) | z
    · exact .inl (.inl z)
    · exact .inr (by rw [z]; exact hD)
    · exact .inl (.inr z)
  have kD : Kp c nohid H1 (upd H1 Dl (.lst [])) := .new hD
  have enD : EnvS c hid2 ow (upd H1 Dl (.lst [])) σ ρ := (en1.hide hD).keep kD
  have haD : HA hid2 (upd H1 Dl (.lst [])) := fun a e z => by
    rcases z with z | z
    · exact ha1.keep kD a e z
    · rw [z, upd_same] at e; cases e
  have nD : ¬ (hid Dl ∨ ow Dl) := fun z => z.elim (ha1 Dl hD) (en1.al Dl hD)
  have enD' : EnvS c hid2 ow (upd H1 Dl (.lst [])) σ (ρ.set j (.ow ds)) := by rw [set_self hds]; exact enD
  refine ⟨fun i m H2 => m = xs.length - i ∧ i ≤ xs.length ∧ Kp c (fun a => a = Dl ∨ ow a) (upd H1 Dl (.lst [])) H2 ∧ ∃ acc av dsi rest, H2 Dl = some (.lst av) ∧ RpL c H2 hid3 acc av ∧ acc.length ≤ i ∧ EnvS c hid2 ow H2 σ (ρ.set j (.ow dsi)) ∧ dsi.length ≤ lim ∧ popL (popF F own tg e ρ j) (xs.drop i) dsi = .ok rest ∧ ys = acc ++ rest.1 ∧ es = rest.2,
    ⟨xs.length, rfl, Nat.zero_le _, .refl, [], [], ds, (ys, es), upd_same, rfl, Nat.le_refl _, enD', hlim, hys, rfl, rfl⟩, ?_⟩
  rintro i m H2 ⟨rfl, hi, k2, acc, av, dsi, rest, hDl, hacc, hal, en2, hlen, hrest, hy, he⟩
  have kk : Kp c hid3 H1 H2 := ((kD.all).trans k2).weak fun a z => z.elim (fun e => .inl (.inr e)) .inr
  have kOw : Kp c ow H1 H2 := Kp.unfresh (fun a z => z.elim (fun e => .inr (by rw [e]; exact hD)) .inl) ((kD.all).trans k2)
  by_cases hlt : i < xs.length
  · right
    obtain ⟨x, hx⟩ : ∃ x, xs[i]? = some x := ⟨xs[i], List.getElem?_eq_getElem hlt⟩
    have hdrop : xs.drop i = x :: xs.drop (i + 1) := by
      rw [List.drop_eq_getElem_cons hlt]
      rw [List.getElem?_eq_getElem hlt] at hx
      rw [Option.some.inj hx]
    rw [hdrop] at hrest
    obtain ⟨ii, n, y, r', hfx, hix, hyy, hr', hrr⟩ := popL_cons hrest
    obtain ⟨go, yld⟩ := (itd hid3 H2 sB kk i).2 x hx
    refine ⟨go, _, fun H' z => ⟨xs.length - (i + 1), by omega, z⟩, fun xv H3 hy3 => ?_⟩
    obtain ⟨k3, rx⟩ := yld xv H3 hy3
    have en3 := en2.keep k3
    have ha3 : HA hid2 H3 := (haD.keep k2).keep k3
    unfold popF at hfx
    obtain ⟨ρ', hb, h2⟩ := bindOk hfx
    obtain ⟨d, hd, h3⟩ := bindOk h2
    have hjl : j < ρ.length := (List.getElem?_eq_some_iff.mp hds).1
    obtain ⟨pa, vs, e1, e2, e3, e4, e5⟩ := en3.ow j dsi (List.getElem?_set_self hjl)
    refine tg_bind hb (en3.view.wipe own) (rx.anti fun a z => .inl z) fun σ' en' hl' hw' => ?_
    have hw2 : wipe σ' own = wipe σ own := by rw [hw' own htg, wipe_wipe σ own own fun _ h => h]
    refine ⟨hw2, hid2, ρ', ha3, en', ?_⟩
    intro b H4 k4 hb4
    subst hb4
    refine ⟨.ref pa, ?_, .inl ⟨rfl, vs, SqL.of (k4.lst e2 id)⟩, ?_⟩
    · rw [← wipe_get σ' own hj, hw2, wipe_get σ own hj]; exact e1
    refine ⟨hid2, ρ', ha3.keep k4, en'.keep k4, ?_⟩
    rw [hd]
    intro iv H5 k5 riv
    cases d with
    | int i0 =>
      cases h3
      have hiv : iv = .int ii := riv
      subst hiv
      have hP5 : H5 pa = some (.lst vs) := k5.lst (k4.lst e2 id) id
      obtain ⟨q1, q2, q3, q4⟩ := L2.ixN_seq hix
      have e35 := (e3.keep k4).keep k5
      obtain ⟨yv, hyv, ry⟩ := e35.get hyy
      have en5 := (en3.keep k4).keep k5
      have hll : lim < 2 ^ 60 := by decide
      refine ⟨pa, vs, ii, n, yv, rfl, rfl, hP5, by omega, by omega, by rw [e3.len]; exact q1, hyv, ?_⟩
      have nDp : Dl ≠ pa := fun z => e5 (.inr z.symm)
      have hD5 : H5 Dl = some (.lst av) := k5.lst (k4.lst (k3.lst hDl id) id) id
      have kp1 : Kp c (fun a => hid2 a ∨ ow a) H5 (upd H5 pa (.lst (vs.eraseIdx n))) := .lset hP5 (.inr e4)
      have hl5 : (ρ.set j (.ow dsi))[j]? = some (.ow dsi) := List.getElem?_set_self hjl
      have en6 := en5.updOw hl5 e1 hP5 e4 e5 (e35.erase n)
      rw [List.set_set] at en6
      have hD6 : (upd H5 pa (.lst (vs.eraseIdx n))) Dl = some (.lst av) := by rw [upd_ne nDp]; exact hD5
      have kp2 : Kp c (fun a => a = Dl) (upd H5 pa (.lst (vs.eraseIdx n))) (upd (upd H5 pa (.lst (vs.eraseIdx n))) Dl (.lst (av ++ [yv]))) := .lset hD6 rfl
      have acc5 : RpL c H5 hid3 acc av := ((hacc.keep k3).keep k4).keep k5
      refine ⟨av, hD6, ?_, rfl, hlt, ?_, acc ++ [y], av ++ [yv], dsi.eraseIdx n, r', upd_same, ?_, ?_, ?_, ?_, hr', ?_, ?_⟩
      · rw [acc5.len]; omega
      · refine ((((k2.trans k3.all).trans k4.all).trans k5.all).trans ?_).trans (kp2.weak fun a z => .inl z)
        exact .lset hP5 (.inr e4)
      · refine RpL.mono (kp2.weak (hid' := hid3) fun a z => .inl (.inr z)) (fun _ z => z) ?_
        refine (RpL.append (acc5.mono kp1 fun _ z => z) (.cons (ry.mono kp1 fun _ z => z) .nil))
      · rw [List.length_append]; simpa using hal
      · -- the environment: the new list is hidden
        have en7 : EnvS c hid2 ow (upd (upd H5 pa (.lst (vs.eraseIdx n))) Dl (.lst (av ++ [yv]))) σ (ρ.set j (.ow (dsi.eraseIdx n))) := by
          have kw : Kp c (fun a => hid2 a ∨ ow a) (upd H5 pa (.lst (vs.eraseIdx n))) (upd (upd H5 pa (.lst (vs.eraseIdx n))) Dl (.lst (av ++ [yv]))) := kp2.weak fun a z => .inl (.inr z)
          refine ⟨en6.len, fun i d e => ?_, fun i ds e => ?_, en6.inj, fun a e z => en6.al a (kp2.alive a e) z⟩
          · obtain ⟨v, a, b⟩ := en6.im i d e
            exact ⟨v, a, b.mono kw fun _ z => z⟩
          · obtain ⟨a, ws, f1, f2, f3, f4, f5⟩ := en6.ow i ds e
            exact ⟨a, ws, f1, by rw [upd_ne fun z => f5 (.inr z)]; exact f2, f3.mono kw fun _ z => z, f4, f5⟩
        exact en7
      · exact Nat.le_trans (List.length_eraseIdx_le ..) hlen
      · rw [hy, hrr, List.append_assoc]; rfl
      · rw [he, hrr]
    | _ => cases h3
  · left
    have e : i = xs.length := by omega
    subst e
    refine ⟨(itd hid3 H2 sB kk xs.length).1 (Nat.le_refl _), ?_⟩
    rw [List.drop_length] at hrest
    cases hrest
    rw [List.append_nil] at hy
    subst hy he
    exact p Dl av H2 (k1.all.trans kOw) hDl (hacc.anti fun a z => z.imp_left .inl) nD (en2.less fun a z => .inl z)
end
end FC

/-! Statements: all. -/
set_option autoImplicit false
set_option linter.all false
set_option maxRecDepth 100000
set_option maxHeartbeats 8000000
set_option Elab.async false
namespace FC
open PySem L2

section
variable {c : PCx} {F : Fn → List D → Res D} {dom : Fn → Bool} {xd : Nat → Bool} {ps : Fn → List Str} {k : Nat} {X : Cx} {Ex : XK}
theorem pop_elt (G : Good c F dom ps k E0 X) {x y f : _} {px apos cpos : Pos} {j : Nat} {e : C} (h1 : X.N[j]? = some x) (h2 : vis X.env.scope x = true) (h3 : plainName x = true) (h4 : meth1 "pop" (.Name x apos) apos cpos f = true) (h5 : mE dom X.N X.env.scope e y = true) (h6 : isStar y = false) :
    PE X (.Call (.Attribute (.Name x px) f apos) [y] [] cpos) (tBM X.K "list" rPopAt (fun σ H Q => ∃ v, σ[j]? = some (some v) ∧ Q v H) (tCons (tD c F E0 e) tNil)) := by
  unfold meth1 at h4
  simp only [Bool.and_eq_true, decide_eq_true_eq, Bool.not_eq_true'] at h4
  obtain ⟨⟨h4, _⟩, h7⟩ := h4
  subst h4
  obtain ⟨g1, g2, g3⟩ := plain_of h3
  exact pe_bm PySem.F.plainAttrs_list PySem.F.slot_list_pop PySem.F.type_list_pop mt_popAt (pe_var h1 (vis_of h2) g1 g2) (pa_cons (seB e X E0 G _ h5).1 pa_nil (star_cons h6)) rfl (by rw [one_star h6]; rfl) h7 (star_cons h6) rfl
theorem dia_pop {tp : Bool} {i j : Nat} {own : List Nat} {tg : Tg} {it e : C} {Dn : Ends} {σ : L2.St} {H : Hp} (h : tS c F Ex (.pops tp i j own tg it e) Dn σ H) :
    tPop c F Ex j own tg it e σ H fun v H' => ∃ (hid ow : Addr → Prop) (ρ : FC.Env) (ys es : List D) (Dl : Addr) (vs : List V), HA (fun a => hid a ∨ ow a) H' ∧ v = .ref Dl ∧ H' Dl = some (.lst vs) ∧ RpL c H' (fun a => hid a ∨ ow a) ys vs ∧ ¬ (hid Dl ∨ ow Dl) ∧ EnvS c hid ow H' σ (ρ.set j (.ow es)) ∧
      FlP c Ex hid ow H' (.ok (.nx ((ρ.set j (.ow es)).set i (.im (if tp then .tup ys else .lst ys))))) Dn := by
  obtain ⟨hid, ow, ρ, ha, en, q⟩ := h
  rw [exec_pops] at q
  refine ⟨hid, ow, ρ, ha, en, ?_⟩
  cases hr : popR F j own tg it e ρ with
  | exc n => rw [hr] at q; exact fun H' k' => q H' k'.all
  | bad => rw [hr] at q; exact q
  | ok r =>
    rw [hr] at q
    obtain ⟨ys, es⟩ := r
    intro Dl vs H' k' h1 h2 h3 h4
    exact ⟨hid, ow, ρ, ys, es, Dl, vs, (ha.keep k').or h4.al, rfl, h1, h2, h3, h4, FlP.step q k' fun a z => .inl z⟩
theorem stS_pops (G : GoodS c F dom xd ps k Ex X) {tp : Bool} {i j : Nat} {own : List Nat} {tg : Tg} {it e : C} {st : Stmt} (h : mS dom xd X.N X.env.scope (.pops tp i j own tg it e) st = true) : PS X st (tS c F Ex (.pops tp i j own tg it e)) := by
  unfold mS at h
  split at h
  rotate_left
  · cases h
  rename_i t v pos
  rw [Bool.and_eq_true, Bool.and_eq_true, Bool.and_eq_true, Bool.not_eq_true'] at h
  obtain ⟨⟨⟨h1, h2⟩, h3⟩, h⟩ := h
  have hj : j ∉ own := by simpa using h2
  have hg := pg_one (X := X) (fn := fun _ => true) (fun x _ => G.al x) G.nd h1
  have hw : swappedStores [t] v X.env = pure none := by
    unfold tgName at h1
    split at h1
    · exact stores_name
    · cases h1
  have ht : (assignEach [t] X.env).map (·.2) = [assign t X.env] := by
    unfold tgName at h1
    split at h1
    · rfl
    · cases h1
  split at h
  · rename_i x px f apos y cpos tt ii z scope p
    simp only [Bool.and_eq_true, decide_eq_true_eq, Bool.not_eq_true', List.all_eq_true] at h
    obtain ⟨⟨⟨⟨⟨⟨⟨⟨⟨⟨⟨⟨g1, g2⟩, g3⟩, g4⟩, g5⟩, g6⟩, g7⟩, g8⟩, g9⟩, g10⟩, g11⟩, g12⟩, g13⟩ := h
    subst g2
    have hown : (ownN X.N own).map (·.2) = own := by unfold ownN; rw [List.map_map]; exact List.map_id own
    have out : ∀ {Dn : Ends} {σ : L2.St} {H : Hp}, tS c F Ex (.pops false i j own tg it e) Dn σ H → tAsg (tLc (tDI c F Ex it) (tgG X.K tg) (tDF c F E0 .nil) (tBM X.K "list" rPopAt (fun σ H Q => ∃ v, σ[j]? = some (some v) ∧ Q v H) (tCons (tD c F E0 e) tNil)) own) (gName i) Dn σ H := fun {Dn σ H} q => by
      have q1 := dia_pop q
      obtain ⟨hid, ow, ρ, a1, a2, a3⟩ := q1
      refine pop_read (X := X) (fun j hj => by simpa using g5 j hj) hj ⟨hid, ow, ρ, a1, a2, ?_⟩
      revert a3
      cases popR F j own tg it e ρ with
      | exc n => exact id
      | bad => exact id
      | ok r =>
        intro a3 Dl vs H' k' f1 f2 f3 f4
        obtain ⟨hid', ow', ρ', ys, es, Dl', vs', b1, b2, b3, b4, b5, b6, b7⟩ := a3 Dl vs H' k' f1 f2 f3 f4
        cases b2
        refine b7 ow' _ H' .refl (fun a z => .inl z) (b6.setIm ?_)
        exact ⟨Dl, vs', rfl, b3, b5, b4⟩
    unfold tgName at h1
    split at h1
    rotate_left
    · cases h1
    rename_i yn py
    rw [Bool.and_eq_true] at h1
    have hy := of_decide_eq_true h1.1
    simp only [compOk] at g1
    split at g1
    · rename_i hl
      rw [Bool.and_eq_true, Bool.not_eq_true'] at g1
      have hsw := sw_true (elt := .Call (.Attribute (.Name x px) f apos) [y] [] cpos) (gs := [⟨tt, ii, [], 0⟩]) (l := pos.line) G.kd hl g1.1 g1.2
      have hl := ps_setLc (g := tgG X.K tg) (tt := tDF c F E0 .nil) (te := tBM X.K "list" rPopAt (fun σ H Q => ∃ v, σ[j]? = some (some v) ∧ Q v H) (tCons (tD c F E0 e) tNil)) (pos := p) (spos := pos) (py := py) (own := ownN X.N own) (scope := scope) (ifs := []) G.calm G.nd hy hl hsw (seI it X Ex G.toGood _ tt g6) (blkOk_by g3)
        (fun s H C cl fp => pg_tg (X := X.blk s H scope (compEnvC scope cl C X.env) fp) (fn := fun x => scope.names.lookup x == some .cell) (fun x hx => hx) G.nd G.calm g4)
        (fun s H C cl fp => seF .nil (X.blk s H scope (compEnvC scope cl C X.env) fp) E0 (G.toGood.blk s H scope _ fp) [] rfl)
        (fun s H C cl fp => pop_elt (X := X.blk s H scope (compEnvC scope cl C X.env) fp) (G.toGood.blk s H scope _ fp) g7 g8 g9 g10 g11 g12) (set_of g13)
      rw [hown] at hl
      exact ps_imp hl fun D σ H q => out q
    · rename_i hl
      have hp := pe_lc (g := tgG X.K tg) (tt := tDF c F E0 .nil) (te := tBM X.K "list" rPopAt (fun σ H Q => ∃ v, σ[j]? = some (some v) ∧ Q v H) (tCons (tD c F E0 e) tNil)) (pos := p) (own := ownN X.N own) (scope := scope) (ifs := []) G.calm G.nd (seI it X Ex G.toGood _ tt g6) (blkOk_by g3)
        (fun s H C cl fp => pg_tg (X := X.blk s H scope (compEnvC scope cl C X.env) fp) (fn := fun x => scope.names.lookup x == some .cell) (fun x hx => hx) G.nd G.calm g4)
        (fun s H C cl fp => seF .nil (X.blk s H scope (compEnvC scope cl C X.env) fp) E0 (G.toGood.blk s H scope _ fp) [] rfl)
        (fun s H C cl fp => pop_elt (X := X.blk s H scope (compEnvC scope cl C X.env) fp) (px := px) (G.toGood.blk s H scope _ fp) g7 g8 g9 g10 g11 g12) (set_of g13)
      rw [hown] at hp
      exact ps_imp (ps_asg hp hg (swaps_cell (l := pos.line) hl) stores_name rfl) fun D σ H q => out q
    · cases g1
  · rename_i w wp x px f apos y cpos tt ii z scope p cp
    simp only [Bool.and_eq_true, decide_eq_true_eq, Bool.not_eq_true', List.all_eq_true] at h
    obtain ⟨⟨⟨⟨⟨⟨⟨⟨⟨⟨⟨⟨⟨g1, g1'⟩, g2⟩, g3⟩, g4⟩, g5⟩, g6⟩, g7⟩, g8⟩, g9⟩, g10⟩, g11⟩, g12⟩, g13⟩ := h
    subst g1 g2
    have hown : (ownN X.N own).map (·.2) = own := by unfold ownN; rw [List.map_map]; exact List.map_id own
    have hp := pe_lc (g := tgG X.K tg) (tt := tDF c F E0 .nil) (te := tBM X.K "list" rPopAt (fun σ H Q => ∃ v, σ[j]? = some (some v) ∧ Q v H) (tCons (tD c F E0 e) tNil)) (pos := p) (own := ownN X.N own) (scope := scope) (ifs := []) G.calm G.nd (seI it X Ex G.toGood _ tt g6) (blkOk_by g3)
        (fun s H C cl fp => pg_tg (X := X.blk s H scope (compEnvC scope cl C X.env) fp) (fn := fun x => scope.names.lookup x == some .cell) (fun x hx => hx) G.nd G.calm g4)
        (fun s H C cl fp => seF .nil (X.blk s H scope (compEnvC scope cl C X.env) fp) E0 (G.toGood.blk s H scope _ fp) [] rfl)
        (fun s H C cl fp => pop_elt (X := X.blk s H scope (compEnvC scope cl C X.env) fp) (px := px) (G.toGood.blk s H scope _ fp) g7 g8 g9 g10 g11 g12) (set_of g13)
    rw [hown] at hp
    have hc := pe_callV (X := X) (pos := cp) (p := wp) (biV_kind .tuple) (bid (c := c) G.hK G.calm G.un .tuple) (glb_of g1') (G.blt _ (biN_mem .tuple)) (boot_bi .tuple) (pa_cons hp pa_nil rfl) (biN_plain .tuple).2 (biN_plain .tuple).1 (by intro e he; rw [List.mem_singleton.mp he]; rfl)
    refine ps_imp (ps_asg hc hg (swaps_sole rfl) hw ht) fun Dn σ H q => ?_
    have q1 := dia_pop q
    obtain ⟨hid, ow, ρ, a1, a2, a3⟩ := q1
    have e1 : ∀ te : TE, tAsg (tCB (rBi c (biD .tuple)) (tCons te tNil)) (gName i) Dn σ H = te σ H (fun v H1 => rBi c (biD .tuple) [v] H1 fun x H2 => gName i x σ H2 Dn.nx) := fun _ => rfl
    rw [e1]
    refine pop_read (X := X) (fun j hj => by simpa using g5 j hj) hj ⟨hid, ow, ρ, a1, a2, ?_⟩
    revert a3
    cases popR F j own tg it e ρ with
    | exc n => exact id
    | bad => exact id
    | ok r =>
      intro a3 Dl vs H' k' f1 f2 f3 f4
      obtain ⟨hid', ow', ρ', ys, es, Dl', vs', b1, b2, b3, b4, b5, b6, b7⟩ := a3 Dl vs H' k' f1 f2 f3 f4
      cases b2
      refine ⟨fun a => hid' a ∨ ow' a, [.lst ys], Ex, b1, .cons ⟨Dl, vs', rfl, b3, b5, b4⟩ .nil, ?_⟩
      intro v H2 k2 rv
      exact b7 ow' _ H2 k2.all (fun a z => .inl z) ((b6.keep k2).setIm rv)
  · cases h
theorem stB (G : GoodS c F dom xd ps k Ex X) : ∀ code : S, (∀ st, mS dom xd X.N X.env.scope code st = true → PS X st (tS c F Ex code)) ∧ ∀ sts, mB dom xd X.N X.env.scope code sts = true → PSs X sts (tS c F Ex code) := by
  intro code
  induction code with
  | skip =>
    refine ⟨fun st h => absurd (show false = true from h) Bool.false_ne_true, fun sts h => ?_⟩
    unfold mB at h
    cases sts with
    | nil => exact pss_imp pss_nil fun Dn σ H ⟨hid, own, ρ, ha, en, q⟩ => q own σ H .refl (fun a z => .inl z) en
    | cons _ _ => cases h
  | seq a b iha ihb =>
    refine ⟨fun st h => absurd (show false = true from h) Bool.false_ne_true, fun sts h => ?_⟩
    rcases frz_or a with ⟨i, rfl⟩ | hq
    · unfold mB at h
      refine pss_imp (ihb.2 sts h) fun Dn σ H ⟨hid, own, ρ, ha, en, q⟩ => ?_
      rw [exec, exec] at q
      cases hi : ρ[i]? with
      | none => rw [hi] at q; exact q.elim
      | some s =>
        rw [hi] at q
        obtain ⟨own', hs, en'⟩ := en.frz hi
        exact ⟨hid, own', _, ha, en', FlP.step q .refl fun a z => .inl (hs a z)⟩
    · obtain ⟨st, r, rfl, h1, h2⟩ := hq _ _ _ _ _ _ h
      refine pss_imp (pss_cons (iha.1 st h1) (ihb.2 r h2)) fun Dn σ H ⟨hid, own, ρ, ha, en, q⟩ => ?_
      rw [exec] at q
      exact ⟨hid, own, ρ, ha, en, FlP.seq (ct := Dn.ct) (bk := Dn.bk) ha q fun own' σ' H' ρ' k' s' a' e' p' => ⟨hid, own', ρ', a', e', p'⟩⟩
  | asg i e => exact ⟨fun st h => stS_asg G h, fun sts h => absurd (show false = true from h) Bool.false_ne_true⟩
  | asgF i e => exact ⟨fun st h => stS_asgF G h, fun sts h => absurd (show false = true from h) Bool.false_ne_true⟩
  | frz i => exact ⟨fun st h => absurd (show false = true from h) Bool.false_ne_true, fun sts h => absurd (show false = true from h) Bool.false_ne_true⟩
  | unp is e => exact ⟨fun st h => stS_unp G h, fun sts h => absurd (show false = true from h) Bool.false_ne_true⟩
  | par i j a b => exact ⟨fun st h => stS_par G h, fun sts h => absurd (show false = true from h) Bool.false_ne_true⟩
  | app i e => exact ⟨fun st h => stS_app G h, fun sts h => absurd (show false = true from h) Bool.false_ne_true⟩
  | ext i e => exact ⟨fun st h => stS_ext G h, fun sts h => absurd (show false = true from h) Bool.false_ne_true⟩
  | pops tp i j own tg it e => exact ⟨fun st h => stS_pops G h, fun sts h => absurd (show false = true from h) Bool.false_ne_true⟩
  | ret e => exact ⟨fun st h => stS_ret G h, fun sts h => absurd (show false = true from h) Bool.false_ne_true⟩
  | ife t a b iha ihb => exact ⟨fun st h => stS_ife G iha.2 ihb.2 h, fun sts h => absurd (show false = true from h) Bool.false_ne_true⟩
  | for_ tg it b ih => exact ⟨fun st h => stS_for G ih.2 h, fun sts h => absurd (show false = true from h) Bool.false_ne_true⟩
  | whl n t b ih => exact ⟨fun st h => stS_whl G ih.2 h, fun sts h => absurd (show false = true from h) Bool.false_ne_true⟩
  | rai n => exact ⟨fun st h => stS_rai G h, fun sts h => absurd (show false = true from h) Bool.false_ne_true⟩
  | memo _ _ _ _ _ => exact ⟨fun st h => absurd (show false = true from h) Bool.false_ne_true, fun sts h => absurd (show false = true from h) Bool.false_ne_true⟩
end
end FC

/-! «if key not in d: ..; d[key] = found», then «return d[key]». -/
set_option autoImplicit false
set_option linter.all false
set_option maxRecDepth 100000
set_option maxHeartbeats 8000000
set_option Elab.async false
namespace FC
open PySem L2

def sKnown : Str := Str.ofString "known"
/-- where the dict is -/
def DA (c : PCx) (kd : Bool) (σ : L2.St) (H : Hp) (j : Nat) (a : Addr) : Prop := ∃ v, σ[j]? = some (some v) ∧ match kd with
  | true => v = .ref a
  | false => ∃ x dx fs, v = .ref x ∧ H x = some (.ins c.C dx fs) ∧ fs.lookup sKnown = some (.ref a)
def tDk (K : PySem.W.Frag) (kd : Bool) (j : Nat) : TE := match kd with
  | true => tVar j
  | false => tFld K (tVar j) sKnown
def mDk (dom : Fn → Bool) (N : List Str) (sc : Scope) (kd : Bool) (j : Nat) (e : Expr) : Bool := match kd with
  | true => (match e with
    | .Name x _ => decide (N[j]? = some x) && vis sc x && plainName x
    | _ => false)
  | false => (match e with
    | .Attribute (.Name x _) f _ => dom .s_winner && decide (f = sKnown) && decide (N[j]? = some x) && vis sc x && plainName x
    | _ => false)
section
variable {c : PCx} {hid own : Addr → Prop} {H H1 : Hp} {σ : L2.St} {ρ : FC.Env} {j : Nat} {a : Addr} {kd : Bool}
theorem DA.keep (k : Kp c hid H H1) (h : DA c kd σ H j a) : DA c kd σ H1 j a := by
  obtain ⟨v, e, h⟩ := h
  refine ⟨v, e, ?_⟩
  cases kd with
  | true => exact h
  | false =>
    obtain ⟨x, dx, fs, e1, e2, e3⟩ := h
    exact ⟨x, dx, fs, e1, k.keep _ _ e2 trivial (fun _ _ z => by cases z), e3⟩
theorem view_var {F : Fn → List D → Res D} {d : D} (h : E F (.var j) (FC.view ρ) = .ok d) : (FC.view ρ)[j]? = some (some d) := by
  rw [E] at h
  split at h
  · rename_i d' hd
    cases h
    exact hd
  · cases h
theorem dk_env {F : Fn → List D → Res D} {dv g : D} {s : Option Sl} (en : EnvS c hid own H σ ρ) (h : E F (.var j) (FC.view ρ) = .ok dv) (hg : gameOf kd dv s = some g) : ∃ a, DA c kd σ H j a ∧ Memo c H kd g a := by
  obtain ⟨v, e, r⟩ := en.view.2 j dv (view_var h)
  cases kd with
  | false =>
    cases dv <;> first | (cases hg; done) | skip
    cases hg
    obtain ⟨x, dx, fs, vg, a, e1, e2, l1, l2, l3, l4, l5, r', m⟩ := r
    exact ⟨a, ⟨v, e, x, dx, fs, e1, e2, l2⟩, m⟩
  | true =>
    cases dv with
    | memo b g0 =>
      cases b with
      | false => cases hg
      | true =>
        have : g0 = g := by
          unfold gameOf at hg
          split at hg
          · rename_i h1; cases h1
          · rename_i h1 h2 _
            split at hg
            · cases hg
              injection (by assumption : D.memo true g0 = D.memo true g)
            · cases hg
          · cases hg
        subst this
        obtain ⟨a, e1, m⟩ := r
        exact ⟨a, ⟨v, e, e1⟩, m⟩
    | _ => cases hg
theorem key_at {kv : D} {x : V} {m y : List Int} {w : Int} (h : Rp c H hid kv x) (hk : keyOfD kv = some (m, y, w)) : KeyAt H x m y w ∧ keyOk m y w = true := by
  unfold keyOfD at hk
  split at hk
  · rename_i ms ys w'
    split at hk
    · rename_i m' y' e1 e2
      split at hk
      · rename_i ok
        cases hk
        have e1 := allInts_map e1
        have e2 := allInts_map e2
        subst e1 e2
        obtain ⟨t, vs, ex, ht, r⟩ := h
        obtain ⟨v1, r1, q1, ⟨ma, us, q2, hm, r2⟩, v2, r3, q3, ⟨ya, us', q4, hy, r4⟩, v3, r5, q5, q6, q7⟩ := r
        have q7 : r5 = [] := q7
        have q6 : v3 = .int w := q6
        subst q7 q6 q5 q4 q3 q2 q1
        rw [r2.ints] at hm
        rw [r4.ints] at hy
        exact ⟨⟨t, ma, ya, ex, ht, hm, hy⟩, ok⟩
      · cases hk
    · cases hk
  · cases hk
theorem ents_at {b : Bool} {g : D} {es : List Ent} (h : ∀ e ∈ es, EntOk c H b g e) : EntsAt H es := fun e he => ⟨(h e he).t, (h e he).tm, (h e he).ty⟩
theorem atKey_mem {xs : List (NestedKey × Addr × Value)} {k : NestedKey} (h : k ∈ xs.map (·.1)) : ∃ p, atKey xs k = some p := by
  cases q : atKey xs k with
  | some p => exact ⟨p, rfl⟩
  | none =>
    obtain ⟨x, hx, ex⟩ := List.mem_map.mp h
    unfold atKey at q
    rw [Option.map_eq_none_iff, List.find?_eq_none] at q
    exact absurd (decide_eq_true ex) (q x hx)
theorem atKey_ent {es : List Ent} {m y : List Int} {w : Int} {p : Addr × Value} (h : atKey (es.map Ent.raw) (keyN m y w) = some p) : ∃ e ∈ es, e.m = m ∧ e.y = y ∧ e.w = w ∧ p = (e.a, .int e.v e.tk) := by
  unfold atKey at h
  obtain ⟨x, hx, ex⟩ := Option.map_eq_some_iff.mp h
  have h1 := List.mem_of_find?_eq_some hx
  have h2 := List.find?_some hx
  obtain ⟨e, he, rfl⟩ := List.mem_map.mp h1
  have h3 : keyN e.m e.y e.w = keyN m y w := of_decide_eq_true h2
  obtain ⟨a1, a2, a3⟩ := keyN_inj h3
  exact ⟨e, he, a1, a2, a3, ex.symm⟩
/-- the same objects: the same entries -/
theorem same_keys {b b' : Bool} {g g' : D} {es es' : List Ent} (h : ∀ e ∈ es, EntOk c H b g e) (h' : ∀ e ∈ es', EntOk c H b' g' e) (e : (es.map Ent.raw).map (entryOfKey (knd c)) = (es'.map Ent.raw).map (entryOfKey (knd c))) : (es.map Ent.raw).map (·.1) = (es'.map Ent.raw).map (·.1) := by
  induction es generalizing es' with
  | nil => cases es' with
    | nil => rfl
    | cons _ _ => cases e
  | cons x xs ih => cases es' with
    | nil => cases e
    | cons y ys =>
      simp only [List.map_cons, List.cons.injEq] at e ⊢
      obtain ⟨e1, e2⟩ := e
      refine ⟨?_, ih (fun z hz => h z (List.mem_cons_of_mem _ hz)) (fun z hz => h' z (List.mem_cons_of_mem _ hz)) e2⟩
      have ea : x.a = y.a := by
        have := congrArg DictEntry.key e1
        injection this
      have hx := h x List.mem_cons_self
      have hy := h' y List.mem_cons_self
      have t := hx.t
      rw [ea, hy.t] at t
      injection t with t
      injection t with t
      injection t with t1 t
      injection t1 with t1
      injection t with t2 t
      injection t2 with t2
      injection t with t3 _
      injection t3 with t3
      have tm := hx.tm
      rw [← t1, hy.tm] at tm
      injection tm with tm
      injection tm with tm
      have ty := hx.ty
      rw [← t2, hy.ty] at ty
      injection ty with ty
      injection ty with ty
      have f : ∀ p q : Int, V.int p = V.int q → p = q := fun p q z => V.int.inj z
      show keyN x.m x.y x.w = keyN y.m y.y y.w
      rw [(List.map_inj_right f).mp tm, (List.map_inj_right f).mp ty, t3]
/-- an answer is stored -/
theorem Kp.put {b : Bool} {g : D} {es : List Ent} {m y : List Int} {w n : Int} {tk : Tok} {t ma ya : Addr} (cg : cod g = true) (ha : H a = some (memoO c a (tagN b g) (es.map Ent.raw))) (he : ∀ e ∈ es, EntOk c H b g e) (nd : ((es.map Ent.raw).map (·.1)).Nodup)
    (hn : EntOk c H b g ⟨m, y, w, n, tk, t, ma, ya⟩) (hs : (a == sysModules) = false) : Kp c nohid H (upd H a (memoO c a (tagN b g) ((putE es m y w n tk t ma ya).map Ent.raw))) ∧
      MemoP c (upd H a (memoO c a (tagN b g) ((putE es m y w n tk t ma ya).map Ent.raw))) b g a [keyN m y w] := by
  have tups : ∀ (x : Addr) (xs : List V), H x = some (.tup xs) → (upd H a (memoO c a (tagN b g) ((putE es m y w n tk t ma ya).map Ent.raw))) x = some (.tup xs) := fun x xs e => by
    rw [upd_ne (ne_of e ha (by intro z; cases z))]; exact e
  have ok : ∀ e ∈ putE es m y w n tk t ma ya, EntOk c (upd H a (memoO c a (tagN b g) ((putE es m y w n tk t ma ya).map Ent.raw))) b g e := fun e h => by
    rcases putE_mem h with h | ⟨e', h', hk, rfl⟩ | rfl
    · exact (he e h).mono tups
    · have q := he e' h'
      obtain ⟨a1, a2, a3⟩ := keyN_inj hk
      refine EntOk.mono ⟨q.key, q.t, q.tm, q.ty, ?_⟩ tups
      have v := hn.v
      rw [a1, a2, a3]
      exact v
    · exact hn.mono tups
  have keys : ∀ k, k ∈ (es.map Ent.raw).map (·.1) → k ∈ ((putE es m y w n tk t ma ya).map Ent.raw).map (·.1) := fun k hk => by
    unfold putE
    split
    · have e : ((es.map fun e => if keyN e.m e.y e.w = keyN m y w then { e with v := n, tk := tk } else e).map Ent.raw).map (·.1) = (es.map Ent.raw).map (·.1) := by
        rw [List.map_map, List.map_map, List.map_map]
        refine List.map_congr_left fun e _ => ?_
        simp only [Function.comp]
        split <;> rfl
      rw [e]; exact hk
    · rw [List.map_append, List.map_append]
      exact List.mem_append_left _ hk
  have key : keyN m y w ∈ ((putE es m y w n tk t ma ya).map Ent.raw).map (·.1) := by
    by_cases q : (atKey (es.map Ent.raw) (keyN m y w)).isSome
    · obtain ⟨p, hp⟩ := Option.isSome_iff_exists.mp q
      obtain ⟨e, h1, h2, h3, h4, _⟩ := atKey_ent hp
      refine keys _ (List.mem_map.mpr ⟨e.raw, List.mem_map_of_mem h1, ?_⟩)
      show keyN e.m e.y e.w = _
      rw [h2, h3, h4]
    · unfold putE
      rw [if_neg q, List.map_append, List.map_append]
      exact List.mem_append_right _ (List.mem_singleton.mpr rfl)
  refine ⟨⟨fun x o e hne _ => ?_, fun b0 g0 a0 ks h => ?_, fun x e => ?_⟩, hs, cg, _, upd_same, putE_nodup nd, ok, fun k hk => by rw [List.mem_singleton.mp hk]; exact key⟩
  · have : x ≠ a := fun z => by
      rw [z, ha] at e
      cases e
      exact hne
    rw [upd_ne this]; exact e
  · by_cases z : a0 = a
    · subst z
      obtain ⟨h1, h2, es0, h3, h4, h5, h6⟩ := h
      rw [ha] at h3
      obtain ⟨t1, t2⟩ := memoO_both (tagN_pos b g) (Option.some.inj h3)
      obtain ⟨rfl, rfl⟩ := tagN_inj cg h2 t1
      exact ⟨h1, h2, _, upd_same, putE_nodup nd, ok, fun k hk => keys k (by rw [same_keys he h5 t2]; exact h6 k hk)⟩
    · exact h.mono (upd_ne z) tups
  · by_cases z : x = a
    · subst z; rw [upd_same] at e; cases e
    · rw [upd_ne z] at e; exact e
end
section
variable {c : PCx} {F : Fn → List D → Res D} {dom : Fn → Bool} {xd : Nat → Bool} {ps : Fn → List Str} {k : Nat} {X : Cx} {Ex : XK}
theorem pe_dk (G : GoodS c F dom xd ps k Ex X) {kd : Bool} {j : Nat} {e : Expr} (h : mDk dom X.N X.env.scope kd j e = true) : PE X e (tDk X.K kd j) := by
  cases kd with
  | true =>
    unfold mDk at h
    dsimp only at h
    split at h
    · rename_i x pos
      rw [Bool.and_eq_true, Bool.and_eq_true] at h
      obtain ⟨h1, h2, h3⟩ := plain_of h.2
      exact pe_var (of_decide_eq_true h.1.1) (vis_of h.1.2) h1 h2
    · cases h
  | false =>
    unfold mDk at h
    dsimp only at h
    split at h
    · rename_i x px f pos
      simp only [Bool.and_eq_true, decide_eq_true_eq] at h
      obtain ⟨⟨⟨⟨h0, h1⟩, h2⟩, h3⟩, h4⟩ := h
      subst h1
      obtain ⟨g1, g2, g3⟩ := plain_of h4
      exact pe_fld (pe_var h2 (vis_of h3) g1 g2) (base_of rfl)
    · cases h
theorem tDk_read (G : GoodS c F dom xd ps k Ex X) {kd : Bool} {j : Nat} {a : Addr} {σ : L2.St} {H : Hp} {Q : VK} (hd : kd = false → dom .s_winner = true) (da : DA c kd σ H j a) (q : Q (.ref a) H) : tDk X.K kd j σ H Q := by
  obtain ⟨v, e, h⟩ := da
  cases kd with
  | true =>
    subst h
    exact ⟨_, e, q⟩
  | false =>
    obtain ⟨x, dx, fs, e1, e2, e3⟩ := h
    obtain ⟨_, s2, _, s4, _⟩ := G.sv (hd rfl)
    exact ⟨v, e, x, c.C, dx, fs, .ref a, e1, e2, by rw [← G.hK]; exact s2, by rw [← G.hK]; exact s4, e3, q⟩
/-- a block, then more -/
theorem stBT (G : GoodS c F dom xd ps k Ex X) {tail : List Stmt} {tt : TS} (ht : PSs X tail tt) : ∀ (code : S) (sts : List Stmt), mB dom xd X.N X.env.scope code sts = true → PSs X (sts ++ tail) (fun Dn σ H => tS c F Ex code { Dn with nx := tt Dn } σ H) := by
  intro code
  induction code with
  | skip =>
    intro sts h
    unfold mB at h
    cases sts with
    | nil => exact pss_imp ht fun Dn σ H ⟨hid, own, ρ, ha, en, q⟩ => q own σ H .refl (fun a z => .inl z) en
    | cons _ _ => cases h
  | seq a b _ ihb =>
    intro sts h
    rcases frz_or a with ⟨i, rfl⟩ | hq
    · unfold mB at h
      refine pss_imp (ihb sts h) fun Dn σ H ⟨hid, own, ρ, ha, en, q⟩ => ?_
      rw [exec, exec] at q
      cases hi : ρ[i]? with
      | none => rw [hi] at q; exact q.elim
      | some s =>
        rw [hi] at q
        obtain ⟨own', hs, en'⟩ := en.frz hi
        exact ⟨hid, own', _, ha, en', FlP.step q .refl fun a z => .inl (hs a z)⟩
    · obtain ⟨st, r, rfl, h1, h2⟩ := hq _ _ _ _ _ _ h
      refine pss_imp (pss_cons ((stB G a).1 st h1) (ihb r h2)) fun Dn σ H ⟨hid, own, ρ, ha, en, q⟩ => ?_
      rw [exec] at q
      exact ⟨hid, own, ρ, ha, en, FlP.seq (ct := Dn.ct) (bk := Dn.bk) ha q fun own' σ' H' ρ' k' s' a' e' p' => ⟨hid, own', ρ', a', e', p'⟩⟩
  | _ => exact fun sts h => absurd (show false = true from h) Bool.false_ne_true
def tMemo (c : PCx) (F : Fn → List D → Res D) (Ex : XK) (kd : Bool) (key : C) (j fi : Nat) (body : S) : TS := fun Dn σ H => ∃ hid own ρ, HA hid H ∧ EnvS c hid own H σ ρ ∧ FlP c Ex hid own H (exec F (.memo kd key j fi body) ρ) Dn ∧
  ∀ kv dv m y w g, E F key (FC.view ρ) = .ok kv → E F (.var j) (FC.view ρ) = .ok dv → keyOfD kv = some (m, y, w) → gameOf kd dv ρ[0]? = some g →
    ∀ v, (c.V kd g m y w v → exec F (.memo kd key j fi body) ρ = .ok (.rt (.int v))) ∧ (exec F (.memo kd key j fi body) ρ = .ok (.rt (.int v)) → c.V kd g m y w v)
theorem nosl_of {e : Expr} (h : isSlice e = false) : NoSl e := plainIx_of h
/-- what such two statements must be -/
def mMemo (dom : Fn → Bool) (xd : Nat → Bool) (N : List Str) (sc : Scope) (kd : Bool) (key : C) (j fi : Nat) (body : S) : List Stmt → Bool
  | [.If (.Compare k1 [.NotIn] [d1] _) b [] _, .Return (some (.Subscript d3 k3 _)) _] => mE dom N sc key k1 && mDk dom N sc kd j d1 && !isSet d1 && mE dom N sc key k3 && !isSlice k3 && mDk dom N sc kd j d3 && (match b.getLast? with
    | some (.Assign [.Subscript d2 k2 _] (.Name x _) _) => mE dom N sc key k2 && mDk dom N sc kd j d2 && decide (N[fi]? = some x) && vis sc x && plainName x && mB dom xd N sc body b.dropLast
    | _ => false)
  | _ => false
theorem pss_memo (G : GoodS c F dom xd ps k Ex X) {kd : Bool} {key : C} {j fi : Nat} {body : S} {sts : List Stmt} (hd : kd = false → dom .s_winner = true) (h : mMemo dom xd X.N X.env.scope kd key j fi body sts = true) :
    PSs X sts (tMemo c F Ex kd key j fi body) := by
  unfold mMemo at h
  split at h
  rotate_left
  · cases h
  rename_i k1 d1 p1 b p2 d3 k3 p3 p4
  simp only [Bool.and_eq_true, Bool.not_eq_true'] at h
  obtain ⟨⟨⟨⟨⟨⟨h1, h2⟩, h3⟩, h4⟩, h5⟩, h6⟩, h7⟩ := h
  split at h7
  rotate_left
  · cases h7
  rename_i d2 k2 p5 x p6 p7 hlast
  simp only [Bool.and_eq_true, decide_eq_true_eq] at h7
  obtain ⟨⟨⟨⟨⟨g1, g2⟩, g3⟩, g4⟩, g5⟩, g6⟩ := h7
  obtain ⟨n1, n2, n3⟩ := plain_of g5
  have hb : b = b.dropLast ++ [.Assign [.Subscript d2 k2 p5] (.Name x p6) p7] := by
    obtain ⟨b', e⟩ := List.getLast?_eq_some_iff.mp hlast
    rw [e, List.dropLast_concat]
  have hu := G.un
  have put := ps_mput (c := c) (pos := p7) (pos' := p5) G.hP G.hw (by omega) (pe_dk G g2) (seB key X Ex G.toGood _ g1).1 (pe_var (pos := p6) g3 (vis_of g4) n1 n2) (swaps_no (v := .Name x p6) rfl)
  have get := pe_mget (c := c) (pos := p3) G.hP G.hw (by omega) (pe_dk G h6) (seB key X Ex G.toGood _ h4).1 (nosl_of h5)
  have tst := pt_cmpR (pos := p1) (op_nin (c := c) G.hP G.hw (by omega)) (seB key X Ex G.toGood _ h1).1 (pe_dk G h2) (marks_of h3 _)
  rw [hb]
  refine pss_imp (pss_cons (ps_if tst (stBT G (pss_one put) body _ g6) pss_nil) (pss_one (ps_ret get))) fun Dn σ H ⟨hid, own, ρ, ha, en, q, hV⟩ => ?_
  have q0 := q
  rw [exec] at q
  refine ⟨hid, _, ha, en.view, q.bindD.imp fun xv H1 K1 ⟨kv, ek, rk, _, q1⟩ => ?_⟩
  -- the dict
  obtain ⟨dv, ed⟩ : ∃ dv, E F (.var j) (FC.view ρ) = .ok dv := by
    cases e : E F (.var j) (FC.view ρ) with
    | ok dv => exact ⟨dv, rfl⟩
    | exc n =>
      rw [E] at e
      split at e <;> cases e
    | bad => rw [e] at q1; exact q1.elim
  rw [ed] at q1
  simp only [Res.bind_ok] at q1
  split at q1
  rotate_left
  · exact q1.elim
  rename_i tri g ekey egame
  obtain ⟨m, y, w⟩ := tri
  have hv := hV kv dv m y w g ek ed ekey egame
  obtain ⟨a, da, mm⟩ := dk_env (en.keep K1) ed egame
  obtain ⟨hsys, cg, es, hobj, nd, eok, _⟩ := id mm
  obtain ⟨katx, kok⟩ := key_at rk ekey
  refine tDk_read G hd da ⟨a, _, es, m, y, w, rfl, hsys, hobj, ents_at eok, nd, katx, _, rfl, ?_⟩
  have ha1 := ha.keep K1
  have en1 := en.keep K1
  -- the last look: the key is there, its answer is n
  have last : ∀ (hid' own' : Addr → Prop) (σ' : L2.St) (H2 : Hp) (ρ' : FC.Env) (a' : Addr) (kv' : D) (n : Int), HA hid' H2 → EnvS c hid' own' H2 σ' ρ' → DA c kd σ' H2 j a' → MemoP c H2 kd g a' [keyN m y w] → E F key (FC.view ρ') = .ok kv' → keyOfD kv' = some (m, y, w) →
      (∀ v, c.V kd g m y w v → v = n) → (∀ H3, Kp c nohid H2 H3 → Dn.rt (.int n) H3) → tRet (tMGet c (tDk X.K kd j) (tD c F Ex key)) Dn σ' H2 := by
    intro hid' own' σ' H2 ρ' a' kv' n hA2 en2 da2 mp ek2 ekey2 hval fin
    refine tDk_read G hd da2 ⟨hid', _, hA2, en2.view, ?_⟩
    rw [ek2]
    intro yv H3 K3 rk3
    obtain ⟨_, _, es3, o3, nd3, eok3, mem3⟩ := K3.memoP _ _ _ _ mp
    obtain ⟨p, hp⟩ := atKey_mem (mem3 _ (List.mem_singleton.mpr rfl))
    obtain ⟨e, he, e1, e2, e3, e4⟩ := atKey_ent hp
    obtain ⟨kat3, _⟩ := key_at rk3 ekey2
    have hev : e.v = n := hval e.v (by have := (eok3 e he).v; rw [e1, e2, e3] at this; exact this)
    exact ⟨a', _, es3, m, y, w, e.a, e.v, e.tk, rfl, o3, ents_at eok3, nd3, kat3, by rw [hp, e4], by rw [hev]; exact fin H3 K3⟩
  cases fk : atKey (es.map Ent.raw) (keyN m y w) with
  | some p =>
    -- remembered
    obtain ⟨e, he, e1, e2, e3, e4⟩ := atKey_ent fk
    have hval := (hv e.v).1 (by have := (eok e he).v; rw [e1, e2, e3] at this; exact this)
    rw [hval] at q0
    show (if (!(some p).isSome) = true then _ else _)
    rw [if_neg (by simp)]
    refine last hid own σ H1 ρ a kv e.v ha1 en1 da ⟨hsys, cg, es, hobj, nd, eok, fun z hz => ?_⟩ ek ekey (fun v hvv => ?_) fun H3 K3 => q0 _ H3 (K1.trans K3).all rfl
    · rw [List.mem_singleton.mp hz]
      refine List.mem_map.mpr ⟨e.raw, List.mem_map_of_mem he, ?_⟩
      show keyN e.m e.y e.w = _
      rw [e1, e2, e3]
    · have := (hv v).1 hvv
      rw [hval] at this
      injection this with this
      injection this with this
      injection this with this
      exact this.symm
  | none =>
    show (if (!(none : Option (Addr × Value)).isSome) = true then _ else _)
    rw [if_pos (by simp)]
    refine ⟨hid, own, ρ, ha1, en1, ?_⟩
    cases er : exec F body ρ with
    | exc n => rw [er] at q1; exact q1
    | bad => rw [er] at q1; exact q1
    | ok r =>
      cases r with
      | rt d => rw [er] at q1; exact q1.elim
      | nx ρ' =>
        rw [er] at q1
        simp only [Res.bind_ok] at q1
        split at q1
        rotate_left
        · exact q1.elim
        rename_i kv' dv' n ek' ed' ei'
        split at q1
        rotate_left
        · exact q1.elim
        rename_i tri' g' ekey' egame'
        split at q1
        rotate_left
        · exact q1.elim
        rename_i hsame
        obtain ⟨hq, hg⟩ := hsame
        have hg := sameD_eq hg
        subst hq hg
        -- what the two statements answer
        have hans : exec F (.memo kd key j fi body) ρ = .ok (.rt (.int n)) := by
          rw [exec, ek, ed]
          simp only [Res.bind_ok, ekey, egame, er, ek', ed', ei', ekey', egame', sameD_refl, and_self, if_true]
        intro own' σ' H2 K2 s2 en2
        have hA2 := ha1.keep K2
        obtain ⟨v, ev, rv⟩ := en2.im fi (.int n) ei'
        have rv : v = .int n := rv
        subst rv
        obtain ⟨a', da', mm'⟩ := dk_env en2 ed' egame'
        refine ⟨_, ev, tDk_read G hd da' ⟨hid, _, hA2, en2.view, ?_⟩⟩
        rw [ek']
        intro yv H3 K3 rk3
        obtain ⟨hs3, cg3, es3, o3, nd3, eok3, _⟩ := K3.memo _ _ _ mm'
        obtain ⟨⟨t, ma, ya, ey, e1, e2, e3⟩, kok3⟩ := key_at rk3 ekey'
        refine ⟨a', _, es3, m, y, w, n, t, ma, ya, rfl, rfl, o3, ents_at eok3, nd3, fun e he => (eok3 e he).key, ey, e1, e2, e3, fun tk => ?_⟩
        obtain ⟨K4, mp⟩ := Kp.put (tk := tk) cg3 o3 eok3 nd3 ⟨kok3, e1, e2, e3, (hv n).2 hans⟩ hs3
        refine last hid own' σ' _ ρ' a' kv' n ((hA2.keep K3).keep K4) ((en2.keep K3).keep K4) ((da'.keep K3).keep K4) mp ek' ekey' (fun v hvv => ?_) fun H5 K5 => ?_
        · have := (hv v).1 hvv
          rw [hans] at this
          injection this with this
          injection this with this
          injection this with this
          exact this.symm
        · exact q1 _ H5 (((K2.trans K3.all).trans K4.all).trans K5.all) rfl
end
end FC

/-! Running code, by rules for simp. -/
set_option autoImplicit false
set_option linter.all false
set_option maxRecDepth 100000
set_option maxHeartbeats 4000000
set_option Elab.async false
namespace FC
open PySem

/-! ### named loops -/
section
variable (F : Fn → List D → Res D)
def thenF (r : Res Fl) (k : Env → Res Fl) : Res Fl := r.bind fun x => match x with
  | .nx ρ' => k ρ'
  | .rt d => .ok (.rt d)
def fin (r : Res Fl) : Res D := r.bind fun x => match x with
  | .rt d => .ok d
  | .nx _ => .ok .non
def forC (tg : Tg) (b : S) (xs : List D) (ρ : Env) : Res Fl := forL (fun x ρ => (bindS tg x ρ).bind fun ρ' => exec F b ρ') xs ρ
def whlC (t : C) (b : S) (n : Nat) (ρ : Env) : Res Fl := whileN (fun ρ => (E F t (view ρ)).bind truthD) (fun ρ => exec F b ρ) n ρ
/-- a comprehension's turn -/
def lcT (own : List Nat) (tg : Tg) (ifs elt : C) (ρ : List (Option D)) (x : D) : Res (Option D) :=
  (bindE tg x (wipeE ρ own)).bind fun ρ' => (IF F ifs ρ').bind fun t => if t then (E F elt ρ').bind fun y => .ok (some y) else .ok none
def lcC (own : List Nat) (tg : Tg) (ifs elt : C) (ρ : List (Option D)) (xs : List D) : Res (List D) := lcL (lcT F own tg ifs elt ρ) xs
def popT (j : Nat) (own : List Nat) (tg : Tg) (e : C) (ρ : Env) (x : D) (ds : List D) : Res Int :=
  (bindE tg x (wipeE (view (ρ.set j (.ow ds))) own)).bind fun ρ' => (E F e ρ').bind fun d => match d with
    | .int i => .ok i
    | _ => .bad
def popC (j : Nat) (own : List Nat) (tg : Tg) (e : C) (ρ : Env) (xs ds : List D) : Res (List D × List D) := popL (popT F j own tg e ρ) xs ds

/-! ### expressions -/
variable (ρ : List (Option D))
@[simp] theorem E_var (i : Nat) : E F (.var i) ρ = match ρ[i]? with
    | some (some d) => .ok d
    | _ => .bad := by rw [E] <;> rfl
@[simp] theorem E_int (n : Int) : E F (.int n) ρ = .ok (.int n) := by rw [E] <;> rfl
@[simp] theorem E_bl (n : Bool) : E F (.bl n) ρ = .ok (.bl n) := by rw [E] <;> rfl
@[simp] theorem E_non : E F .non ρ = .ok .non := by rw [E] <;> rfl
@[simp] theorem E_str (x : Str) : E F (.str x) ρ = .ok (.str x) := by rw [E] <;> rfl
@[simp] theorem E_tup (a : C) : E F (.tup a) ρ = (EL F a ρ).bind fun xs => mkT xs := by rw [E] <;> rfl
@[simp] theorem E_lst (a : C) : E F (.lst a) ρ = (EL F a ρ).bind fun xs => mkL xs := by rw [E] <;> rfl
@[simp] theorem E_bin (o : BO) (a b : C) : E F (.bin o a b) ρ = (E F a ρ).bind fun x => (E F b ρ).bind fun y => binD o x y := by rw [E] <;> rfl
@[simp] theorem E_neg (a : C) : E F (.neg a) ρ = (E F a ρ).bind fun x => match x with
    | .int i => .ok (.int (-i))
    | _ => .bad := by rw [E] <;> rfl
@[simp] theorem E_cmp (o : CO) (a b : C) : E F (.cmp o a b) ρ = (E F a ρ).bind fun x => (E F b ρ).bind fun y => cmpD o x y := by rw [E] <;> rfl
@[simp] theorem E_leq2 (a b c : C) : E F (.leq2 a b c) ρ = (E F a ρ).bind fun x => (E F b ρ).bind fun y => match x, y with
    | .int i, .int j => if i ≤ j then (E F c ρ).bind fun z => match z with
        | .int k => .ok (.bl (decide (j ≤ k)))
        | _ => .bad
      else .ok (.bl false)
    | _, _ => .bad := by rw [E] <;> rfl
@[simp] theorem E_and (a b : C) : E F (.and a b) ρ = (E F a ρ).bind fun x => (truthD x).bind fun t => if t then E F b ρ else .ok x := by rw [E] <;> rfl
@[simp] theorem E_or (a b : C) : E F (.or a b) ρ = (E F a ρ).bind fun x => (truthD x).bind fun t => if t then .ok x else E F b ρ := by rw [E] <;> rfl
@[simp] theorem E_not (a : C) : E F (.not a) ρ = (E F a ρ).bind fun x => (truthD x).bind fun t => .ok (.bl (!t)) := by rw [E] <;> rfl
@[simp] theorem E_idx (a b : C) : E F (.idx a b) ρ = (E F a ρ).bind fun x => (E F b ρ).bind fun y => idxD x y := by rw [E] <;> rfl
@[simp] theorem E_slc (a lo hi : C) : E F (.slc a lo hi) ρ = (E F a ρ).bind fun x => (EO F lo ρ).bind fun l => (EO F hi ρ).bind fun h => slcD x l h := by rw [E] <;> rfl
@[simp] theorem E_rev (a : C) : E F (.rev a) ρ = (E F a ρ).bind revD := by rw [E] <;> rfl
@[simp] theorem E_call (f : Fn) (as : C) : E F (.call f as) ρ = (EL F as ρ).bind fun xs => F f xs := by rw [E] <;> rfl
@[simp] theorem E_meth (f : Fn) (o as : C) : E F (.meth f o as) ρ = (E F o ρ).bind fun x => match x with
    | .slv g => (EL F as ρ).bind fun xs => F f (.slv g :: xs)
    | _ => .bad := by rw [E] <;> rfl
@[simp] theorem E_bi (f : BI) (as : C) : E F (.bi f as) ρ = (EL F as ρ).bind fun xs => biD f xs := by rw [E] <;> rfl
@[simp] theorem E_lrng (a : C) : E F (.lrng a) ρ = (E F a ρ).bind fun x => (rngD (.int 0) x).bind fun xs => .ok (.lst xs) := by rw [E] <;> rfl
@[simp] theorem E_sset (a : C) : E F (.sset a) ρ = (E F a ρ).bind ssetD := by rw [E] <;> rfl
@[simp] theorem E_lset (a : C) : E F (.lset a) ρ = (E F a ρ).bind lsetD := by rw [E] <;> rfl
@[simp] theorem E_isi (a : C) (t : Kd) : E F (.isi a t) ρ = (E F a ρ).bind fun x => isiD t x := by rw [E] <;> rfl
@[simp] theorem E_join (a b : C) : E F (.join a b) ρ = (E F a ρ).bind fun x => match x with
    | .str x => (E F b ρ).bind fun y => (seqOf y).bind fun ys => joinD x ys
    | _ => .bad := by rw [E] <;> rfl
@[simp] theorem E_split (a b : C) : E F (.split a b) ρ = (E F a ρ).bind fun x => match x with
    | .str x => (E F b ρ).bind fun y => splitD (.str x) y
    | _ => .bad := by rw [E] <;> rfl
@[simp] theorem E_indx (a b : C) : E F (.indx a b) ρ = (E F a ρ).bind fun x => match x with
    | .lst xs => (E F b ρ).bind fun y => indexD (.lst xs) y
    | _ => .bad := by rw [E] <;> rfl
@[simp] theorem E_nin (a b : C) : E F (.nin a b) ρ = (E F a ρ).bind fun x => (E F b ρ).bind fun y => match x, y with
    | .int i, .int n => if rngOk n && rngOk i then .ok (.bl (!decide (0 ≤ i ∧ i < n))) else .bad
    | _, _ => .bad := by rw [E] <;> rfl
@[simp] theorem E_lc (own : List Nat) (tg : Tg) (it ifs elt : C) : E F (.lc own tg it ifs elt) ρ = (IT F it ρ).bind fun xs => (lcC F own tg ifs elt ρ xs).bind fun ys => .ok (.lst ys) := by rw [E]; rfl
@[simp] theorem E_mem0 (i : Nat) : E F (.mem0 i) ρ = match ρ[i]? with
    | some (some g) => if cod g then .ok (.memo true g) else .bad
    | _ => .bad := by rw [E] <;> rfl
@[simp] theorem E_slvr (a : C) : E F (.slvr a) ρ = (E F a ρ).bind fun g => if cod g then .ok (.slv g) else .bad := by rw [E] <;> rfl
@[simp] theorem E_game (a : C) : E F (.game a) ρ = (E F a ρ).bind fun x => match x with
    | .slv g => .ok g
    | _ => .bad := by rw [E] <;> rfl
@[simp] theorem EL_nil : EL F .nil ρ = .ok [] := by rw [EL]
@[simp] theorem EL_cons (a b : C) : EL F (.cons a b) ρ = (E F a ρ).bind fun x => (EL F b ρ).bind fun xs => .ok (x :: xs) := by rw [EL]
@[simp] theorem EO_nil : EO F .nil ρ = .ok none := by rw [EO]
@[simp] theorem EO_cons (a : C) : EO F (.cons a .nil) ρ = (E F a ρ).bind fun x => optI (some x) := by rw [EO]
@[simp] theorem IF_nil : IF F .nil ρ = .ok true := by rw [IF]
@[simp] theorem IF_cons (a : C) : IF F (.cons a .nil) ρ = (E F a ρ).bind truthD := by rw [IF]
@[simp] theorem IT_r1 (a : C) : IT F (.r1 a) ρ = (E F a ρ).bind fun x => rngD (.int 0) x := by rw [IT] <;> rfl
@[simp] theorem IT_r2 (a b : C) : IT F (.r2 a b) ρ = (E F a ρ).bind fun x => (E F b ρ).bind fun y => rngD x y := by rw [IT] <;> rfl
@[simp] theorem IT_zp (a b : C) : IT F (.zp a b) ρ = (E F a ρ).bind fun x => (E F b ρ).bind fun y => match y with
    | .tup ys => (seqOf x).bind fun xs => .ok (List.zipWith (fun u v => .tup [u, v]) xs ys)
    | _ => .bad := by rw [IT] <;> rfl
@[simp] theorem IT_en (a : C) : IT F (.en a) ρ = (E F a ρ).bind fun x => match x with
    | .lst xs => .ok (xs.mapIdx fun k u => .tup [.int (k : Nat), u])
    | .tup xs => .ok (xs.mapIdx fun k u => .tup [.int (k : Nat), u])
    | _ => .bad := by rw [IT] <;> rfl
@[simp] theorem IT_cons (a : C) : IT F (.cons a .nil) ρ = (E F a ρ).bind seqOf := by rw [IT] <;> rfl
end
section
variable (F : Fn → List D → Res D) (ρ : Env)
@[simp] theorem X_skip : exec F .skip ρ = .ok (.nx ρ) := by rw [exec] <;> rfl
@[simp] theorem X_seq (a b : S) : exec F (.seq a b) ρ = thenF (exec F a ρ) (exec F b) := by rw [exec]; rfl
@[simp] theorem X_asg (i : Nat) (e : C) : exec F (.asg i e) ρ = (E F e (strict ρ)).bind fun d => .ok (.nx (ρ.set i (.im d))) := by rw [exec] <;> rfl
@[simp] theorem X_asgF (i : Nat) (e : C) : exec F (.asgF i e) ρ = (E F e (strict ρ)).bind fun d => match d with
    | .lst ds => .ok (.nx (ρ.set i (.ow ds)))
    | _ => .bad := by rw [exec] <;> rfl
@[simp] theorem X_frz (i : Nat) : exec F (.frz i) ρ = match ρ[i]? with
    | some s => .ok (.nx (ρ.set i s.frz))
    | none => .bad := by rw [exec] <;> rfl
@[simp] theorem X_unp (is : List Nat) (e : C) : exec F (.unp is e) ρ = (E F e (strict ρ)).bind fun d => (bindS (.many is) d ρ).bind fun ρ' => .ok (.nx ρ') := by rw [exec] <;> rfl
@[simp] theorem X_par (i j : Nat) (a b : C) : exec F (.par i j a b) ρ = (E F a (strict ρ)).bind fun x => (E F b (strict ρ)).bind fun y => .ok (.nx ((ρ.set i (.im x)).set j (.im y))) := by rw [exec] <;> rfl
@[simp] theorem X_app (i : Nat) (e : C) : exec F (.app i e) ρ = match ρ[i]? with
    | some (.ow ds) => (E F e (strict ρ)).bind fun d => if ds.length < lim then .ok (.nx (ρ.set i (.ow (ds ++ [d])))) else .bad
    | _ => .bad := by rw [exec] <;> rfl
@[simp] theorem X_ext (i : Nat) (e : C) : exec F (.ext i e) ρ = match ρ[i]? with
    | some (.ow ds) => (E F e (strict ρ)).bind fun d => match d with
      | .lst xs => if ds.length + xs.length ≤ lim then .ok (.nx (ρ.set i (.ow (ds ++ xs)))) else .bad
      | _ => .bad
    | _ => .bad := by rw [exec] <;> rfl
@[simp] theorem X_ret (e : C) : exec F (.ret e) ρ = (E F e (view ρ)).bind fun d => .ok (.rt d) := by rw [exec] <;> rfl
@[simp] theorem X_ife (t : C) (a b : S) : exec F (.ife t a b) ρ = (E F t (view ρ)).bind fun d => (truthD d).bind fun c => if c then exec F a ρ else exec F b ρ := by rw [exec] <;> rfl
@[simp] theorem X_for (tg : Tg) (it : C) (b : S) : exec F (.for_ tg it b) ρ = (IT F it (strict ρ)).bind fun xs => forC F tg b xs ρ := by rw [exec]; rfl
@[simp] theorem X_whl (n : Nat) (t : C) (b : S) : exec F (.whl n t b) ρ = whlC F t b n ρ := by rw [exec]; rfl
@[simp] theorem X_rai (n : Nat) : exec F (.rai n) ρ = .exc n := by rw [exec] <;> rfl
@[simp] theorem X_pops (tp : Bool) (i j : Nat) (own : List Nat) (tg : Tg) (it e : C) : exec F (.pops tp i j own tg it e) ρ = (IT F it (strict ρ)).bind fun xs => match ρ[j]? with
    | some (.ow ds) => if ds.length ≤ lim then (popC F j own tg e ρ xs ds).bind fun r => .ok (.nx ((ρ.set j (.ow r.2)).set i (.im (if tp then .tup r.1 else .lst r.1)))) else .bad
    | _ => .bad := by rw [exec]; rfl
@[simp] theorem X_memo (kd : Bool) (key : C) (j fi : Nat) (body : S) : exec F (.memo kd key j fi body) ρ = (E F key (view ρ)).bind fun kv => (E F (.var j) (view ρ)).bind fun dv => match keyOfD kv, gameOf kd dv ρ[0]? with
    | some q, some g => (exec F body ρ).bind fun r => match r with
      | .nx ρ' => match E F key (view ρ'), E F (.var j) (view ρ'), ρ'[fi]? with
        | .ok kv', .ok dv', some (.im (.int w)) => match keyOfD kv', gameOf kd dv' ρ'[0]? with
          | some q', some g' => if q = q' ∧ sameD g g' = true then .ok (.rt (.int w)) else .bad
          | _, _ => .bad
        | _, _, _ => .bad
      | .rt _ => .bad
    | _, _ => .bad := by rw [exec] <;> rfl
@[simp] theorem thenF_nx (ρ : Env) (k : Env → Res Fl) : thenF (.ok (.nx ρ)) k = k ρ := rfl
@[simp] theorem thenF_rt (d : D) (k : Env → Res Fl) : thenF (.ok (.rt d)) k = .ok (.rt d) := rfl
@[simp] theorem thenF_exc (n : Nat) (k : Env → Res Fl) : thenF (.exc n) k = .exc n := rfl
theorem thenF_ite (c : Prop) [Decidable c] (a b : Res Fl) (k : Env → Res Fl) : thenF (if c then a else b) k = if c then thenF a k else thenF b k := by split <;> rfl
theorem bind_ite {α β : Type} (c : Prop) [Decidable c] (a b : Res α) (k : α → Res β) : (if c then a else b).bind k = if c then a.bind k else b.bind k := by split <;> rfl
@[simp] theorem fin_rt (d : D) : fin (.ok (.rt d)) = .ok d := rfl
@[simp] theorem fin_nx (ρ : Env) : fin (.ok (.nx ρ)) = .ok .non := rfl
@[simp] theorem fin_exc (n : Nat) : fin (.exc n) = .exc n := rfl
theorem fin_ite (c : Prop) [Decidable c] (a b : Res Fl) : fin (if c then a else b) = if c then fin a else fin b := by split <;> rfl
@[simp] theorem truthD_non : truthD .non = .ok false := rfl
@[simp] theorem truthD_bl (b : Bool) : truthD (.bl b) = .ok b := rfl
@[simp] theorem truthD_int (i : Int) : truthD (.int i) = .ok (i != 0) := rfl
@[simp] theorem truthD_tup (xs : List D) : truthD (.tup xs) = .ok (!xs.isEmpty) := rfl
@[simp] theorem truthD_lst (xs : List D) : truthD (.lst xs) = .ok (!xs.isEmpty) := rfl
@[simp] theorem forC_nil (tg : Tg) (b : S) : forC F tg b [] ρ = .ok (.nx ρ) := rfl
theorem forC_cons (tg : Tg) (b : S) (x : D) (xs : List D) : forC F tg b (x :: xs) ρ = thenF ((bindS tg x ρ).bind (exec F b)) (forC F tg b xs) := rfl
@[simp] theorem bindS_one (i : Nat) (d : D) : bindS (.one i) d ρ = .ok (ρ.set i (.im d)) := rfl
@[simp] theorem bindS_many (is : List Nat) (ds : List D) : bindS (.many is) (.tup ds) ρ = ofOpt (setAll ρ is ds) := rfl
@[simp] theorem setAll_nil : setAll ρ [] [] = some ρ := rfl
@[simp] theorem setAll_cons (i : Nat) (is : List Nat) (x : D) (xs : List D) : setAll ρ (i :: is) (x :: xs) = setAll (ρ.set i (.im x)) is xs := rfl
@[simp] theorem bindE_one (ρ : List (Option D)) (i : Nat) (d : D) : bindE (.one i) d ρ = .ok (ρ.set i (some d)) := rfl
@[simp] theorem bindE_many (ρ : List (Option D)) (is : List Nat) (ds : List D) : bindE (.many is) (.tup ds) ρ = ofOpt (setAllE ρ is ds) := rfl
@[simp] theorem setAllE_nil (ρ : List (Option D)) : setAllE ρ [] [] = some ρ := rfl
@[simp] theorem setAllE_cons (ρ : List (Option D)) (i : Nat) (is : List Nat) (x : D) (xs : List D) : setAllE ρ (i :: is) (x :: xs) = setAllE (ρ.set i (some x)) is xs := rfl
@[simp] theorem wipeE_nil (ρ : List (Option D)) : wipeE ρ [] = ρ := rfl
@[simp] theorem wipeE_cons (ρ : List (Option D)) (i : Nat) (is : List Nat) : wipeE ρ (i :: is) = (wipeE ρ is).set i none := rfl
@[simp] theorem view_nil : view [] = [] := rfl
@[simp] theorem view_cons (s : Sl) (ρ : Env) : view (s :: ρ) = s.view :: view ρ := rfl
@[simp] theorem strict_nil : strict [] = [] := rfl
@[simp] theorem strict_cons (s : Sl) (ρ : Env) : strict (s :: ρ) = s.strict :: strict ρ := rfl
@[simp] theorem view_im (d : D) : (Sl.im d).view = some d := rfl
@[simp] theorem view_no : Sl.no.view = none := rfl
@[simp] theorem view_ow (d : List D) : (Sl.ow d).view = some (.lst d) := rfl
@[simp] theorem strict_im (d : D) : (Sl.im d).strict = some d := rfl
@[simp] theorem strict_no : Sl.no.strict = none := rfl
@[simp] theorem strict_ow (d : List D) : (Sl.ow d).strict = none := rfl
@[simp] theorem frz_ow (d : List D) : (Sl.ow d).frz = .im (.lst d) := rfl
@[simp] theorem frz_im (d : D) : (Sl.im d).frz = .im d := rfl
@[simp] theorem frz_no : Sl.no.frz = .no := rfl
end
/-! ### loops -/
section
variable {F : Fn → List D → Res D}
/-- a loop that carries a state -/
theorem forC_fold {σ : Type} {tg : Tg} {b : S} (I : σ → Env → Prop) (step : σ → D → σ) : ∀ (xs : List D) (s : σ) (ρ : Env), I s ρ →
    (∀ (pre post : List D) (x : D) (ρ : Env), xs = pre ++ x :: post → I (pre.foldl step s) ρ → ∃ ρ', (bindS tg x ρ).bind (exec F b) = .ok (.nx ρ') ∧ I (step (pre.foldl step s) x) ρ') →
    ∃ ρ', forC F tg b xs ρ = .ok (.nx ρ') ∧ I (xs.foldl step s) ρ'
  | [], s, ρ, h, _ => ⟨ρ, rfl, h⟩
  | x :: xs, s, ρ, h, hs => by
    obtain ⟨ρ1, h1, h2⟩ := hs [] xs x ρ rfl h
    rw [forC_cons, h1, thenF_nx]
    obtain ⟨ρ2, h3, h4⟩ := forC_fold I step xs (step s x) ρ1 h2 fun pre post y ρ e hi => hs (x :: pre) post y ρ (by rw [e]; rfl) hi
    exact ⟨ρ2, h3, h4⟩
/-- a loop over items that are made of things -/
theorem forC_map {α σ : Type} {tg : Tg} {b : S} (g : α → D) (I : σ → Env → Prop) (step : σ → α → σ) : ∀ (xs : List α) (s : σ) (ρ : Env), I s ρ →
    (∀ (pre post : List α) (x : α) (ρ : Env), xs = pre ++ x :: post → I (pre.foldl step s) ρ → ∃ ρ', (bindS tg (g x) ρ).bind (exec F b) = .ok (.nx ρ') ∧ I (step (pre.foldl step s) x) ρ') →
    ∃ ρ', forC F tg b (xs.map g) ρ = .ok (.nx ρ') ∧ I (xs.foldl step s) ρ'
  | [], s, ρ, h, _ => ⟨ρ, rfl, h⟩
  | x :: xs, s, ρ, h, hs => by
    obtain ⟨ρ1, h1, h2⟩ := hs [] xs x ρ rfl h
    rw [List.map_cons, forC_cons, h1, thenF_nx]
    obtain ⟨ρ2, h3, h4⟩ := forC_map g I step xs (step s x) ρ1 h2 fun pre post y ρ e hi => hs (x :: pre) post y ρ (by rw [e]; rfl) hi
    exact ⟨ρ2, h3, h4⟩
/-- a loop that may return: the first item at which it does -/
theorem forC_ret {α σ : Type} {tg : Tg} {b : S} (g : α → D) (I : σ → Env → Prop) (step : σ → α → σ) (out : σ → α → Option D) : ∀ (xs : List α) (s : σ) (ρ : Env), I s ρ →
    (∀ (pre post : List α) (x : α) (ρ : Env), xs = pre ++ x :: post → I (pre.foldl step s) ρ →
      (∃ d, out (pre.foldl step s) x = some d ∧ (bindS tg (g x) ρ).bind (exec F b) = .ok (.rt d)) ∨ (out (pre.foldl step s) x = none ∧ ∃ ρ', (bindS tg (g x) ρ).bind (exec F b) = .ok (.nx ρ') ∧ I (step (pre.foldl step s) x) ρ')) →
    (∃ (pre post : List α) (x : α) (d : D), xs = pre ++ x :: post ∧ out (pre.foldl step s) x = some d ∧ forC F tg b (xs.map g) ρ = .ok (.rt d)) ∨
    ((∀ (pre post : List α) (x : α), xs = pre ++ x :: post → out (pre.foldl step s) x = none) ∧ ∃ ρ', forC F tg b (xs.map g) ρ = .ok (.nx ρ') ∧ I (xs.foldl step s) ρ')
  | [], s, ρ, h, _ => .inr ⟨fun pre post x e => (by cases pre <;> cases e), ρ, rfl, h⟩
  | x :: xs, s, ρ, h, hs => by
    rcases hs [] xs x ρ rfl h with ⟨d, h0, h1⟩ | ⟨h0, ρ1, h1, h2⟩
    · exact .inl ⟨[], xs, x, d, rfl, h0, by rw [List.map_cons, forC_cons, h1]; rfl⟩
    · rcases forC_ret g I step out xs (step s x) ρ1 h2 fun pre post y ρ e hi => hs (x :: pre) post y ρ (by rw [e]; rfl) hi with ⟨pre, post, y, d, e, h3, h4⟩ | ⟨h3, ρ2, h4, h5⟩
      · exact .inl ⟨x :: pre, post, y, d, by rw [e]; rfl, h3, by rw [List.map_cons, forC_cons, h1]; exact h4⟩
      · refine .inr ⟨fun pre post y e => ?_, ρ2, by rw [List.map_cons, forC_cons, h1]; exact h4, h5⟩
        cases pre with
        | nil => cases e; exact h0
        | cons z pre => cases e; exact h3 pre post y rfl
/-- the same, where nothing is carried -/
theorem forC_find {α : Type} {tg : Tg} {b : S} (g : α → D) (I : Env → Prop) (out : α → Option D) (xs : List α) (ρ : Env) (h : I ρ)
    (hs : ∀ (x : α) (ρ : Env), x ∈ xs → I ρ → (∃ d, out x = some d ∧ (bindS tg (g x) ρ).bind (exec F b) = .ok (.rt d)) ∨ (out x = none ∧ ∃ ρ', (bindS tg (g x) ρ).bind (exec F b) = .ok (.nx ρ') ∧ I ρ')) :
    (∃ d, xs.findSome? out = some d ∧ forC F tg b (xs.map g) ρ = .ok (.rt d)) ∨ (xs.findSome? out = none ∧ ∃ ρ', forC F tg b (xs.map g) ρ = .ok (.nx ρ') ∧ I ρ') := by
  induction xs generalizing ρ with
  | nil => exact .inr ⟨rfl, ρ, rfl, h⟩
  | cons x xs ih =>
    rw [List.map_cons, forC_cons, List.findSome?_cons]
    rcases hs x ρ List.mem_cons_self h with ⟨d, h0, h1⟩ | ⟨h0, ρ1, h1, h2⟩
    · rw [h0, h1]
      exact .inl ⟨d, rfl, rfl⟩
    · rw [h0, h1]
      exact ih ρ1 h2 fun y ρ hy => hs y ρ (List.mem_cons_of_mem _ hy)
/-- a loop, by what holds behind a part of the items -/
theorem forC_pre {α : Type} {tg : Tg} {b : S} (g : α → D) (I : List α → Env → Prop) (xs : List α) (ρ : Env) (h : I [] ρ)
    (hs : ∀ (pre post : List α) (x : α) (ρ : Env), xs = pre ++ x :: post → I pre ρ → ∃ ρ', (bindS tg (g x) ρ).bind (exec F b) = .ok (.nx ρ') ∧ I (pre ++ [x]) ρ') :
    ∃ ρ', forC F tg b (xs.map g) ρ = .ok (.nx ρ') ∧ I xs ρ' := by
  suffices q : ∀ (post pre : List α) (ρ : Env), xs = pre ++ post → I pre ρ → ∃ ρ', forC F tg b (post.map g) ρ = .ok (.nx ρ') ∧ I xs ρ' from q xs [] ρ rfl h
  intro post
  induction post with
  | nil => intro pre ρ e hi; rw [List.append_nil] at e; subst e; exact ⟨ρ, rfl, hi⟩
  | cons x post ih =>
    intro pre ρ e hi
    obtain ⟨ρ1, h1, h2⟩ := hs pre post x ρ e hi
    rw [List.map_cons, forC_cons, h1, thenF_nx]
    exact ih (pre ++ [x]) ρ1 (by rw [e, List.append_assoc]; rfl) h2
/-- the same, if it may return -/
theorem forC_preR {α : Type} {tg : Tg} {b : S} (g : α → D) (I : List α → Env → Prop) (R : D → Prop) (xs : List α) (ρ : Env) (h : I [] ρ)
    (hs : ∀ (pre post : List α) (x : α) (ρ : Env), xs = pre ++ x :: post → I pre ρ → (∃ d, (bindS tg (g x) ρ).bind (exec F b) = .ok (.rt d) ∧ R d) ∨ ∃ ρ', (bindS tg (g x) ρ).bind (exec F b) = .ok (.nx ρ') ∧ I (pre ++ [x]) ρ') :
    (∃ d, forC F tg b (xs.map g) ρ = .ok (.rt d) ∧ R d) ∨ ∃ ρ', forC F tg b (xs.map g) ρ = .ok (.nx ρ') ∧ I xs ρ' := by
  suffices q : ∀ (post pre : List α) (ρ : Env), xs = pre ++ post → I pre ρ → (∃ d, forC F tg b (post.map g) ρ = .ok (.rt d) ∧ R d) ∨ ∃ ρ', forC F tg b (post.map g) ρ = .ok (.nx ρ') ∧ I xs ρ' from q xs [] ρ rfl h
  intro post
  induction post with
  | nil => intro pre ρ e hi; rw [List.append_nil] at e; subst e; exact .inr ⟨ρ, rfl, hi⟩
  | cons x post ih =>
    intro pre ρ e hi
    rw [List.map_cons, forC_cons]
    rcases hs pre post x ρ e hi with ⟨d, h1, h2⟩ | ⟨ρ1, h1, h2⟩
    · rw [h1]; exact .inl ⟨d, rfl, h2⟩
    · rw [h1, thenF_nx]
      exact ih (pre ++ [x]) ρ1 (by rw [e, List.append_assoc]; rfl) h2
/-- comprehensions -/
theorem lcC_map {α : Type} {own : List Nat} {tg : Tg} {ifs elt : C} {ρ : List (Option D)} (g : α → D) (h : α → D) : ∀ (xs : List α), (∀ x ∈ xs, lcT F own tg ifs elt ρ (g x) = .ok (some (h x))) → lcC F own tg ifs elt ρ (xs.map g) = .ok (xs.map h)
  | [], _ => rfl
  | x :: xs, hx => by
    have ih := lcC_map g h xs fun y hy => hx y (List.mem_cons_of_mem _ hy)
    unfold lcC at ih ⊢
    rw [List.map_cons, lcL, hx x List.mem_cons_self, Res.calm_ok, Res.bind_ok, ih]
    rfl
theorem lcC_filter {α : Type} {own : List Nat} {tg : Tg} {ifs elt : C} {ρ : List (Option D)} (g : α → D) (p : α → Bool) (h : α → D) : ∀ (xs : List α), (∀ x ∈ xs, lcT F own tg ifs elt ρ (g x) = .ok (if p x then some (h x) else none)) →
    lcC F own tg ifs elt ρ (xs.map g) = .ok ((xs.filter p).map h)
  | [], _ => rfl
  | x :: xs, hx => by
    have ih := lcC_filter g p h xs fun y hy => hx y (List.mem_cons_of_mem _ hy)
    unfold lcC at ih ⊢
    rw [List.map_cons, lcL, hx x List.mem_cons_self, Res.calm_ok, Res.bind_ok, ih, List.filter_cons]
    cases p x <;> rfl
end

/-! ### defs -/
theorem run_code {k : Nat} {f : Fn} {d : Def} {ds : List D} (h : tab f = some (.code d)) (hl : ds.length = d.np) : run tab (k + 1) f ds = fin (exec (run tab k) d.body (start d.N.length ds)) := by
  rw [run, h]
  simp only [body, hl, if_true]
  rfl
theorem suc {n k : Nat} (h : n + 1 ≤ k) : ∃ j, k = j + 1 ∧ n ≤ j := ⟨k - 1, by omega, by omega⟩
theorem run_mix {k : Nat} (hk : 1 ≤ k) {c p m : Int} (hp : 0 < p) (hm : 0 < m) : run tab k .l_mix [.int c, .int p, .int m] = .ok (.int (c * 48271 % p % m)) := by
  obtain ⟨k, rfl, hk⟩ := suc hk
  rw [run_code rfl rfl]
  simp [d_l_mix, start, binD, small64, hp, hm]
end FC

/-! More turns change no answer. -/
set_option autoImplicit false
set_option linter.all false
set_option maxRecDepth 100000
set_option maxHeartbeats 4000000
set_option Elab.async false
namespace FC
open PySem

def Le {α : Type} (r r' : Res α) : Prop := r = .bad ∨ r' = r
section
variable {α β : Type} {r r' : Res α}
theorem Le.refl : Le r r := .inr rfl
theorem Le.bad {r' : Res α} : Le (.bad : Res α) r' := .inl rfl
theorem Le.bind {k k' : α → Res β} (h : Le r r') (hk : ∀ a, Le (k a) (k' a)) : Le (r.bind k) (r'.bind k') := by
  rcases h with rfl | rfl
  · exact .bad
  · cases r' with
    | ok a => exact hk a
    | exc n => exact .refl
    | bad => exact .refl
theorem Le.calm (h : Le r r') : Le r.calm r'.calm := by
  rcases h with rfl | rfl
  · exact .bad
  · exact .refl
theorem Le.trans {r'' : Res α} (h : Le r r') (h' : Le r' r'') : Le r r'' := by
  rcases h with rfl | rfl
  · exact .bad
  · exact h'
theorem Le.cond {a a' b b' : Res α} {t : Bool} (h1 : Le a a') (h2 : Le b b') : Le (if t = true then a else b) (if t = true then a' else b') := by
  cases t with
  | true => exact h1
  | false => exact h2
theorem Le.eq (h : Le r r') (hn : r ≠ .bad) : r' = r := h.resolve_left hn
end
theorem lcL_mono {f f' : D → Res (Option D)} (h : ∀ x, Le (f x) (f' x)) : ∀ xs, Le (lcL f xs) (lcL f' xs)
  | [] => .refl
  | x :: xs => (h x).calm.bind fun o => (lcL_mono h xs).bind fun ys => .refl
theorem forL_mono {f f' : D → Env → Res Fl} (h : ∀ x ρ, Le (f x ρ) (f' x ρ)) : ∀ xs ρ, Le (forL f xs ρ) (forL f' xs ρ)
  | [], _ => .refl
  | x :: xs, ρ => (h x ρ).bind fun r => by
    cases r with
    | nx ρ' => exact forL_mono h xs ρ'
    | rt d => exact .refl
theorem whileN_mono {t t' : Env → Res Bool} {f f' : Env → Res Fl} (ht : ∀ ρ, Le (t ρ) (t' ρ)) (h : ∀ ρ, Le (f ρ) (f' ρ)) : ∀ n ρ, Le (whileN t f n ρ) (whileN t' f' n ρ)
  | 0, _ => .refl
  | n + 1, ρ => by
    rw [whileN, whileN]
    refine (ht ρ).bind fun b => Le.cond ((h ρ).bind fun r => ?_) .refl
    cases r with
    | nx ρ' => exact whileN_mono ht h n ρ'
    | rt d => exact .refl
theorem popL_mono {f f' : D → List D → Res Int} (h : ∀ x ds, Le (f x ds) (f' x ds)) : ∀ xs ds, Le (popL f xs ds) (popL f' xs ds)
  | [], _ => .refl
  | x :: xs, ds => (h x ds).calm.bind fun i => by
    cases L2.ixN ds.length i with
    | none => exact .refl
    | some k =>
      show Le (match ds[k]? with
        | some y => (popL f xs (ds.eraseIdx k)).bind fun r => Res.ok (y :: r.1, r.2)
        | none => .bad) (match ds[k]? with
        | some y => (popL f' xs (ds.eraseIdx k)).bind fun r => Res.ok (y :: r.1, r.2)
        | none => .bad)
      cases ds[k]? with
      | none => exact .refl
      | some y => exact (popL_mono h xs _).bind fun r => .refl
def FLe (F F' : Fn → List D → Res D) : Prop := ∀ f ds, Le (F f ds) (F' f ds)
section
variable {F F' : Fn → List D → Res D} (hF : FLe F F')
structure MonoC (F F' : Fn → List D → Res D) (c : C) : Prop where
  e : ∀ ρ, Le (E F c ρ) (E F' c ρ)
  l : ∀ ρ, Le (EL F c ρ) (EL F' c ρ)
  o : ∀ ρ, Le (EO F c ρ) (EO F' c ρ)
  i : ∀ ρ, Le (IF F c ρ) (IF F' c ρ)
  t : ∀ ρ, Le (IT F c ρ) (IT F' c ρ)
theorem MonoC.of {c : C} (h : ∀ ρ, Le (E F c ρ) (E F' c ρ)) (l : ∀ ρ, EL F c ρ = .bad) (o : ∀ ρ, EO F c ρ = .bad) (i : ∀ ρ, IF F c ρ = .bad) (t : ∀ ρ, IT F c ρ = .bad) : MonoC F F' c :=
  ⟨h, fun ρ => by rw [l]; exact .bad, fun ρ => by rw [o]; exact .bad, fun ρ => by rw [i]; exact .bad, fun ρ => by rw [t]; exact .bad⟩
include hF
theorem mono_C : ∀ c : C, MonoC F F' c := by
  intro c
  induction c with
  | var i => exact .of (fun ρ => by rw [E_var, E_var]; exact .refl) (fun _ => rfl) (fun _ => rfl) (fun _ => rfl) (fun _ => rfl)
  | int n => exact .of (fun ρ => by rw [E_int, E_int]; exact .refl) (fun _ => rfl) (fun _ => rfl) (fun _ => rfl) (fun _ => rfl)
  | bl n => exact .of (fun ρ => by rw [E_bl, E_bl]; exact .refl) (fun _ => rfl) (fun _ => rfl) (fun _ => rfl) (fun _ => rfl)
  | non => exact .of (fun ρ => by rw [E_non, E_non]; exact .refl) (fun _ => rfl) (fun _ => rfl) (fun _ => rfl) (fun _ => rfl)
  | str n => exact .of (fun ρ => by rw [E_str, E_str]; exact .refl) (fun _ => rfl) (fun _ => rfl) (fun _ => rfl) (fun _ => rfl)
  | nil => exact ⟨fun ρ => .bad, fun ρ => by rw [EL_nil, EL_nil]; exact .refl, fun ρ => by rw [EO_nil, EO_nil]; exact .refl, fun ρ => by rw [IF_nil, IF_nil]; exact .refl, fun ρ => .bad⟩
  | cons a b iha ihb =>
    refine ⟨fun ρ => .bad, fun ρ => by rw [EL_cons, EL_cons]; exact (iha.e ρ).bind fun x => (ihb.l ρ).bind fun y => .refl, fun ρ => ?_, fun ρ => ?_, fun ρ => ?_⟩
    · cases b with
      | nil => rw [EO_cons, EO_cons]; exact (iha.e ρ).bind fun x => .refl
      | _ => exact .bad
    · cases b with
      | nil => rw [IF_cons, IF_cons]; exact (iha.e ρ).bind fun x => .refl
      | _ => exact .bad
    · cases b with
      | nil => rw [IT_cons, IT_cons]; exact (iha.e ρ).bind fun x => .refl
      | _ => exact .bad
  | tup a iha => exact .of (fun ρ => by rw [E_tup, E_tup]; exact (iha.l ρ).bind fun x => .refl) (fun _ => rfl) (fun _ => rfl) (fun _ => rfl) (fun _ => rfl)
  | lst a iha => exact .of (fun ρ => by rw [E_lst, E_lst]; exact (iha.l ρ).bind fun x => .refl) (fun _ => rfl) (fun _ => rfl) (fun _ => rfl) (fun _ => rfl)
  | bin o a b iha ihb => exact .of (fun ρ => by rw [E_bin, E_bin]; exact (iha.e ρ).bind fun x => (ihb.e ρ).bind fun y => .refl) (fun _ => rfl) (fun _ => rfl) (fun _ => rfl) (fun _ => rfl)
  | neg a iha => exact .of (fun ρ => by rw [E_neg, E_neg]; exact (iha.e ρ).bind fun x => .refl) (fun _ => rfl) (fun _ => rfl) (fun _ => rfl) (fun _ => rfl)
  | cmp o a b iha ihb => exact .of (fun ρ => by rw [E_cmp, E_cmp]; exact (iha.e ρ).bind fun x => (ihb.e ρ).bind fun y => .refl) (fun _ => rfl) (fun _ => rfl) (fun _ => rfl) (fun _ => rfl)
  | leq2 a b c iha ihb ihc =>
    refine .of (fun ρ => ?_) (fun _ => rfl) (fun _ => rfl) (fun _ => rfl) (fun _ => rfl)
    rw [E_leq2, E_leq2]
    refine (iha.e ρ).bind fun x => (ihb.e ρ).bind fun y => ?_
    cases x <;> cases y <;> first | exact .refl | skip
    rename_i i j
    by_cases h : i ≤ j
    · simp only [h, if_true]; exact (ihc.e ρ).bind fun z => .refl
    · simp only [h, if_false]; exact .refl
  | and a b iha ihb => exact .of (fun ρ => by rw [E_and, E_and]; exact (iha.e ρ).bind fun x => Le.refl.bind fun t => Le.cond (ihb.e ρ) .refl) (fun _ => rfl) (fun _ => rfl) (fun _ => rfl) (fun _ => rfl)
  | or a b iha ihb => exact .of (fun ρ => by rw [E_or, E_or]; exact (iha.e ρ).bind fun x => Le.refl.bind fun t => Le.cond .refl (ihb.e ρ)) (fun _ => rfl) (fun _ => rfl) (fun _ => rfl) (fun _ => rfl)
  | not a iha => exact .of (fun ρ => by rw [E_not, E_not]; exact (iha.e ρ).bind fun x => .refl) (fun _ => rfl) (fun _ => rfl) (fun _ => rfl) (fun _ => rfl)
  | idx a b iha ihb => exact .of (fun ρ => by rw [E_idx, E_idx]; exact (iha.e ρ).bind fun x => (ihb.e ρ).bind fun y => .refl) (fun _ => rfl) (fun _ => rfl) (fun _ => rfl) (fun _ => rfl)
  | slc a lo hi iha ihl ihh => exact .of (fun ρ => by rw [E_slc, E_slc]; exact (iha.e ρ).bind fun x => (ihl.o ρ).bind fun y => (ihh.o ρ).bind fun z => .refl) (fun _ => rfl) (fun _ => rfl) (fun _ => rfl) (fun _ => rfl)
  | rev a iha => exact .of (fun ρ => by rw [E_rev, E_rev]; exact (iha.e ρ).bind fun x => .refl) (fun _ => rfl) (fun _ => rfl) (fun _ => rfl) (fun _ => rfl)
  | call f a iha => exact .of (fun ρ => by rw [E_call, E_call]; exact (iha.l ρ).bind fun x => hF f x) (fun _ => rfl) (fun _ => rfl) (fun _ => rfl) (fun _ => rfl)
  | meth f a b iha ihb =>
    refine .of (fun ρ => ?_) (fun _ => rfl) (fun _ => rfl) (fun _ => rfl) (fun _ => rfl)
    rw [E_meth, E_meth]
    refine (iha.e ρ).bind fun x => ?_
    cases x <;> first | exact .refl | skip
    exact (ihb.l ρ).bind fun y => hF f _
  | bi f a iha => exact .of (fun ρ => by rw [E_bi, E_bi]; exact (iha.l ρ).bind fun x => .refl) (fun _ => rfl) (fun _ => rfl) (fun _ => rfl) (fun _ => rfl)
  | lrng a iha => exact .of (fun ρ => by rw [E_lrng, E_lrng]; exact (iha.e ρ).bind fun x => .refl) (fun _ => rfl) (fun _ => rfl) (fun _ => rfl) (fun _ => rfl)
  | sset a iha => exact .of (fun ρ => by rw [E_sset, E_sset]; exact (iha.e ρ).bind fun x => .refl) (fun _ => rfl) (fun _ => rfl) (fun _ => rfl) (fun _ => rfl)
  | lset a iha => exact .of (fun ρ => by rw [E_lset, E_lset]; exact (iha.e ρ).bind fun x => .refl) (fun _ => rfl) (fun _ => rfl) (fun _ => rfl) (fun _ => rfl)
  | isi a t iha => exact .of (fun ρ => by rw [E_isi, E_isi]; exact (iha.e ρ).bind fun x => .refl) (fun _ => rfl) (fun _ => rfl) (fun _ => rfl) (fun _ => rfl)
  | join a b iha ihb =>
    refine .of (fun ρ => ?_) (fun _ => rfl) (fun _ => rfl) (fun _ => rfl) (fun _ => rfl)
    rw [E_join, E_join]
    refine (iha.e ρ).bind fun x => ?_
    cases x <;> first | exact .refl | exact (ihb.e ρ).bind fun y => .refl
  | split a b iha ihb =>
    refine .of (fun ρ => ?_) (fun _ => rfl) (fun _ => rfl) (fun _ => rfl) (fun _ => rfl)
    rw [E_split, E_split]
    refine (iha.e ρ).bind fun x => ?_
    cases x <;> first | exact .refl | exact (ihb.e ρ).bind fun y => .refl
  | indx a b iha ihb =>
    refine .of (fun ρ => ?_) (fun _ => rfl) (fun _ => rfl) (fun _ => rfl) (fun _ => rfl)
    rw [E_indx, E_indx]
    refine (iha.e ρ).bind fun x => ?_
    cases x <;> first | exact .refl | exact (ihb.e ρ).bind fun y => .refl
  | nin a b iha ihb => exact .of (fun ρ => by rw [E_nin, E_nin]; exact (iha.e ρ).bind fun x => (ihb.e ρ).bind fun y => .refl) (fun _ => rfl) (fun _ => rfl) (fun _ => rfl) (fun _ => rfl)
  | lc own tg it ifs elt ihi ihf ihe =>
    refine .of (fun ρ => ?_) (fun _ => rfl) (fun _ => rfl) (fun _ => rfl) (fun _ => rfl)
    rw [E_lc, E_lc]
    refine (ihi.t ρ).bind fun xs => (lcL_mono (fun x => ?_) xs).bind fun ys => .refl
    exact Le.refl.bind fun ρ' => (ihf.i ρ').bind fun t => Le.cond ((ihe.e ρ').bind fun y => .refl) .refl
  | r1 a iha => exact ⟨fun _ => .bad, fun _ => .bad, fun _ => .bad, fun _ => .bad, fun ρ => by rw [IT_r1, IT_r1]; exact (iha.e ρ).bind fun x => .refl⟩
  | r2 a b iha ihb => exact ⟨fun _ => .bad, fun _ => .bad, fun _ => .bad, fun _ => .bad, fun ρ => by rw [IT_r2, IT_r2]; exact (iha.e ρ).bind fun x => (ihb.e ρ).bind fun y => .refl⟩
  | zp a b iha ihb => exact ⟨fun _ => .bad, fun _ => .bad, fun _ => .bad, fun _ => .bad, fun ρ => by rw [IT_zp, IT_zp]; exact (iha.e ρ).bind fun x => (ihb.e ρ).bind fun y => .refl⟩
  | en a iha => exact ⟨fun _ => .bad, fun _ => .bad, fun _ => .bad, fun _ => .bad, fun ρ => by rw [IT_en, IT_en]; exact (iha.e ρ).bind fun x => .refl⟩
  | mem0 i => exact .of (fun ρ => by rw [E_mem0, E_mem0]; exact .refl) (fun _ => rfl) (fun _ => rfl) (fun _ => rfl) (fun _ => rfl)
  | slvr a iha => exact .of (fun ρ => by rw [E_slvr, E_slvr]; exact (iha.e ρ).bind fun x => .refl) (fun _ => rfl) (fun _ => rfl) (fun _ => rfl) (fun _ => rfl)
  | game a iha => exact .of (fun ρ => by rw [E_game, E_game]; exact (iha.e ρ).bind fun x => .refl) (fun _ => rfl) (fun _ => rfl) (fun _ => rfl) (fun _ => rfl)
theorem mono_S : ∀ (s : S) (ρ : Env), Le (exec F s ρ) (exec F' s ρ) := by
  intro s
  induction s with
  | skip => intro ρ; rw [X_skip, X_skip]; exact .refl
  | seq a b iha ihb =>
    intro ρ
    rw [X_seq, X_seq]
    refine (iha ρ).bind fun r => ?_
    cases r with
    | nx ρ' => exact ihb ρ'
    | rt d => exact .refl
  | asg i e => intro ρ; rw [X_asg, X_asg]; exact ((mono_C hF e).e _).bind fun d => .refl
  | asgF i e => intro ρ; rw [X_asgF, X_asgF]; exact ((mono_C hF e).e _).bind fun d => .refl
  | frz i => intro ρ; rw [X_frz, X_frz]; exact .refl
  | unp is e => intro ρ; rw [X_unp, X_unp]; exact ((mono_C hF e).e _).bind fun d => .refl
  | par i j a b => intro ρ; rw [X_par, X_par]; exact ((mono_C hF a).e _).bind fun x => ((mono_C hF b).e _).bind fun y => .refl
  | app i e =>
    intro ρ
    rw [X_app, X_app]
    split
    · exact ((mono_C hF e).e _).bind fun d => .refl
    · exact .refl
  | ext i e =>
    intro ρ
    rw [X_ext, X_ext]
    split
    · exact ((mono_C hF e).e _).bind fun d => .refl
    · exact .refl
  | pops tp i j own tg it e =>
    intro ρ
    rw [X_pops, X_pops]
    refine ((mono_C hF it).t _).bind fun xs => ?_
    split
    · split
      · refine (popL_mono (fun x ds => ?_) xs _).bind fun r => .refl
        exact Le.refl.bind fun ρ' => ((mono_C hF e).e ρ').bind fun d => .refl
      · exact .refl
    · exact .refl
  | ret e => intro ρ; rw [X_ret, X_ret]; exact ((mono_C hF e).e _).bind fun d => .refl
  | ife t a b iha ihb =>
    intro ρ
    rw [X_ife, X_ife]
    exact ((mono_C hF t).e _).bind fun d => Le.refl.bind fun q => Le.cond (iha ρ) (ihb ρ)
  | for_ tg it b ih =>
    intro ρ
    rw [X_for, X_for]
    exact ((mono_C hF it).t _).bind fun xs => forL_mono (fun x ρ => Le.refl.bind fun ρ' => ih ρ') xs ρ
  | whl n t b ih =>
    intro ρ
    rw [X_whl, X_whl]
    exact whileN_mono (fun ρ => ((mono_C hF t).e _).bind fun d => .refl) (fun ρ => ih ρ) n ρ
  | rai n => intro ρ; rw [X_rai, X_rai]; exact .refl
  | memo kd key j fi body ih =>
    intro ρ
    rw [X_memo, X_memo]
    refine ((mono_C hF key).e _).bind fun kv => ((mono_C hF (.var j)).e _).bind fun dv => ?_
    split
    · refine (ih ρ).bind fun r => ?_
      cases r with
      | nx ρ' =>
        dsimp only
        have h2 : E F (.var j) (view ρ') = E F' (.var j) (view ρ') := by rw [E_var, E_var]
        rw [← h2]
        rcases (mono_C hF key).e (view ρ') with e | e
        · rw [e]; exact .bad
        · rw [e]; exact .refl
      | rt d => exact .refl
    · exact .refl
end
theorem run_mono1 : ∀ (k : Nat), FLe (run tab k) (run tab (k + 1))
  | 0 => fun f ds => .bad
  | k + 1 => fun f ds => by
    have ih := run_mono1 k
    rw [run, run]
    cases h : tab f with
    | none => exact .refl
    | some e =>
      cases e with
      | code d =>
        show Le (body d (run tab k) ds) (body d (run tab (k + 1)) ds)
        unfold body
        split
        · exact (mono_S ih d.body _).bind fun r => .refl
        · exact .refl
      | hand g =>
        show Le (g (run tab k) ds) (g (run tab (k + 1)) ds)
        cases f <;> first | (cases h; done) | skip
        · injection h with h
          injection h with h
          subst h
          rcases ih .read ds with e | e
          · simp only [e]; exact .bad
          · simp only [e]; exact .refl
        · injection h with h
          injection h with h
          subst h
          rcases ih .claimed ds with e | e
          · simp only [e]; exact .bad
          · simp only [e]; exact .refl
theorem run_mono {k m : Nat} (h : k ≤ m) : FLe (run tab k) (run tab m) := by
  induction h with
  | refl => exact fun f ds => .refl
  | step _ ih => exact fun f ds => (ih f ds).trans (run_mono1 _ f ds)
/-- two numbers of turns that both answer answer alike -/
theorem run_same {k m : Nat} {f : Fn} {ds : List D} {r : Res D} (h : run tab k f ds = r) (hr : r ≠ .bad) (h2 : run tab m f ds ≠ .bad) : run tab m f ds = r := by
  rcases Nat.le_total k m with q | q
  · rw [(run_mono q f ds).eq (by rw [h]; exact hr), h]
  · rw [← h, (run_mono q f ds).eq h2]
end FC

/-! Defs keep what their code says. -/
set_option autoImplicit false
set_option linter.all false
set_option maxRecDepth 100000
set_option maxHeartbeats 4000000
set_option Elab.async false
namespace FC
open PySem PyProof.Rows L2

/-- what all defs do within so many turns -/
structure Lv (c : PCx) (mg : Str → Option Value) (base : Heap) (dom : Fn → Bool) (ps : Fn → List Str) (k : Nat) : Prop where
  fn : ∀ f, dom f = true → isM f = false → ∃ a fd, mg (nm f) = some (.ref a) ∧ PySem.W.keepIn c.K (.ref a) = true ∧ Binds c.K fd (ps f) [] ∧ FnOk c.P c.w c.K mg base (L2.CX c.P c.w) (k + 3) a fd (ps f) (spF c (run tab k) ps f)
  mt : ∀ f, dom f = true → isM f = true → ∃ a fd, Meth c.K c.C (nm f) a ∧ Binds c.K fd (ps f) [] ∧ FnOk c.P c.w c.K mg base (L2.CX c.P c.w) (k + 3) a fd (ps f) (spF c (run tab k) ps f)
/-- what the top has written -/
structure Top (c : PCx) (mg : Str → Option Value) (base : Heap) (dom : Fn → Bool) (xd : Nat → Bool) (ps : Fn → List Str) : Prop where
  blt : ∀ x ∈ bnames, mg (Str.ofString x) = none
  rs : ∀ n, xd n = true → mg (Str.ofString (excN n)) = some (.ref (c.xc n)) ∧ PySem.W.excIn c.K (c.xc n) excT "ValueError.__new__" = true ∧ PySem.W.keepIn c.K (.ref (c.xc n)) = true ∧
    PySem.W.subIn c.K (.ref (c.xc n)) (.type "BaseException") = some true ∧ PySem.W.typeIn c.K (.ref (c.xc n)) = some (.type "type")
  np : ∀ k f ds, dom f = true → run tab k f ds ≠ .bad → ds.length = (ps f).length
  sv : dom .s_winner = true → SvOk c mg base
  ss : ∀ f, dom f = true → isM f = true → dom .s_winner = true
section
variable {c : PCx} {mg : Str → Option Value} {base : Heap} {dom : Fn → Bool} {xd : Nat → Bool} {ps : Fn → List Str} {k : Nat}
theorem good_of {N : List Str} {qual : Str} {scope : Scope} {f : Addr} {cdv : Value} {A : Around} {outer : List PySem.Env} {s : Shared} {H : Hp} {E : XK} (T : Top c mg base dom xd ps) (L : Lv c mg base dom ps k) (nd : N.Nodup) (kd : scope.kind = .function)
    (hr : Room (k + 3) (A.deeper (envOfC qual scope s.heap.objs.size f cdv))) : GoodS c (run tab k) dom xd ps k E (cxOf (L2.CX c.P c.w) c.P c.w c.K mg base N qual scope f cdv A outer s H E) := by
  have tk : Takes (cxOf (L2.CX c.P c.w) c.P c.w c.K mg base N qual scope f cdv A outer s H E) (fun cls d _ H => E cls d H) := takes_of rfl rfl rfl rfl
  have G : Good c (run tab k) dom ps k E (cxOf (L2.CX c.P c.w) c.P c.w c.K mg base N qual scope f cdv A outer s H E) :=
    ⟨rfl, rfl, rfl, rfl, nd, hr, T.blt, L.fn, L.mt, passes_call tk (fun _ _ _ _ h => h), fun f ds hd hb => T.np k f ds hd hb, T.sv, T.ss⟩
  exact ⟨G, tk, passes_of rfl, fun _ => rfl, kd, fun n hn => ⟨(T.rs n hn).1, (T.rs n hn).2.1, (T.rs n hn).2.2.1, raises_own (T.rs n hn).2.2.2.1 (T.rs n hn).2.2.2.2⟩⟩
theorem envS_start {N : List Str} {hid : Addr → Prop} {H : Hp} {ds : List D} {vs : List V} (h : RpL c H hid ds vs) : EnvS c hid (fun _ => False) H (L2.start N vs) (FC.start N.length ds) := by
  have hl := h.len
  have key : ∀ (i : Nat) (s : Sl), (FC.start N.length ds)[i]? = some s → (∃ d, ds[i]? = some d ∧ s = .im d) ∨ s = .no := fun i s e => by
    unfold FC.start at e
    rw [List.getElem?_append] at e
    split at e
    · rename_i hi
      rw [List.getElem?_map] at e
      cases q : ds[i]? with
      | none => rw [q] at e; cases e
      | some d =>
        rw [q] at e
        cases e
        exact .inl ⟨d, rfl, rfl⟩
    · rw [List.getElem?_replicate] at e
      split at e
      · cases e; exact .inr rfl
      · cases e
  refine ⟨?_, fun i d e => ?_, fun i es e => ?_, fun i j a ds' es e => ?_, fun _ _ z => z⟩
  · unfold L2.start FC.start
    rw [List.length_append, List.length_append, List.length_map, List.length_map, List.length_replicate, List.length_replicate, hl]
  · rcases key i _ e with ⟨d', q, e'⟩ | e'
    · cases e'
      obtain ⟨v, hv, r⟩ := h.get q
      refine ⟨v, ?_, r.anti fun a z => z.elim id fun z => z.elim⟩
      unfold L2.start
      have hi : i < (vs.map some).length := by rw [List.length_map]; exact (List.getElem?_eq_some_iff.mp hv).1
      rw [List.getElem?_append_left hi, List.getElem?_map, hv]
      rfl
    · cases e'
  · rcases key i _ e with ⟨d', q, e'⟩ | e' <;> cases e'
  · rcases key i _ e with ⟨d', q, e'⟩ | e' <;> cases e'
/-- the reading of a def's start -/
theorem read_start {N : List Str} {code : S} {hid : Addr → Prop} {H : Hp} {ds : List D} {vs : List V} {Q : VK} {E : XK} {F : Fn → List D → Res D} (ha : HA hid H) (hd : RpL c H hid ds vs)
    (p : Post c E (fun H => Rp c H hid) ((exec F code (FC.start N.length ds)).bind fun r => match r with | .rt x => .ok x | .nx _ => .ok .non) H Q) :
    tS c F E code { nx := fun _ H' => Q .non H', rt := Q } (L2.start N vs) H := by
  refine ⟨hid, fun _ => False, _, ha, envS_start hd, ?_⟩
  cases hr : exec F code (FC.start N.length ds) with
  | ok r =>
    rw [hr] at p
    cases r with
    | nx ρ' => exact fun own' σ' H' k' s' en => p .non H' k' rfl
    | rt x => exact fun v H' k' rv => p v H' k' rv
  | exc n => rw [hr] at p; exact fun H' k' => p H' k'
  | bad => rw [hr] at p; exact p.elim
theorem ok_code {x qual : Str} {params : Arguments} {stms : List Stmt} {scope : Scope} {f : Fn} {a : Addr} {fd : FuncData} {d : Def} (F : FunD c.K x qual params stms scope [] [] a fd) (S : FnScope (d.N.map Str.ofString) (ps f) scope)
    (hm : mB dom xd (d.N.map Str.ofString) scope d.body stms = true) (ht : tab f = some (.code d)) (T : Top c mg base dom xd ps) (L : Lv c mg base dom ps k) :
    FnOk c.P c.w c.K mg base (L2.CX c.P c.w) (k + 4) a fd (ps f) (spF c (run tab (k + 1)) ps f) := by
  refine FunD.ok F S (fun vs H Q E h => by obtain ⟨hid, ds, _, hl, _⟩ := h; exact hl) (fun cdv A outer s H vs Q E hr h => ⟨tS c (run tab k) E d.body, (stB (good_of T L S.nd S.kind hr) d.body).2 stms hm, ?_⟩)
  obtain ⟨hid, ds, ha, hl, hd, p⟩ := h
  rw [run, ht] at p
  simp only [body] at p
  split at p
  · refine read_start (N := d.N.map Str.ofString) ha hd ?_
    rw [List.length_map]
    exact p
  · exact p.elim
/-- no turns: nothing is promised -/
theorem lv_zero {f : Fn} {a : Addr} {fd : FuncData} : FnOk c.P c.w c.K mg base (L2.CX c.P c.w) 3 a fd (ps f) (spF c (run tab 0) ps f) :=
  ⟨fun vs H Q E h => by obtain ⟨hid, ds, _, hl, _⟩ := h; exact hl, fun A outer s H args us vs Q E hr e0 hb hv h => by
    obtain ⟨hid, ds, _, _, _, p⟩ := h
    exact p.elim⟩
/-- where a def stands, and that it keeps one turn more -/
structure Src (c : PCx) (mg : Str → Option Value) (base : Heap) (dom : Fn → Bool) (ps : Fn → List Str) (f : Fn) : Prop where
  fn : isM f = false → ∃ a fd, mg (nm f) = some (.ref a) ∧ PySem.W.keepIn c.K (.ref a) = true ∧ Binds c.K fd (ps f) [] ∧
    ∀ k, Lv c mg base dom ps k → FnOk c.P c.w c.K mg base (L2.CX c.P c.w) (k + 4) a fd (ps f) (spF c (run tab (k + 1)) ps f)
  mt : isM f = true → ∃ a fd, Meth c.K c.C (nm f) a ∧ Binds c.K fd (ps f) [] ∧
    ∀ k, Lv c mg base dom ps k → FnOk c.P c.w c.K mg base (L2.CX c.P c.w) (k + 4) a fd (ps f) (spF c (run tab (k + 1)) ps f)
theorem lv_all (h : ∀ f, dom f = true → Src c mg base dom ps f) : ∀ k, Lv c mg base dom ps k
  | 0 => ⟨fun f hf hm => let ⟨a, fd, e1, e2, e3, _⟩ := (h f hf).fn hm; ⟨a, fd, e1, e2, e3, lv_zero⟩, fun f hf hm => let ⟨a, fd, e1, e2, _⟩ := (h f hf).mt hm; ⟨a, fd, e1, e2, lv_zero⟩⟩
  | k + 1 => ⟨fun f hf hm => let ⟨a, fd, e1, e2, e3, e4⟩ := (h f hf).fn hm; ⟨a, fd, e1, e2, e3, e4 k (lv_all h k)⟩, fun f hf hm => let ⟨a, fd, e1, e2, e4⟩ := (h f hf).mt hm; ⟨a, fd, e1, e2, e4 k (lv_all h k)⟩⟩
end

/-! ### for a law's head -/
def memV : Bool → D → List Int → List Int → Int → Int → Prop := fun b g m y w v =>
  ∃ k, run tab k (if b then .l_winner else .s_winner) (if b then [g, .memo true g, .tup (m.map .int), .tup (y.map .int), .int w] else [.slv g, .tup (m.map .int), .tup (y.map .int), .int w]) = .ok (.int v)
def scB (N P : List Str) (sc : Scope) : Bool := decide (sc.kind = .function) && (!sc.isCoroutine && (!sc.isGenerator && (decide N.Nodup && (decide (N.take P.length = P) && (P.all (fun x => decide (sc.names.lookup x = some .local) || decide (sc.names.lookup x = some .cell)) && sc.names.all fun y => decide (y.2 ≠ .free))))))
theorem scB_ok {N P : List Str} {sc : Scope} (h : scB N P sc = true) : FnScope N P sc := by
  unfold scB at h
  simp only [Bool.and_eq_true, Bool.not_eq_true', decide_eq_true_eq, List.all_eq_true, Bool.or_eq_true] at h
  obtain ⟨h1, h2, h3, h4, h5, h6, h7⟩ := h
  exact ⟨h1, h2, h3, h4, h5, h6, h7⟩
def chk (dom : Fn → Bool) (xd : Nat → Bool) (P : List Str) (d : Def) (st : Stmt) : Bool :=
  scB (d.N.map Str.ofString) P (defScope st) && (mB dom xd (d.N.map Str.ofString) (defScope st) d.body (defBody st) && decide (P.length = d.np))
section
variable {dom : Fn → Bool} {xd : Nat → Bool} {P : List Str} {d : Def} {st : Stmt}
theorem chk_sc (h : chk dom xd P d st = true) : FnScope (d.N.map Str.ofString) P (defScope st) := scB_ok (Bool.and_eq_true_iff.mp h).1
theorem chk_m (h : chk dom xd P d st = true) : mB dom xd (d.N.map Str.ofString) (defScope st) d.body (defBody st) = true := (Bool.and_eq_true_iff.mp (Bool.and_eq_true_iff.mp h).2).1
theorem chk_np (h : chk dom xd P d st = true) : P.length = d.np := of_decide_eq_true (Bool.and_eq_true_iff.mp (Bool.and_eq_true_iff.mp h).2).2
end
section
variable {c : PCx} {mg : Str → Option Value} {base : Heap} {dom : Fn → Bool} {xd : Nat → Bool} {ps : Fn → List Str} {k : Nat}
theorem src_fn {f : Fn} {d : Def} {st : Stmt} {fd : FuncData} {x : Str} (hx : x = nm f) (F : FunD c.K x x (defArgs st) (defBody st) (defScope st) [] [] (He.ga c.K x) fd) (ck : chk dom xd (ps f) d st = true) (hb : Binds c.K fd (ps f) []) (hg : mg x = some (.ref (He.ga c.K x)))
    (ht : tab f = some (.code d)) (T : Top c mg base dom xd ps) (hm : isM f = false := by rfl) : Src c mg base dom ps f := by
  subst hx
  exact ⟨fun _ => ⟨_, fd, hg, F.kp, hb, fun k L => ok_code F (chk_sc ck) (chk_m ck) ht T L⟩, fun h => by rw [hm] at h; cases h⟩
theorem np_code {f : Fn} {d : Def} {ds : List D} (ht : tab f = some (.code d)) (hp : (ps f).length = d.np) (h : run tab k f ds ≠ .bad) : ds.length = (ps f).length := by
  cases k with
  | zero => exact absurd rfl h
  | succ k =>
    rw [run, ht] at h
    simp only [body] at h
    split at h
    · rename_i e; rw [hp]; exact e
    · exact absurd rfl h
theorem fn_cx0 {P : Program} {w : World} {K : PySem.W.Frag} {f : Addr} {fd : FuncData} {ps : List Str} {sp : Sp} (F : FnOk P w K mg base (L2.CX P w) k f fd ps sp) : FnOk P w K mg base CX0 k f fd ps (fun vs H Q _ => sp vs H Q E0) :=
  ⟨fun vs H Q E h => F.len vs H Q E0 h, fun A outer s H args us vs Q E hr he hb hv hs => codeAny_mono (F.run A outer s H args us vs Q E0 hr he hb hv hs) fun r s' hq => by
    cases r with
    | ok fl => cases fl <;> exact hq
    | error e =>
      obtain ⟨_, _, _, _, _, _, _, _, _, _, _, _, z⟩ := (hq : L2.CX P w outer H s E0 e s')
      exact z.elim⟩
theorem room_top (h : k ≤ 220) : Room (k + 3) callerA := Room.mono (k := 223) ⟨rfl, by decide, by decide⟩ (by omega)
theorem sp_law (c : PCx) {H : Hp} {a : Addr} {ns : List Int} {f : Fn} (hp : (ps f).length = 1) {K : PySem.W.Frag} (hK : c.K = K) (hO : Only H) (hS : SqL K H a (ns.map V.int)) (hl : run tab k f [.scr ns] = .ok (.bl true)) :
    spF c (run tab k) ps f [.ref a] H (fun v _ => v = .bl true) E0 := by
  refine ⟨nohid, [.scr ns], HA.none, hp.symm, .cons ⟨a, rfl, ?_⟩ .nil, ?_⟩
  · rcases hS with (h | ⟨o, h⟩) | h
    · rcases hO a with q | ⟨o, xs, q⟩
      · rw [q] at h; cases h
      · rw [q] at h; cases h
    · exact .inl ⟨o, h⟩
    · exact .inr (by rw [hK]; exact h)
  · rw [hl]
    exact fun b H' _ r => r
theorem src_fnM {f : Fn} {d : Def} {st : Stmt} {fd : FuncData} {x q : Str} (hx : x = nm f) (F : FunD c.K x q (defArgs st) (defBody st) (defScope st) [] [] (He.ma c.K c.C x) fd) (ck : chk dom xd (ps f) d st = true) (hb : Binds c.K fd (ps f) []) (hg : Meth c.K c.C x (He.ma c.K c.C x))
    (ht : tab f = some (.code d)) (T : Top c mg base dom xd ps) (hm : isM f = true := by rfl) : Src c mg base dom ps f := by
  subst hx
  exact ⟨fun h => (by rw [hm] at h; cases h), fun _ => ⟨_, fd, hg, hb, fun k L => ok_code F (chk_sc ck) (chk_m ck) ht T L⟩⟩

/-! ### the defs that remember -/
theorem memo_rt {F : Fn → List D → Res D} {kd : Bool} {key : C} {j fi : Nat} {body : S} {ρ : FC.Env} {r : Fl} (h : exec F (.memo kd key j fi body) ρ = .ok r) : ∃ v, r = .rt (.int v) := by
  rw [exec] at h
  obtain ⟨kv, _, h⟩ := bindOk h
  obtain ⟨dv, _, h⟩ := bindOk h
  split at h
  rotate_left
  · cases h
  obtain ⟨x, _, h⟩ := bindOk h
  cases x with
  | rt _ => cases h
  | nx ρ' =>
    dsimp only at h
    split at h
    rotate_left
    · cases h
    split at h
    rotate_left
    · cases h
    split at h
    · cases h; exact ⟨_, rfl⟩
    · cases h
theorem fin_memo {F : Fn → List D → Res D} {kd : Bool} {key : C} {j fi : Nat} {body : S} {ρ : FC.Env} : fin (exec F (.seq (.memo kd key j fi body) .skip) ρ) = (exec F (.memo kd key j fi body) ρ).bind fun r => match r with
    | .rt d => .ok d
    | .nx _ => .ok .non := by
  rw [X_seq]
  cases h : exec F (.memo kd key j fi body) ρ with
  | ok r => obtain ⟨v, rfl⟩ := memo_rt h; rfl
  | exc n => rfl
  | bad => rfl
theorem key_D {kv : D} {m y : List Int} {w : Int} (h : keyOfD kv = some (m, y, w)) : kv = .tup [.tup (m.map .int), .tup (y.map .int), .int w] := by
  unfold keyOfD at h
  split at h
  · split at h
    · rename_i e1 e2
      split at h
      · cases h
        rw [← allInts_map e1, ← allInts_map e2]
      · cases h
    · cases h
  · cases h
def keyL : C := .tup (.cons (.var 2) (.cons (.var 3) (.cons (.var 4) .nil)))
def keyS : C := .tup (.cons (.var 1) (.cons (.var 2) (.cons (.var 3) .nil)))
def chkL (dom : Fn → Bool) (xd : Nat → Bool) (P : List Str) (st : Stmt) : Bool :=
  scB (d_l_winner.N.map Str.ofString) P (defScope st) && (mMemo dom xd (d_l_winner.N.map Str.ofString) (defScope st) true keyL 1 5 b_l_winner_2 (defBody st) && decide (P.length = 5))
def chkS (dom : Fn → Bool) (xd : Nat → Bool) (P : List Str) (st : Stmt) : Bool :=
  scB (d_s_winner.N.map Str.ofString) P (defScope st) && ((match defBody st with
    | s :: r => mS dom xd (d_s_winner.N.map Str.ofString) (defScope st) (.asg 4 keyS) s && mMemo dom xd (d_s_winner.N.map Str.ofString) (defScope st) false (.var 4) 0 5 b_s_winner_1 r
    | [] => false) && decide (P.length = 4))
theorem len5 {ds : List D} (h : ds.length = 5) : ∃ a b c d e, ds = [a, b, c, d, e] := by
  match ds, h with
  | [a, b, c, d, e], _ => exact ⟨a, b, c, d, e, rfl⟩
theorem len4 {ds : List D} (h : ds.length = 4) : ∃ a b c d, ds = [a, b, c, d] := by
  match ds, h with
  | [a, b, c, d], _ => exact ⟨a, b, c, d, rfl⟩
theorem post_nb {α β : Type} {Ex : XK} {R : Hp → α → β → Prop} {r : Res α} {H : Hp} {Q : β → Hp → Prop} (p : Post c Ex R r H Q) : r ≠ .bad := fun e => by rw [e] at p; exact p
theorem ok_lwin (hV : c.V = memV) {x qual : Str} {params : Arguments} {stms : List Stmt} {scope : Scope} {a : Addr} {fd : FuncData} (F : FunD c.K x qual params stms scope [] [] a fd) (S : FnScope (d_l_winner.N.map Str.ofString) (ps .l_winner) scope)
    (hm : mMemo dom xd (d_l_winner.N.map Str.ofString) scope true keyL 1 5 b_l_winner_2 stms = true) (T : Top c mg base dom xd ps) (L : Lv c mg base dom ps k) :
    FnOk c.P c.w c.K mg base (L2.CX c.P c.w) (k + 4) a fd (ps .l_winner) (spF c (run tab (k + 1)) ps .l_winner) := by
  refine FunD.ok F S (fun vs H Q E h => by obtain ⟨hid, ds, _, hl, _⟩ := h; exact hl) (fun cdv A outer s H vs Q E hr h => ⟨tMemo c (run tab k) E true keyL 1 5 b_l_winner_2, pss_memo (good_of T L S.nd S.kind hr) (fun h => by cases h) hm, ?_⟩)
  obtain ⟨hid, ds, ha, hl, hd, p⟩ := h
  have nb := post_nb p
  have hlen : ds.length = 5 := by
    have := T.np
    rw [run, show tab .l_winner = some (.code d_l_winner) from rfl] at nb
    simp only [body] at nb
    split at nb
    · assumption
    · exact absurd rfl nb
  obtain ⟨d0, d1, d2, d3, d4, rfl⟩ := len5 hlen
  have hrun : run tab (k + 1) .l_winner [d0, d1, d2, d3, d4] = (exec (run tab k) (.memo true keyL 1 5 b_l_winner_2) (FC.start d_l_winner.N.length [d0, d1, d2, d3, d4])).bind fun r => match r with
      | .rt d => .ok d
      | .nx _ => .ok .non := by
    rw [run_code (d := d_l_winner) rfl rfl, ← fin_memo]; rfl
  have hrun' := hrun
  rw [hrun] at p
  refine ⟨hid, fun _ => False, _, ha, envS_start (N := d_l_winner.N.map Str.ofString) hd, ?_, ?_⟩
  · cases he : exec (run tab k) (.memo true keyL 1 5 b_l_winner_2) (FC.start d_l_winner.N.length [d0, d1, d2, d3, d4]) with
    | ok r =>
      rw [he] at p
      obtain ⟨v, rfl⟩ := memo_rt he
      rw [List.length_map, he]
      exact fun v' H' k' rv => p v' H' k' rv
    | exc n =>
      rw [he] at p
      rw [List.length_map, he]
      exact fun H' k' => p H' k'
    | bad => rw [he] at p; exact p.elim
  · rw [List.length_map]
    intro kv dv m y w g e1 e2 e3 e4 v
    have ev : kv = .tup [d2, d3, d4] := by
      have : FC.E (run tab k) keyL (FC.view (FC.start d_l_winner.N.length [d0, d1, d2, d3, d4])) = Res.ok (D.tup [d2, d3, d4]) := by rfl
      rw [this] at e1
      cases e1; rfl
    have edv : dv = d1 := by
      have : FC.E (run tab k) (C.var 1) (FC.view (FC.start d_l_winner.N.length [d0, d1, d2, d3, d4])) = Res.ok d1 := by rfl
      rw [this] at e2
      cases e2; rfl
    subst edv
    have hk := key_D e3
    rw [ev] at hk
    injection hk with hk
    injection hk with h2 hk
    injection hk with h3 hk
    injection hk with h4 _
    subst h2 h3 h4
    have hg : dv = .memo true g ∧ d0 = g := by
      have e4 : gameOf true dv (some (.im d0)) = some g := e4
      cases dv with
      | memo b g1 =>
        cases b with
        | true =>
          have e4 : (if sameD g1 d0 then some g1 else none) = some g := e4
          by_cases hs : sameD g1 d0 = true
          · rw [if_pos hs] at e4
            injection e4 with e4
            subst e4
            exact ⟨rfl, (sameD_eq hs).symm⟩
          · rw [if_neg hs] at e4
            exact absurd e4 (by intro z; cases z)
        | false => exact absurd (show (none : Option D) = some g from e4) (by intro z; cases z)
      | _ => exact absurd (show (none : Option D) = some g from e4) (by intro z; cases z)
    obtain ⟨rfl, rfl⟩ := hg
    rw [hV]
    constructor
    · rintro ⟨k', hk'⟩
      have hk' : run tab k' .l_winner [d0, .memo true d0, .tup (m.map .int), .tup (y.map .int), .int w] = .ok (.int v) := hk'
      have hs := run_same (m := k + 1) hk' (by intro z; cases z) nb
      rw [hrun'] at hs
      cases he : exec (run tab k) (.memo true keyL 1 5 b_l_winner_2) (FC.start d_l_winner.N.length [d0, .memo true d0, .tup (m.map .int), .tup (y.map .int), .int w]) with
      | ok r =>
        rw [he] at hs
        obtain ⟨v', rfl⟩ := memo_rt he
        simp only [Res.bind_ok] at hs
        injection hs with hs
        rw [hs]
      | exc n => rw [he] at hs; cases hs
      | bad => rw [he] at hs; cases hs
    · intro he
      refine ⟨k + 1, ?_⟩
      show run tab (k + 1) .l_winner [d0, .memo true d0, .tup (m.map .int), .tup (y.map .int), .int w] = _
      rw [hrun', he]; rfl
theorem ok_swin (hV : c.V = memV) (hdm : dom .s_winner = true) {x qual : Str} {params : Arguments} {st1 : Stmt} {stms : List Stmt} {scope : Scope} {a : Addr} {fd : FuncData} (F : FunD c.K x qual params (st1 :: stms) scope [] [] a fd) (S : FnScope (d_s_winner.N.map Str.ofString) (ps .s_winner) scope)
    (hm1 : mS dom xd (d_s_winner.N.map Str.ofString) scope (.asg 4 keyS) st1 = true)
    (hm : mMemo dom xd (d_s_winner.N.map Str.ofString) scope false (.var 4) 0 5 b_s_winner_1 stms = true) (T : Top c mg base dom xd ps) (L : Lv c mg base dom ps k) :
    FnOk c.P c.w c.K mg base (L2.CX c.P c.w) (k + 4) a fd (ps .s_winner) (spF c (run tab (k + 1)) ps .s_winner) := by
  refine FunD.ok F S (fun vs H Q E h => by obtain ⟨hid, ds, _, hl, _⟩ := h; exact hl) (fun cdv A outer s H vs Q E hr h => ⟨_, pss_cons ((stB (good_of T L S.nd S.kind hr) (.asg 4 keyS)).1 st1 hm1) (pss_memo (good_of T L S.nd S.kind hr) (fun _ => hdm) hm), ?_⟩)
  obtain ⟨hid, ds, ha, hl, hd, p⟩ := h
  have nb := post_nb p
  have hlen : ds.length = 4 := by
    rw [run, show tab .s_winner = some (.code d_s_winner) from rfl] at nb
    simp only [body] at nb
    split at nb
    · assumption
    · exact absurd rfl nb
  obtain ⟨d0, d1, d2, d3, rfl⟩ := len4 hlen
  have hasg : exec (run tab k) (.asg 4 keyS) (FC.start d_s_winner.N.length [d0, d1, d2, d3]) = .ok (.nx [.im d0, .im d1, .im d2, .im d3, .im (.tup [d1, d2, d3]), .no]) := by rfl
  have hrun : run tab (k + 1) .s_winner [d0, d1, d2, d3] = (exec (run tab k) (.memo false (.var 4) 0 5 b_s_winner_1) [.im d0, .im d1, .im d2, .im d3, .im (.tup [d1, d2, d3]), .no]).bind fun r => match r with
      | .rt d => .ok d
      | .nx _ => .ok .non := by
    rw [run_code (d := d_s_winner) rfl rfl, ← fin_memo]
    show fin (exec (run tab k) (.seq (.asg 4 keyS) (.seq (.memo false (.var 4) 0 5 b_s_winner_1) .skip)) (FC.start d_s_winner.N.length [d0, d1, d2, d3])) = _
    rw [X_seq, hasg, thenF_nx]
  have hrun' := hrun
  rw [hrun] at p
  refine ⟨hid, fun _ => False, _, ha, envS_start (N := d_s_winner.N.map Str.ofString) hd, ?_⟩
  rw [List.length_map, hasg]
  intro own' σ' H' K' s' en'
  refine ⟨hid, own', _, ha.keep K', en', ?_, ?_⟩
  · cases he : exec (run tab k) (.memo false (.var 4) 0 5 b_s_winner_1) [.im d0, .im d1, .im d2, .im d3, .im (.tup [d1, d2, d3]), .no] with
    | ok r =>
      rw [he] at p
      obtain ⟨v, rfl⟩ := memo_rt he
      refine FlP.step (own := fun _ => False) (H := H) ?_ K' s'
      exact fun v' H' k' rv => p v' H' k' rv
    | exc n =>
      rw [he] at p
      refine FlP.step (own := fun _ => False) (H := H) ?_ K' s'
      exact fun H' k' => p H' k'
    | bad => rw [he] at p; exact p.elim
  · intro kv dv m y w g e1 e2 e3 e4 v
    have ev : kv = .tup [d1, d2, d3] := by
      have : FC.E (run tab k) (C.var 4) (FC.view [.im d0, .im d1, .im d2, .im d3, .im (.tup [d1, d2, d3]), .no]) = Res.ok (D.tup [d1, d2, d3]) := by rfl
      rw [this] at e1
      cases e1; rfl
    have edv : dv = d0 := by
      have : FC.E (run tab k) (C.var 0) (FC.view [.im d0, .im d1, .im d2, .im d3, .im (.tup [d1, d2, d3]), .no]) = Res.ok d0 := by rfl
      rw [this] at e2
      cases e2; rfl
    subst edv
    have hk := key_D e3
    rw [ev] at hk
    injection hk with hk
    injection hk with h2 hk
    injection hk with h3 hk
    injection hk with h4 _
    subst h2 h3 h4
    have hg : dv = .slv g := by
      cases dv <;> first | (cases e4; done) | (cases e4; rfl)
    subst hg
    rw [hV]
    constructor
    · rintro ⟨k', hk'⟩
      have hk' : run tab k' .s_winner [.slv g, .tup (m.map .int), .tup (y.map .int), .int w] = .ok (.int v) := hk'
      have hs := run_same (m := k + 1) hk' (by intro z; cases z) nb
      rw [hrun'] at hs
      cases he : exec (run tab k) (.memo false (.var 4) 0 5 b_s_winner_1) [.im (.slv g), .im (.tup (m.map .int)), .im (.tup (y.map .int)), .im (.int w), .im (.tup [.tup (m.map .int), .tup (y.map .int), .int w]), .no] with
      | ok r =>
        rw [he] at hs
        obtain ⟨v', rfl⟩ := memo_rt he
        simp only [Res.bind_ok] at hs
        injection hs with hs
        rw [hs]
      | exc n => rw [he] at hs; cases hs
      | bad => rw [he] at hs; cases hs
    · intro he
      refine ⟨k + 1, ?_⟩
      show run tab (k + 1) .s_winner [.slv g, .tup (m.map .int), .tup (y.map .int), .int w] = _
      rw [hrun', he]; rfl
theorem src_lwin (hV : c.V = memV) {st : Stmt} {fd : FuncData} {x : Str} (hx : x = nm .l_winner) (F : FunD c.K x x (defArgs st) (defBody st) (defScope st) [] [] (He.ga c.K x) fd) (ck : chkL dom xd (ps .l_winner) st = true) (hb : Binds c.K fd (ps .l_winner) []) (hg : mg x = some (.ref (He.ga c.K x)))
    (T : Top c mg base dom xd ps) : Src c mg base dom ps .l_winner := by
  subst hx
  unfold chkL at ck
  rw [Bool.and_eq_true, Bool.and_eq_true] at ck
  exact ⟨fun _ => ⟨_, fd, hg, F.kp, hb, fun k L => ok_lwin hV F (scB_ok ck.1) ck.2.1 T L⟩, fun h => by cases h⟩
theorem src_swin (hV : c.V = memV) (hdm : dom .s_winner = true) {st : Stmt} {fd : FuncData} {x q : Str} (hx : x = nm .s_winner) (F : FunD c.K x q (defArgs st) (defBody st) (defScope st) [] [] (He.ma c.K c.C x) fd) (ck : chkS dom xd (ps .s_winner) st = true) (hb : Binds c.K fd (ps .s_winner) []) (hg : Meth c.K c.C x (He.ma c.K c.C x))
    (T : Top c mg base dom xd ps) : Src c mg base dom ps .s_winner := by
  subst hx
  unfold chkS at ck
  rw [Bool.and_eq_true, Bool.and_eq_true] at ck
  obtain ⟨c1, c2, _⟩ := ck
  split at c2
  · rename_i s r e
    rw [Bool.and_eq_true] at c2
    rw [e] at F
    exact ⟨fun h => (by cases h), fun _ => ⟨_, fd, hg, hb, fun k L => ok_swin hV hdm F (scB_ok c1) c2.1 c2.2 T L⟩⟩
  · cases c2
/-- Solver's __init__ -/
def chkI (st : Stmt) : Bool := scB [Str.ofString "self", Str.ofString "game"] [Str.ofString "self", Str.ofString "game"] (defScope st) && (match defBody st with
  | [.Assign [.Attribute (.Name s _) g _] (.Name x _) _, .Assign [.Attribute (.Name s2 _) kn _] (.Dict [] [] _) _] => decide (s = Str.ofString "self") && decide (g = Str.ofString "game") && decide (x = Str.ofString "game") && decide (s2 = Str.ofString "self") && decide (kn = Str.ofString "known") && vis (defScope st) s && vis (defScope st) x
  | _ => false)
theorem putF_one {f g : Str} {u v : V} (h : (g = f) = False) : putF f v [(g, u)] = [(g, u), (f, v)] := by
  show (if g = f then _ else _) = _
  rw [if_neg (by rw [h]; exact id)]; rfl
theorem ok_init {x qual : Str} {st : Stmt} {a : Addr} {fd : FuncData} (F : FunD c.K x qual (defArgs st) (defBody st) (defScope st) [] [] a fd) (ck : chkI st = true) (cl : Cls c.K c.C) (n1 : NoAttr c.K c.C (Str.ofString "game")) (n2 : NoAttr c.K c.C (Str.ofString "known")) :
    FnOk c.P c.w c.K mg base (L2.CX c.P c.w) 1 a fd [Str.ofString "self", Str.ofString "game"] (spInit c) := by
  unfold chkI at ck
  rw [Bool.and_eq_true] at ck
  obtain ⟨k1, k2⟩ := ck
  have S := scB_ok k1
  split at k2
  rotate_left
  · cases k2
  rename_i s p1 g p2 y p3 p4 s2 p5 kn p6 p7 p8 e
  simp only [Bool.and_eq_true, decide_eq_true_eq] at k2
  obtain ⟨⟨⟨⟨⟨⟨e1, e2⟩, e3⟩, e4⟩, e5⟩, e6⟩, e7⟩ := k2
  subst e1 e2 e3 e4 e5
  rw [e] at F
  refine FunD.ok (N := [Str.ofString "self", Str.ofString "game"]) F S (fun vs H Q E h => by obtain ⟨_, _, _, _, rfl, _⟩ := h; rfl) (fun cdv A outer s H vs Q E hr h => ?_)
  obtain ⟨xa, dx, vg, gg, rfl, hx, q⟩ := h
  refine ⟨_, pss_cons (ps_fld (pe_var (i := 0) rfl (vis_of e6) (by decide +kernel) (by decide +kernel)) (pe_var (i := 1) rfl (vis_of e7) (by decide +kernel) (by decide +kernel)) (swaps_no (v := .Name (Str.ofString "game") p3) rfl))
    (pss_one (ps_fld (pe_var (i := 0) rfl (vis_of e6) (by decide +kernel) (by decide +kernel)) (pe_mnew (c := c) (tagN false gg) rfl rfl) (swaps_no (v := .Dict [] [] p7) rfl))), ?_⟩
  refine ⟨vg, rfl, .ref xa, rfl, xa, c.C, dx, [], rfl, hx, cl, n1, by decide, ?_⟩
  intro p hp hs
  have hne : p ≠ xa := fun z => by rw [z, upd_same] at hp; cases hp
  refine ⟨.ref xa, rfl, xa, c.C, dx, [(Str.ofString "game", vg)], rfl, ?_, cl, n2, by show 1 < 1000; decide, ?_⟩
  · rw [upd_ne (Ne.symm hne), upd_same]; rfl
  · have := q p hp hs
    rw [putF_one (by simp; decide +kernel)]
    exact this
end
end FC

/-! The law's head, printed by gen2.py. -/
set_option autoImplicit false
set_option linter.all false
set_option maxRecDepth 100000
set_option maxHeartbeats 0
set_option Elab.async false
namespace FC
open PySem PySem.Spec PyProof.Rows L2
abbrev prg : Program := PySem.Challenge.pw_fieldclaim_k06_whole_pairs
def top (i : Nat) : Stmt := prg.main.body.getD i (.Pass ⟨0, 0, 0, 0⟩)
def topM (i j : Nat) : Stmt := match top i with
  | .ClassDef _ _ _ b _ _ _ _ _ _ _ => b.getD j (.Pass ⟨0, 0, 0, 0⟩)
  | _ => .Pass ⟨0, 0, 0, 0⟩
def fns : List He.DefD := [⟨("choose", none), "choose", "choose", defArgs (top 1), defBody (top 1), defScope (top 1), [], []⟩,
  ⟨("free_points", none), "free_points", "free_points", defArgs (top 2), defBody (top 2), defScope (top 2), [], []⟩,
  ⟨("claims", none), "claims", "claims", defArgs (top 3), defBody (top 3), defScope (top 3), [], []⟩,
  ⟨("added", none), "added", "added", defArgs (top 4), defBody (top 4), defScope (top 4), [], []⟩,
  ⟨("decided", none), "decided", "decided", defArgs (top 5), defBody (top 5), defScope (top 5), [], []⟩,
  ⟨("is_number", none), "is_number", "is_number", defArgs (top 7), defBody (top 7), defScope (top 7), [], []⟩,
  ⟨("is_rising", none), "is_rising", "is_rising", defArgs (top 8), defBody (top 8), defScope (top 8), [], []⟩,
  ⟨("is_line", none), "is_line", "is_line", defArgs (top 9), defBody (top 9), defScope (top 9), [], []⟩,
  ⟨("holds_pair", none), "holds_pair", "holds_pair", defArgs (top 11), defBody (top 11), defScope (top 11), [], []⟩,
  ⟨("points_of", none), "points_of", "points_of", defArgs (top 12), defBody (top 12), defScope (top 12), [], []⟩,
  ⟨("search", none), "search", "search", defArgs (top 13), defBody (top 13), defScope (top 13), [], []⟩,
  ⟨("pairing", none), "pairing", "pairing", defArgs (top 14), defBody (top 14), defScope (top 14), [], []⟩,
  ⟨("is_pairing", none), "is_pairing", "is_pairing", defArgs (top 15), defBody (top 15), defScope (top 15), [], []⟩,
  ⟨("partner", none), "partner", "partner", defArgs (top 16), defBody (top 16), defScope (top 16), [], []⟩,
  ⟨("reply", none), "reply", "reply", defArgs (top 17), defBody (top 17), defScope (top 17), [], []⟩,
  ⟨("Solver", some "__init__"), "__init__", "Solver.__init__", defArgs (topM 19 0), defBody (topM 19 0), defScope (topM 19 0), [], []⟩,
  ⟨("Solver", some "winner"), "winner", "Solver.winner", defArgs (topM 19 1), defBody (topM 19 1), defScope (topM 19 1), [], []⟩,
  ⟨("Solver", some "good"), "good", "Solver.good", defArgs (topM 19 2), defBody (topM 19 2), defScope (topM 19 2), [], []⟩,
  ⟨("Solver", some "behind"), "behind", "Solver.behind", defArgs (topM 19 3), defBody (topM 19 3), defScope (topM 19 3), [], []⟩,
  ⟨("winner_from", none), "winner_from", "winner_from", defArgs (top 20), defBody (top 20), defScope (top 20), [], []⟩,
  ⟨("winner", none), "winner", "winner", defArgs (top 21), defBody (top 21), defScope (top 21), [], []⟩,
  ⟨("_law_cell", none), "_law_cell", "_law_cell", defArgs (top 23), defBody (top 23), defScope (top 23), [], []⟩,
  ⟨("_law_mix", none), "_law_mix", "_law_mix", defArgs (top 24), defBody (top 24), defScope (top 24), [], []⟩,
  ⟨("_law_field", none), "_law_field", "_law_field", defArgs (top 25), defBody (top 25), defScope (top 25), [], []⟩,
  ⟨("_law_game", none), "_law_game", "_law_game", defArgs (top 26), defBody (top 26), defScope (top 26), [], []⟩,
  ⟨("_law_position", none), "_law_position", "_law_position", defArgs (top 27), defBody (top 27), defScope (top 27), [], []⟩,
  ⟨("_law_over", none), "_law_over", "_law_over", defArgs (top 28), defBody (top 28), defScope (top 28), [], []⟩,
  ⟨("_law_claims", none), "_law_claims", "_law_claims", defArgs (top 29), defBody (top 29), defScope (top 29), [], []⟩,
  ⟨("_law_put", none), "_law_put", "_law_put", defArgs (top 30), defBody (top 30), defScope (top 30), [], []⟩,
  ⟨("_law_holds", none), "_law_holds", "_law_holds", defArgs (top 31), defBody (top 31), defScope (top 31), [], []⟩,
  ⟨("_law_is_pairing", none), "_law_is_pairing", "_law_is_pairing", defArgs (top 32), defBody (top 32), defScope (top 32), [], []⟩,
  ⟨("_law_all", none), "_law_all", "_law_all", defArgs (top 33), defBody (top 33), defScope (top 33), [], []⟩,
  ⟨("_law_safe", none), "_law_safe", "_law_safe", defArgs (top 34), defBody (top 34), defScope (top 34), [], []⟩,
  ⟨("law", none), "law", "law", defArgs (top 35), defBody (top 35), defScope (top 35), [], []⟩]
def fas : List He.Fa := [.free "len", .free "min", .free "max", .free "tuple", .free "list", .free "sorted", .free "any", .free "all", .free "sum", .free "str", .free "int", .free "isinstance", .free "bool", .free "range", .free "enumerate", .free "zip", .free "set", .glo "Solver", .cls "Solver", .mkr "Solver", .noat "Solver" "game", .noat "Solver" "known", .glo "choose", .glo "free_points", .glo "claims", .glo "added", .glo "decided", .glo "is_number", .glo "is_rising", .glo "is_line", .glo "holds_pair", .glo "points_of", .glo "search", .glo "pairing", .glo "is_pairing", .glo "partner", .glo "reply", .meth "Solver" "winner", .meth "Solver" "good", .meth "Solver" "behind", .glo "winner_from", .glo "winner", .glo "_law_cell", .glo "_law_mix", .glo "_law_field", .glo "_law_game", .glo "_law_position", .glo "_law_over", .glo "_law_claims", .glo "_law_put", .glo "_law_holds", .glo "_law_is_pairing", .glo "_law_all", .glo "_law_safe", .glo "law"]
def dom : Fn → Bool
  | .choose => true
  | .free_points => true
  | .claims => true
  | .added => true
  | .decided => true
  | .is_number => true
  | .is_rising => true
  | .is_line => true
  | .holds_pair => true
  | .points_of => true
  | .search => true
  | .pairing => true
  | .is_pairing => true
  | .partner => true
  | .reply => true
  | .s_winner => true
  | .s_good => true
  | .s_behind => true
  | .winner_from => true
  | .winner => true
  | .l_cell => true
  | .l_mix => true
  | .l_field => true
  | .l_game => true
  | .l_position => true
  | .l_over => true
  | .l_claims => true
  | .l_put => true
  | .l_holds => true
  | .l_is_pairing => true
  | .l_all => true
  | .l_safe6 => true
  | .law6 => true
  | _ => false
def pars : Fn → List Str
  | .choose => ["points", "many"]
  | .free_points => ["field", "mine", "yours"]
  | .claims => ["game", "mine", "yours", "whose"]
  | .added => ["points", "more"]
  | .decided => ["game", "mine", "yours"]
  | .is_number => ["thing", "least", "most"]
  | .is_rising => ["row"]
  | .is_line => ["thing", "many"]
  | .holds_pair => ["line", "pairs"]
  | .points_of => ["pairs"]
  | .search => ["lines", "pairs"]
  | .pairing => ["field"]
  | .is_pairing => ["field", "thing"]
  | .partner => ["pairs", "point"]
  | .reply => ["field", "pairs", "mine", "yours", "point"]
  | .s_winner => ["self", "mine", "yours", "whose"]
  | .s_good => ["self", "mine", "yours", "whose", "one"]
  | .s_behind => ["self", "mine", "yours", "whose", "claim"]
  | .winner_from => ["game", "mine", "yours", "whose"]
  | .winner => ["game"]
  | .l_cell => ["_law_script", "_law_k"]
  | .l_mix => ["_law_cell_here", "_law_prime", "_law_many"]
  | .l_field => ["_law_cell_here", "_law_least", "_law_most", "_law_lines"]
  | .l_game => ["_law_cell_here", "_law_least", "_law_most", "_law_lines"]
  | .l_position => ["_law_game_here", "_law_cell_here"]
  | .l_over => ["_law_game_here", "_law_mine", "_law_yours"]
  | .l_claims => ["_law_game_here", "_law_mine", "_law_yours", "_law_whose"]
  | .l_put => ["_law_mine", "_law_yours", "_law_whose", "_law_claim"]
  | .l_holds => ["_law_line", "_law_pairs"]
  | .l_is_pairing => ["_law_field_here", "_law_thing"]
  | .l_all => ["_law_points"]
  | .l_safe6 => ["_law_field_here", "_law_pairs", "_law_mine", "_law_yours"]
  | .law6 => ["_law_script"]
  | _ => []
def xd : Nat → Bool
  | _ => false
abbrev R : PySem.W.OpenRow := PySem.W.OpenLaw.row PySem.Challenge.rw_fieldclaim_k06_whole_pairs
abbrev hk : PySem.W.Hook := He.hookD 6 fas fns
def ob (s : PySem.W.SharedT) : He.AlD := He.obsDG 6 fas fns (HandSHeadRun.getT s)
theorem ob_eq (s : PySem.W.SharedT) : ob s = hk.obs s.abs := He.obsDG_eq (HandSHeadRun.getT_eq s)
theorem run_top (w : World) : HandSHeadRun.RunEq R (PySem.W.view R.prog [35]) hk ob 4000 ["choose", "free_points", "claims", "added", "decided", "is_number", "is_rising", "is_line", "holds_pair", "points_of", "search", "pairing", "is_pairing", "partner", "reply", "Solver", "winner_from", "winner", "_law_cell", "_law_mix", "_law_field", "_law_game", "_law_position", "_law_over", "_law_claims", "_law_put", "_law_holds", "_law_is_pairing", "_law_all", "_law_safe"] w := by
  intro os
  kernel_rfl
def cxo (w : World) (K : PySem.W.Frag) : PCx := ⟨prg, w, K, He.ga K "Solver", fun n => He.ga K (Str.ofString (excN n)), memV⟩
section
variable {w : World} {K : PySem.W.Frag} {h base : Heap} {mg : Str → Option Value} {k : Nat}
theorem ck_choose : chk dom xd (pars .choose) d_choose (top 1) = true := by decide +kernel
theorem ck_free_points : chk dom xd (pars .free_points) d_free_points (top 2) = true := by decide +kernel
theorem ck_claims : chk dom xd (pars .claims) d_claims (top 3) = true := by decide +kernel
theorem ck_added : chk dom xd (pars .added) d_added (top 4) = true := by decide +kernel
theorem ck_decided : chk dom xd (pars .decided) d_decided (top 5) = true := by decide +kernel
theorem ck_is_number : chk dom xd (pars .is_number) d_is_number (top 7) = true := by decide +kernel
theorem ck_is_rising : chk dom xd (pars .is_rising) d_is_rising (top 8) = true := by decide +kernel
theorem ck_is_line : chk dom xd (pars .is_line) d_is_line (top 9) = true := by decide +kernel
theorem ck_holds_pair : chk dom xd (pars .holds_pair) d_holds_pair (top 11) = true := by decide +kernel
theorem ck_points_of : chk dom xd (pars .points_of) d_points_of (top 12) = true := by decide +kernel
theorem ck_search : chk dom xd (pars .search) d_search (top 13) = true := by decide +kernel
theorem ck_pairing : chk dom xd (pars .pairing) d_pairing (top 14) = true := by decide +kernel
theorem ck_is_pairing : chk dom xd (pars .is_pairing) d_is_pairing (top 15) = true := by decide +kernel
theorem ck_partner : chk dom xd (pars .partner) d_partner (top 16) = true := by decide +kernel
theorem ck_reply : chk dom xd (pars .reply) d_reply (top 17) = true := by decide +kernel
theorem ck_s_winner : chkS dom xd (pars .s_winner) (topM 19 1) = true := by decide +kernel
theorem ck_s_good : chk dom xd (pars .s_good) d_s_good (topM 19 2) = true := by decide +kernel
theorem ck_s_behind : chk dom xd (pars .s_behind) d_s_behind (topM 19 3) = true := by decide +kernel
theorem ck_winner_from : chk dom xd (pars .winner_from) d_winner_from (top 20) = true := by decide +kernel
theorem ck_winner : chk dom xd (pars .winner) d_winner (top 21) = true := by decide +kernel
theorem ck_l_cell : chk dom xd (pars .l_cell) d_l_cell (top 23) = true := by decide +kernel
theorem ck_l_mix : chk dom xd (pars .l_mix) d_l_mix (top 24) = true := by decide +kernel
theorem ck_l_field : chk dom xd (pars .l_field) d_l_field (top 25) = true := by decide +kernel
theorem ck_l_game : chk dom xd (pars .l_game) d_l_game (top 26) = true := by decide +kernel
theorem ck_l_position : chk dom xd (pars .l_position) d_l_position (top 27) = true := by decide +kernel
theorem ck_l_over : chk dom xd (pars .l_over) d_l_over (top 28) = true := by decide +kernel
theorem ck_l_claims : chk dom xd (pars .l_claims) d_l_claims (top 29) = true := by decide +kernel
theorem ck_l_put : chk dom xd (pars .l_put) d_l_put (top 30) = true := by decide +kernel
theorem ck_l_holds : chk dom xd (pars .l_holds) d_l_holds (top 31) = true := by decide +kernel
theorem ck_l_is_pairing : chk dom xd (pars .l_is_pairing) d_l_is_pairing (top 32) = true := by decide +kernel
theorem ck_l_all : chk dom xd (pars .l_all) d_l_all (top 33) = true := by decide +kernel
theorem ck_l_safe6 : chk dom xd (pars .l_safe6) d_l_safe6 (top 34) = true := by decide +kernel
theorem ck_law6 : chk dom xd (pars .law6) d_law6 (top 35) = true := by decide +kernel
theorem ck_init : chkI (topM 19 0) = true := by decide +kernel
theorem sv_ok (X : K.In h) (G : h.Ns mainGlobals mg) (c : He.SaysD fas fns K) : SvOk (cxo w K) mg base := by
  have cl := He.cls_ok (c.fact 18 (f := .cls "Solver") rfl)
  have n1 := He.noat_ok (c.fact 20 (f := .noat "Solver" "game") rfl)
  have n2 := He.noat_ok (c.fact 21 (f := .noat "Solver" "known") rfl)
  obtain ⟨fd, F0⟩ := c.def_ 15 (d := ⟨("Solver", some "__init__"), "__init__", "Solver.__init__", defArgs (topM 19 0), defBody (topM 19 0), defScope (topM 19 0), [], []⟩) rfl
  have F : FunD K "__init__" "Solver.__init__" (defArgs (topM 19 0)) (defBody (topM 19 0)) (defScope (topM 19 0)) [] [] (He.ma K (He.ga K "Solver") "__init__") fd := F0
  exact ⟨He.glo_ok X G (c.fact 17 (f := .glo "Solver") rfl), cl, n1, n2, He.ma K (He.ga K "Solver") "__init__", fd, He.mkr_ok (c.fact 19 (f := .mkr "Solver") rfl), F.bindsN (fun _ _ _ _ _ _ us hl => match us, hl with | [_, _], _ => rfl), ok_init (c := cxo w K) F ck_init cl n1 n2⟩
theorem mem_blt {α : Type} {a : α} {p : α → Prop} {l : List α} (h : ∀ x ∈ l, p x) (e : a ∈ l) : p a := h a e
theorem tops (X : K.In h) (G : h.Ns mainGlobals mg) (c : He.SaysD fas fns K) : Top (cxo w K) mg base dom xd pars := by
  refine ⟨fun x hx => ?_, fun n hn => ?_, fun k f ds hf hb => ?_, fun hs => ?_, fun f hd hm => ?_⟩
  · simp only [bnames, List.mem_cons, List.mem_nil_iff, or_false] at hx
    rcases hx with rfl | rfl | rfl | rfl | rfl | rfl | rfl | rfl | rfl | rfl | rfl | rfl | rfl | rfl | rfl | rfl | rfl
    · exact He.free_ok X G (c.fact 0 (f := .free "len") rfl)
    · exact He.free_ok X G (c.fact 1 (f := .free "min") rfl)
    · exact He.free_ok X G (c.fact 2 (f := .free "max") rfl)
    · exact He.free_ok X G (c.fact 3 (f := .free "tuple") rfl)
    · exact He.free_ok X G (c.fact 4 (f := .free "list") rfl)
    · exact He.free_ok X G (c.fact 5 (f := .free "sorted") rfl)
    · exact He.free_ok X G (c.fact 6 (f := .free "any") rfl)
    · exact He.free_ok X G (c.fact 7 (f := .free "all") rfl)
    · exact He.free_ok X G (c.fact 8 (f := .free "sum") rfl)
    · exact He.free_ok X G (c.fact 9 (f := .free "str") rfl)
    · exact He.free_ok X G (c.fact 10 (f := .free "int") rfl)
    · exact He.free_ok X G (c.fact 11 (f := .free "isinstance") rfl)
    · exact He.free_ok X G (c.fact 12 (f := .free "bool") rfl)
    · exact He.free_ok X G (c.fact 13 (f := .free "range") rfl)
    · exact He.free_ok X G (c.fact 14 (f := .free "enumerate") rfl)
    · exact He.free_ok X G (c.fact 15 (f := .free "zip") rfl)
    · exact He.free_ok X G (c.fact 16 (f := .free "set") rfl)
  · cases hn
  · cases f <;> first | (exact absurd hf Bool.false_ne_true) | exact np_code rfl rfl hb | exact np_refused rfl hb
  · exact sv_ok X G c
  · rfl
theorem src_choose (X : K.In h) (G : h.Ns mainGlobals mg) (c : He.SaysD fas fns K) : Src (cxo w K) mg base dom pars .choose := by
  obtain ⟨fd, F0⟩ := c.def_ 0 (d := ⟨("choose", none), "choose", "choose", defArgs (top 1), defBody (top 1), defScope (top 1), [], []⟩) rfl
  have F : FunD K "choose" "choose" (defArgs (top 1)) (defBody (top 1)) (defScope (top 1)) [] [] (He.ga K "choose") fd := F0
  exact src_fn (c := cxo w K) rfl F ck_choose (F.bindsN (fun _ _ _ _ _ _ us hl => match us, hl with | [_, _], _ => rfl)) (He.glo_ok X G (c.fact 22 (f := .glo "choose") rfl)) rfl (tops X G c)
theorem src_free_points (X : K.In h) (G : h.Ns mainGlobals mg) (c : He.SaysD fas fns K) : Src (cxo w K) mg base dom pars .free_points := by
  obtain ⟨fd, F0⟩ := c.def_ 1 (d := ⟨("free_points", none), "free_points", "free_points", defArgs (top 2), defBody (top 2), defScope (top 2), [], []⟩) rfl
  have F : FunD K "free_points" "free_points" (defArgs (top 2)) (defBody (top 2)) (defScope (top 2)) [] [] (He.ga K "free_points") fd := F0
  exact src_fn (c := cxo w K) rfl F ck_free_points (F.bindsN (fun _ _ _ _ _ _ us hl => match us, hl with | [_, _, _], _ => rfl)) (He.glo_ok X G (c.fact 23 (f := .glo "free_points") rfl)) rfl (tops X G c)
theorem src_claims (X : K.In h) (G : h.Ns mainGlobals mg) (c : He.SaysD fas fns K) : Src (cxo w K) mg base dom pars .claims := by
  obtain ⟨fd, F0⟩ := c.def_ 2 (d := ⟨("claims", none), "claims", "claims", defArgs (top 3), defBody (top 3), defScope (top 3), [], []⟩) rfl
  have F : FunD K "claims" "claims" (defArgs (top 3)) (defBody (top 3)) (defScope (top 3)) [] [] (He.ga K "claims") fd := F0
  exact src_fn (c := cxo w K) rfl F ck_claims (F.bindsN (fun _ _ _ _ _ _ us hl => match us, hl with | [_, _, _, _], _ => rfl)) (He.glo_ok X G (c.fact 24 (f := .glo "claims") rfl)) rfl (tops X G c)
theorem src_added (X : K.In h) (G : h.Ns mainGlobals mg) (c : He.SaysD fas fns K) : Src (cxo w K) mg base dom pars .added := by
  obtain ⟨fd, F0⟩ := c.def_ 3 (d := ⟨("added", none), "added", "added", defArgs (top 4), defBody (top 4), defScope (top 4), [], []⟩) rfl
  have F : FunD K "added" "added" (defArgs (top 4)) (defBody (top 4)) (defScope (top 4)) [] [] (He.ga K "added") fd := F0
  exact src_fn (c := cxo w K) rfl F ck_added (F.bindsN (fun _ _ _ _ _ _ us hl => match us, hl with | [_, _], _ => rfl)) (He.glo_ok X G (c.fact 25 (f := .glo "added") rfl)) rfl (tops X G c)
theorem src_decided (X : K.In h) (G : h.Ns mainGlobals mg) (c : He.SaysD fas fns K) : Src (cxo w K) mg base dom pars .decided := by
  obtain ⟨fd, F0⟩ := c.def_ 4 (d := ⟨("decided", none), "decided", "decided", defArgs (top 5), defBody (top 5), defScope (top 5), [], []⟩) rfl
  have F : FunD K "decided" "decided" (defArgs (top 5)) (defBody (top 5)) (defScope (top 5)) [] [] (He.ga K "decided") fd := F0
  exact src_fn (c := cxo w K) rfl F ck_decided (F.bindsN (fun _ _ _ _ _ _ us hl => match us, hl with | [_, _, _], _ => rfl)) (He.glo_ok X G (c.fact 26 (f := .glo "decided") rfl)) rfl (tops X G c)
theorem src_is_number (X : K.In h) (G : h.Ns mainGlobals mg) (c : He.SaysD fas fns K) : Src (cxo w K) mg base dom pars .is_number := by
  obtain ⟨fd, F0⟩ := c.def_ 5 (d := ⟨("is_number", none), "is_number", "is_number", defArgs (top 7), defBody (top 7), defScope (top 7), [], []⟩) rfl
  have F : FunD K "is_number" "is_number" (defArgs (top 7)) (defBody (top 7)) (defScope (top 7)) [] [] (He.ga K "is_number") fd := F0
  exact src_fn (c := cxo w K) rfl F ck_is_number (F.bindsN (fun _ _ _ _ _ _ us hl => match us, hl with | [_, _, _], _ => rfl)) (He.glo_ok X G (c.fact 27 (f := .glo "is_number") rfl)) rfl (tops X G c)
theorem src_is_rising (X : K.In h) (G : h.Ns mainGlobals mg) (c : He.SaysD fas fns K) : Src (cxo w K) mg base dom pars .is_rising := by
  obtain ⟨fd, F0⟩ := c.def_ 6 (d := ⟨("is_rising", none), "is_rising", "is_rising", defArgs (top 8), defBody (top 8), defScope (top 8), [], []⟩) rfl
  have F : FunD K "is_rising" "is_rising" (defArgs (top 8)) (defBody (top 8)) (defScope (top 8)) [] [] (He.ga K "is_rising") fd := F0
  exact src_fn (c := cxo w K) rfl F ck_is_rising (F.bindsN (fun _ _ _ _ _ _ us hl => match us, hl with | [_], _ => rfl)) (He.glo_ok X G (c.fact 28 (f := .glo "is_rising") rfl)) rfl (tops X G c)
theorem src_is_line (X : K.In h) (G : h.Ns mainGlobals mg) (c : He.SaysD fas fns K) : Src (cxo w K) mg base dom pars .is_line := by
  obtain ⟨fd, F0⟩ := c.def_ 7 (d := ⟨("is_line", none), "is_line", "is_line", defArgs (top 9), defBody (top 9), defScope (top 9), [], []⟩) rfl
  have F : FunD K "is_line" "is_line" (defArgs (top 9)) (defBody (top 9)) (defScope (top 9)) [] [] (He.ga K "is_line") fd := F0
  exact src_fn (c := cxo w K) rfl F ck_is_line (F.bindsN (fun _ _ _ _ _ _ us hl => match us, hl with | [_, _], _ => rfl)) (He.glo_ok X G (c.fact 29 (f := .glo "is_line") rfl)) rfl (tops X G c)
theorem src_holds_pair (X : K.In h) (G : h.Ns mainGlobals mg) (c : He.SaysD fas fns K) : Src (cxo w K) mg base dom pars .holds_pair := by
  obtain ⟨fd, F0⟩ := c.def_ 8 (d := ⟨("holds_pair", none), "holds_pair", "holds_pair", defArgs (top 11), defBody (top 11), defScope (top 11), [], []⟩) rfl
  have F : FunD K "holds_pair" "holds_pair" (defArgs (top 11)) (defBody (top 11)) (defScope (top 11)) [] [] (He.ga K "holds_pair") fd := F0
  exact src_fn (c := cxo w K) rfl F ck_holds_pair (F.bindsN (fun _ _ _ _ _ _ us hl => match us, hl with | [_, _], _ => rfl)) (He.glo_ok X G (c.fact 30 (f := .glo "holds_pair") rfl)) rfl (tops X G c)
theorem src_points_of (X : K.In h) (G : h.Ns mainGlobals mg) (c : He.SaysD fas fns K) : Src (cxo w K) mg base dom pars .points_of := by
  obtain ⟨fd, F0⟩ := c.def_ 9 (d := ⟨("points_of", none), "points_of", "points_of", defArgs (top 12), defBody (top 12), defScope (top 12), [], []⟩) rfl
  have F : FunD K "points_of" "points_of" (defArgs (top 12)) (defBody (top 12)) (defScope (top 12)) [] [] (He.ga K "points_of") fd := F0
  exact src_fn (c := cxo w K) rfl F ck_points_of (F.bindsN (fun _ _ _ _ _ _ us hl => match us, hl with | [_], _ => rfl)) (He.glo_ok X G (c.fact 31 (f := .glo "points_of") rfl)) rfl (tops X G c)
theorem src_search (X : K.In h) (G : h.Ns mainGlobals mg) (c : He.SaysD fas fns K) : Src (cxo w K) mg base dom pars .search := by
  obtain ⟨fd, F0⟩ := c.def_ 10 (d := ⟨("search", none), "search", "search", defArgs (top 13), defBody (top 13), defScope (top 13), [], []⟩) rfl
  have F : FunD K "search" "search" (defArgs (top 13)) (defBody (top 13)) (defScope (top 13)) [] [] (He.ga K "search") fd := F0
  exact src_fn (c := cxo w K) rfl F ck_search (F.bindsN (fun _ _ _ _ _ _ us hl => match us, hl with | [_, _], _ => rfl)) (He.glo_ok X G (c.fact 32 (f := .glo "search") rfl)) rfl (tops X G c)
theorem src_pairing (X : K.In h) (G : h.Ns mainGlobals mg) (c : He.SaysD fas fns K) : Src (cxo w K) mg base dom pars .pairing := by
  obtain ⟨fd, F0⟩ := c.def_ 11 (d := ⟨("pairing", none), "pairing", "pairing", defArgs (top 14), defBody (top 14), defScope (top 14), [], []⟩) rfl
  have F : FunD K "pairing" "pairing" (defArgs (top 14)) (defBody (top 14)) (defScope (top 14)) [] [] (He.ga K "pairing") fd := F0
  exact src_fn (c := cxo w K) rfl F ck_pairing (F.bindsN (fun _ _ _ _ _ _ us hl => match us, hl with | [_], _ => rfl)) (He.glo_ok X G (c.fact 33 (f := .glo "pairing") rfl)) rfl (tops X G c)
theorem src_is_pairing (X : K.In h) (G : h.Ns mainGlobals mg) (c : He.SaysD fas fns K) : Src (cxo w K) mg base dom pars .is_pairing := by
  obtain ⟨fd, F0⟩ := c.def_ 12 (d := ⟨("is_pairing", none), "is_pairing", "is_pairing", defArgs (top 15), defBody (top 15), defScope (top 15), [], []⟩) rfl
  have F : FunD K "is_pairing" "is_pairing" (defArgs (top 15)) (defBody (top 15)) (defScope (top 15)) [] [] (He.ga K "is_pairing") fd := F0
  exact src_fn (c := cxo w K) rfl F ck_is_pairing (F.bindsN (fun _ _ _ _ _ _ us hl => match us, hl with | [_, _], _ => rfl)) (He.glo_ok X G (c.fact 34 (f := .glo "is_pairing") rfl)) rfl (tops X G c)
theorem src_partner (X : K.In h) (G : h.Ns mainGlobals mg) (c : He.SaysD fas fns K) : Src (cxo w K) mg base dom pars .partner := by
  obtain ⟨fd, F0⟩ := c.def_ 13 (d := ⟨("partner", none), "partner", "partner", defArgs (top 16), defBody (top 16), defScope (top 16), [], []⟩) rfl
  have F : FunD K "partner" "partner" (defArgs (top 16)) (defBody (top 16)) (defScope (top 16)) [] [] (He.ga K "partner") fd := F0
  exact src_fn (c := cxo w K) rfl F ck_partner (F.bindsN (fun _ _ _ _ _ _ us hl => match us, hl with | [_, _], _ => rfl)) (He.glo_ok X G (c.fact 35 (f := .glo "partner") rfl)) rfl (tops X G c)
theorem src_reply (X : K.In h) (G : h.Ns mainGlobals mg) (c : He.SaysD fas fns K) : Src (cxo w K) mg base dom pars .reply := by
  obtain ⟨fd, F0⟩ := c.def_ 14 (d := ⟨("reply", none), "reply", "reply", defArgs (top 17), defBody (top 17), defScope (top 17), [], []⟩) rfl
  have F : FunD K "reply" "reply" (defArgs (top 17)) (defBody (top 17)) (defScope (top 17)) [] [] (He.ga K "reply") fd := F0
  exact src_fn (c := cxo w K) rfl F ck_reply (F.bindsN (fun _ _ _ _ _ _ us hl => match us, hl with | [_, _, _, _, _], _ => rfl)) (He.glo_ok X G (c.fact 36 (f := .glo "reply") rfl)) rfl (tops X G c)
theorem src_s_winner (X : K.In h) (G : h.Ns mainGlobals mg) (c : He.SaysD fas fns K) : Src (cxo w K) mg base dom pars .s_winner := by
  obtain ⟨fd, F0⟩ := c.def_ 16 (d := ⟨("Solver", some "winner"), "winner", "Solver.winner", defArgs (topM 19 1), defBody (topM 19 1), defScope (topM 19 1), [], []⟩) rfl
  have F : FunD K "winner" "Solver.winner" (defArgs (topM 19 1)) (defBody (topM 19 1)) (defScope (topM 19 1)) [] [] (He.ma K (He.ga K "Solver") "winner") fd := F0
  exact src_swin (c := cxo w K) rfl rfl rfl F ck_s_winner (F.bindsN (fun _ _ _ _ _ _ us hl => match us, hl with | [_, _, _, _], _ => rfl)) (He.meth_ok (c.fact 37 (f := .meth "Solver" "winner") rfl)) (tops X G c)
theorem src_s_good (X : K.In h) (G : h.Ns mainGlobals mg) (c : He.SaysD fas fns K) : Src (cxo w K) mg base dom pars .s_good := by
  obtain ⟨fd, F0⟩ := c.def_ 17 (d := ⟨("Solver", some "good"), "good", "Solver.good", defArgs (topM 19 2), defBody (topM 19 2), defScope (topM 19 2), [], []⟩) rfl
  have F : FunD K "good" "Solver.good" (defArgs (topM 19 2)) (defBody (topM 19 2)) (defScope (topM 19 2)) [] [] (He.ma K (He.ga K "Solver") "good") fd := F0
  exact src_fnM (c := cxo w K) rfl F ck_s_good (F.bindsN (fun _ _ _ _ _ _ us hl => match us, hl with | [_, _, _, _, _], _ => rfl)) (He.meth_ok (c.fact 38 (f := .meth "Solver" "good") rfl)) rfl (tops X G c)
theorem src_s_behind (X : K.In h) (G : h.Ns mainGlobals mg) (c : He.SaysD fas fns K) : Src (cxo w K) mg base dom pars .s_behind := by
  obtain ⟨fd, F0⟩ := c.def_ 18 (d := ⟨("Solver", some "behind"), "behind", "Solver.behind", defArgs (topM 19 3), defBody (topM 19 3), defScope (topM 19 3), [], []⟩) rfl
  have F : FunD K "behind" "Solver.behind" (defArgs (topM 19 3)) (defBody (topM 19 3)) (defScope (topM 19 3)) [] [] (He.ma K (He.ga K "Solver") "behind") fd := F0
  exact src_fnM (c := cxo w K) rfl F ck_s_behind (F.bindsN (fun _ _ _ _ _ _ us hl => match us, hl with | [_, _, _, _, _], _ => rfl)) (He.meth_ok (c.fact 39 (f := .meth "Solver" "behind") rfl)) rfl (tops X G c)
theorem src_winner_from (X : K.In h) (G : h.Ns mainGlobals mg) (c : He.SaysD fas fns K) : Src (cxo w K) mg base dom pars .winner_from := by
  obtain ⟨fd, F0⟩ := c.def_ 19 (d := ⟨("winner_from", none), "winner_from", "winner_from", defArgs (top 20), defBody (top 20), defScope (top 20), [], []⟩) rfl
  have F : FunD K "winner_from" "winner_from" (defArgs (top 20)) (defBody (top 20)) (defScope (top 20)) [] [] (He.ga K "winner_from") fd := F0
  exact src_fn (c := cxo w K) rfl F ck_winner_from (F.bindsN (fun _ _ _ _ _ _ us hl => match us, hl with | [_, _, _, _], _ => rfl)) (He.glo_ok X G (c.fact 40 (f := .glo "winner_from") rfl)) rfl (tops X G c)
theorem src_winner (X : K.In h) (G : h.Ns mainGlobals mg) (c : He.SaysD fas fns K) : Src (cxo w K) mg base dom pars .winner := by
  obtain ⟨fd, F0⟩ := c.def_ 20 (d := ⟨("winner", none), "winner", "winner", defArgs (top 21), defBody (top 21), defScope (top 21), [], []⟩) rfl
  have F : FunD K "winner" "winner" (defArgs (top 21)) (defBody (top 21)) (defScope (top 21)) [] [] (He.ga K "winner") fd := F0
  exact src_fn (c := cxo w K) rfl F ck_winner (F.bindsN (fun _ _ _ _ _ _ us hl => match us, hl with | [_], _ => rfl)) (He.glo_ok X G (c.fact 41 (f := .glo "winner") rfl)) rfl (tops X G c)
theorem src_l_cell (X : K.In h) (G : h.Ns mainGlobals mg) (c : He.SaysD fas fns K) : Src (cxo w K) mg base dom pars .l_cell := by
  obtain ⟨fd, F0⟩ := c.def_ 21 (d := ⟨("_law_cell", none), "_law_cell", "_law_cell", defArgs (top 23), defBody (top 23), defScope (top 23), [], []⟩) rfl
  have F : FunD K "_law_cell" "_law_cell" (defArgs (top 23)) (defBody (top 23)) (defScope (top 23)) [] [] (He.ga K "_law_cell") fd := F0
  exact src_fn (c := cxo w K) rfl F ck_l_cell (F.bindsN (fun _ _ _ _ _ _ us hl => match us, hl with | [_, _], _ => rfl)) (He.glo_ok X G (c.fact 42 (f := .glo "_law_cell") rfl)) rfl (tops X G c)
theorem src_l_mix (X : K.In h) (G : h.Ns mainGlobals mg) (c : He.SaysD fas fns K) : Src (cxo w K) mg base dom pars .l_mix := by
  obtain ⟨fd, F0⟩ := c.def_ 22 (d := ⟨("_law_mix", none), "_law_mix", "_law_mix", defArgs (top 24), defBody (top 24), defScope (top 24), [], []⟩) rfl
  have F : FunD K "_law_mix" "_law_mix" (defArgs (top 24)) (defBody (top 24)) (defScope (top 24)) [] [] (He.ga K "_law_mix") fd := F0
  exact src_fn (c := cxo w K) rfl F ck_l_mix (F.bindsN (fun _ _ _ _ _ _ us hl => match us, hl with | [_, _, _], _ => rfl)) (He.glo_ok X G (c.fact 43 (f := .glo "_law_mix") rfl)) rfl (tops X G c)
theorem src_l_field (X : K.In h) (G : h.Ns mainGlobals mg) (c : He.SaysD fas fns K) : Src (cxo w K) mg base dom pars .l_field := by
  obtain ⟨fd, F0⟩ := c.def_ 23 (d := ⟨("_law_field", none), "_law_field", "_law_field", defArgs (top 25), defBody (top 25), defScope (top 25), [], []⟩) rfl
  have F : FunD K "_law_field" "_law_field" (defArgs (top 25)) (defBody (top 25)) (defScope (top 25)) [] [] (He.ga K "_law_field") fd := F0
  exact src_fn (c := cxo w K) rfl F ck_l_field (F.bindsN (fun _ _ _ _ _ _ us hl => match us, hl with | [_, _, _, _], _ => rfl)) (He.glo_ok X G (c.fact 44 (f := .glo "_law_field") rfl)) rfl (tops X G c)
theorem src_l_game (X : K.In h) (G : h.Ns mainGlobals mg) (c : He.SaysD fas fns K) : Src (cxo w K) mg base dom pars .l_game := by
  obtain ⟨fd, F0⟩ := c.def_ 24 (d := ⟨("_law_game", none), "_law_game", "_law_game", defArgs (top 26), defBody (top 26), defScope (top 26), [], []⟩) rfl
  have F : FunD K "_law_game" "_law_game" (defArgs (top 26)) (defBody (top 26)) (defScope (top 26)) [] [] (He.ga K "_law_game") fd := F0
  exact src_fn (c := cxo w K) rfl F ck_l_game (F.bindsN (fun _ _ _ _ _ _ us hl => match us, hl with | [_, _, _, _], _ => rfl)) (He.glo_ok X G (c.fact 45 (f := .glo "_law_game") rfl)) rfl (tops X G c)
theorem src_l_position (X : K.In h) (G : h.Ns mainGlobals mg) (c : He.SaysD fas fns K) : Src (cxo w K) mg base dom pars .l_position := by
  obtain ⟨fd, F0⟩ := c.def_ 25 (d := ⟨("_law_position", none), "_law_position", "_law_position", defArgs (top 27), defBody (top 27), defScope (top 27), [], []⟩) rfl
  have F : FunD K "_law_position" "_law_position" (defArgs (top 27)) (defBody (top 27)) (defScope (top 27)) [] [] (He.ga K "_law_position") fd := F0
  exact src_fn (c := cxo w K) rfl F ck_l_position (F.bindsN (fun _ _ _ _ _ _ us hl => match us, hl with | [_, _], _ => rfl)) (He.glo_ok X G (c.fact 46 (f := .glo "_law_position") rfl)) rfl (tops X G c)
theorem src_l_over (X : K.In h) (G : h.Ns mainGlobals mg) (c : He.SaysD fas fns K) : Src (cxo w K) mg base dom pars .l_over := by
  obtain ⟨fd, F0⟩ := c.def_ 26 (d := ⟨("_law_over", none), "_law_over", "_law_over", defArgs (top 28), defBody (top 28), defScope (top 28), [], []⟩) rfl
  have F : FunD K "_law_over" "_law_over" (defArgs (top 28)) (defBody (top 28)) (defScope (top 28)) [] [] (He.ga K "_law_over") fd := F0
  exact src_fn (c := cxo w K) rfl F ck_l_over (F.bindsN (fun _ _ _ _ _ _ us hl => match us, hl with | [_, _, _], _ => rfl)) (He.glo_ok X G (c.fact 47 (f := .glo "_law_over") rfl)) rfl (tops X G c)
theorem src_l_claims (X : K.In h) (G : h.Ns mainGlobals mg) (c : He.SaysD fas fns K) : Src (cxo w K) mg base dom pars .l_claims := by
  obtain ⟨fd, F0⟩ := c.def_ 27 (d := ⟨("_law_claims", none), "_law_claims", "_law_claims", defArgs (top 29), defBody (top 29), defScope (top 29), [], []⟩) rfl
  have F : FunD K "_law_claims" "_law_claims" (defArgs (top 29)) (defBody (top 29)) (defScope (top 29)) [] [] (He.ga K "_law_claims") fd := F0
  exact src_fn (c := cxo w K) rfl F ck_l_claims (F.bindsN (fun _ _ _ _ _ _ us hl => match us, hl with | [_, _, _, _], _ => rfl)) (He.glo_ok X G (c.fact 48 (f := .glo "_law_claims") rfl)) rfl (tops X G c)
theorem src_l_put (X : K.In h) (G : h.Ns mainGlobals mg) (c : He.SaysD fas fns K) : Src (cxo w K) mg base dom pars .l_put := by
  obtain ⟨fd, F0⟩ := c.def_ 28 (d := ⟨("_law_put", none), "_law_put", "_law_put", defArgs (top 30), defBody (top 30), defScope (top 30), [], []⟩) rfl
  have F : FunD K "_law_put" "_law_put" (defArgs (top 30)) (defBody (top 30)) (defScope (top 30)) [] [] (He.ga K "_law_put") fd := F0
  exact src_fn (c := cxo w K) rfl F ck_l_put (F.bindsN (fun _ _ _ _ _ _ us hl => match us, hl with | [_, _, _, _], _ => rfl)) (He.glo_ok X G (c.fact 49 (f := .glo "_law_put") rfl)) rfl (tops X G c)
theorem src_l_holds (X : K.In h) (G : h.Ns mainGlobals mg) (c : He.SaysD fas fns K) : Src (cxo w K) mg base dom pars .l_holds := by
  obtain ⟨fd, F0⟩ := c.def_ 29 (d := ⟨("_law_holds", none), "_law_holds", "_law_holds", defArgs (top 31), defBody (top 31), defScope (top 31), [], []⟩) rfl
  have F : FunD K "_law_holds" "_law_holds" (defArgs (top 31)) (defBody (top 31)) (defScope (top 31)) [] [] (He.ga K "_law_holds") fd := F0
  exact src_fn (c := cxo w K) rfl F ck_l_holds (F.bindsN (fun _ _ _ _ _ _ us hl => match us, hl with | [_, _], _ => rfl)) (He.glo_ok X G (c.fact 50 (f := .glo "_law_holds") rfl)) rfl (tops X G c)
theorem src_l_is_pairing (X : K.In h) (G : h.Ns mainGlobals mg) (c : He.SaysD fas fns K) : Src (cxo w K) mg base dom pars .l_is_pairing := by
  obtain ⟨fd, F0⟩ := c.def_ 30 (d := ⟨("_law_is_pairing", none), "_law_is_pairing", "_law_is_pairing", defArgs (top 32), defBody (top 32), defScope (top 32), [], []⟩) rfl
  have F : FunD K "_law_is_pairing" "_law_is_pairing" (defArgs (top 32)) (defBody (top 32)) (defScope (top 32)) [] [] (He.ga K "_law_is_pairing") fd := F0
  exact src_fn (c := cxo w K) rfl F ck_l_is_pairing (F.bindsN (fun _ _ _ _ _ _ us hl => match us, hl with | [_, _], _ => rfl)) (He.glo_ok X G (c.fact 51 (f := .glo "_law_is_pairing") rfl)) rfl (tops X G c)
theorem src_l_all (X : K.In h) (G : h.Ns mainGlobals mg) (c : He.SaysD fas fns K) : Src (cxo w K) mg base dom pars .l_all := by
  obtain ⟨fd, F0⟩ := c.def_ 31 (d := ⟨("_law_all", none), "_law_all", "_law_all", defArgs (top 33), defBody (top 33), defScope (top 33), [], []⟩) rfl
  have F : FunD K "_law_all" "_law_all" (defArgs (top 33)) (defBody (top 33)) (defScope (top 33)) [] [] (He.ga K "_law_all") fd := F0
  exact src_fn (c := cxo w K) rfl F ck_l_all (F.bindsN (fun _ _ _ _ _ _ us hl => match us, hl with | [_], _ => rfl)) (He.glo_ok X G (c.fact 52 (f := .glo "_law_all") rfl)) rfl (tops X G c)
theorem src_l_safe6 (X : K.In h) (G : h.Ns mainGlobals mg) (c : He.SaysD fas fns K) : Src (cxo w K) mg base dom pars .l_safe6 := by
  obtain ⟨fd, F0⟩ := c.def_ 32 (d := ⟨("_law_safe", none), "_law_safe", "_law_safe", defArgs (top 34), defBody (top 34), defScope (top 34), [], []⟩) rfl
  have F : FunD K "_law_safe" "_law_safe" (defArgs (top 34)) (defBody (top 34)) (defScope (top 34)) [] [] (He.ga K "_law_safe") fd := F0
  exact src_fn (c := cxo w K) rfl F ck_l_safe6 (F.bindsN (fun _ _ _ _ _ _ us hl => match us, hl with | [_, _, _, _], _ => rfl)) (He.glo_ok X G (c.fact 53 (f := .glo "_law_safe") rfl)) rfl (tops X G c)
theorem src_law6 (X : K.In h) (G : h.Ns mainGlobals mg) (c : He.SaysD fas fns K) : Src (cxo w K) mg base dom pars .law6 := by
  obtain ⟨fd, F0⟩ := c.def_ 33 (d := ⟨("law", none), "law", "law", defArgs (top 35), defBody (top 35), defScope (top 35), [], []⟩) rfl
  have F : FunD K "law" "law" (defArgs (top 35)) (defBody (top 35)) (defScope (top 35)) [] [] (He.ga K "law") fd := F0
  exact src_fn (c := cxo w K) rfl F ck_law6 (F.bindsN (fun _ _ _ _ _ _ us hl => match us, hl with | [_], _ => rfl)) (He.glo_ok X G (c.fact 54 (f := .glo "law") rfl)) rfl (tops X G c)
theorem srcs (X : K.In h) (G : h.Ns mainGlobals mg) (c : He.SaysD fas fns K) : ∀ f, dom f = true → Src (cxo w K) mg base dom pars f := by
  intro f hf
  cases f <;> first | (exact absurd hf Bool.false_ne_true) | exact src_choose X G c | exact src_free_points X G c | exact src_claims X G c | exact src_added X G c | exact src_decided X G c | exact src_is_number X G c | exact src_is_rising X G c | exact src_is_line X G c | exact src_holds_pair X G c | exact src_points_of X G c | exact src_search X G c | exact src_pairing X G c | exact src_is_pairing X G c | exact src_partner X G c | exact src_reply X G c | exact src_s_winner X G c | exact src_s_good X G c | exact src_s_behind X G c | exact src_winner_from X G c | exact src_winner X G c | exact src_l_cell X G c | exact src_l_mix X G c | exact src_l_field X G c | exact src_l_game X G c | exact src_l_position X G c | exact src_l_over X G c | exact src_l_claims X G c | exact src_l_put X G c | exact src_l_holds X G c | exact src_l_is_pairing X G c | exact src_l_all X G c | exact src_l_safe6 X G c | exact src_law6 X G c
end
theorem facts {w : World} {K : PySem.W.Frag} {h : Heap} {mg : Str → Option Value} {f : Addr} (X : K.In h) (G : h.Ns mainGlobals mg) (hfa : mg ("law" : Str) = some (.ref f)) (c : He.SaysD fas fns K) (k : Nat) :
    ∃ fd : FuncData, (∀ (s : Shared) (v : Value), BindsTo s fd ⟨[v], []⟩ [(("_law_script" : Str), v)]) ∧ ∀ base : Heap, K.In base → base.Ns mainGlobals mg → FnOk prg w K mg base CX0 (k + 3) f fd ["_law_script"] (fun vs H Q _ => spF (cxo w K) (run tab k) pars .law6 vs H Q E0) := by
  obtain ⟨fd, F0⟩ := c.def_ 33 (d := ⟨("law", none), "law", "law", defArgs (top 35), defBody (top 35), defScope (top 35), [], []⟩) rfl
  have F : FunD K "law" "law" (defArgs (top 35)) (defBody (top 35)) (defScope (top 35)) [] [] (He.ga K "law") fd := F0
  have b := FunD.bindsA (ps := ["_law_script"]) F fun _ _ _ _ _ _ us hl => match us, hl with | [_], _ => rfl
  have e := hfa.symm.trans (He.glo_ok X G (c.fact 54 (f := .glo "law") rfl))
  cases e
  refine ⟨fd, fun s v => b s [v] rfl, fun base _ _ => fn_cx0 ?_⟩
  cases k with
  | zero => exact lv_zero (c := cxo w K) (ps := pars) (f := .law6)
  | succ k => exact ok_code (c := cxo w K) F (chk_sc ck_law6) (chk_m ck_law6) rfl (tops X G c) (lv_all (srcs X G c) k)
theorem law_of (k : Nat) (hr : k ≤ 220) (hl : ∀ ns : List Int, ns.length ≤ 63 → run tab k .law6 [.scr ns] = .ok (.bl true)) : PySem.Challenge.rw_fieldclaim_k06_whole_pairs.Holds := by
  w_on; o_law
  refine HandSHeadRun.head_any (r := PySem.W.OpenLaw.row PySem.Challenge.rw_fieldclaim_k06_whole_pairs) (q := PySem.W.view (PySem.W.OpenLaw.row PySem.Challenge.rw_fieldclaim_k06_whole_pairs).prog [35]) (H := hk) (ob := ob) (M := 4000) (loose := ["choose", "free_points", "claims", "added", "decided", "is_number", "is_rising", "is_line", "holds_pair", "points_of", "search", "pairing", "is_pairing", "partner", "reply", "Solver", "winner_from", "winner", "_law_cell", "_law_mix", "_law_field", "_law_game", "_law_position", "_law_over", "_law_claims", "_law_put", "_law_holds", "_law_is_pairing", "_law_all", "_law_safe"]) (d := HandSHeadRun.topDef (PySem.W.OpenLaw.row PySem.Challenge.rw_fieldclaim_k06_whole_pairs).prog 35) (kwd := []) ob_eq
    (by kernel_rfl) (fun s => by kernel_rfl) run_top (by kernel_rfl) (by kernel_rfl) (by kernel_rfl) (by rfl) (by first | assumption | decide +kernel) (by decide +kernel) ⟨rfl, rfl, rfl, rfl, rfl, by decide +kernel⟩ ?hw ?hc
  case hw => w_witness2
  case hc =>
    refine L2.walk_ofE (l := PySem.Challenge.rw_fieldclaim_k06_whole_pairs) (n := 63) (k := k + 3) (x := "_law_script") (CX := L2.CX0) rfl (by decide) (by kernel_rfl) (room_top hr) ?F (fun _ _ _ _ z => z)
    intro w mg fa h Y G hmg0
    obtain ⟨K, KX, c⟩ := Y
    have hmg : mg ("law" : PySem.Str) = some (.ref fa) := by
      have e : (HandSHeadRun.topDef (PySem.W.OpenLaw.row PySem.Challenge.rw_fieldclaim_k06_whole_pairs).prog 35).name = ("law" : PySem.Str) := by kernel_rfl
      rw [← e]
      exact hmg0
    obtain ⟨fd, hb, hF⟩ := facts (w := w) KX G hmg c k
    exact ⟨K, fd, fun vs H Q _ => spF (cxo w K) (run tab k) pars .law6 vs H Q E0, KX, hb, fun H a ns hn hO hS => sp_law (ps := pars) (f := .law6) (cxo w K) rfl rfl hO hS (hl ns hn), hF⟩
end FC

/-! Data: whole numbers, tuples of them, tuples of such. -/
set_option autoImplicit false
set_option linter.all false
set_option maxRecDepth 100000
set_option maxHeartbeats 4000000
set_option Elab.async false
namespace FC
open PySem

abbrev T (xs : List Int) : D := .tup (xs.map .int)
abbrev TT (ls : List (List Int)) : D := .tup (ls.map T)
abbrev Fd (n : Int) (ls : List (List Int)) : D := .tup [.int n, TT ls]
abbrev Gm (n : Int) (ls : List (List Int)) (first b g : Int) : D := .tup [Fd n ls, .int first, .int b, .int g]

/-! ### equality -/
def eqL : List D → List D → Bool
  | [], [] => true
  | x :: xs, y :: ys => eqD x y && eqL xs ys
  | _, _ => false
theorem eqv_pys : ∀ xs ys : List D, PyData.eqvAll (D.pys xs) (D.pys ys) = eqL xs ys
  | [], [] => by simp [D.pys, PyData.eqvAll, eqL]
  | [], _ :: _ => by simp [D.pys, PyData.eqvAll, eqL]
  | _ :: _, [] => by simp [D.pys, PyData.eqvAll, eqL]
  | x :: xs, y :: ys => by
    rw [D.pys, D.pys, PyData.eqvAll, eqv_pys xs ys]
    rfl
@[simp] theorem eqD_tup (xs ys : List D) : eqD (.tup xs) (.tup ys) = eqL xs ys := by
  unfold eqD
  rw [D.py, D.py, PyData.eqv, eqv_pys]
@[simp] theorem eqD_lst (xs ys : List D) : eqD (.lst xs) (.lst ys) = eqL xs ys := by
  unfold eqD
  rw [D.py, D.py, PyData.eqv, eqv_pys]
@[simp] theorem eqD_int (a b : Int) : eqD (.int a) (.int b) = decide (a = b) := by
  unfold eqD
  rw [D.py, D.py, PyData.eqv]
  by_cases h : a = b <;> simp [h]
@[simp] theorem eqD_str (a b : Str) : eqD (.str a) (.str b) = (a == b) := by
  unfold eqD
  rw [D.py, D.py, PyData.eqv]
@[simp] theorem eqD_non_int (a : Int) : eqD .non (.int a) = false := by unfold eqD; rw [D.py, D.py, PyData.eqv]
@[simp] theorem eqD_int_non (a : Int) : eqD (.int a) .non = false := by unfold eqD; rw [D.py, D.py, PyData.eqv]
@[simp] theorem eqD_non_non : eqD .non .non = true := by unfold eqD; rw [D.py, PyData.eqv]
@[simp] theorem eqD_tup_non (a : List D) : eqD (.tup a) .non = false := by unfold eqD; rw [D.py, D.py, PyData.eqv]
@[simp] theorem eqD_non_tup (a : List D) : eqD .non (.tup a) = false := by unfold eqD; rw [D.py, D.py, PyData.eqv]
@[simp] theorem eqD_tup_int (a : List D) (i : Int) : eqD (.tup a) (.int i) = false := by unfold eqD; rw [D.py, D.py, PyData.eqv]
@[simp] theorem eqD_int_tup (a : List D) (i : Int) : eqD (.int i) (.tup a) = false := by unfold eqD; rw [D.py, D.py, PyData.eqv]
@[simp] theorem eqD_tup_str (a : List D) (i : Str) : eqD (.tup a) (.str i) = false := by unfold eqD; rw [D.py, D.py, PyData.eqv]
@[simp] theorem eqD_tup_lst (a b : List D) : eqD (.tup a) (.lst b) = false := by unfold eqD; rw [D.py, D.py, PyData.eqv]
@[simp] theorem eqD_lst_tup (a b : List D) : eqD (.lst a) (.tup b) = false := by unfold eqD; rw [D.py, D.py, PyData.eqv]
@[simp] theorem eqL_nil : eqL [] [] = true := rfl
@[simp] theorem eqL_cons (x y : D) (xs ys : List D) : eqL (x :: xs) (y :: ys) = (eqD x y && eqL xs ys) := rfl
@[simp] theorem eqL_nil_cons (y : D) (ys : List D) : eqL [] (y :: ys) = false := rfl
@[simp] theorem eqL_cons_nil (y : D) (ys : List D) : eqL (y :: ys) [] = false := rfl
theorem eqL_map {α : Type} [DecidableEq α] {g : α → D} (h : ∀ a b, eqD (g a) (g b) = decide (a = b)) : ∀ xs ys : List α, eqL (xs.map g) (ys.map g) = decide (xs = ys)
  | [], [] => by simp
  | [], _ :: _ => by simp
  | _ :: _, [] => by simp
  | x :: xs, y :: ys => by
    rw [List.map_cons, List.map_cons, eqL_cons, h, eqL_map h xs ys]
    by_cases h1 : x = y <;> by_cases h2 : xs = ys <;> simp [h1, h2]
@[simp] theorem eqL_ints (xs ys : List Int) : eqL (xs.map .int) (ys.map .int) = decide (xs = ys) := eqL_map eqD_int xs ys
theorem eqD_T (a b : List Int) : eqD (T a) (T b) = decide (a = b) := by rw [eqD_tup, eqL_ints]
@[simp] theorem eqL_TT (xs ys : List (List Int)) : eqL (xs.map T) (ys.map T) = decide (xs = ys) := eqL_map eqD_T xs ys
theorem eqD_TT (a b : List (List Int)) : eqD (TT a) (TT b) = decide (a = b) := by rw [eqD_tup, eqL_TT]
theorem inD_map {α : Type} [DecidableEq α] {g : α → D} (h : ∀ a b, eqD (g a) (g b) = decide (a = b)) (x : α) (xs : List α) : inD (g x) (xs.map g) = true ↔ x ∈ xs := by
  unfold inD
  rw [List.any_map]
  induction xs with
  | nil => simp
  | cons y ys ih =>
    rw [List.any_cons, Bool.or_eq_true, ih]
    simp only [Function.comp, h, List.mem_cons, decide_eq_true_eq]
    exact ⟨fun q => q.imp_left Eq.symm, fun q => q.imp_left Eq.symm⟩
@[simp] theorem inD_ints (x : Int) (xs : List Int) : inD (.int x) (xs.map .int) = decide (x ∈ xs) := by
  rw [Bool.eq_iff_iff, inD_map eqD_int, decide_eq_true_eq]
@[simp] theorem inD_TT (x : List Int) (xs : List (List Int)) : inD (.tup (x.map .int)) (xs.map T) = decide (x ∈ xs) := by
  rw [Bool.eq_iff_iff, inD_map eqD_T, decide_eq_true_eq]
@[simp] theorem inD_nil (x : D) : inD x [] = false := rfl
@[simp] theorem inD_cons (x y : D) (ys : List D) : inD x (y :: ys) = (eqD y x || inD x ys) := rfl

/-! ### shapes -/
structure Lay (n : Nat) (d : D) : Prop where
  lay : d.py.canLay0 = true
  dep : d.py.depth ≤ n
theorem shp_of {n : Nat} {d : D} (h : Lay n d) (hn : n ≤ 64 := by decide) : shp d = true := by
  unfold shp SeqAt.shaped
  rw [h.lay, decide_eq_true (Nat.le_trans h.dep hn)]
  rfl
theorem lay_of {d : D} (h : shp d = true) : Lay 64 d := ⟨SeqAt.canLay_of_shaped h, SeqAt.depth_of_shaped h⟩
theorem Lay.mono {m n : Nat} {d : D} (h : Lay m d) (hn : m ≤ n) : Lay n d := ⟨h.lay, Nat.le_trans h.dep hn⟩
theorem lay_int {n : Nat} (i : Int) : Lay n (.int i) := ⟨by rw [D.py, PyData.canLay0], by rw [D.py, PyData.depth]; exact Nat.zero_le _⟩
theorem lay_bl {n : Nat} (i : Bool) : Lay n (.bl i) := ⟨by rw [D.py, PyData.canLay0], by rw [D.py, PyData.depth]; exact Nat.zero_le _⟩
theorem lay_non {n : Nat} : Lay n .non := ⟨by rw [D.py, PyData.canLay0], by rw [D.py, PyData.depth]; exact Nat.zero_le _⟩
theorem lay_str {n : Nat} {x : Str} (h : PyData.strOk x = true) : Lay n (.str x) := ⟨by rw [D.py, PyData.canLay0]; exact h, by rw [D.py, PyData.depth]; exact Nat.zero_le _⟩
theorem lay_all {n : Nat} : ∀ {xs : List D}, (∀ x ∈ xs, Lay n x) → PyData.canLayAll0 (D.pys xs) = true ∧ PyData.depthAll (D.pys xs) ≤ n
  | [], _ => by rw [D.pys, PyData.canLayAll0, PyData.depthAll]; exact ⟨rfl, Nat.zero_le _⟩
  | x :: xs, h => by
    obtain ⟨a, b⟩ := lay_all fun y hy => h y (List.mem_cons_of_mem _ hy)
    obtain ⟨c, d⟩ := h x List.mem_cons_self
    rw [D.pys, PyData.canLayAll0, PyData.depthAll, a, c]
    exact ⟨rfl, Nat.max_le.mpr ⟨d, b⟩⟩
theorem lay_tup {n : Nat} {xs : List D} (h : ∀ x ∈ xs, Lay n x) : Lay (n + 1) (.tup xs) := by
  obtain ⟨a, b⟩ := lay_all h
  exact ⟨by rw [D.py, PyData.canLay0]; exact a, by rw [D.py, PyData.depth]; omega⟩
theorem lay_lst {n : Nat} {xs : List D} (h : ∀ x ∈ xs, Lay n x) : Lay (n + 1) (.lst xs) := by
  obtain ⟨a, b⟩ := lay_all h
  exact ⟨by rw [D.py, PyData.canLay0]; exact a, by rw [D.py, PyData.depth]; omega⟩
theorem mem_pys {x : D} : ∀ {xs : List D}, x ∈ xs → PyData.canLayAll0 (D.pys xs) = true → x.py.canLay0 = true ∧ x.py.depth ≤ PyData.depthAll (D.pys xs)
  | y :: ys, h, a => by
    rw [D.pys, PyData.canLayAll0, Bool.and_eq_true] at a
    rw [D.pys, PyData.depthAll]
    rcases List.mem_cons.mp h with rfl | h
    · exact ⟨a.1, Nat.le_max_left _ _⟩
    · obtain ⟨b, c⟩ := mem_pys h a.2
      exact ⟨b, Nat.le_trans c (Nat.le_max_right _ _)⟩
theorem Lay.tup_mem {n : Nat} {xs : List D} (h : Lay (n + 1) (.tup xs)) {x : D} (hx : x ∈ xs) : Lay n x := by
  obtain ⟨a, b⟩ := h
  rw [D.py, PyData.canLay0] at a
  rw [D.py, PyData.depth] at b
  obtain ⟨c, d⟩ := mem_pys hx a
  exact ⟨c, by omega⟩
theorem lay_ints {n : Nat} (xs : List Int) : ∀ x ∈ xs.map D.int, Lay n x := by
  intro x hx
  obtain ⟨i, _, rfl⟩ := List.mem_map.mp hx
  exact lay_int i
theorem lay_T (xs : List Int) : Lay 1 (T xs) := lay_tup (lay_ints xs)
theorem lay_Ts (ls : List (List Int)) : ∀ x ∈ ls.map T, Lay 1 x := by
  intro x hx
  obtain ⟨i, _, rfl⟩ := List.mem_map.mp hx
  exact lay_T i
theorem lay_TT (ls : List (List Int)) : Lay 2 (TT ls) := lay_tup (lay_Ts ls)
theorem lay_Fd (n : Int) (ls : List (List Int)) : Lay 3 (Fd n ls) := lay_tup fun x hx => by
  simp only [List.mem_cons, List.mem_nil_iff, or_false] at hx
  rcases hx with rfl | rfl
  · exact lay_int n
  · exact lay_TT ls
@[simp] theorem shp_int (i : Int) : shp (.int i) = true := shp_of (n := 0) (lay_int i)
@[simp] theorem shp_bl (i : Bool) : shp (.bl i) = true := shp_of (n := 0) (lay_bl i)
@[simp] theorem shp_non : shp .non = true := shp_of (n := 0) lay_non
@[simp] theorem shp_nil : shp (.tup []) = true := shp_of (n := 1) (lay_tup fun _ h => nomatch h)
@[simp] theorem shp_lnil : shp (.lst []) = true := shp_of (n := 1) (lay_lst fun _ h => nomatch h)
@[simp] theorem shp_T (xs : List Int) : shp (.tup (xs.map .int)) = true := shp_of (lay_T xs)
@[simp] theorem shp_TT (xs : List (List Int)) : shp (.tup (xs.map T)) = true := shp_of (lay_TT xs)
@[simp] theorem shp_LT (xs : List (List Int)) : shp (.lst (xs.map T)) = true := shp_of (lay_lst (lay_Ts xs))
@[simp] theorem shp_L (xs : List Int) : shp (.lst (xs.map .int)) = true := shp_of (lay_lst (n := 0) (lay_ints xs))
@[simp] theorem shp_Fd (n : Int) (ls : List (List Int)) : shp (.tup [.int n, .tup (ls.map T)]) = true := shp_of (lay_Fd n ls)

/-! ### order -/
def sortI (xs : List Int) : List Int := xs.mergeSort fun a b => decide (a ≤ b)
def leL (a b : List Int) : Bool := decide (a ≤ b)
def sortL (xs : List (List Int)) : List (List Int) := xs.mergeSort leL
theorem lexLt_eq : ∀ xs ys : List Int, HT.lexLt xs ys = decide (xs < ys)
  | [], [] => by simp [HT.lexLt]
  | [], y :: ys => by simp [HT.lexLt]
  | x :: xs, [] => by simp [HT.lexLt]
  | x :: xs, y :: ys => by
    rw [HT.lexLt, lexLt_eq xs ys]
    by_cases h : x = y
    · simp [h, List.cons_lt_cons_iff]
    · simp [h, List.cons_lt_cons_iff]
theorem pys_ints (xs : List Int) : D.pys (xs.map .int) = xs.map .int := by
  rw [pys_eq, List.map_map]
  apply List.map_congr_left
  intro a _
  simp only [Function.comp, D.py]
theorem dataLe_ints (a b : Int) : W.dataLe false D.py (.int a) (.int b) = decide (a ≤ b) := by
  show (!W.dataLt (D.py (.int b)) (D.py (.int a))) = _
  rw [D.py, D.py, W.dataLt_int, W.not_lt_int]
theorem dataLe_Ts (a b : List Int) : W.dataLe false D.py (T a) (T b) = leL a b := by
  show (!W.dataLt (D.py (T b)) (D.py (T a))) = _
  rw [D.py, D.py, pys_ints, pys_ints, W.dataLt_tuple]
  show (!W.rowLt (b.map .int) (a.map .int)) = _
  rw [W.dataLt_ints]
  unfold leL
  by_cases h : b < a
  · have : ¬ a ≤ b := fun q => List.not_lt.mpr q h
    simp [h, this]
  · have : a ≤ b := List.not_lt.mp h
    simp [h, this]
@[simp] theorem sortD_ints (xs : List Int) : sortD (xs.map .int) = (sortI xs).map .int := by
  unfold sortD sortI
  rw [List.map_mergeSort (s := W.dataLe false D.py)]
  intro a _ b _
  exact (dataLe_ints a b).symm
@[simp] theorem sortD_Ts (xs : List (List Int)) : sortD (xs.map T) = (sortL xs).map T := by
  unfold sortD sortL
  rw [List.map_mergeSort (s := W.dataLe false D.py)]
  intro a _ b _
  exact (dataLe_Ts a b).symm
@[simp] theorem sortable_ints (xs : List Int) : sortable (xs.map .int) = true := by
  unfold sortable
  simp only [Bool.and_eq_true, Bool.or_eq_true, List.all_eq_true]
  refine ⟨⟨fun x hx y hy => ?_, fun x hx => ?_⟩, .inr fun x hx => ?_⟩
  · obtain ⟨a, _, rfl⟩ := List.mem_map.mp hx
    obtain ⟨b, _, rfl⟩ := List.mem_map.mp hy
    simp [D.py, W.alike]
  · obtain ⟨a, _, rfl⟩ := List.mem_map.mp hx
    simp
  · obtain ⟨a, _, rfl⟩ := List.mem_map.mp hx
    simp
theorem alike_T (a b : List Int) : W.alike (D.py (T a)) (D.py (T b)) = true := by
  rw [D.py, D.py, pys_ints, pys_ints, W.alike, W.alike_ints]
theorem sortable_Ts {xs : List (List Int)} (h : ∀ x ∈ xs, x ≠ []) : sortable (xs.map T) = true := by
  unfold sortable
  simp only [Bool.and_eq_true, Bool.or_eq_true, List.all_eq_true]
  refine ⟨⟨fun x hx y hy => ?_, fun x hx => ?_⟩, .inl fun x hx => ?_⟩
  · obtain ⟨a, _, rfl⟩ := List.mem_map.mp hx
    obtain ⟨b, _, rfl⟩ := List.mem_map.mp hy
    exact alike_T a b
  · obtain ⟨a, _, rfl⟩ := List.mem_map.mp hx
    exact shp_of (lay_T a)
  · obtain ⟨a, ha, rfl⟩ := List.mem_map.mp hx
    cases a with
    | nil => exact absurd rfl (h _ ha)
    | cons _ _ => rfl

/-! ### lists of data -/
@[simp] theorem allInts_ints (xs : List Int) : allInts (xs.map .int) = some xs := by
  unfold allInts
  induction xs with
  | nil => rfl
  | cons x xs ih => rw [List.map_cons, List.mapM_cons, ih]; rfl
@[simp] theorem blOf_bls (xs : List Bool) : (xs.map D.bl).mapM blOf = some xs := by
  induction xs with
  | nil => rfl
  | cons x xs ih => rw [List.map_cons, List.mapM_cons, ih]; rfl
@[simp] theorem strOf_strs (xs : List Str) : (xs.map D.str).mapM strOf = some xs := by
  induction xs with
  | nil => rfl
  | cons x xs ih => rw [List.map_cons, List.mapM_cons, ih]; rfl
theorem mkT_ok {xs : List D} (h : xs.length ≤ lim) : mkT xs = .ok (.tup xs) := if_pos h
theorem mkL_ok {xs : List D} (h : xs.length ≤ lim) : mkL xs = .ok (.lst xs) := if_pos h
@[simp] theorem mkT_nil : mkT [] = .ok (.tup []) := rfl
@[simp] theorem mkL_nil : mkL [] = .ok (.lst []) := rfl
@[simp] theorem seqOf_tup (xs : List D) : seqOf (.tup xs) = .ok xs := rfl
@[simp] theorem seqOf_lst (xs : List D) : seqOf (.lst xs) = .ok xs := rfl
theorem small_lim {n : Nat} (h : n ≤ 1000) : n ≤ lim := Nat.le_trans h (by decide)
@[simp] theorem mkT_small {xs : List D} (h : xs.length ≤ 1000) : mkT xs = .ok (.tup xs) := mkT_ok (small_lim h)
@[simp] theorem mkL_small {xs : List D} (h : xs.length ≤ 1000) : mkL xs = .ok (.lst xs) := mkL_ok (small_lim h)
/-- ranges -/
def rgI (n : Nat) : List Int := (List.range n).map Int.ofNat
theorem rng_zero (n : Nat) : rng 0 n = (rgI n).map .int := by
  unfold rng rgI
  rw [List.map_map]
  apply List.map_congr_left
  intro a _
  simp
theorem rngD_zero {n : Int} (h : n ≤ 100000) (h0 : -100000 ≤ n) : rngD (.int 0) (.int n) = .ok ((rgI n.toNat).map .int) := by
  have e : rngOk n = true := by unfold rngOk; exact decide_eq_true ⟨by omega, by omega⟩
  have e0 : rngOk 0 = true := by decide
  have e2 : (n - 0).toNat ≤ lim := by unfold lim; omega
  simp only [rngD, e, e0, e2, decide_true, Bool.and_self, if_true]
  rw [Int.sub_zero, rng_zero]
@[simp] theorem rgI_length (n : Nat) : (rgI n).length = n := by unfold rgI; rw [List.length_map, List.length_range]
theorem mem_rgI {n : Nat} {i : Int} : i ∈ rgI n ↔ 0 ≤ i ∧ i < n := by
  unfold rgI
  rw [List.mem_map]
  constructor
  · rintro ⟨k, hk, rfl⟩
    rw [List.mem_range] at hk
    rw [Int.ofNat_eq_natCast]
    omega
  · rintro ⟨h1, h2⟩
    exact ⟨i.toNat, List.mem_range.mpr (by omega), by rw [Int.ofNat_eq_natCast]; omega⟩

/-! ### operators -/
@[simp] theorem bin_add (i j : Int) : binD .add (.int i) (.int j) = .ok (.int (i + j)) := by rw [binD]
@[simp] theorem bin_sub (i j : Int) : binD .sub (.int i) (.int j) = .ok (.int (i - j)) := by rw [binD]
theorem bin_mul {i j : Int} (h : small64 j = true) : binD .mul (.int i) (.int j) = .ok (.int (i * j)) := by
  rw [binD, h]; rfl
theorem bin_mulL {i j : Int} (h : small64 i = true) : binD .mul (.int i) (.int j) = .ok (.int (i * j)) := by
  rw [binD, h, Bool.or_true]; rfl
theorem small_of {i : Int} (h0 : -1000000000000 ≤ i) (h1 : i < 1000000000000) : small64 i = true := by
  unfold small64
  exact decide_eq_true ⟨by omega, by omega⟩
@[simp] theorem bin_mul_7 (j : Int) : binD .mul (.int 7) (.int j) = .ok (.int (7 * j)) := bin_mulL (by decide)
@[simp] theorem bin_mul_11 (j : Int) : binD .mul (.int 11) (.int j) = .ok (.int (11 * j)) := bin_mulL (by decide)
@[simp] theorem bin_mul_3 (j : Int) : binD .mul (.int 3) (.int j) = .ok (.int (3 * j)) := bin_mulL (by decide)
@[simp] theorem bin_mul_5 (j : Int) : binD .mul (.int 5) (.int j) = .ok (.int (5 * j)) := bin_mulL (by decide)
@[simp] theorem bin_mul_2 (j : Int) : binD .mul (.int 2) (.int j) = .ok (.int (2 * j)) := bin_mulL (by decide)
@[simp] theorem bin_mul_48271 (j : Int) : binD .mul (.int j) (.int 48271) = .ok (.int (j * 48271)) := bin_mul (by decide)
theorem bin_mod {i j : Int} (h : 0 < j) : binD .mod (.int i) (.int j) = .ok (.int (i % j)) := by rw [binD, if_pos h]
theorem wideish {j : Int} (h : 0 < j) (h2 : j < 1000000000000000000000000000000) : j.natAbs.log2 < 9000 := by
  have h3 : j.natAbs < 2 ^ 128 := by omega
  have := (Nat.log2_lt (n := j.natAbs) (k := 128) (by omega)).mpr h3
  omega
theorem bin_fdiv {i j : Int} (h : 0 < j) (h2 : j < 1000000000000000000000000000000) : binD .fdiv (.int i) (.int j) = .ok (.int (i / j)) := by rw [binD, if_pos ⟨h, wideish h h2⟩]
@[simp] theorem bin_fdiv_2 (i : Int) : binD .fdiv (.int i) (.int 2) = .ok (.int (i / 2)) := bin_fdiv (by decide) (by decide)
@[simp] theorem bin_fdiv_3 (i : Int) : binD .fdiv (.int i) (.int 3) = .ok (.int (i / 3)) := bin_fdiv (by decide) (by decide)
@[simp] theorem bin_fdiv_4 (i : Int) : binD .fdiv (.int i) (.int 4) = .ok (.int (i / 4)) := bin_fdiv (by decide) (by decide)
@[simp] theorem bin_fdiv_5 (i : Int) : binD .fdiv (.int i) (.int 5) = .ok (.int (i / 5)) := bin_fdiv (by decide) (by decide)
@[simp] theorem bin_fdiv_7 (i : Int) : binD .fdiv (.int i) (.int 7) = .ok (.int (i / 7)) := bin_fdiv (by decide) (by decide)
@[simp] theorem bin_fdiv_8 (i : Int) : binD .fdiv (.int i) (.int 8) = .ok (.int (i / 8)) := bin_fdiv (by decide) (by decide)
@[simp] theorem bin_fdiv_14 (i : Int) : binD .fdiv (.int i) (.int 14) = .ok (.int (i / 14)) := bin_fdiv (by decide) (by decide)
@[simp] theorem bin_fdiv_64 (i : Int) : binD .fdiv (.int i) (.int 64) = .ok (.int (i / 64)) := bin_fdiv (by decide) (by decide)
@[simp] theorem bin_fdiv_512 (i : Int) : binD .fdiv (.int i) (.int 512) = .ok (.int (i / 512)) := bin_fdiv (by decide) (by decide)
@[simp] theorem bin_mod_2 (i : Int) : binD .mod (.int i) (.int 2) = .ok (.int (i % 2)) := bin_mod (by decide)
@[simp] theorem bin_mod_3 (i : Int) : binD .mod (.int i) (.int 3) = .ok (.int (i % 3)) := bin_mod (by decide)
@[simp] theorem bin_mod_4 (i : Int) : binD .mod (.int i) (.int 4) = .ok (.int (i % 4)) := bin_mod (by decide)
@[simp] theorem bin_mod_5 (i : Int) : binD .mod (.int i) (.int 5) = .ok (.int (i % 5)) := bin_mod (by decide)
@[simp] theorem bin_mod_6 (i : Int) : binD .mod (.int i) (.int 6) = .ok (.int (i % 6)) := bin_mod (by decide)
@[simp] theorem bin_mod_10 (i : Int) : binD .mod (.int i) (.int 10) = .ok (.int (i % 10)) := bin_mod (by decide)
@[simp] theorem bin_addT {xs ys : List D} (h : xs.length + ys.length ≤ 1000) : binD .add (.tup xs) (.tup ys) = .ok (.tup (xs ++ ys)) := by rw [binD, mkT_ok (by rw [List.length_append]; exact small_lim h)]
@[simp] theorem bin_addL {xs ys : List D} (h : xs.length + ys.length ≤ 1000) : binD .add (.lst xs) (.lst ys) = .ok (.lst (xs ++ ys)) := by rw [binD, mkL_ok (by rw [List.length_append]; exact small_lim h)]
@[simp] theorem cmp_lt (i j : Int) : cmpD .lt (.int i) (.int j) = .ok (.bl (decide (i < j))) := by rw [cmpD]
@[simp] theorem cmp_le (i j : Int) : cmpD .le (.int i) (.int j) = .ok (.bl (decide (i ≤ j))) := by rw [cmpD]
@[simp] theorem cmp_gt (i j : Int) : cmpD .gt (.int i) (.int j) = .ok (.bl (decide (j < i))) := by rw [cmpD]
@[simp] theorem cmp_ge (i j : Int) : cmpD .ge (.int i) (.int j) = .ok (.bl (decide (j ≤ i))) := by rw [cmpD]
theorem cmp_eq {x y : D} (hx : shp x = true) (hy : shp y = true) : cmpD .eq x y = .ok (.bl (eqD x y)) := by
  rw [cmpD, hx, hy]; rfl
theorem cmp_ne {x y : D} (hx : shp x = true) (hy : shp y = true) : cmpD .ne x y = .ok (.bl (!eqD x y)) := by
  rw [cmpD, hx, hy]; rfl
@[simp] theorem cmp_eq_int (i j : Int) : cmpD .eq (.int i) (.int j) = .ok (.bl (decide (i = j))) := by rw [cmp_eq (shp_int i) (shp_int j), eqD_int]
@[simp] theorem cmp_ne_int (i j : Int) : cmpD .ne (.int i) (.int j) = .ok (.bl (!decide (i = j))) := by rw [cmp_ne (shp_int i) (shp_int j), eqD_int]
theorem cmp_inT {x : D} {ys : List D} (hx : shp x = true) (hy : shp (.tup ys) = true) : cmpD .isin x (.tup ys) = .ok (.bl (inD x ys)) := by
  rw [cmpD, hx, hy]; rfl
theorem cmp_inL {x : D} {ys : List D} (hx : shp x = true) (hy : shp (.lst ys) = true) : cmpD .isin x (.lst ys) = .ok (.bl (inD x ys)) := by
  rw [cmpD, hx, hy]; rfl
theorem cmp_ninT {x : D} {ys : List D} (hx : shp x = true) (hy : shp (.tup ys) = true) : cmpD .notin x (.tup ys) = .ok (.bl (!inD x ys)) := by
  rw [cmpD, hx, hy]; rfl
theorem cmp_ninL {x : D} {ys : List D} (hx : shp x = true) (hy : shp (.lst ys) = true) : cmpD .notin x (.lst ys) = .ok (.bl (!inD x ys)) := by
  rw [cmpD, hx, hy]; rfl
@[simp] theorem cmp_in_ints (x : Int) (ys : List Int) : cmpD .isin (.int x) (.tup (ys.map .int)) = .ok (.bl (decide (x ∈ ys))) := by rw [cmp_inT (shp_int x) (shp_T ys), inD_ints]
@[simp] theorem cmp_nin_ints (x : Int) (ys : List Int) : cmpD .notin (.int x) (.tup (ys.map .int)) = .ok (.bl (!decide (x ∈ ys))) := by rw [cmp_ninT (shp_int x) (shp_T ys), inD_ints]
@[simp] theorem cmp_in_intsL (x : Int) (ys : List Int) : cmpD .isin (.int x) (.lst (ys.map .int)) = .ok (.bl (decide (x ∈ ys))) := by rw [cmp_inL (shp_int x) (shp_L ys), inD_ints]
@[simp] theorem cmp_nin_intsL (x : Int) (ys : List Int) : cmpD .notin (.int x) (.lst (ys.map .int)) = .ok (.bl (!decide (x ∈ ys))) := by rw [cmp_ninL (shp_int x) (shp_L ys), inD_ints]
@[simp] theorem cmp_in_TT (x : List Int) (ys : List (List Int)) : cmpD .isin (.tup (x.map .int)) (.tup (ys.map T)) = .ok (.bl (decide (x ∈ ys))) := by rw [cmp_inT (shp_T x) (shp_TT ys), inD_TT]
@[simp] theorem cmp_nin_TT (x : List Int) (ys : List (List Int)) : cmpD .notin (.tup (x.map .int)) (.tup (ys.map T)) = .ok (.bl (!decide (x ∈ ys))) := by rw [cmp_ninT (shp_T x) (shp_TT ys), inD_TT]
@[simp] theorem cmp_in_LT (x : List Int) (ys : List (List Int)) : cmpD .isin (.tup (x.map .int)) (.lst (ys.map T)) = .ok (.bl (decide (x ∈ ys))) := by rw [cmp_inL (shp_T x) (shp_LT ys), inD_TT]
@[simp] theorem cmp_nin_LT (x : List Int) (ys : List (List Int)) : cmpD .notin (.tup (x.map .int)) (.lst (ys.map T)) = .ok (.bl (!decide (x ∈ ys))) := by rw [cmp_ninL (shp_T x) (shp_LT ys), inD_TT]
@[simp] theorem cmp_eq_TT (a b : List (List Int)) : cmpD .eq (.tup (a.map T)) (.tup (b.map T)) = .ok (.bl (decide (a = b))) := by rw [cmp_eq (shp_TT a) (shp_TT b), eqD_TT]
@[simp] theorem cmp_ne_TT (a b : List (List Int)) : cmpD .ne (.tup (a.map T)) (.tup (b.map T)) = .ok (.bl (!decide (a = b))) := by rw [cmp_ne (shp_TT a) (shp_TT b), eqD_TT]
@[simp] theorem cmp_eq_T (a b : List Int) : cmpD .eq (.tup (a.map .int)) (.tup (b.map .int)) = .ok (.bl (decide (a = b))) := by rw [cmp_eq (shp_T a) (shp_T b), eqD_T]
@[simp] theorem cmp_ne_T (a b : List Int) : cmpD .ne (.tup (a.map .int)) (.tup (b.map .int)) = .ok (.bl (!decide (a = b))) := by rw [cmp_ne (shp_T a) (shp_T b), eqD_T]
@[simp] theorem cmp_is_bl (a b : Bool) : cmpD .is (.bl a) (.bl b) = .ok (.bl (decide (a = b))) := by rw [cmpD, isD]; rfl
@[simp] theorem cmp_isnot_bl (a b : Bool) : cmpD .isnot (.bl a) (.bl b) = .ok (.bl (!decide (a = b))) := by rw [cmpD, isD]; rfl
@[simp] theorem cmp_is_non : cmpD .is .non .non = .ok (.bl true) := by rw [cmpD, isD]; rfl
@[simp] theorem cmp_isnot_non : cmpD .isnot .non .non = .ok (.bl false) := by rw [cmpD, isD]; rfl
@[simp] theorem cmp_is_int (i : Int) : cmpD .is (.int i) .non = .ok (.bl false) := by rw [cmpD, isD]; rfl
@[simp] theorem cmp_isnot_int (i : Int) : cmpD .isnot (.int i) .non = .ok (.bl true) := by rw [cmpD, isD]; rfl
@[simp] theorem cmp_is_tup (i : List D) : cmpD .is (.tup i) .non = .ok (.bl false) := by rw [cmpD, isD]; rfl
@[simp] theorem cmp_isnot_tup (i : List D) : cmpD .isnot (.tup i) .non = .ok (.bl true) := by rw [cmpD, isD]; rfl
@[simp] theorem cmp_is_lst (i : List D) : cmpD .is (.lst i) .non = .ok (.bl false) := by rw [cmpD, isD]; rfl
@[simp] theorem cmp_isnot_lst (i : List D) : cmpD .isnot (.lst i) .non = .ok (.bl true) := by rw [cmpD, isD]; rfl
/-! ### built-ins -/
@[simp] theorem bj_len_tup (xs : List D) : biD .len [.tup xs] = .ok (.int xs.length) := by rw [biD]
@[simp] theorem bj_len_lst (xs : List D) : biD .len [.lst xs] = .ok (.int xs.length) := by rw [biD]
@[simp] theorem bj_len_scr (xs : List Int) : biD .len [.scr xs] = .ok (.int xs.length) := by rw [biD]
@[simp] theorem bj_min2 (i j : Int) : biD .min2 [.int i, .int j] = .ok (.int (if j < i then j else i)) := by rw [biD]
@[simp] theorem bj_max2 (i j : Int) : biD .max2 [.int i, .int j] = .ok (.int (if j > i then j else i)) := by rw [biD]
@[simp] theorem bj_tuple_lst (xs : List D) : biD .tuple [.lst xs] = .ok (.tup xs) := by rw [biD]; rfl
@[simp] theorem bj_tuple_tup (xs : List D) : biD .tuple [.tup xs] = .ok (.tup xs) := by rw [biD]; rfl
@[simp] theorem bj_list_lst (xs : List D) : biD .list [.lst xs] = .ok (.lst xs) := by rw [biD]; rfl
@[simp] theorem bj_list_tup (xs : List D) : biD .list [.tup xs] = .ok (.lst xs) := by rw [biD]; rfl
@[simp] theorem bj_sorted_ints (xs : List Int) : biD .sorted [.lst (xs.map .int)] = .ok (.lst ((sortI xs).map .int)) := by rw [biD, seqOf_lst, Res.bind_ok, sortable_ints, if_pos rfl, sortD_ints]
@[simp] theorem bj_sorted_intsT (xs : List Int) : biD .sorted [.tup (xs.map .int)] = .ok (.lst ((sortI xs).map .int)) := by rw [biD, seqOf_tup, Res.bind_ok, sortable_ints, if_pos rfl, sortD_ints]
theorem bj_sorted_Ts {xs : List (List Int)} (h : ∀ x ∈ xs, x ≠ []) : biD .sorted [.lst (xs.map T)] = .ok (.lst ((sortL xs).map T)) := by rw [biD, seqOf_lst, Res.bind_ok, sortable_Ts h, if_pos rfl, sortD_Ts]
theorem bj_sorted_TsT {xs : List (List Int)} (h : ∀ x ∈ xs, x ≠ []) : biD .sorted [.tup (xs.map T)] = .ok (.lst ((sortL xs).map T)) := by rw [biD, seqOf_tup, Res.bind_ok, sortable_Ts h, if_pos rfl, sortD_Ts]
@[simp] theorem bj_any (xs : List Bool) : biD .any [.lst (xs.map .bl)] = .ok (.bl (xs.any id)) := by rw [biD, blOf_bls]; rfl
@[simp] theorem bj_all (xs : List Bool) : biD .all [.lst (xs.map .bl)] = .ok (.bl (xs.all id)) := by rw [biD, blOf_bls]; rfl
@[simp] theorem bj_sum (xs : List Int) : biD .sum [.lst (xs.map .int)] = .ok (.int xs.sum) := by rw [biD, allInts_ints]; rfl
@[simp] theorem bj_int_bl (b : Bool) : biD .int [.bl b] = .ok (.int (if b then 1 else 0)) := by rw [biD]
@[simp] theorem bj_int_int (b : Int) : biD .int [.int b] = .ok (.int b) := by rw [biD]
@[simp] theorem idx_tup (xs : List D) (i : Int) : idxD (.tup xs) (.int i) = ofOpt (L2.atI xs i) := by rw [idxD]
@[simp] theorem idx_lst (xs : List D) (i : Int) : idxD (.lst xs) (.int i) = ofOpt (L2.atI xs i) := by rw [idxD]
@[simp] theorem idx_scr (xs : List Int) (i : Int) : idxD (.scr xs) (.int i) = ofOpt ((L2.atI xs i).map .int) := by rw [idxD]
@[simp] theorem slc_tup (xs : List D) (lo hi : Option Int) : slcD (.tup xs) lo hi = .ok (.tup (cut xs lo hi)) := by rw [slcD]
@[simp] theorem slc_lst (xs : List D) (lo hi : Option Int) : slcD (.lst xs) lo hi = .ok (.lst (cut xs lo hi)) := by rw [slcD]
@[simp] theorem slc_scr (xs : List Int) (lo hi : Option Int) : slcD (.scr xs) lo hi = .ok (.lst (cut (xs.map .int) lo hi)) := by rw [slcD]
@[simp] theorem optI_int (i : Int) : optI (some (.int i)) = .ok (some i) := rfl
theorem atI_zero {α : Type} (x : α) (xs : List α) : L2.atI (x :: xs) 0 = some x := by
  have e : L2.ixN (x :: xs).length 0 = some 0 := by
    unfold L2.ixN
    rw [if_pos (by omega), if_pos (by rw [List.length_cons]; omega)]; rfl
  unfold L2.atI
  rw [e]; rfl
theorem ixN_ok {n : Nat} {i : Int} (h0 : 0 ≤ i) (h1 : i < n) : L2.ixN n i = some i.toNat := by
  unfold L2.ixN
  rw [if_pos h0, if_pos (by omega)]
theorem atI_ok {α : Type} {xs : List α} {i : Int} (h0 : 0 ≤ i) (h1 : i < xs.length) : L2.atI xs i = xs[i.toNat]? := by
  unfold L2.atI
  rw [ixN_ok h0 h1]; rfl
@[simp] theorem atI_cons0 {α : Type} (x : α) (xs : List α) : L2.atI (x :: xs) 0 = some x := atI_zero x xs
@[simp] theorem atI_cons1 {α : Type} (x y : α) (xs : List α) : L2.atI (x :: y :: xs) 1 = some y := by
  rw [atI_ok (by omega) (by rw [List.length_cons, List.length_cons]; omega)]; rfl
@[simp] theorem atI_cons2 {α : Type} (x y z : α) (xs : List α) : L2.atI (x :: y :: z :: xs) 2 = some z := by
  rw [atI_ok (by omega) (by rw [List.length_cons, List.length_cons, List.length_cons]; omega)]; rfl
@[simp] theorem atI_cons3 {α : Type} (x y z u : α) (xs : List α) : L2.atI (x :: y :: z :: u :: xs) 3 = some u := by
  rw [atI_ok (by omega) (by rw [List.length_cons, List.length_cons, List.length_cons, List.length_cons]; omega)]; rfl
/-! ### kinds -/
@[simp] theorem isi_non (t : Kd) : isiD t .non = .ok (.bl false) := by cases t <;> rfl
@[simp] theorem isi_str (t : Kd) (x : Str) : isiD t (.str x) = .ok (.bl false) := by cases t <;> rfl
@[simp] theorem isi_lst (t : Kd) (x : List D) : isiD t (.lst x) = .ok (.bl false) := by cases t <;> rfl
@[simp] theorem isi_int_int (i : Int) : isiD .int (.int i) = .ok (.bl true) := rfl
@[simp] theorem isi_int_bool (i : Int) : isiD .bool (.int i) = .ok (.bl false) := rfl
@[simp] theorem isi_int_tuple (i : Int) : isiD .tuple (.int i) = .ok (.bl false) := rfl
@[simp] theorem isi_bl_int (i : Bool) : isiD .int (.bl i) = .ok (.bl true) := rfl
@[simp] theorem isi_bl_bool (i : Bool) : isiD .bool (.bl i) = .ok (.bl true) := rfl
@[simp] theorem isi_bl_tuple (i : Bool) : isiD .tuple (.bl i) = .ok (.bl false) := rfl
@[simp] theorem isi_tup_int (i : List D) : isiD .int (.tup i) = .ok (.bl false) := rfl
@[simp] theorem isi_tup_bool (i : List D) : isiD .bool (.tup i) = .ok (.bl false) := rfl
@[simp] theorem isi_tup_tuple (i : List D) : isiD .tuple (.tup i) = .ok (.bl true) := rfl
end FC

/-! The laws' own fields, games and positions. -/
set_option autoImplicit false
set_option linter.all false
set_option maxRecDepth 100000
set_option maxHeartbeats 4000000
set_option Elab.async false
namespace FC
open PySem

/-! ### sorting -/
theorem leL_trans (a b c : List Int) : leL a b = true → leL b c = true → leL a c = true := by
  unfold leL
  simp only [decide_eq_true_eq]
  exact fun h1 h2 => Std.le_trans h1 h2
theorem leL_total (a b : List Int) : (leL a b || leL b a) = true := by
  unfold leL
  rw [Bool.or_eq_true, decide_eq_true_eq, decide_eq_true_eq]
  exact Std.le_total
theorem sortI_perm (xs : List Int) : (sortI xs).Perm xs := List.mergeSort_perm _ _
theorem sortL_perm (xs : List (List Int)) : (sortL xs).Perm xs := List.mergeSort_perm _ _
theorem sortI_le (xs : List Int) : (sortI xs).Pairwise (· ≤ ·) := by
  have h := List.pairwise_mergeSort (le := fun a b : Int => decide (a ≤ b)) (fun a b c h1 h2 => by simp only [decide_eq_true_eq] at *; omega) (fun a b => by simp only [Bool.or_eq_true, decide_eq_true_eq]; omega) xs
  exact h.imp fun h => by simpa using h
theorem sortL_le (xs : List (List Int)) : (sortL xs).Pairwise (· ≤ ·) := by
  have h := List.pairwise_mergeSort (le := leL) leL_trans leL_total xs
  exact h.imp fun h => of_decide_eq_true h
theorem sortI_lt {xs : List Int} (h : xs.Nodup) : (sortI xs).Pairwise (· < ·) := by
  have h1 := sortI_le xs
  have h2 : (sortI xs).Nodup := (sortI_perm xs).nodup_iff.mpr h
  exact (h1.and h2).imp fun ⟨a, b⟩ => by omega
theorem lt_of_le_ne {a b : List Int} (h : a ≤ b) (n : a ≠ b) : a < b := by
  rcases Classical.em (a < b) with q | q
  · exact q
  · exact absurd (Std.le_antisymm h (List.not_lt.mp q)) n
theorem sortL_lt {xs : List (List Int)} (h : xs.Nodup) : (sortL xs).Pairwise (· < ·) := by
  have h1 := sortL_le xs
  have h2 : (sortL xs).Nodup := (sortL_perm xs).nodup_iff.mpr h
  exact (h1.and h2).imp fun ⟨a, b⟩ => lt_of_le_ne a b
@[simp] theorem sortI_length (xs : List Int) : (sortI xs).length = xs.length := (sortI_perm xs).length_eq
@[simp] theorem sortL_length (xs : List (List Int)) : (sortL xs).length = xs.length := (sortL_perm xs).length_eq
theorem mem_sortI {xs : List Int} {x : Int} : x ∈ sortI xs ↔ x ∈ xs := (sortI_perm xs).mem_iff
theorem mem_sortL {xs : List (List Int)} {x : List Int} : x ∈ sortL xs ↔ x ∈ xs := (sortL_perm xs).mem_iff
theorem sortI_id {xs : List Int} (h : xs.Pairwise (· < ·)) : sortI xs = xs := List.mergeSort_of_pairwise (h.imp fun h => decide_eq_true (by omega))
theorem sortL_id {xs : List (List Int)} (h : xs.Pairwise (· < ·)) : sortL xs = xs := List.mergeSort_of_pairwise (h.imp fun h => decide_eq_true (Std.le_of_lt h))

/-! ### fields as the laws build them -/
structure LineOk (n : Int) (l : List Int) : Prop where
  ne : l ≠ []
  up : l.Pairwise (· < ·)
  lo : ∀ p ∈ l, 0 ≤ p
  hi : ∀ p ∈ l, p < n
  len : l.length ≤ 4
structure FieldOk (n : Int) (ls : List (List Int)) : Prop where
  lo : 1 ≤ n
  hi : n ≤ 9
  ln : ∀ l ∈ ls, LineOk n l
  up : ls.Pairwise (· < ·)
  len : ls.length ≤ 10

/-! ### taking out of a list -/
theorem erase_perm {α : Type} : ∀ {l : List α} {i : Nat} (h : i < l.length), (l[i] :: l.eraseIdx i).Perm l
  | x :: l, 0, _ => .refl _
  | x :: l, i + 1, h => by
    have h' : i < l.length := by simpa using h
    show ((x :: l)[i + 1] :: x :: l.eraseIdx i).Perm (x :: l)
    rw [List.getElem_cons_succ]
    exact (List.Perm.swap _ _ _).trans ((erase_perm h').cons x)
theorem popL_perm {f : D → List D → Res Int} : ∀ (xs ds : List D), (∀ (j : Nat) (x : D) (ds' : List D), xs[j]? = some x → ds'.length + j = ds.length → ∃ i : Int, f x ds' = .ok i ∧ 0 ≤ i ∧ i < ds'.length) → xs.length ≤ ds.length →
    ∃ ys rest, popL f xs ds = .ok (ys, rest) ∧ (ys ++ rest).Perm ds ∧ ys.length = xs.length
  | [], ds, _, _ => ⟨[], ds, rfl, .refl _, rfl⟩
  | x :: xs, ds, h, hl => by
    rw [List.length_cons] at hl
    obtain ⟨i, h1, h2, h3⟩ := h 0 x ds rfl (by omega)
    have hk : i.toNat < ds.length := by omega
    have hy : ds[i.toNat]? = some ds[i.toNat] := List.getElem?_eq_getElem hk
    have hlen : (ds.eraseIdx i.toNat).length = ds.length - 1 := List.length_eraseIdx_of_lt hk
    obtain ⟨ys, rest, e1, e2, e3⟩ := popL_perm xs (ds.eraseIdx i.toNat) (fun j x' ds' hj hd => h (j + 1) x' ds' (by simpa using hj) (by rw [hlen] at hd; omega)) (by rw [hlen]; omega)
    refine ⟨ds[i.toNat] :: ys, rest, ?_, ?_, by rw [List.length_cons, List.length_cons, e3]⟩
    · rw [popL, h1]
      simp only [Res.calm_ok, Res.bind_ok, ixN_ok h2 h3, hy, e1]
    · exact (List.Perm.cons _ e2).trans (erase_perm hk)
theorem ints_of : ∀ {ys : List D}, (∀ y ∈ ys, ∃ i, y = .int i) → ∃ zs : List Int, ys = zs.map .int
  | [], _ => ⟨[], rfl⟩
  | y :: ys, h => by
    obtain ⟨i, rfl⟩ := h y List.mem_cons_self
    obtain ⟨zs, rfl⟩ := ints_of fun z hz => h z (List.mem_cons_of_mem _ hz)
    exact ⟨i :: zs, rfl⟩
theorem nodup_map {α β : Type} {f : α → β} (hf : ∀ a b, f a = f b → a = b) {l : List α} (h : l.Nodup) : (l.map f).Nodup := List.Pairwise.map f (fun a b n e => n (hf a b e)) h
theorem nodup_of_map {α β : Type} {f : α → β} {l : List α} (h : (l.map f).Nodup) : l.Nodup := (List.pairwise_map.mp h).imp fun n e => n (by rw [e])
theorem nodup_rgI (n : Nat) : (rgI n).Nodup := by
  unfold rgI
  exact nodup_map (fun a b h => Int.ofNat.inj h) List.nodup_range
theorem int_inj : ∀ a b : Int, D.int a = D.int b → a = b := fun a b h => D.int.inj h
theorem T_inj {a b : List Int} (h : T a = T b) : a = b := by
  have h := D.tup.inj h
  exact (List.map_inj_right int_inj).mp h
/-- what is popped of a range: unlike points -/
theorem pop_points {ys rest : List D} {n : Nat} (h : (ys ++ rest).Perm ((rgI n).map .int)) : ∃ zs : List Int, ys = zs.map .int ∧ zs.Nodup ∧ ∀ p ∈ zs, 0 ≤ p ∧ p < n := by
  have hm : ∀ y ∈ ys, ∃ i, y = .int i ∧ i ∈ rgI n := fun y hy => by
    have : y ∈ (rgI n).map D.int := h.mem_iff.mp (List.mem_append_left _ hy)
    obtain ⟨i, hi, rfl⟩ := List.mem_map.mp this
    exact ⟨i, rfl, hi⟩
  obtain ⟨zs, rfl⟩ := ints_of fun y hy => let ⟨i, e, _⟩ := hm y hy; ⟨i, e⟩
  have hn : (zs.map D.int ++ rest).Nodup := h.nodup_iff.mpr (nodup_map int_inj (nodup_rgI n))
  refine ⟨zs, rfl, ?_, fun p hp => ?_⟩
  · exact nodup_of_map (List.nodup_append.mp hn).1
  · obtain ⟨i, e, hi⟩ := hm (.int p) (List.mem_map_of_mem hp)
    cases e
    exact mem_rgI.mp hi

/-! ### the laws' fields -/
def mixI (c p m : Int) : Int := c * 48271 % p % m
theorem mixI_lo {c p m : Int} (hm : 0 < m) : 0 ≤ mixI c p m := Int.emod_nonneg _ (by omega)
theorem mixI_hi {c p m : Int} (hm : 0 < m) : mixI c p m < m := Int.emod_lt_of_pos _ hm
theorem run_mix' {k : Nat} (hk : 1 ≤ k) {c p m : Int} (hp : 0 < p) (hm : 0 < m) : run tab k .l_mix [.int c, .int p, .int m] = .ok (.int (mixI c p m)) := run_mix hk hp hm
/-- the points of a line -/
theorem field_pops {k : Nat} (hk : 1 ≤ k) {a1 a2 a3 : D} {cell many kk : Int} {found : List D} {s7 s9 s10 : Sl} (hm1 : 1 ≤ many) (hm9 : many ≤ 9) (hk0 : 0 ≤ kk) (hk1 : kk < 1000) (m : Nat) (hm : (m : Int) ≤ many) :
    ∃ (zs : List Int) (rest : List D), popL (popT (run tab k) 8 [10] (.one 10) c_l_field_1 [.im (.int cell), .im a1, .im a2, .im a3, .im (.int many), .ow found, .im (.int kk), s7, .ow ((rgI many.toNat).map .int), s9, s10]) ((rgI m).map .int) ((rgI many.toNat).map .int) =
      .ok (zs.map .int, rest) ∧ zs.Nodup ∧ (∀ p ∈ zs, 0 ≤ p ∧ p < many) ∧ zs.length = m := by
  have e1 : small64 kk = true := small_of (by omega) (by omega)
  obtain ⟨ys, rest, p1, p2, p3⟩ := popL_perm (f := popT (run tab k) 8 [10] (.one 10) c_l_field_1 [.im (.int cell), .im a1, .im a2, .im a3, .im (.int many), .ow found, .im (.int kk), s7, .ow ((rgI many.toNat).map .int), s9, s10]) ((rgI m).map .int) ((rgI many.toNat).map .int) (fun j x ds' hj hd => by
    rw [List.getElem?_map] at hj
    cases q : (rgI m)[j]? with
    | none => rw [q] at hj; cases hj
    | some i =>
      rw [q] at hj
      cases hj
      have hjl : j < m := by simpa using (List.getElem?_eq_some_iff.mp q).1
      have hi : i = (j : Int) := by
        unfold rgI at q
        rw [List.getElem?_map, List.getElem?_range hjl] at q
        exact (Option.some.inj q).symm
      subst hi
      rw [List.length_map, rgI_length] at hd
      have hpos : 0 < many - (j : Int) := by omega
      refine ⟨mixI (cell + 11 * kk + 3 * (j : Int)) 9941 (many - (j : Int)), ?_, mixI_lo hpos, ?_⟩
      · have e2 : small64 (j : Int) = true := small_of (by omega) (by omega)
        have m2 := run_mix' hk (c := cell + 11 * kk + 3 * (j : Int)) (p := 9941) (m := many - (j : Int)) (by decide) hpos
        simp -implicitDefEqProofs [popT, c_l_field_1, m2]
      · have := mixI_hi (c := cell + 11 * kk + 3 * (j : Int)) (p := 9941) hpos
        omega) (by rw [List.length_map, List.length_map, rgI_length, rgI_length]; omega)
  obtain ⟨zs, rfl, z1, z2⟩ := pop_points p2
  rw [List.length_map, List.length_map, rgI_length] at p3
  exact ⟨zs, rest, p1, z1, fun p hp => ⟨(z2 p hp).1, by have := (z2 p hp).2; omega⟩, p3⟩
theorem line_ok {many : Int} {zs : List Int} {m : Nat} (z1 : zs.Nodup) (z2 : ∀ p ∈ zs, 0 ≤ p ∧ p < many) (p3 : zs.length = m) (h1 : 1 ≤ m) (h4 : m ≤ 4) : LineOk many (sortI zs) :=
  ⟨fun e => by
    have := congrArg List.length e
    rw [sortI_length, p3] at this
    simp at this
    omega, sortI_lt z1, fun p hp => (z2 p (mem_sortI.mp hp)).1, fun p hp => (z2 p (mem_sortI.mp hp)).2, by rw [sortI_length]; omega⟩
/-- one line more, or none -/
theorem field_turn {k : Nat} (hk : 1 ≤ k) {a1 a2 a3 : D} {cell many kk : Int} {found : List (List Int)} {s6 s7 s8 s9 s10 : Sl} (hm1 : 1 ≤ many) (hm9 : many ≤ 9) (hk0 : 0 ≤ kk) (hk1 : kk < 1000) (hl : found.length < 100) :
    ∃ (l : List Int) (t7 t8 t9 : Sl), LineOk many l ∧
      (bindS (.one 6) (.int kk) [.im (.int cell), .im a1, .im a2, .im a3, .im (.int many), .ow (found.map T), s6, s7, s8, s9, s10]).bind (exec (run tab k) b_l_field_1) =
        .ok (.nx [.im (.int cell), .im a1, .im a2, .im a3, .im (.int many), .ow ((if l ∈ found then found else found ++ [l]).map T), .im (.int kk), t7, t8, t9, s10]) := by
  have h4 : 0 < (if many < 4 then many else 4 : Int) := by split <;> omega
  have e7 : small64 kk = true := small_of (by omega) (by omega)
  have mix1 := run_mix' hk (c := cell + 7 * kk) (p := 9949) (m := if many < 4 then many else 4) (by decide) h4
  have lo1 := mixI_lo (c := cell + 7 * kk) (p := 9949) h4
  have hi1 := mixI_hi (c := cell + 7 * kk) (p := 9949) h4
  generalize mixI (cell + 7 * kk) 9949 (if many < 4 then many else 4) = sz at mix1 lo1 hi1
  have hhi : sz < 4 ∧ sz < many := by split at hi1 <;> omega
  have hlim9 : many.toNat ≤ lim := small_lim (by omega)
  have hfl : found.length < lim := Nat.lt_of_lt_of_le hl (by decide)
  have r1 := rngD_zero (n := many) (by omega) (by omega)
  by_cases hcond : 0 < cell % 3 ∧ sz = 0 ∧ 1 < many
  · obtain ⟨c1, rfl, c3⟩ := hcond
    obtain ⟨zs, rest, p1, z1, z2, p3⟩ := field_pops (a1 := a1) (a2 := a2) (a3 := a3) (cell := cell) (found := found.map T) (s7 := .im (.int 2)) (s9 := s9) (s10 := s10) hk hm1 hm9 hk0 hk1 2 (by omega)
    have r2 := rngD_zero (n := 2) (by omega) (by omega)
    refine ⟨sortI zs, .im (.int 2), .ow rest, .im (.lst (zs.map .int)), line_ok z1 z2 p3 (by omega) (by omega), ?_⟩
    by_cases hin : sortI zs ∈ found
    · simp -implicitDefEqProofs [b_l_field_1, bin_mod, mix1, c1, c3, r1, r2, hlim9, popC, p1, hfl, hin]
    · simp -implicitDefEqProofs [b_l_field_1, bin_mod, mix1, c1, c3, r1, r2, hlim9, popC, p1, hfl, hin]
  · obtain ⟨zs, rest, p1, z1, z2, p3⟩ := field_pops (a1 := a1) (a2 := a2) (a3 := a3) (cell := cell) (found := found.map T) (s7 := .im (.int (1 + sz))) (s9 := s9) (s10 := s10) hk hm1 hm9 hk0 hk1 (1 + sz).toNat (by omega)
    have r2 := rngD_zero (n := 1 + sz) (by omega) (by omega)
    refine ⟨sortI zs, .im (.int (1 + sz)), .ow rest, .im (.lst (zs.map .int)), line_ok z1 z2 p3 (by omega) (by omega), ?_⟩
    have hc : (if 0 < cell % 3 then if 1 + sz = 1 then Res.ok (D.bl (decide (1 < many))) else Res.ok (D.bl (decide (1 + sz = 1))) else Res.ok (D.bl (decide (0 < cell % 3)))) = Res.ok (D.bl false) := by
      by_cases c1 : 0 < cell % 3
      · rw [if_pos c1]
        by_cases c2 : 1 + sz = 1
        · rw [if_pos c2, decide_eq_false]
          exact fun c3 => hcond ⟨c1, by omega, c3⟩
        · rw [if_neg c2, decide_eq_false c2]
      · rw [if_neg c1, decide_eq_false c1]
    by_cases hin : sortI zs ∈ found
    · simp -implicitDefEqProofs [b_l_field_1, bin_mod, mix1, r1, r2, hlim9, popC, p1, hfl, hin, hc]
    · simp -implicitDefEqProofs [b_l_field_1, bin_mod, mix1, r1, r2, hlim9, popC, p1, hfl, hin, hc]
theorem run_field {k : Nat} (hk : 2 ≤ k) {cell least most lines : Int} (h1 : 1 ≤ least) (h2 : least ≤ most) (h3 : most ≤ 9) (h4 : 0 ≤ lines) (h5 : lines ≤ 10) :
    ∃ (n : Int) (ls : List (List Int)), run tab k .l_field [.int cell, .int least, .int most, .int lines] = .ok (Fd n ls) ∧ FieldOk n ls ∧ least ≤ n ∧ n ≤ most ∧ (ls.length : Int) ≤ lines := by
  obtain ⟨k, rfl, hj⟩ := suc hk
  have p1 : 0 < most - least + 1 := by omega
  have m1 := run_mix' hj (c := cell) (p := 9973) (by decide) p1
  have lo1 := mixI_lo (c := cell) (p := 9973) p1
  have hi1 := mixI_hi (c := cell) (p := 9973) p1
  generalize mixI cell 9973 (most - least + 1) = x at m1 lo1 hi1
  have p2 : 0 < lines + 1 := by omega
  have m2 := run_mix' hj (c := cell) (p := 9967) (by decide) p2
  have lo2 := mixI_lo (c := cell) (p := 9967) p2
  have hi2 := mixI_hi (c := cell) (p := 9967) p2
  generalize mixI cell 9967 (lines + 1) = y at m2 lo2 hi2
  have r2 := rngD_zero (n := y) (by omega) (by omega)
  -- the loop
  obtain ⟨ρ', l1, l2⟩ := forC_map (F := run tab k) (tg := .one 6) (b := b_l_field_1) D.int (fun (m : Nat) ρ => ∃ (found : List (List Int)) (s6 s7 s8 s9 s10 : Sl), found.length ≤ m ∧ found.Nodup ∧ (∀ l ∈ found, LineOk (least + x) l) ∧
      ρ = [.im (.int cell), .im (.int least), .im (.int most), .im (.int lines), .im (.int (least + x)), .ow (found.map T), s6, s7, s8, s9, s10]) (fun m _ => m + 1) (rgI y.toNat) 0
      [.im (.int cell), .im (.int least), .im (.int most), .im (.int lines), .im (.int (least + x)), .ow [], .no, .no, .no, .no, .no] ⟨[], .no, .no, .no, .no, .no, Nat.le_refl _, List.nodup_nil, (fun l h => nomatch h), rfl⟩
      (fun pre post i ρ e hi => by
        obtain ⟨found, s6, s7, s8, s9, s10, g1, g2, g3, rfl⟩ := hi
        have hm : i ∈ rgI y.toNat := by rw [e]; simp
        have hm := mem_rgI.mp hm
        have hlen : pre.length ≤ 10 := by
          have := congrArg List.length e
          rw [rgI_length, List.length_append, List.length_cons] at this
          omega
        have hfold : ∀ (l : List Int) (m : Nat), l.foldl (fun m _ => m + 1) m = m + l.length := by
          intro l
          induction l with
          | nil => intro m; rfl
          | cons a l ih => intro m; rw [List.foldl_cons, ih, List.length_cons]; omega
        rw [hfold] at g1
        obtain ⟨l, t7, t8, t9, q1, q2⟩ := field_turn (a1 := .int least) (a2 := .int most) (a3 := .int lines) (cell := cell) (many := least + x) (kk := i) (found := found) (s6 := s6) (s7 := s7) (s8 := s8) (s9 := s9) (s10 := s10) hj (by omega) (by omega) (by omega) (by omega) (by omega)
        refine ⟨_, q2, (if l ∈ found then found else found ++ [l]), .im (.int i), t7, t8, t9, s10, ?_, ?_, ?_, rfl⟩
        · rw [hfold]
          split
          · omega
          · rw [List.length_append, List.length_singleton]; omega
        · split
          · exact g2
          · rename_i hn
            exact List.nodup_append.mpr ⟨g2, List.pairwise_singleton _ _, fun a ha b hb => by rw [List.mem_singleton.mp hb]; exact fun z => hn (z ▸ ha)⟩
        · split
          · exact g3
          · intro l' hl'
            rcases List.mem_append.mp hl' with h | h
            · exact g3 l' h
            · rw [List.mem_singleton.mp h]; exact q1)
  obtain ⟨found, s6, s7, s8, s9, s10, g1, g2, g3, rfl⟩ := l2
  have hcount : (rgI y.toNat).foldl (fun m _ => m + 1) 0 = y.toNat := by
    have hfold : ∀ (l : List Int) (m : Nat), l.foldl (fun m _ => m + 1) m = m + l.length := by
      intro l
      induction l with
      | nil => intro m; rfl
      | cons a l ih => intro m; rw [List.foldl_cons, ih, List.length_cons]; omega
    rw [hfold, rgI_length]; omega
  rw [hcount] at g1
  refine ⟨least + x, sortL found, ?_, ⟨by omega, by omega, fun l hl => g3 l (mem_sortL.mp hl), sortL_lt g2, by rw [sortL_length]; omega⟩, by omega, by omega, by rw [sortL_length]; omega⟩
  have hs := bj_sorted_Ts (xs := found) fun l hl => (g3 l hl).ne
  rw [run_code rfl rfl]
  simp -implicitDefEqProofs [d_l_field, start, m1, m2, r2, l1, hs]
theorem run_game {k : Nat} (hk : 3 ≤ k) {cell least most lines : Int} (h1 : 1 ≤ least) (h2 : least ≤ most) (h3 : most ≤ 9) (h4 : 0 ≤ lines) (h5 : lines ≤ 10) :
    ∃ (n : Int) (ls : List (List Int)) (first b g : Int), run tab k .l_game [.int cell, .int least, .int most, .int lines] = .ok (Gm n ls first b g) ∧ FieldOk n ls ∧ least ≤ n ∧ n ≤ most ∧ (ls.length : Int) ≤ lines ∧ (first = 0 ∨ first = 1) ∧ (b = 1 ∨ b = 2) ∧ (g = 1 ∨ g = 2) := by
  obtain ⟨k, rfl, hj⟩ := suc hk
  obtain ⟨n, ls, e, hf, q1, q2, q3⟩ := run_field (cell := cell) hj h1 h2 h3 h4 h5
  have p2 : (0 : Int) < 2 := by decide
  have p5 : (0 : Int) < 5 := by decide
  have m1 := run_mix' (k := k) (by omega) (c := cell) (p := 9931) (by decide) p2
  have lo1 := mixI_lo (c := cell) (p := 9931) p2
  have hi1 := mixI_hi (c := cell) (p := 9931) p2
  have m2 := run_mix' (k := k) (by omega) (c := cell) (p := 9929) (by decide) p5
  have lo2 := mixI_lo (c := cell) (p := 9929) p5
  have hi2 := mixI_hi (c := cell) (p := 9929) p5
  have m3 := run_mix' (k := k) (by omega) (c := cell) (p := 9923) (by decide) p5
  have lo3 := mixI_lo (c := cell) (p := 9923) p5
  have hi3 := mixI_hi (c := cell) (p := 9923) p5
  refine ⟨n, ls, mixI cell 9931 2, 1 + mixI cell 9929 5 / 3, 1 + mixI cell 9923 5 / 3, ?_, hf, q1, q2, q3, by omega, by omega, by omega⟩
  rw [run_code rfl rfl]
  simp -implicitDefEqProofs [d_l_game, start, e, m1, m2, m3]
/-- positions: unlike points, rising -/
structure PosOk (n : Int) (m y : List Int) : Prop where
  mup : m.Pairwise (· < ·)
  yup : y.Pairwise (· < ·)
  mlo : ∀ p ∈ m, 0 ≤ p ∧ p < n
  ylo : ∀ p ∈ y, 0 ≤ p ∧ p < n
  dis : ∀ p ∈ m, p ∉ y
theorem run_position {k : Nat} (hk : 2 ≤ k) {cell n : Int} {ls : List (List Int)} {first b g : Int} (h1 : 1 ≤ n) (h9 : n ≤ 9) : ∃ m y : List Int, run tab k .l_position [Gm n ls first b g, .int cell] = .ok (.tup [T m, T y]) ∧ PosOk n m y := by
  obtain ⟨k, rfl, hj⟩ := suc hk
  have r2 := rngD_zero (n := n) (by omega) (by omega)
  have p5 : (0 : Int) < 5 := by decide
  have mx : ∀ i : Int, run tab k .l_mix [.int (cell + 5 * i), .int 9907, .int 5] = .ok (.int (mixI (cell + 5 * i) 9907 5)) := fun i => run_mix' hj (by decide) p5
  obtain ⟨ρ', l1, s4, s5, rfl⟩ := forC_pre (F := run tab k) (tg := .one 4) (b := b_l_position_1) D.int (fun (pre : List Int) ρ => ∃ (s4 s5 : Sl),
      ρ = [.im (Gm n ls first b g), .im (.int cell), .ow ((pre.filter fun i => mixI (cell + 5 * i) 9907 5 = 0).map .int), .ow ((pre.filter fun i => mixI (cell + 5 * i) 9907 5 = 1).map .int), s4, s5]) (rgI n.toNat)
      [.im (Gm n ls first b g), .im (.int cell), .ow [], .ow [], .no, .no] ⟨.no, .no, rfl⟩
      (fun pre post i ρ e hi => by
        obtain ⟨s4, s5, rfl⟩ := hi
        have hlen : pre.length ≤ 9 := by
          have := congrArg List.length e
          rw [rgI_length, List.length_append, List.length_cons] at this
          omega
        have l0 : (pre.filter fun i => decide (mixI (cell + 5 * i) 9907 5 = 0)).length < lim := Nat.lt_of_le_of_lt (List.length_filter_le _ _) (Nat.lt_of_le_of_lt hlen (by decide))
        have l1 : (pre.filter fun i => decide (mixI (cell + 5 * i) 9907 5 = 1)).length < lim := Nat.lt_of_le_of_lt (List.length_filter_le _ _) (Nat.lt_of_le_of_lt hlen (by decide))
        refine ⟨_, ?_, .im (.int i), .im (.int (mixI (cell + 5 * i) 9907 5)), rfl⟩
        by_cases c0 : mixI (cell + 5 * i) 9907 5 = 0
        · simp -implicitDefEqProofs [b_l_position_1, mx, c0, l0, l1, List.filter_append, List.filter_cons]
        · by_cases c1 : mixI (cell + 5 * i) 9907 5 = 1
          · simp -implicitDefEqProofs [b_l_position_1, mx, c0, c1, l0, l1, List.filter_append, List.filter_cons]
          · simp -implicitDefEqProofs [b_l_position_1, mx, c0, c1, l0, l1, List.filter_append, List.filter_cons])
  have up : (rgI n.toNat).Pairwise (· < ·) := by
    unfold rgI
    rw [List.pairwise_map]
    exact List.pairwise_lt_range.imp fun h => Int.ofNat_lt.mpr h
  have bd : ∀ p ∈ rgI n.toNat, 0 ≤ p ∧ p < n := fun p hp => by
    have := mem_rgI.mp hp
    omega
  refine ⟨(rgI n.toNat).filter fun i => mixI (cell + 5 * i) 9907 5 = 0, (rgI n.toNat).filter fun i => mixI (cell + 5 * i) 9907 5 = 1, ?_, ⟨up.filter _, up.filter _, fun p hp => bd p (List.mem_filter.mp hp).1, fun p hp => bd p (List.mem_filter.mp hp).1, fun p hp hq => ?_⟩⟩
  · rw [run_code rfl rfl]
    simp -implicitDefEqProofs [d_l_position, start, r2, l1]
  · have a := (List.mem_filter.mp hp).2
    have b := (List.mem_filter.mp hq).2
    simp only [decide_eq_true_eq] at a b
    omega
end FC

/-! Things: numbers, lines, fields, games. -/
set_option autoImplicit false
set_option linter.all false
set_option maxRecDepth 100000
set_option maxHeartbeats 4000000
set_option Elab.async false
namespace FC
open PySem

def isNum (lo hi : Int) : D → Bool
  | .int i => decide (lo ≤ i) && decide (i ≤ hi)
  | _ => false
/-- a thing of kinds that isinstance tells -/
def pl : D → Bool
  | .memo _ _ => false
  | .slv _ => false
  | .scr _ => false
  | _ => true
theorem run_number {k : Nat} (hk : 1 ≤ k) {d : D} {lo hi : Int} (h : pl d = true) : run tab k .is_number [d, .int lo, .int hi] = .ok (.bl (isNum lo hi d)) := by
  obtain ⟨k, rfl, hj⟩ := suc hk
  rw [run_code rfl rfl]
  cases d with
  | int i =>
    by_cases h1 : lo ≤ i
    · by_cases h2 : i ≤ hi
      · simp -implicitDefEqProofs [d_is_number, start, isNum, h1, h2]
      · simp -implicitDefEqProofs [d_is_number, start, isNum, h1, h2]
    · simp -implicitDefEqProofs [d_is_number, start, isNum, h1]
  | memo _ _ => cases h
  | slv _ => cases h
  | scr _ => cases h
  | _ => simp -implicitDefEqProofs [d_is_number, start, isNum]
/-- rising, by a test of neighbours -/
def ris {α : Type} (lt : α → α → Bool) : List α → Bool
  | [] => true
  | [_] => true
  | a :: b :: r => lt a b && ris lt (b :: r)
def ltI (a b : Int) : Bool := decide (a < b)
def ltL (a b : List Int) : Bool := decide (a < b)
theorem ris_all {α : Type} (lt : α → α → Bool) : ∀ (xs : List α), ris lt xs = ((List.range (xs.length - 1)).all fun j => match xs[j]?, xs[j + 1]? with
    | some a, some b => lt a b
    | _, _ => false)
  | [] => rfl
  | [_] => rfl
  | a :: b :: r => by
    rw [ris, ris_all lt (b :: r)]
    have e : (a :: b :: r).length - 1 = ((b :: r).length - 1) + 1 := by simp
    rw [e, List.range_succ_eq_map, List.all_cons, List.all_map]
    rfl
theorem ris_pair {α : Type} {lt : α → α → Bool} (tr : ∀ a b c, lt a b = true → lt b c = true → lt a c = true) : ∀ {xs : List α}, ris lt xs = true ↔ xs.Pairwise fun a b => lt a b = true
  | [] => by simp [ris]
  | [_] => by simp [ris]
  | a :: b :: r => by
    rw [ris, Bool.and_eq_true, ris_pair tr (xs := b :: r), List.pairwise_cons (a := a)]
    constructor
    · rintro ⟨h1, h2⟩
      refine ⟨fun c hc => ?_, h2⟩
      rcases List.mem_cons.mp hc with rfl | hc
      · exact h1
      · exact tr _ _ _ h1 (List.rel_of_pairwise_cons h2 hc)
    · rintro ⟨h1, h2⟩
      exact ⟨h1 b List.mem_cons_self, h2⟩
theorem rising_run {α : Type} {k : Nat} (g : α → D) (lt : α → α → Bool) (hlt : ∀ a b, cmpD .lt (g a) (g b) = .ok (.bl (lt a b))) (hk : 1 ≤ k) {xs : List α} (hl : xs.length ≤ 1000) :
    run tab k .is_rising [.tup (xs.map g)] = .ok (.bl (ris lt xs)) := by
  obtain ⟨k, rfl, hj⟩ := suc hk
  have rg : rngD (.int 1) (.int (xs.length : Int)) = .ok ((List.range (xs.length - 1)).map fun j : Nat => D.int ((j : Int) + 1)) := by
    have e : rngOk (xs.length : Int) = true := by unfold rngOk; exact decide_eq_true ⟨by omega, by omega⟩
    have e0 : rngOk 1 = true := by decide
    have e2 : ((xs.length : Int) - 1).toNat ≤ lim := small_lim (by omega)
    rw [rngD, e, e0, decide_eq_true e2]
    have e3 : ((xs.length : Int) - 1).toNat = xs.length - 1 := by omega
    rw [e3]
    simp only [Bool.and_self, if_true]
    unfold rng
    exact congrArg Res.ok (List.map_congr_left fun a _ => by rw [Int.add_comm])
  have lc : lcC (run tab k) [1] (.one 1) .nil c_is_rising_1 [some (.tup (xs.map g)), none] ((List.range (xs.length - 1)).map fun j : Nat => D.int ((j : Int) + 1)) =
      .ok ((List.range (xs.length - 1)).map fun j : Nat => D.bl (match xs[j]?, xs[j + 1]? with
        | some a, some b => lt a b
        | _, _ => false)) := by
    refine lcC_map (fun j : Nat => D.int ((j : Int) + 1)) _ _ fun j hj => ?_
    have hj' : j + 1 < xs.length := by have := List.mem_range.mp hj; omega
    have h1 : xs[j]? = some xs[j] := List.getElem?_eq_getElem (by omega)
    have h2 : xs[j + 1]? = some xs[j + 1] := List.getElem?_eq_getElem hj'
    have a1 : L2.atI (xs.map g) ((j : Int) + 1 - 1) = some (g xs[j]) := by
      rw [atI_ok (by omega) (by rw [List.length_map]; omega)]
      have : ((j : Int) + 1 - 1).toNat = j := by omega
      rw [this, List.getElem?_map, h1]; rfl
    have a2 : L2.atI (xs.map g) ((j : Int) + 1) = some (g xs[j + 1]) := by
      rw [atI_ok (by omega) (by rw [List.length_map]; omega)]
      have : ((j : Int) + 1).toNat = j + 1 := by omega
      rw [this, List.getElem?_map, h2]; rfl
    rw [h1, h2]
    simp -implicitDefEqProofs only [lcT, c_is_rising_1, wipeE_cons, wipeE_nil, List.set_cons_succ, List.set_cons_zero, bindE_one, Res.bind_ok, IF_nil, if_true, E_cmp, E_idx, E_bin, E_var, E_int, List.getElem?_cons_succ, List.getElem?_cons_zero, bin_sub, idx_tup, a1, a2, ofOpt_some, hlt]
  have hb : (List.range (xs.length - 1)).map (fun j => D.bl (match xs[j]?, xs[j + 1]? with
        | some a, some b => lt a b
        | _, _ => false)) = ((List.range (xs.length - 1)).map fun j => (match xs[j]?, xs[j + 1]? with
        | some a, some b => lt a b
        | _, _ => false)).map .bl := by rw [List.map_map]; rfl
  rw [hb] at lc
  rw [run_code rfl rfl, ris_all]
  simp -implicitDefEqProofs only [d_is_rising, start, List.map_cons, List.map_nil, List.length_cons, List.length_nil, List.replicate, List.cons_append, List.nil_append, X_seq, X_ret, X_skip, view_cons, view_nil, view_im, view_no, E_bi, EL_cons, EL_nil, E_lc, IT_r2, E_int, Res.bind_ok, E_var, List.getElem?_cons_zero, bj_len_tup, List.length_map, rg, lc, bj_all, thenF_rt, fin_rt, List.all_map]
  rfl
theorem rising_ints {k : Nat} (hk : 1 ≤ k) {xs : List Int} (hl : xs.length ≤ 1000) : run tab k .is_rising [T xs] = .ok (.bl (ris ltI xs)) := rising_run .int ltI (fun a b => cmp_lt a b) hk hl
theorem cmp_lt_T (a b : List Int) : cmpD .lt (T a) (T b) = .ok (.bl (ltL a b)) := by
  rw [cmpD, ltTup, allInts_ints, allInts_ints]
  show Res.ok (D.bl (HT.lexLt a b)) = _
  rw [lexLt_eq]; rfl
theorem rising_Ts {k : Nat} (hk : 1 ≤ k) {xs : List (List Int)} (hl : xs.length ≤ 1000) : run tab k .is_rising [TT xs] = .ok (.bl (ris ltL xs)) := rising_run T ltL cmp_lt_T hk hl
end FC

/-! Lines, fields, games: what is_line, is_field, is_game tell of small things. -/
set_option autoImplicit false
set_option linter.all false
set_option maxRecDepth 100000
set_option maxHeartbeats 4000000
set_option Elab.async false
namespace FC
open PySem

mutual
/-- plain things, tuples not too long -/
def sm : D → Bool
  | .memo _ _ => false
  | .slv _ => false
  | .scr _ => false
  | .tup xs => decide (xs.length ≤ 1000) && sms xs
  | .lst xs => sms xs
  | _ => true
def sms : List D → Bool
  | [] => true
  | x :: xs => sm x && sms xs
end
theorem sm_pl {d : D} (h : sm d = true) : pl d = true := by
  cases d with
  | memo _ _ => rw [sm] at h; cases h
  | slv _ => rw [sm] at h; cases h
  | scr _ => rw [sm] at h; cases h
  | _ => rfl
theorem sms_mem : ∀ {xs : List D}, sms xs = true → ∀ x ∈ xs, sm x = true
  | [], _, x, h => nomatch h
  | y :: ys, h, x, hx => by
    rw [sms, Bool.and_eq_true] at h
    rcases List.mem_cons.mp hx with rfl | hx
    · exact h.1
    · exact sms_mem h.2 x hx
theorem sms_of : ∀ {xs : List D}, (∀ x ∈ xs, sm x = true) → sms xs = true
  | [], _ => by rw [sms]
  | y :: ys, h => by
    rw [sms, h y List.mem_cons_self, sms_of fun x hx => h x (List.mem_cons_of_mem _ hx)]; rfl
theorem sm_int (i : Int) : sm (.int i) = true := by simp [sm]
theorem sm_T {xs : List Int} (h : xs.length ≤ 1000) : sm (T xs) = true := by
  rw [sm, decide_eq_true (by rw [List.length_map]; exact h), sms_of]
  · rfl
  · intro x hx
    obtain ⟨i, _, rfl⟩ := List.mem_map.mp hx
    exact sm_int i
theorem sm_TT {xs : List (List Int)} (h : xs.length ≤ 1000) (hx : ∀ x ∈ xs, x.length ≤ 1000) : sm (TT xs) = true := by
  rw [sm, decide_eq_true (by rw [List.length_map]; exact h), sms_of]
  · rfl
  · intro x hx'
    obtain ⟨i, hi, rfl⟩ := List.mem_map.mp hx'
    exact sm_T (hx i hi)
theorem sm_tup {xs : List D} (h : xs.length ≤ 1000) (hx : ∀ x ∈ xs, sm x = true) : sm (.tup xs) = true := by
  rw [sm, decide_eq_true h, sms_of hx]; rfl
theorem sm_Fd {n : Int} {ls : List (List Int)} (h : ls.length ≤ 1000) (hx : ∀ x ∈ ls, x.length ≤ 1000) : sm (Fd n ls) = true := sm_tup (by simp) fun x hx' => by
  simp only [List.mem_cons, List.mem_nil_iff, or_false] at hx'
  rcases hx' with rfl | rfl
  · exact sm_int n
  · exact sm_TT h hx

/-! ### lines -/
def lineB (many : Int) : D → Bool
  | .tup xs => !xs.isEmpty && (xs.all (isNum 0 (many - 1)) && match allInts xs with
    | some zs => ris ltI zs
    | none => false)
  | _ => false
theorem lineB_tup (many : Int) (xs : List D) : lineB many (.tup xs) = (!xs.isEmpty && (xs.all (isNum 0 (many - 1)) && match allInts xs with
    | some zs => ris ltI zs
    | none => false)) := rfl
theorem isNum_int {lo hi : Int} {d : D} (h : isNum lo hi d = true) : ∃ i, d = .int i ∧ lo ≤ i ∧ i ≤ hi := by
  cases d with
  | int i =>
    unfold isNum at h
    rw [Bool.and_eq_true, decide_eq_true_eq, decide_eq_true_eq] at h
    exact ⟨i, rfl, h.1, h.2⟩
  | _ => cases h
theorem all_num {lo hi : Int} {xs : List D} (h : xs.all (isNum lo hi) = true) : ∃ zs : List Int, xs = zs.map .int ∧ ∀ z ∈ zs, lo ≤ z ∧ z ≤ hi := by
  rw [List.all_eq_true] at h
  obtain ⟨zs, rfl⟩ := ints_of fun y hy => let ⟨i, e, _⟩ := isNum_int (h y hy); ⟨i, e⟩
  refine ⟨zs, rfl, fun z hz => ?_⟩
  obtain ⟨i, e, a, b⟩ := isNum_int (h _ (List.mem_map_of_mem hz))
  cases e
  exact ⟨a, b⟩
theorem run_line {k : Nat} (hk : 2 ≤ k) {d : D} {many : Int} (h : sm d = true) : run tab k .is_line [d, .int many] = .ok (.bl (lineB many d)) := by
  obtain ⟨k, rfl, hj⟩ := suc hk
  rw [run_code rfl rfl]
  cases d with
  | memo _ _ => rw [sm] at h; cases h
  | slv _ => rw [sm] at h; cases h
  | scr _ => rw [sm] at h; cases h
  | tup xs =>
    rw [sm, Bool.and_eq_true, decide_eq_true_eq] at h
    obtain ⟨h1, h2⟩ := h
    have h3 := sms_mem h2
    have lc : lcC (run tab k) [2] (.one 2) .nil c_is_line_1 [some (.tup xs), some (.int many), none] xs = .ok ((xs.map fun x => isNum 0 (many - 1) x).map .bl) := by
      have := lcC_map (F := run tab k) (own := [2]) (tg := .one 2) (ifs := .nil) (elt := c_is_line_1) (ρ := [some (.tup xs), some (.int many), none]) id (fun x => .bl (isNum 0 (many - 1) x)) xs fun x hx => by
        simp -implicitDefEqProofs [lcT, c_is_line_1, run_number hj (sm_pl (h3 x hx))]
      rw [List.map_id] at this
      rw [this, List.map_map]; rfl
    cases xs with
    | nil => simp -implicitDefEqProofs [d_is_line, start, lineB]
    | cons a r =>
      have hne : ¬ ((r.length : Int) + 1 = 0) := by omega
      have hall : ((a :: r).map fun x => isNum 0 (many - 1) x).all id = (a :: r).all (isNum 0 (many - 1)) := by rw [List.all_map]; rfl
      by_cases hn : (a :: r).all (isNum 0 (many - 1)) = true
      · obtain ⟨zs, e, _⟩ := all_num hn
        have hr : run tab k .is_rising [.tup (a :: r)] = .ok (.bl (ris ltI zs)) := by
          rw [e]
          exact rising_ints (by omega) (by rw [e, List.length_map] at h1; exact h1)
        have e2 : allInts (a :: r) = some zs := by rw [e]; exact allInts_ints zs
        have hb := bj_all ((a :: r).map fun x => isNum 0 (many - 1) x)
        rw [hall, hn] at hb
        rw [lineB_tup, hn, e2]
        simp -implicitDefEqProofs only [d_is_line, start, List.map_cons, List.map_nil, List.length_cons, List.length_nil, List.replicate, List.cons_append, List.nil_append, X_seq, X_ife, X_ret, X_skip, view_cons, view_nil, view_im, view_no, E_or, E_not, E_isi, E_var, List.getElem?_cons_zero, List.getElem?_cons_succ, isi_tup_tuple, Res.bind_ok, truthD_bl, E_cmp, E_bi, EL_cons, EL_nil, bj_len_tup, E_int, cmp_eq_int, Bool.not_true, if_false, Bool.false_eq_true, Int.natCast_add, Int.natCast_one, hne, decide_false, thenF_nx, E_and, E_lc, IT_cons, seqOf_tup, lc]
        simp -implicitDefEqProofs only [List.map_cons] at hb
        simp -implicitDefEqProofs only [List.map_cons, Res.bind_ok, hb, truthD_bl, if_true, E_call, EL_cons, EL_nil, E_var, List.getElem?_cons_zero, hr, thenF_rt, fin_rt]
        rfl
      · have hn : (a :: r).all (isNum 0 (many - 1)) = false := by simpa using hn
        have hb := bj_all ((a :: r).map fun x => isNum 0 (many - 1) x)
        rw [hall, hn] at hb
        rw [lineB_tup, hn]
        simp -implicitDefEqProofs only [d_is_line, start, List.map_cons, List.map_nil, List.length_cons, List.length_nil, List.replicate, List.cons_append, List.nil_append, X_seq, X_ife, X_ret, X_skip, view_cons, view_nil, view_im, view_no, E_or, E_not, E_isi, E_var, List.getElem?_cons_zero, List.getElem?_cons_succ, isi_tup_tuple, Res.bind_ok, truthD_bl, E_cmp, E_bi, EL_cons, EL_nil, bj_len_tup, E_int, cmp_eq_int, Bool.not_true, if_false, Bool.false_eq_true, Int.natCast_add, Int.natCast_one, hne, decide_false, thenF_nx, E_and, E_lc, IT_cons, seqOf_tup, lc]
        simp -implicitDefEqProofs only [List.map_cons] at hb
        simp -implicitDefEqProofs only [List.map_cons, Res.bind_ok, hb, truthD_bl, if_false, Bool.false_eq_true, thenF_rt, fin_rt, Bool.false_and, Bool.and_false]
  | _ => simp -implicitDefEqProofs [d_is_line, start, lineB]

/-! ### fields -/
def rowOf : D → Option (List Int)
  | .tup xs => allInts xs
  | _ => none
def fieldB : D → Bool
  | .tup [.int n, .tup ls] => isNum 1 9 (.int n) && (decide (ls.length ≤ 10) && (ls.all (lineB n) && match ls.mapM rowOf with
    | some zs => ris ltL zs
    | none => false))
  | _ => false
theorem line_row {n : Int} {d : D} (h : lineB n d = true) : ∃ zs : List Int, d = T zs ∧ zs ≠ [] ∧ (∀ z ∈ zs, 0 ≤ z ∧ z ≤ n - 1) ∧ ris ltI zs = true := by
  cases d with
  | tup xs =>
    unfold lineB at h
    rw [Bool.and_eq_true, Bool.and_eq_true] at h
    obtain ⟨h1, h2, h3⟩ := h
    obtain ⟨zs, rfl, h4⟩ := all_num h2
    rw [allInts_ints] at h3
    refine ⟨zs, rfl, ?_, h4, h3⟩
    rintro rfl
    cases h1
  | _ => cases h
theorem rowOf_T (zs : List Int) : rowOf (T zs) = some zs := allInts_ints zs
theorem mapM_T (zs : List (List Int)) : (zs.map T).mapM rowOf = some zs := by
  induction zs with
  | nil => rfl
  | cons x xs ih => rw [List.map_cons, List.mapM_cons, ih, rowOf_T]; rfl
theorem all_rows {n : Int} {xs : List D} (h : xs.all (lineB n) = true) : ∃ zs : List (List Int), xs = zs.map T ∧ ∀ z ∈ zs, lineB n (T z) = true := by
  rw [List.all_eq_true] at h
  induction xs with
  | nil => exact ⟨[], rfl, fun z hz => nomatch hz⟩
  | cons x xs ih =>
    obtain ⟨zs, rfl, h2⟩ := ih fun y hy => h y (List.mem_cons_of_mem _ hy)
    obtain ⟨z, rfl, _⟩ := line_row (h x List.mem_cons_self)
    exact ⟨z :: zs, rfl, fun y hy => by
      rcases List.mem_cons.mp hy with rfl | hy
      · exact h _ List.mem_cons_self
      · exact h2 y hy⟩
theorem isNum_no {lo hi : Int} {d : D} (h : ∀ i, d ≠ .int i) : isNum lo hi d = false := by
  cases d with
  | int i => exact absurd rfl (h i)
  | _ => rfl
theorem fieldB_tup (n : Int) (ls : List D) : fieldB (.tup [.int n, .tup ls]) = (isNum 1 9 (.int n) && (decide (ls.length ≤ 10) && (ls.all (lineB n) && match ls.mapM rowOf with
    | some zs => ris ltL zs
    | none => false))) := rfl
theorem run_is_field {k : Nat} (hk : 3 ≤ k) {d : D} (h : sm d = true) : run tab k .is_field [d] = .ok (.bl (fieldB d)) := by
  obtain ⟨k, rfl, hj⟩ := suc hk
  rw [run_code rfl rfl]
  cases d with
  | memo _ _ => rw [sm] at h; cases h
  | slv _ => rw [sm] at h; cases h
  | scr _ => rw [sm] at h; cases h
  | tup xs =>
    rw [sm, Bool.and_eq_true, decide_eq_true_eq] at h
    obtain ⟨h1, h2⟩ := h
    have h3 := sms_mem h2
    match xs, h1, h2, h3 with
    | [], _, _, _ => simp -implicitDefEqProofs [d_is_field, start, fieldB]
    | [_], _, _, _ => simp -implicitDefEqProofs [d_is_field, start, fieldB]
    | a :: b :: c :: r, _, _, _ =>
      have hne : ¬ ((r.length : Int) + 1 + 1 + 1 = 2) := by omega
      simp -implicitDefEqProofs [d_is_field, start, fieldB, hne]
    | [a, b], h1, h2, h3 =>
      have ha := h3 a List.mem_cons_self
      have hb := h3 b (List.mem_cons_of_mem _ List.mem_cons_self)
      have r1 := run_number (k := k) (by omega) (lo := 1) (hi := 9) (sm_pl ha)
      cases q : isNum 1 9 a with
      | false =>
        have e : fieldB (.tup [a, b]) = false := by
          cases a with
          | int n => cases b with
            | tup ls => rw [fieldB_tup, q]; rfl
            | _ => rfl
          | _ => rfl
        rw [e]
        rw [q] at r1
        simp -implicitDefEqProofs [d_is_field, start, r1]
      | true =>
        obtain ⟨n, rfl, n1, n2⟩ := isNum_int q
        rw [q] at r1
        cases b with
        | memo _ _ => rw [sm] at hb; cases hb
        | slv _ => rw [sm] at hb; cases hb
        | scr _ => rw [sm] at hb; cases hb
        | tup ls =>
          rw [fieldB_tup, q]
          rw [sm, Bool.and_eq_true, decide_eq_true_eq] at hb
          have hm := sms_mem hb.2
          by_cases hl : ls.length ≤ 10
          · have hl' : ¬ (10 < (ls.length : Int)) := by omega
            have lc : lcC (run tab k) [3] (.one 3) .nil c_is_field_1 [some (.tup [.int n, .tup ls]), some (.int n), some (.tup ls), none] ls = .ok ((ls.map fun x => lineB n x).map .bl) := by
              have := lcC_map (F := run tab k) (own := [3]) (tg := .one 3) (ifs := .nil) (elt := c_is_field_1) (ρ := [some (.tup [.int n, .tup ls]), some (.int n), some (.tup ls), none]) id (fun x => .bl (lineB n x)) ls fun x hx => by
                simp -implicitDefEqProofs [lcT, c_is_field_1, run_line (many := n) hj (hm x hx)]
              rw [List.map_id] at this
              rw [this, List.map_map]; rfl
            have hall : (ls.map fun x => lineB n x).all id = ls.all (lineB n) := by rw [List.all_map]; rfl
            have hb2 := bj_all (ls.map fun x => lineB n x)
            rw [decide_eq_true hl]
            cases hn : ls.all (lineB n) with
            | true =>
              rw [hall, hn] at hb2
              obtain ⟨zs, rfl, _⟩ := all_rows hn
              have hr := rising_Ts (k := k) (xs := zs) (by omega) (by rw [List.length_map] at hl; omega)
              rw [mapM_T]
              rw [List.length_map] at hl'
              simp -implicitDefEqProofs [-bj_all, -List.map_map, d_is_field, start, r1, lc, hb2, hr, hl']
            | false =>
              rw [hall, hn] at hb2
              simp -implicitDefEqProofs [-bj_all, -List.map_map, d_is_field, start, r1, lc, hb2, hl']
          · have hl' : 10 < (ls.length : Int) := by omega
            rw [decide_eq_false hl]
            simp -implicitDefEqProofs [d_is_field, start, r1, hl']
        | _ =>
          simp -implicitDefEqProofs [d_is_field, start, r1, fieldB]
  | _ => simp -implicitDefEqProofs [d_is_field, start, fieldB]
/-! ### games -/
def gameB : D → Bool
  | .tup [f, a, b, c] => fieldB f && (isNum 0 1 a && (isNum 1 3 b && isNum 1 3 c))
  | _ => false
theorem gameB_tup (f a b c : D) : gameB (.tup [f, a, b, c]) = (fieldB f && (isNum 0 1 a && (isNum 1 3 b && isNum 1 3 c))) := rfl
theorem run_is_game {k : Nat} (hk : 4 ≤ k) {d : D} (h : sm d = true) : run tab k .is_game [d] = .ok (.bl (gameB d)) := by
  obtain ⟨k, rfl, hj⟩ := suc hk
  rw [run_code rfl rfl]
  cases d with
  | memo _ _ => rw [sm] at h; cases h
  | slv _ => rw [sm] at h; cases h
  | scr _ => rw [sm] at h; cases h
  | tup xs =>
    rw [sm, Bool.and_eq_true, decide_eq_true_eq] at h
    obtain ⟨h1, h2⟩ := h
    have h3 := sms_mem h2
    match xs, h1, h2, h3 with
    | [], _, _, _ => simp -implicitDefEqProofs [d_is_game, start, gameB]
    | [_], _, _, _ => simp -implicitDefEqProofs [d_is_game, start, gameB]
    | [_, _], _, _, _ => simp -implicitDefEqProofs [d_is_game, start, gameB]
    | [_, _, _], _, _, _ => simp -implicitDefEqProofs [d_is_game, start, gameB]
    | a :: b :: c :: d :: e :: r, _, _, _ =>
      have hne : ¬ ((r.length : Int) + 1 + 1 + 1 + 1 + 1 = 4) := by omega
      simp -implicitDefEqProofs [d_is_game, start, gameB, hne]
    | [f, a, b, c], h1, h2, h3 =>
      have hf := h3 f (by simp)
      have r0 := run_is_field (k := k) (by omega) hf
      have ra := run_number (k := k) (by omega) (lo := 0) (hi := 1) (sm_pl (h3 a (by simp)))
      have rb := run_number (k := k) (by omega) (lo := 1) (hi := 3) (sm_pl (h3 b (by simp)))
      have rc := run_number (k := k) (by omega) (lo := 1) (hi := 3) (sm_pl (h3 c (by simp)))
      rw [gameB_tup]
      cases q0 : fieldB f with
      | false =>
        rw [q0] at r0
        simp -implicitDefEqProofs [d_is_game, start, r0]
      | true =>
        rw [q0] at r0
        cases q1 : isNum 0 1 a with
        | false =>
          rw [q1] at ra
          simp -implicitDefEqProofs [d_is_game, start, r0, ra]
        | true =>
          rw [q1] at ra
          cases q2 : isNum 1 3 b with
          | false =>
            rw [q2] at rb
            simp -implicitDefEqProofs [d_is_game, start, r0, ra, rb]
          | true =>
            rw [q2] at rb
            simp -implicitDefEqProofs [d_is_game, start, r0, ra, rb, rc]
  | _ => simp -implicitDefEqProofs [d_is_game, start, gameB]
/-! ### what holds of valid ones -/
theorem ltI_tr (a b c : Int) (h1 : ltI a b = true) (h2 : ltI b c = true) : ltI a c = true := by
  unfold ltI at *
  simp only [decide_eq_true_eq] at *
  omega
theorem ltL_tr (a b c : List Int) (h1 : ltL a b = true) (h2 : ltL b c = true) : ltL a c = true := by
  unfold ltL at *
  simp only [decide_eq_true_eq] at *
  exact Std.lt_trans h1 h2
theorem ris_up {xs : List Int} : ris ltI xs = true ↔ xs.Pairwise (· < ·) := by
  rw [ris_pair ltI_tr]
  exact ⟨fun h => h.imp fun q => of_decide_eq_true q, fun h => h.imp fun q => decide_eq_true q⟩
theorem ris_upL {xs : List (List Int)} : ris ltL xs = true ↔ xs.Pairwise (· < ·) := by
  rw [ris_pair ltL_tr]
  exact ⟨fun h => h.imp fun q => of_decide_eq_true q, fun h => h.imp fun q => decide_eq_true q⟩
theorem lineB_T {n : Int} {zs : List Int} : lineB n (T zs) = true ↔ zs ≠ [] ∧ (∀ z ∈ zs, 0 ≤ z ∧ z < n) ∧ zs.Pairwise (· < ·) := by
  rw [lineB_tup, allInts_ints, Bool.and_eq_true, Bool.and_eq_true, List.all_map, List.all_eq_true, ris_up]
  constructor
  · rintro ⟨h1, h2, h3⟩
    refine ⟨fun e => (by rw [e] at h1; cases h1), fun z hz => ?_, h3⟩
    obtain ⟨i, e, a, b⟩ := isNum_int (h2 z hz)
    cases e
    omega
  · rintro ⟨h1, h2, h3⟩
    refine ⟨?_, fun z hz => ?_, h3⟩
    · cases zs with
      | nil => exact absurd rfl h1
      | cons _ _ => rfl
    · have := h2 z hz
      show (decide (0 ≤ z) && decide (z ≤ n - 1)) = true
      rw [decide_eq_true this.1, decide_eq_true (by omega)]; rfl
theorem fieldB_ok {n : Int} {ls : List (List Int)} (h : FieldOk n ls) : fieldB (Fd n ls) = true := by
  have e : fieldB (Fd n ls) = _ := fieldB_tup n (ls.map T)
  rw [e, mapM_T, Bool.and_eq_true, Bool.and_eq_true, Bool.and_eq_true, decide_eq_true_eq, List.length_map, ris_upL, List.all_eq_true]
  refine ⟨?_, h.len, fun x hx => ?_, h.up⟩
  · show (decide (1 ≤ n) && decide (n ≤ 9)) = true
    rw [decide_eq_true h.lo, decide_eq_true h.hi]; rfl
  · obtain ⟨l, hl, rfl⟩ := List.mem_map.mp hx
    have q := h.ln l hl
    exact lineB_T.mpr ⟨q.ne, fun z hz => ⟨q.lo z hz, q.hi z hz⟩, q.up⟩
theorem FieldOk.sm {n : Int} {ls : List (List Int)} (h : FieldOk n ls) : sm (Fd n ls) = true := sm_Fd (by have := h.len; omega) fun l hl => by have := (h.ln l hl).len; omega
end FC

/-! Weights and reduced fractions. -/
set_option autoImplicit false
set_option linter.all false
set_option maxRecDepth 100000
set_option maxHeartbeats 4000000
set_option Elab.async false
namespace FC
open PySem

abbrev N (n : Nat) : D := .int (n : Int)
/-! ### Euclid -/
theorem whl_stop {F : Fn → List D → Res D} {t : C} {b : S} {n : Nat} {ρ : Env} (h : (E F t (view ρ)).bind truthD = .ok false) : whlC F t b (n + 1) ρ = .ok (.nx ρ) := by
  unfold whlC
  rw [whileN, h]; rfl
theorem whl_go {F : Fn → List D → Res D} {t : C} {b : S} {n : Nat} {ρ ρ' : Env} (h : (E F t (view ρ)).bind truthD = .ok true) (h2 : exec F b ρ = .ok (.nx ρ')) : whlC F t b (n + 1) ρ = whlC F t b n ρ' := by
  unfold whlC
  rw [whileN, h, Res.bind_ok, if_pos rfl, h2]; rfl
theorem mod_half {a b : Nat} (h : b ≤ a) (hb : 0 < b) : 2 * (b * (a % b)) ≤ a * b := by
  have h1 : a % b < b := Nat.mod_lt _ hb
  have h2 : b * (a / b) + a % b = a := Nat.div_add_mod a b
  have h3 : 1 ≤ a / b := (Nat.one_le_div_iff hb).mpr h
  have h4 : b * 1 ≤ b * (a / b) := Nat.mul_le_mul_left b h3
  have h5 : 2 * (a % b) ≤ a := by omega
  calc 2 * (b * (a % b)) = (2 * (a % b)) * b := by rw [Nat.mul_comm b, Nat.mul_assoc]
    _ ≤ a * b := Nat.mul_le_mul_right b h5
/-- a loop of Euclid's, in any two slots -/
theorem euclid {F : Fn → List D → Res D} {t : C} {b : S} {P : Nat → Nat → Env → Prop} (h0 : ∀ x y ρ, P x y ρ → (E F t (view ρ)).bind truthD = .ok (decide (0 < y)))
    (hs : ∀ x y ρ, P x y ρ → 0 < y → ∃ ρ', exec F b ρ = .ok (.nx ρ') ∧ P y (x % y) ρ') : ∀ (n x y : Nat) (ρ : Env) (m : Nat), P x y ρ → y ≤ x → x * y < 2 ^ n → n + 1 ≤ m → ∃ ρ', whlC F t b m ρ = .ok (.nx ρ') ∧ P (Nat.gcd x y) 0 ρ'
  | n, x, 0, ρ, m, hp, _, _, hm => by
    obtain ⟨m, rfl, _⟩ := suc hm
    exact ⟨ρ, whl_stop (h0 x 0 ρ hp), by rw [Nat.gcd_zero_right]; exact hp⟩
  | 0, x, y + 1, ρ, m, hp, hy, hx, hm => by
    have : 1 * 1 ≤ x * (y + 1) := Nat.mul_le_mul (by omega) (by omega)
    omega
  | n + 1, x, y + 1, ρ, m, hp, hy, hx, hm => by
    obtain ⟨m, rfl, hj⟩ := suc hm
    obtain ⟨ρ1, e1, p1⟩ := hs x (y + 1) ρ hp (by omega)
    have hh := mod_half hy (by omega)
    rw [Nat.pow_succ] at hx
    obtain ⟨ρ2, e2, p2⟩ := euclid h0 hs n (y + 1) (x % (y + 1)) ρ1 m p1 (Nat.le_of_lt (Nat.mod_lt _ (by omega))) (by omega) hj
    refine ⟨ρ2, by rw [whl_go (by rw [h0 x (y + 1) ρ hp]; simp) e1]; exact e2, ?_⟩
    rw [Nat.gcd_comm x, Nat.gcd_rec, Nat.gcd_comm]; exact p2
theorem euclid2 {F : Fn → List D → Res D} {t : C} {b : S} {P : Nat → Nat → Env → Prop} (h0 : ∀ x y ρ, P x y ρ → (E F t (view ρ)).bind truthD = .ok (decide (0 < y)))
    (hs : ∀ x y ρ, P x y ρ → 0 < y → ∃ ρ', exec F b ρ = .ok (.nx ρ') ∧ P y (x % y) ρ') {n x y : Nat} {ρ : Env} {m : Nat} (hp : P x y ρ) (hx : y * y < 2 ^ n) (hm : n + 2 ≤ m) : ∃ ρ', whlC F t b m ρ = .ok (.nx ρ') ∧ P (Nat.gcd x y) 0 ρ' := by
  obtain ⟨m, rfl, hj⟩ := suc hm
  cases y with
  | zero => exact ⟨ρ, whl_stop (h0 x 0 ρ hp), by rw [Nat.gcd_zero_right]; exact hp⟩
  | succ y =>
    obtain ⟨ρ1, e1, p1⟩ := hs x (y + 1) ρ hp (by omega)
    have hl : x % (y + 1) < y + 1 := Nat.mod_lt _ (by omega)
    obtain ⟨ρ2, e2, p2⟩ := euclid h0 hs n (y + 1) (x % (y + 1)) ρ1 m p1 (Nat.le_of_lt hl) (Nat.lt_of_le_of_lt (Nat.mul_le_mul_left _ (Nat.le_of_lt hl)) hx) hj
    refine ⟨ρ2, by rw [whl_go (by rw [h0 x (y + 1) ρ hp]; simp) e1]; exact e2, ?_⟩
    rw [Nat.gcd_comm x, Nat.gcd_rec, Nat.gcd_comm]; exact p2
theorem mod_N {a b : Nat} (h : 0 < b) : binD .mod (N a) (N b) = .ok (N (a % b)) := by
  rw [bin_mod (by omega), ← Int.natCast_emod]
theorem fdiv_N {a b : Nat} (h : 0 < b) (h2 : b < 1000000000000000000000000000000) : binD .fdiv (N a) (N b) = .ok (N (a / b)) := by
  rw [bin_fdiv (by omega) (by omega), ← Int.natCast_ediv]
theorem run_common {k : Nat} (hk : 1 ≤ k) {x y : Nat} (hy : y * y < 2 ^ 200) : run tab k .common [N x, N y] = .ok (N (Nat.gcd x y)) := by
  obtain ⟨k, rfl, hj⟩ := suc hk
  obtain ⟨ρ', e, rfl⟩ := euclid2 (F := run tab k) (t := c_common_1) (b := b_common_1) (P := fun x y ρ => ρ = [.im (N x), .im (N y)])
    (fun x y ρ h => by subst h; simp -implicitDefEqProofs [c_common_1, Nat.pos_iff_ne_zero]) (fun x y ρ h hy => by subst h; exact ⟨_, by simp -implicitDefEqProofs [b_common_1, mod_N hy], rfl⟩) (n := 200) (x := x) (y := y) (m := 1000) rfl hy (by decide)
  rw [run_code rfl rfl]
  simp -implicitDefEqProofs [d_common, start, e]
/-- a fraction in its lowest terms -/
def frac (u l : Nat) : Nat × Nat := (u / Nat.gcd u l, l / Nat.gcd u l)
abbrev Fr (q : Nat × Nat) : D := .tup [N q.1, N q.2]
theorem frac_eq {u l p w : Nat} (hl : 0 < l) (hw : 0 < w) (h : u * w = p * l) : frac u l = frac p w := by
  have g1 : Nat.gcd (u * w) (l * w) = Nat.gcd u l * w := Nat.gcd_mul_right u w l
  have g2 : Nat.gcd (p * l) (w * l) = Nat.gcd p w * l := Nat.gcd_mul_right p l w
  have a1 : u * w / (Nat.gcd u l * w) = u / Nat.gcd u l := Nat.mul_div_mul_right _ _ hw
  have a2 : p * l / (Nat.gcd p w * l) = p / Nat.gcd p w := Nat.mul_div_mul_right _ _ hl
  have b1 : l * w / (Nat.gcd u l * w) = l / Nat.gcd u l := Nat.mul_div_mul_right _ _ hw
  have b2 : w * l / (Nat.gcd p w * l) = w / Nat.gcd p w := Nat.mul_div_mul_right _ _ hl
  have e : Nat.gcd u l * w = Nat.gcd p w * l := by rw [← g1, ← g2, h, Nat.mul_comm l w]
  unfold frac
  rw [← a1, ← a2, ← b1, ← b2, e, h, Nat.mul_comm l w]
theorem run_l_fraction {k : Nat} (hk : 1 ≤ k) {x y : Nat} (h0 : 0 < y) (hy : y < 2 ^ 90) : run tab k .l_fraction [N x, N y] = .ok (Fr (frac x y)) := by
  obtain ⟨k, rfl, hj⟩ := suc hk
  have hyy : y * y < 2 ^ 180 := by
    calc y * y < 2 ^ 90 * 2 ^ 90 := Nat.mul_lt_mul'' hy hy
      _ = 2 ^ 180 := by decide
  obtain ⟨ρ', e, rfl⟩ := euclid2 (F := run tab k) (t := c_l_fraction_1) (b := b_l_fraction_1) (P := fun u v ρ => ρ = [.im (N x), .im (N y), .im (N u), .im (N v)])
    (fun x y ρ h => by subst h; simp -implicitDefEqProofs [c_l_fraction_1]) (fun x y ρ h hy => by subst h; exact ⟨_, by simp -implicitDefEqProofs [b_l_fraction_1, mod_N hy], rfl⟩) (n := 180) (x := x) (y := y) (m := 1000) rfl hyy (by decide)
  have hg : 0 < Nat.gcd x y := Nat.gcd_pos_of_pos_right _ h0
  have hg2 : Nat.gcd x y < 1000000000000000000000000000000 := Nat.lt_of_le_of_lt (Nat.gcd_le_right x h0) (Nat.lt_trans hy (by decide))
  rw [run_code rfl rfl]
  simp -implicitDefEqProofs [d_l_fraction, start, e, fdiv_N hg hg2, frac]
/-! ### powers -/
theorem run_power {k : Nat} (hk : 1 ≤ k) {b n : Nat} (hb : b ≤ 1000) (hn : n ≤ 1000) : run tab k .power [N b, N n] = .ok (N (b ^ n)) := by
  obtain ⟨k, rfl, hj⟩ := suc hk
  have r := rngD_zero (n := (n : Int)) (by omega) (by omega)
  have hs : small64 (b : Int) = true := small_of (by omega) (by omega)
  obtain ⟨ρ', e, s, rfl⟩ := forC_pre (F := run tab k) (tg := .one 3) (b := b_power_1) D.int (fun (pre : List Int) ρ => ∃ s : Sl, ρ = [.im (N b), .im (N n), .im (N (b ^ pre.length)), s]) (rgI n)
    [.im (N b), .im (N n), .im (N 1), .no] ⟨.no, rfl⟩ (fun pre post i ρ e hi => by
      obtain ⟨s, rfl⟩ := hi
      refine ⟨_, ?_, .im (.int i), rfl⟩
      simp -implicitDefEqProofs [b_power_1, bin_mul hs, Nat.pow_succ])
  rw [rgI_length] at e
  rw [run_code rfl rfl]
  rw [Int.toNat_natCast] at r
  simp -implicitDefEqProofs [d_power, start, r]
  rw [show (Sl.im (.int 1) : Sl) = .im (N 1) from rfl, e]
  simp -implicitDefEqProofs
end FC

/-! Weights: what the module and the law compute. -/
set_option autoImplicit false
set_option linter.all false
set_option maxRecDepth 100000
set_option maxHeartbeats 4000000
set_option Elab.async false
namespace FC
open PySem

def blk (y l : List Int) : Bool := l.any fun p => decide (p ∈ y)
def opn (m l : List Int) : Nat := (l.filter fun p => decide (p ∉ m)).length
def Wn (g : Nat) (m y l : List Int) : Nat := if blk y l then 0 else (g + 1) ^ (20 - opn m l)
def Pn (g : Nat) (m y : List Int) (ls : List (List Int)) : Nat := (ls.map (Wn g m y)).sum
theorem opn_le {m l : List Int} : opn m l ≤ l.length := List.length_filter_le _ _
theorem any_bls {α : Type} (f : α → Bool) (xs : List α) : biD .any [.lst (xs.map fun x => D.bl (f x))] = .ok (.bl (xs.any f)) := by
  have := bj_any (xs.map f)
  rw [List.map_map, List.any_map] at this
  exact this
theorem run_weight {k : Nat} (hk : 2 ≤ k) {g : Nat} (hg : g ≤ 3) {m y l : List Int} (hl : l.length ≤ 4) : run tab k .weight [T l, N g, T m, T y] = .ok (N (Wn g m y l)) := by
  obtain ⟨k, rfl, hj⟩ := suc hk
  have a1 := lcC_map (F := run tab k) (own := [4]) (tg := .one 4) (ifs := .nil) (elt := c_weight_1) (ρ := [some (T l), some (N g), some (T m), some (T y), none]) D.int (fun p => D.bl (decide (p ∈ y))) l
    (fun p hp => by simp -implicitDefEqProofs [lcT, c_weight_1])
  have a2 := lcC_filter (F := run tab k) (own := [4]) (tg := .one 4) (ifs := c_weight_2) (elt := c_weight_3) (ρ := [some (T l), some (N g), some (T m), some (T y), none]) D.int (fun p => decide (p ∉ m)) D.int l
    (fun p hp => by by_cases h : p ∈ m <;> simp -implicitDefEqProofs [lcT, c_weight_2, c_weight_3, h])
  have hlen : (l.filter fun p => decide (p ∉ m)).length ≤ 4 := Nat.le_trans opn_le hl
  have e20 : (20 : Int) - ((l.filter fun p => decide (p ∉ m)).length : Int) = ((20 - opn m l : Nat) : Int) := by
    unfold opn
    omega
  have e1 : (g : Int) + 1 = ((g + 1 : Nat) : Int) := by omega
  have r := run_power (k := k) (by omega) (b := g + 1) (n := 20 - opn m l) (by omega) (by omega)
  rw [run_code rfl rfl]
  cases hb : blk y l with
  | true =>
    have hb' := hb
    unfold blk at hb'
    simp -implicitDefEqProofs [d_weight, start, a1, any_bls, hb', Wn, hb]
  | false =>
    have hb' := hb
    unfold blk at hb'
    simp -implicitDefEqProofs only [d_weight, start, a1, any_bls, hb', Wn, hb, a2, e20, e1, r, X_seq, X_ife, X_ret, X_skip, E_bi, EL_cons, EL_nil, E_lc, IT_cons, E_var, E_call, E_bin, E_int, Res.bind_ok, List.map, List.replicate, List.append, view_cons, view_nil, view_im, view_no, List.getElem?_cons_zero, List.getElem?_cons_succ, seqOf_tup, truthD_bl, thenF_nx, thenF_rt, fin_rt, bj_len_lst, List.length_map, bin_add, bin_sub, Bool.false_eq_true, if_false, List.length_cons, List.length_nil, Nat.sub, List.cons_append, List.nil_append]
theorem sum_N : ∀ (xs : List Nat), (xs.map fun x : Nat => (x : Int)).sum = ((xs.sum : Nat) : Int)
  | [] => rfl
  | x :: xs => by rw [List.map_cons, List.sum_cons, List.sum_cons, sum_N xs]; omega
/-- lines that have a point; every line, without one -/
def selL (p : Option Int) (ls : List (List Int)) : List (List Int) := match p with
  | none => ls
  | some p => ls.filter fun l => decide (p ∈ l)
def oD : Option Int → D
  | none => .non
  | some p => .int p
theorem run_parts {k : Nat} (hk : 3 ≤ k) {g : Nat} (hg : g ≤ 3) {n : Int} {m y : List Int} {ls : List (List Int)} (hl : ∀ l ∈ ls, l.length ≤ 4) (p : Option Int) : run tab k .parts [Fd n ls, N g, T m, T y, oD p] = .ok (N (Pn g m y (selL p ls))) := by
  obtain ⟨k, rfl, hj⟩ := suc hk
  have a1 : lcC (run tab k) [6] (.one 6) c_parts_1 c_parts_2 [some (Fd n ls), some (N g), some (T m), some (T y), some (oD p), none, none] (ls.map T) = .ok ((selL p ls).map T) := by
    cases p with
    | none =>
      have := lcC_filter (F := run tab k) (own := [6]) (tg := .one 6) (ifs := c_parts_1) (elt := c_parts_2) (ρ := [some (Fd n ls), some (N g), some (T m), some (T y), some .non, none, none]) T (fun p => true) T ls
        (fun l hl => by simp -implicitDefEqProofs [lcT, c_parts_1, c_parts_2])
      rw [List.filter_eq_self.mpr fun _ _ => rfl] at this
      exact this
    | some p =>
      exact lcC_filter (F := run tab k) (own := [6]) (tg := .one 6) (ifs := c_parts_1) (elt := c_parts_2) (ρ := [some (Fd n ls), some (N g), some (T m), some (T y), some (.int p), none, none]) T (fun l => decide (p ∈ l)) T ls
        (fun l hl => by by_cases h : p ∈ l <;> simp -implicitDefEqProofs [lcT, c_parts_1, c_parts_2, h])
  have hl2 : ∀ l ∈ selL p ls, l.length ≤ 4 := fun l h => by
    cases p with
    | none => exact hl l h
    | some p => exact hl l (List.mem_filter.mp h).1
  have a2 := lcC_map (F := run tab k) (own := [6]) (tg := .one 6) (ifs := .nil) (elt := c_parts_3) (ρ := [some (Fd n ls), some (N g), some (T m), some (T y), some (oD p), some (.lst ((selL p ls).map T)), none]) T (fun l => N (Wn g m y l)) (selL p ls)
    (fun l h => by
      have r := run_weight (k := k) hj hg (m := m) (y := y) (hl2 l h)
      simp -implicitDefEqProofs [lcT, c_parts_3, r])
  have e : (selL p ls).map (fun l => N (Wn g m y l)) = (((selL p ls).map (Wn g m y)).map fun x : Nat => (x : Int)).map D.int := by
    rw [List.map_map, List.map_map]; rfl
  rw [e] at a2
  rw [run_code rfl rfl]
  simp -implicitDefEqProofs [d_parts, start, a1]
  rw [a2]
  simp -implicitDefEqProofs only [Res.bind_ok, bj_sum, sum_N, fin_rt]
  rfl
/-! ### fractions -/
def Wh (g : Nat) : Nat := (g + 1) ^ 20
theorem Wh_pos {g : Nat} : 0 < Wh g := Nat.pow_pos (by omega)
theorem Wh_le {g : Nat} (h : g ≤ 3) : Wh g ≤ 4 ^ 20 := Nat.pow_le_pow_left (by omega) 20
theorem Wn_le {g : Nat} {m y l : List Int} : Wn g m y l ≤ Wh g := by
  unfold Wn Wh
  split
  · exact Nat.zero_le _
  · exact Nat.pow_le_pow_right (by omega) (Nat.sub_le _ _)
theorem Pn_le {g : Nat} {m y : List Int} : ∀ (ls : List (List Int)), Pn g m y ls ≤ ls.length * Wh g
  | [] => Nat.zero_le _
  | l :: ls => by
    have := Pn_le (g := g) (m := m) (y := y) ls
    have h2 := Wn_le (g := g) (m := m) (y := y) (l := l)
    unfold Pn at this ⊢
    rw [List.map_cons, List.sum_cons, List.length_cons, Nat.succ_mul]
    omega
theorem run_as_fraction {k : Nat} (hk : 2 ≤ k) {g p : Nat} (hg : g ≤ 3) (hp : p ≤ 10 * 4 ^ 20) : run tab k .as_fraction [N p, N g] = .ok (Fr (frac p (Wh g))) := by
  obtain ⟨k, rfl, hj⟩ := suc hk
  have e1 : (g : Int) + 1 = ((g + 1 : Nat) : Int) := by omega
  have r := run_power (k := k) (by omega) (b := g + 1) (n := 20) (by omega) (by omega)
  have r2 := run_common (k := k) (by omega) (x := Wh g) (y := p) (Nat.lt_of_le_of_lt (Nat.mul_le_mul hp hp) (by decide))
  have hg1 : 0 < Nat.gcd (Wh g) p := Nat.gcd_pos_of_pos_left _ Wh_pos
  have hg2 : Nat.gcd (Wh g) p < 1000000000000000000000000000000 := Nat.lt_of_le_of_lt (Nat.gcd_le_left p Wh_pos) (Nat.lt_of_le_of_lt (Wh_le hg) (by decide))
  have f1 := fdiv_N (a := p) hg1 hg2
  have f2 := fdiv_N (a := Wh g) hg1 hg2
  rw [show (g + 1) ^ 20 = Wh g from rfl] at r
  have r : run tab k .power [.int ((g + 1 : Nat) : Int), .int 20] = .ok (N (Wh g)) := r
  rw [run_code rfl rfl]
  simp -implicitDefEqProofs only [d_as_fraction, start, X_seq, X_asg, X_ret, X_skip, E_call, EL_cons, EL_nil, E_var, E_bin, E_int, E_tup, Res.bind_ok, strict_cons, strict_nil, strict_im, strict_no, view_cons, view_nil, view_im, view_no, List.getElem?_cons_zero, List.getElem?_cons_succ, List.map, List.replicate, List.length_cons, List.length_nil, bin_add, e1, r, thenF_nx, thenF_rt, fin_rt, List.set_cons_zero, List.set_cons_succ, List.cons_append, List.nil_append, r2, f1, f2]
  rw [mkT_small (by show 2 ≤ 1000; decide)]
  simp -implicitDefEqProofs only [Res.bind_ok, thenF_rt, fin_rt, frac, Nat.gcd_comm]
theorem run_pull {k : Nat} (hk : 4 ≤ k) {g : Nat} (hg : g ≤ 3) {n : Int} {m y : List Int} {ls : List (List Int)} (hl : ∀ l ∈ ls, l.length ≤ 4) (hn : ls.length ≤ 10) (p : Int) : run tab k .pull [Fd n ls, N g, T m, T y, .int p] = .ok (Fr (frac (Pn g m y (selL (some p) ls)) (Wh g))) := by
  obtain ⟨k, rfl, hj⟩ := suc hk
  have r := run_parts (k := k) hj hg (n := n) (m := m) (y := y) hl (some p)
  have hs : (selL (some p) ls).length ≤ 10 := Nat.le_trans (List.length_filter_le _ _) hn
  have r2 := run_as_fraction (k := k) (by omega) hg (Nat.le_trans (Pn_le (g := g) (m := m) (y := y) (selL (some p) ls)) (Nat.mul_le_mul hs (Wh_le hg)))
  rw [run_code rfl rfl]
  simp -implicitDefEqProofs only [oD] at r
  simp -implicitDefEqProofs [d_pull, start, r, r2]
theorem run_danger {k : Nat} (hk : 4 ≤ k) {g : Nat} (hg : g ≤ 3) {n : Int} {m y : List Int} {ls : List (List Int)} (hl : ∀ l ∈ ls, l.length ≤ 4) (hn : ls.length ≤ 10) : run tab k .danger [Fd n ls, N g, T m, T y] = .ok (Fr (frac (Pn g m y ls) (Wh g))) := by
  obtain ⟨k, rfl, hj⟩ := suc hk
  have r := run_parts (k := k) hj hg (n := n) (m := m) (y := y) hl none
  have r2 := run_as_fraction (k := k) (by omega) hg (Nat.le_trans (Pn_le (g := g) (m := m) (y := y) ls) (Nat.mul_le_mul hn (Wh_le hg)))
  rw [run_code rfl rfl]
  simp -implicitDefEqProofs only [oD, selL] at r
  simp -implicitDefEqProofs [d_danger, start, r, r2]
/-! ### the law's own -/
theorem run_l_weights {k : Nat} (hk : 2 ≤ k) {g : Nat} (hg : g ≤ 3) {m y : List Int} {ls : List (List Int)} (hl : ∀ l ∈ ls, l.length ≤ 4) (hn : ls.length ≤ 10) : run tab k .l_weights [.lst (ls.map T), N g, T m, T y] = .ok (Fr (frac (Pn g m y ls) (Wh g))) ∧
    run tab k .l_weights [.tup (ls.map T), N g, T m, T y] = .ok (Fr (frac (Pn g m y ls) (Wh g))) := by
  obtain ⟨k, rfl, hj⟩ := suc hk
  have main : ∀ d0 : D, ∃ (u lo : Nat) (s6 s7 s8 : Sl), forC (run tab k) (.one 6) b_l_weights_2 (ls.map T) [.im d0, .im (N g), .im (T m), .im (T y), .im (.int 0), .im (.int 1), .no, .no, .no] = .ok (.nx [.im d0, .im (N g), .im (T m), .im (T y), .im (N u), .im (N lo), s6, s7, s8]) ∧
      0 < lo ∧ lo ≤ 256 ^ ls.length ∧ u * Wh g = Pn g m y ls * lo := by
    intro d0
    obtain ⟨ρ', e, u, lo, s6, s7, s8, h1, h2, h3, rfl⟩ := forC_pre (F := run tab k) (tg := .one 6) (b := b_l_weights_2) T (fun pre ρ => ∃ (u lo : Nat) (s6 s7 s8 : Sl), 0 < lo ∧ lo ≤ 256 ^ pre.length ∧ u * Wh g = Pn g m y pre * lo ∧
        ρ = [.im d0, .im (N g), .im (T m), .im (T y), .im (N u), .im (N lo), s6, s7, s8]) ls [.im d0, .im (N g), .im (T m), .im (T y), .im (.int 0), .im (.int 1), .no, .no, .no] ⟨0, 1, .no, .no, .no, by decide, by simp, by simp [Pn], rfl⟩
      (fun pre post l ρ e hi => by
        obtain ⟨u, lo, s6, s7, s8, h1, h2, h3, rfl⟩ := hi
        have hl4 : l.length ≤ 4 := hl l (by rw [e]; simp)
        have a1 := fun s8 => lcC_filter (F := run tab k) (own := [7]) (tg := .one 7) (ifs := c_l_weights_1) (elt := c_l_weights_2) (ρ := [some d0, some (N g), some (T m), some (T y), some (N u), some (N lo), some (T l), s7.strict, s8]) D.int (fun p => decide (p ∈ y)) D.int l
          (fun p hp => by by_cases h : p ∈ y <;> simp -implicitDefEqProofs [lcT, c_l_weights_1, c_l_weights_2, h])
        have a1v := fun s8 => lcC_filter (F := run tab k) (own := [7]) (tg := .one 7) (ifs := c_l_weights_1) (elt := c_l_weights_2) (ρ := [some d0, some (N g), some (T m), some (T y), some (N u), some (N lo), some (T l), s7.view, s8]) D.int (fun p => decide (p ∈ y)) D.int l
          (fun p hp => by by_cases h : p ∈ y <;> simp -implicitDefEqProofs [lcT, c_l_weights_1, c_l_weights_2, h])
        have hPn : Pn g m y (pre ++ [l]) = Pn g m y pre + Wn g m y l := by
          unfold Pn
          rw [List.map_append, List.sum_append, List.map_singleton, List.sum_singleton]
        by_cases hb : blk y l = true
        · have hne : ((l.filter fun p => decide (p ∈ y)).isEmpty) = false := by
            unfold blk at hb
            rw [List.any_eq_true] at hb
            obtain ⟨p, hp, hq⟩ := hb
            rw [Bool.eq_false_iff]
            intro hh
            have := List.isEmpty_iff.mp hh
            have hm : p ∈ l.filter fun p => decide (p ∈ y) := List.mem_filter.mpr ⟨hp, hq⟩
            rw [this] at hm; cases hm
          refine ⟨[.im d0, .im (N g), .im (T m), .im (T y), .im (N u), .im (N lo), .im (T l), s7, s8], ?_, u, lo, _, _, _, h1, ?_, ?_, rfl⟩
          · simp -implicitDefEqProofs [b_l_weights_2, a1v, hne]
          · rw [List.length_append]
            exact Nat.le_trans h2 (Nat.pow_le_pow_right (by decide) (by omega))
          · rw [hPn, h3]
            simp [Wn, hb]
        · have hb : blk y l = false := Bool.eq_false_iff.mpr hb
          have hne : ((l.filter fun p => decide (p ∈ y)).isEmpty) = true := by
            rw [List.isEmpty_iff, List.filter_eq_nil_iff]
            intro p hp hq
            unfold blk at hb
            rw [List.any_eq_false] at hb
            exact hb p hp hq
          have hgs : small64 ((g : Int) + 1) = true := small_of (by omega) (by omega)
          obtain ⟨ρ2, e2, t7, rfl⟩ := forC_pre (F := run tab k) (tg := .one 7) (b := b_l_weights_1) D.int (fun pre ρ => ∃ (t7 : Sl), ρ = [.im d0, .im (N g), .im (T m), .im (T y), .im (N u), .im (N lo), .im (T l), t7, .im (N ((g + 1) ^ opn m pre))]) l
            [.im d0, .im (N g), .im (T m), .im (T y), .im (N u), .im (N lo), .im (T l), s7, .im (.int 1)] ⟨s7, rfl⟩ (fun pre post p ρ e hi => by
              obtain ⟨t7, rfl⟩ := hi
              refine ⟨_, ?_, .im (.int p), rfl⟩
              by_cases hp : p ∈ m
              · have : opn m (pre ++ [p]) = opn m pre := by simp [opn, List.filter_append, hp]
                rw [this]
                simp -implicitDefEqProofs [b_l_weights_1, hp]
              · have : opn m (pre ++ [p]) = opn m pre + 1 := by simp [opn, List.filter_append, hp]
                rw [this, Nat.pow_succ]
                simp -implicitDefEqProofs [b_l_weights_1, hp, bin_mul hgs])
          have ho : opn m l ≤ 4 := Nat.le_trans opn_le hl4
          have hby : (g + 1) ^ opn m l ≤ 256 := Nat.le_trans (Nat.pow_le_pow_left (show g + 1 ≤ 4 by omega) _) (Nat.le_trans (Nat.pow_le_pow_right (by decide) ho) (by decide))
          have hby0 : 0 < (g + 1) ^ opn m l := Nat.pow_pos (by omega)
          have hW : Wn g m y l * (g + 1) ^ opn m l = Wh g := by
            unfold Wn Wh
            rw [hb, if_neg Bool.false_ne_true, ← Nat.pow_add]
            rw [Nat.sub_add_cancel (Nat.le_trans ho (by decide))]
          generalize hbv : (g + 1) ^ opn m l = by_ at e2 hby hby0 hW
          have hbs : small64 (by_ : Int) = true := small_of (by omega) (by omega)
          refine ⟨[.im d0, .im (N g), .im (T m), .im (T y), .im (N (u * by_ + lo)), .im (N (lo * by_)), .im (T l), t7, .im (N by_)], ?_, u * by_ + lo, lo * by_, _, _, _, Nat.mul_pos h1 hby0, ?_, ?_, rfl⟩
          · simp -implicitDefEqProofs [b_l_weights_2, a1v, hne]
            simp -implicitDefEqProofs [e2, bin_mul hbs]
          · rw [List.length_append, List.length_singleton, Nat.pow_succ]
            exact Nat.mul_le_mul h2 hby
          · rw [hPn, Nat.add_mul, Nat.mul_right_comm, h3, ← hW, Nat.add_mul]
            rw [Nat.mul_assoc, Nat.mul_left_comm lo])
    exact ⟨u, lo, s6, s7, s8, e, h1, h2, h3⟩
  have fin1 : ∀ u lo : Nat, 0 < lo → lo ≤ 256 ^ ls.length → u * Wh g = Pn g m y ls * lo → run tab k .l_fraction [N u, N lo] = .ok (Fr (frac (Pn g m y ls) (Wh g))) := fun u lo h1 h2 h3 => by
    rw [← frac_eq h1 Wh_pos h3]
    exact run_l_fraction hj h1 (Nat.lt_of_le_of_lt (Nat.le_trans h2 (Nat.pow_le_pow_right (by decide) hn)) (by decide))
  constructor
  · obtain ⟨u, lo, s6, s7, s8, e, h1, h2, h3⟩ := main (.lst (ls.map T))
    have r := fin1 u lo h1 h2 h3
    rw [run_code rfl rfl]
    simp -implicitDefEqProofs [d_l_weights, start]
    simp -implicitDefEqProofs [e, r]
  · obtain ⟨u, lo, s6, s7, s8, e, h1, h2, h3⟩ := main (.tup (ls.map T))
    have r := fin1 u lo h1 h2 h3
    rw [run_code rfl rfl]
    simp -implicitDefEqProofs [d_l_weights, start]
    simp -implicitDefEqProofs [e, r]
end FC

/-! The heaviest points, and law 7. -/
set_option autoImplicit false
set_option linter.all false
set_option maxRecDepth 100000
set_option maxHeartbeats 4000000
set_option Elab.async false
namespace FC
open PySem

def frees (n : Int) (m y : List Int) : List Int := (rgI n.toNat).filter fun p => decide (p ∉ m) && decide (p ∉ y)
theorem run_free {k : Nat} (hk : 1 ≤ k) {n : Int} {ls : D} {m y : List Int} (h0 : 0 ≤ n) (hn : n ≤ 1000) : run tab k .free_points [.tup [.int n, ls], T m, T y] = .ok (.lst ((frees n m y).map .int)) := by
  obtain ⟨k, rfl, hj⟩ := suc hk
  have r := rngD_zero (n := n) (by omega) (by omega)
  have a := lcC_filter (F := run tab k) (own := [3]) (tg := .one 3) (ifs := c_free_points_1) (elt := c_free_points_2) (ρ := [some (.tup [.int n, ls]), some (T m), some (T y), none]) D.int (fun p => decide (p ∉ m) && decide (p ∉ y)) D.int (rgI n.toNat)
    (fun p hp => by by_cases h1 : p ∈ m <;> by_cases h2 : p ∈ y <;> simp -implicitDefEqProofs [lcT, c_free_points_1, c_free_points_2, h1, h2])
  rw [run_code rfl rfl]
  simp -implicitDefEqProofs [d_free_points, start, r, a, frees]
theorem frees_len {n : Int} {m y : List Int} (h0 : 0 ≤ n) : ((frees n m y).length : Int) ≤ n := by
  have : (frees n m y).length ≤ (rgI n.toNat).length := List.length_filter_le _ _
  rw [rgI_length] at this
  omega
/-! ### the first of the greatest -/
def amF (f : Int → Nat) (b : Option Int) (xs : List Int) : Option Int := xs.foldl (fun b x => match b with
  | none => some x
  | some y => if f y < f x then some x else some y) b
def mx (xs : List Int) (n : Int) : Int := xs.foldl (fun a b => if b > a then b else a) n
theorem am_idx (f : Int → Nat) : ∀ (xs : List Int) (y : Int), ∃ z, amF f (some y) xs = some z ∧ mx (xs.map fun p => (f p : Int)) (f y) = (f z : Int) ∧ f y ≤ f z ∧ (z = y ∨ (f y < f z ∧ ∃ j : Nat, xs[j]? = some z ∧ ∀ k, indexL (xs.map fun p => N (f p)) (N (f z)) k = some (k + j)))
  | [], y => ⟨y, rfl, rfl, Nat.le_refl _, .inl rfl⟩
  | x :: xs, y => by
    by_cases h : f y < f x
    · obtain ⟨z, a1, a2, a3, a4⟩ := am_idx f xs x
      have hi : ((f x : Int) > (f y : Int)) := by omega
      refine ⟨z, by rw [amF, List.foldl_cons]; simp only [h, if_true]; exact a1, by rw [List.map_cons, mx, List.foldl_cons, if_pos hi]; exact a2, by omega, .inr ⟨by omega, ?_⟩⟩
      rcases a4 with rfl | ⟨b1, j, b2, b3⟩
      · exact ⟨0, rfl, fun k => by rw [List.map_cons, indexL, eqD_int]; simp⟩
      · refine ⟨j + 1, by rw [List.getElem?_cons_succ]; exact b2, fun k => ?_⟩
        have : ¬ ((f x : Int) = (f z : Int)) := by omega
        rw [List.map_cons, indexL, eqD_int, decide_eq_false this, if_neg Bool.false_ne_true, b3]
        congr 1
        omega
    · obtain ⟨z, a1, a2, a3, a4⟩ := am_idx f xs y
      have hi : ¬ ((f x : Int) > (f y : Int)) := by omega
      refine ⟨z, by rw [amF, List.foldl_cons]; simp only [h, if_false]; exact a1, by rw [List.map_cons, mx, List.foldl_cons, if_neg hi]; exact a2, a3, ?_⟩
      rcases a4 with rfl | ⟨b1, j, b2, b3⟩
      · exact .inl rfl
      · refine .inr ⟨b1, j + 1, by rw [List.getElem?_cons_succ]; exact b2, fun k => ?_⟩
        have : ¬ ((f x : Int) = (f z : Int)) := by omega
        rw [List.map_cons, indexL, eqD_int, decide_eq_false this, if_neg Bool.false_ne_true, b3]
        congr 1
        omega
/-- the module's way: index of the greatest -/
theorem am_run (f : Int → Nat) (x : Int) (xs : List Int) : ∃ z : Int, amF f none (x :: xs) = some z ∧ ∃ (M : Int) (j : Nat), biD .max1 [.lst ((x :: xs).map fun p => N (f p))] = .ok (.int M) ∧
    indexD (.lst ((x :: xs).map fun p => N (f p))) (.int M) = .ok (.int j) ∧ L2.atI ((x :: xs).map D.int) (j : Int) = some (.int z) := by
  obtain ⟨z, a1, a2, a3, a4⟩ := am_idx f xs x
  have hints : (x :: xs).map (fun p => N (f p)) = ((x :: xs).map fun p => (f p : Int)).map D.int := by rw [List.map_map]; rfl
  have hsh : shp (.lst ((x :: xs).map fun p => N (f p))) = true := by rw [hints]; exact shp_L _
  refine ⟨z, a1, (f z : Int), ?_⟩
  have hm : biD .max1 [.lst ((x :: xs).map fun p => N (f p))] = .ok (.int (f z : Int)) := by
    rw [hints, biD, allInts_ints]
    exact congrArg (fun q => Res.ok (D.int q)) a2
  have hidx : ∀ j : Nat, indexL ((x :: xs).map fun p => N (f p)) (N (f z)) 0 = some j → indexD (.lst ((x :: xs).map fun p => N (f p))) (.int (f z : Int)) = .ok (.int j) := fun j h => by
    rw [indexD, hsh, shp_int, h]; rfl
  have hat : ∀ j : Nat, (x :: xs)[j]? = some z → L2.atI ((x :: xs).map D.int) (j : Int) = some (.int z) := fun j h => by
    have hl : j < (x :: xs).length := (List.getElem?_eq_some_iff.mp h).1
    rw [atI_ok (by omega) (by rw [List.length_map]; omega), Int.toNat_natCast, List.getElem?_map, h]; rfl
  rcases a4 with rfl | ⟨b1, j, b2, b3⟩
  · exact ⟨0, hm, hidx 0 (by rw [List.map_cons, indexL, eqD_int]; simp), hat 0 rfl⟩
  · refine ⟨j + 1, hm, hidx (j + 1) ?_, hat (j + 1) (by rw [List.getElem?_cons_succ]; exact b2)⟩
    have : ¬ ((f x : Int) = (f z : Int)) := by omega
    rw [List.map_cons, indexL, eqD_int, decide_eq_false this, if_neg Bool.false_ne_true, b3]
    congr 1
    omega
/-! ### heaviest -/
def pl1 (g : Nat) (m y : List Int) (ls : List (List Int)) (p : Int) : Nat := Pn g m y (selL (some p) ls)
def hvS (n : Int) (g : Nat) (m y : List Int) (ls : List (List Int)) (found : List Int) : List Int := match amF (pl1 g m (y ++ found) ls) none (frees n m (y ++ found)) with
  | none => found
  | some p => found ++ [p]
def hv (n : Int) (g : Nat) (m y : List Int) (ls : List (List Int)) : Nat → List Int
  | 0 => []
  | j + 1 => hvS n g m y ls (hv n g m y ls j)
theorem hv_len {n : Int} {g : Nat} {m y : List Int} {ls : List (List Int)} : ∀ j, (hv n g m y ls j).length ≤ j
  | 0 => Nat.le_refl _
  | j + 1 => by
    have := hv_len (n := n) (g := g) (m := m) (y := y) (ls := ls) j
    rw [hv, hvS]
    split
    · omega
    · rw [List.length_append, List.length_singleton]; omega
theorem run_heaviest {k : Nat} (hk : 4 ≤ k) {g : Nat} (hg : g ≤ 3) {n : Int} (h0 : 0 ≤ n) (hn : n ≤ 100) {m y : List Int} (hy : y.length ≤ 100) {ls : List (List Int)} (hl : ∀ l ∈ ls, l.length ≤ 4) :
    run tab k .heaviest [Fd n ls, N g, T m, T y] = .ok (T (hv n g m y ls g)) := by
  obtain ⟨k, rfl, hj⟩ := suc hk
  have r := rngD_zero (n := (g : Int)) (by omega) (by omega)
  rw [Int.toNat_natCast] at r
  obtain ⟨ρ', e, s5, s6, s7, s8, rfl⟩ := forC_pre (F := run tab k) (tg := .one 5) (b := b_heaviest_1) D.int (fun (pre : List Int) ρ => ∃ s5 s6 s7 s8 : Sl, ρ = [.im (Fd n ls), .im (N g), .im (T m), .im (T y), .im (T (hv n g m y ls pre.length)), s5, s6, s7, s8]) (rgI g)
    [.im (Fd n ls), .im (N g), .im (T m), .im (T y), .im (.tup []), .no, .no, .no, .no] ⟨.no, .no, .no, .no, rfl⟩ (fun pre post i ρ e hi => by
      obtain ⟨s5, s6, s7, s8, rfl⟩ := hi
      have hpl : pre.length ≤ 3 := by
        have := congrArg List.length e
        rw [rgI_length, List.length_append, List.length_cons] at this
        omega
      have hfl := hv_len (n := n) (g := g) (m := m) (y := y) (ls := ls) pre.length
      rw [List.length_append, List.length_singleton, hv, hvS]
      generalize hv n g m y ls pre.length = found at hfl ⊢
      have f := run_free (k := k) (by omega) (n := n) (ls := TT ls) (m := m) (y := y ++ found) h0 (by omega)
      have hadd : binD .add (T y) (T found) = .ok (T (y ++ found)) := by
        rw [bin_addT (by rw [List.length_map, List.length_map]; omega), ← List.map_append]
      have hfr := frees_len (n := n) (m := m) (y := y ++ found) h0
      cases hx : frees n m (y ++ found) with
      | nil =>
        rw [hx] at f
        refine ⟨[.im (Fd n ls), .im (N g), .im (T m), .im (T y), .im (T found), .im (.int i), .im (.lst []), s7, s8], ?_, _, _, _, _, rfl⟩
        simp -implicitDefEqProofs [b_heaviest_1, hadd, f]
      | cons x xs =>
        rw [hx] at f
        obtain ⟨z, a1, M, j, a2, a3, a4⟩ := am_run (pl1 g m (y ++ found) ls) x xs
        rw [a1]
        have lc := fun s7 : Option D => lcC_map (F := run tab k) (own := [8]) (tg := .one 8) (ifs := .nil) (elt := c_heaviest_1) (ρ := [some (Fd n ls), some (N g), some (T m), some (T y), some (T found), some (.int i), some (.lst ((x :: xs).map D.int)), s7, s8.strict]) D.int (fun p => N (pl1 g m (y ++ found) ls p)) (x :: xs)
          (fun p hp => by
            have r := run_parts (k := k) hj hg (n := n) (m := m) (y := y ++ found) hl (some p)
            simp -implicitDefEqProofs only [oD] at r
            simp -implicitDefEqProofs [lcT, c_heaviest_1, hadd, r, pl1])
        have hadd2 : binD .add (T found) (.tup [.int z]) = .ok (T (found ++ [z])) := by
          rw [bin_addT (by rw [List.length_map]; simp; omega)]; exact congrArg (fun q => Res.ok (D.tup q)) (List.map_append (f := D.int) (l₁ := found) (l₂ := [z])).symm
        refine ⟨[.im (Fd n ls), .im (N g), .im (T m), .im (T y), .im (T (found ++ [z])), .im (.int i), .im (.lst ((x :: xs).map D.int)), .im (.lst ((x :: xs).map fun p => N (pl1 g m (y ++ found) ls p))), s8], ?_, _, _, _, _, rfl⟩
        have hne : (List.map D.int (x :: xs)).isEmpty = false := rfl
        generalize List.map D.int (x :: xs) = A at f lc a4 hne ⊢
        generalize List.map (fun p => N (pl1 g m (y ++ found) ls p)) (x :: xs) = B at lc a2 a3 ⊢
        simp -implicitDefEqProofs [b_heaviest_1, hadd, f, hne, lc, a2, a3, a4, hadd2])
  rw [rgI_length] at e
  rw [run_code rfl rfl]
  simp -implicitDefEqProofs [d_heaviest, start, r, e]
/-! ### is_safe -/
theorem cmp_ne_Fr (a b : Nat × Nat) : cmpD .ne (Fr a) (Fr b) = .ok (.bl (!decide ([(a.1 : Int), a.2] = [(b.1 : Int), b.2]))) := cmp_ne_T [(a.1 : Int), a.2] [(b.1 : Int), b.2]
def qD (g : Nat) (ls : List (List Int)) (m : List Int) : Nat × Nat := frac (Pn g m [] ls) (Wh g)
def begs (n : Int) (first : Int) : List (List Int) := if first = 0 then (rgI n.toNat).map fun p => [p] else [[]]
theorem run_is_safe {k : Nat} (hk : 5 ≤ k) {g : Nat} (hg : g ≤ 3) {n : Int} (h0 : 0 ≤ n) (hn : n ≤ 100) {ls : List (List Int)} (hl : ∀ l ∈ ls, l.length ≤ 4) (hll : ls.length ≤ 10) {first b : Int} :
    run tab k .is_safe [.tup [Fd n ls, .int first, .int b, N g]] = .ok (.bl ((begs n first).all fun m => decide ((qD g ls m).1 < (qD g ls m).2))) := by
  obtain ⟨k, rfl, hj⟩ := suc hk
  have r := rngD_zero (n := n) (by omega) (by omega)
  have lc := fun s5 s7 s8 s9 : Option D => lcC_map (F := run tab k) (own := [6]) (tg := .one 6) (ifs := .nil) (elt := c_is_safe_1) (ρ := [some (.tup [Fd n ls, .int first, .int b, N g]), some (Fd n ls), some (.int first), some (.int b), some (N g), s5, none, s7, s8, s9]) D.int (fun p => T [p]) (rgI n.toNat)
    (fun p hp => by simp -implicitDefEqProofs [lcT, c_is_safe_1])
  have main := forC_find (F := run tab k) (tg := .one 7) (b := b_is_safe_1) T (fun ρ => ∃ s6 s7 s8 s9 : Sl, ρ = [.im (.tup [Fd n ls, .int first, .int b, N g]), .im (Fd n ls), .im (.int first), .im (.int b), .im (N g), .im (.lst ((begs n first).map T)), s6, s7, s8, s9])
    (fun m => if (qD g ls m).1 < (qD g ls m).2 then none else some (.bl false)) (begs n first) [.im (.tup [Fd n ls, .int first, .int b, N g]), .im (Fd n ls), .im (.int first), .im (.int b), .im (N g), .im (.lst ((begs n first).map T)), .no, .no, .no, .no] ⟨.no, .no, .no, .no, rfl⟩
    (fun m ρ hm hi => by
      obtain ⟨s6, s7, s8, s9, rfl⟩ := hi
      have d := run_danger (k := k) (by omega) hg (n := n) (m := m) (y := []) hl hll
      have d : run tab k .danger [Fd n ls, N g, T m, .tup []] = .ok (Fr (qD g ls m)) := d
      by_cases h : (qD g ls m).1 < (qD g ls m).2
      · refine .inr ⟨if_pos h, [.im (.tup [Fd n ls, .int first, .int b, N g]), .im (Fd n ls), .im (.int first), .im (.int b), .im (N g), .im (.lst ((begs n first).map T)), s6, .im (T m), .im (N (qD g ls m).1), .im (N (qD g ls m).2)], ?_, _, _, _, _, rfl⟩
        have h' : ¬ ((qD g ls m).2 ≤ (qD g ls m).1) := by omega
        simp -implicitDefEqProofs [b_is_safe_1, d, h']
      · refine .inl ⟨.bl false, if_neg h, ?_⟩
        have h' : (qD g ls m).2 ≤ (qD g ls m).1 := by omega
        simp -implicitDefEqProofs [b_is_safe_1, d, h'])
  have step : run tab (k + 1) .is_safe [.tup [Fd n ls, .int first, .int b, N g]] = fin (thenF (forC (run tab k) (.one 7) b_is_safe_1 ((begs n first).map T) [.im (.tup [Fd n ls, .int first, .int b, N g]), .im (Fd n ls), .im (.int first), .im (.int b), .im (N g), .im (.lst ((begs n first).map T)), .no, .no, .no, .no]) (exec (run tab k) (.seq (.ret (.bl true)) .skip))) := by
    rw [run_code rfl rfl]
    by_cases hf : first = 0
    · subst hf
      have e : begs n 0 = (rgI n.toNat).map fun p => [p] := if_pos rfl
      rw [e, List.map_map]
      simp -implicitDefEqProofs [d_is_safe, start, r, lc, Function.comp_def]
    · have e : begs n first = [[]] := if_neg hf
      rw [e]
      simp -implicitDefEqProofs [d_is_safe, start, hf]
      rfl
  rw [step]
  rcases main with ⟨d, h1, h2⟩ | ⟨h1, ρ', h2, _⟩
  · rw [h2]
    obtain ⟨m, hm, hq⟩ := List.exists_of_findSome?_eq_some h1
    have hq2 : ¬ ((qD g ls m).1 < (qD g ls m).2) := fun h => by simp only [h, if_true] at hq; cases hq
    simp only [hq2, if_false] at hq
    cases hq
    have : ((begs n first).all fun m => decide ((qD g ls m).1 < (qD g ls m).2)) = false := by
      rw [List.all_eq_false]
      exact ⟨m, hm, by simpa using hq2⟩
    rw [this]; rfl
  · rw [h2]
    have : ((begs n first).all fun m => decide ((qD g ls m).1 < (qD g ls m).2)) = true := by
      rw [List.all_eq_true]
      intro m hm
      rw [List.findSome?_eq_none_iff] at h1
      have := h1 m hm
      by_cases h : (qD g ls m).1 < (qD g ls m).2
      · exact decide_eq_true h
      · simp only [h, if_false] at this; cases this
    rw [this]; simp -implicitDefEqProofs
/-! ### helps -/
theorem eqD_bl (a b : Bool) : eqD (.bl a) (.bl b) = decide (a = b) := by
  unfold eqD
  rw [D.py, D.py, PyData.eqv]
  cases a <;> cases b <;> rfl
theorem cmp_ne_bl (a b : Bool) : cmpD .ne (.bl a) (.bl b) = .ok (.bl (!decide (a = b))) := by rw [cmp_ne (shp_bl a) (shp_bl b), eqD_bl]
theorem eqL_empty (xs : List D) : eqL xs [] = xs.isEmpty := by cases xs <;> rfl
theorem filter_all {α : Type} (p : α → Bool) (xs : List α) : ((xs.filter fun x => !p x).isEmpty) = xs.all p := by
  induction xs with
  | nil => rfl
  | cons x xs ih =>
    rw [List.filter_cons, List.all_cons]
    cases p x
    · rfl
    · simpa using ih
theorem len_up {n : Int} : ∀ (l : List Int) (lo : Int), l.Pairwise (· < ·) → (∀ p ∈ l, lo ≤ p ∧ p < n) → l.length ≤ (n - lo).toNat
  | [], _, _, _ => Nat.zero_le _
  | x :: l, lo, h, hb => by
    have h1 := List.pairwise_cons.mp h
    have hx := hb x List.mem_cons_self
    have := len_up l (x + 1) h1.2 fun p hp => ⟨by have := h1.1 p hp; omega, (hb p (List.mem_cons_of_mem _ hp)).2⟩
    rw [List.length_cons]
    omega
theorem rgI_at {g : Nat} {pre post : List Int} {i : Int} (e : rgI g = pre ++ i :: post) : i = (pre.length : Int) ∧ pre.length < g := by
  have hl : pre.length < g := by
    have := congrArg List.length e
    rw [rgI_length, List.length_append, List.length_cons] at this
    omega
  have h1 : (rgI g)[pre.length]? = some i := by
    rw [e, List.getElem?_append_right (Nat.le_refl _), Nat.sub_self]; rfl
  unfold rgI at h1
  rw [List.getElem?_map, List.getElem?_range hl] at h1
  exact ⟨(Option.some.inj h1).symm, hl⟩
end FC

/-! Games: what is decided, claims. -/
set_option autoImplicit false
set_option linter.all false
set_option maxRecDepth 100000
set_option maxHeartbeats 4000000
set_option Elab.async false
namespace FC
open PySem

/-! ### decided -/
def full (m l : List Int) : Bool := l.all fun p => decide (p ∈ m)
def overM (ls : List (List Int)) (m y : List Int) : Option Int := if ls.any (full m) then some 0 else if ls.all (blk y) then some 1 else none
theorem all_bls {α : Type} (f : α → Bool) (xs : List α) : biD .all [.lst (xs.map fun x => D.bl (f x))] = .ok (.bl (xs.all f)) := by
  have := bj_all (xs.map f)
  rw [List.map_map, List.all_map] at this
  exact this
theorem run_decided {k : Nat} (hk : 1 ≤ k) {n : Int} {ls : List (List Int)} {r : List D} {m y : List Int} : run tab k .decided [.tup (Fd n ls :: r), T m, T y] = .ok (oD (overM ls m y)) := by
  obtain ⟨k, rfl, hj⟩ := suc hk
  have i1 := fun (l : List Int) (s3 : Option D) => lcC_map (F := run tab k) (own := [4]) (tg := .one 4) (ifs := .nil) (elt := c_decided_1) (ρ := [some (.tup (Fd n ls :: r)), some (T m), some (T y), s3, none, some (T l)]) D.int (fun p => D.bl (decide (p ∈ m))) l
    (fun p hp => by simp -implicitDefEqProofs [lcT, c_decided_1])
  have i2 := fun (l : List Int) (s3 : Option D) => lcC_map (F := run tab k) (own := [4]) (tg := .one 4) (ifs := .nil) (elt := c_decided_3) (ρ := [some (.tup (Fd n ls :: r)), some (T m), some (T y), s3, none, some (T l)]) D.int (fun p => D.bl (decide (p ∈ y))) l
    (fun p hp => by simp -implicitDefEqProofs [lcT, c_decided_3])
  have b1 := fun (s3 : Option D) => lcC_map (F := run tab k) (own := [5]) (tg := .one 5) (ifs := .nil) (elt := c_decided_2) (ρ := [some (.tup (Fd n ls :: r)), some (T m), some (T y), s3, none, none]) T (fun l => D.bl (full m l)) ls
    (fun l hl => by
      have e := all_bls (fun p => decide (p ∈ m)) l
      simp -implicitDefEqProofs [lcT, c_decided_2, i1, e, full])
  have b2 := fun (s3 : Option D) => lcC_map (F := run tab k) (own := [5]) (tg := .one 5) (ifs := .nil) (elt := c_decided_4) (ρ := [some (.tup (Fd n ls :: r)), some (T m), some (T y), s3, none, none]) T (fun l => D.bl (blk y l)) ls
    (fun l hl => by
      have e := any_bls (fun p => decide (p ∈ y)) l
      simp -implicitDefEqProofs [lcT, c_decided_4, i2, e, blk])
  have e1 := any_bls (full m) ls
  have e2 := all_bls (blk y) ls
  rw [run_code rfl rfl, overM]
  cases h1 : ls.any (full m) with
  | true =>
    rw [h1] at e1
    simp -implicitDefEqProofs [d_decided, start, b1, e1, oD]
  | false =>
    rw [h1] at e1
    cases h2 : ls.all (blk y) with
    | true =>
      rw [h2] at e2
      simp -implicitDefEqProofs [d_decided, start, b1, e1, b2, e2, oD]
    | false =>
      rw [h2] at e2
      simp -implicitDefEqProofs [d_decided, start, b1, e1, b2, e2, oD]
theorem run_l_over {k : Nat} (hk : 1 ≤ k) {n : Int} {ls : List (List Int)} {r : List D} {m y : List Int} : run tab k .l_over [.tup (Fd n ls :: r), T m, T y] = .ok (oD (overM ls m y)) := by
  obtain ⟨k, rfl, hj⟩ := suc hk
  have c1 := fun (l : List Int) (s4 : Option D) => lcC_filter (F := run tab k) (own := [4]) (tg := .one 4) (ifs := c_l_over_1) (elt := c_l_over_2) (ρ := [some (.tup (Fd n ls :: r)), some (T m), some (T y), some (T l), s4]) D.int (fun p => !decide (p ∈ m)) D.int l
    (fun p hp => by by_cases h : p ∈ m <;> simp -implicitDefEqProofs [lcT, c_l_over_1, c_l_over_2, h])
  have c2 := fun (l : List Int) (s4 : Option D) => lcC_filter (F := run tab k) (own := [4]) (tg := .one 4) (ifs := c_l_over_3) (elt := c_l_over_2) (ρ := [some (.tup (Fd n ls :: r)), some (T m), some (T y), some (T l), s4]) D.int (fun p => decide (p ∈ y)) D.int l
    (fun p hp => by by_cases h : p ∈ y <;> simp -implicitDefEqProofs [lcT, c_l_over_3, c_l_over_2, h])
  have f1 : ∀ l : List Int, (l.filter fun p => !decide (p ∈ m)).isEmpty = full m l := fun l => filter_all _ l
  have f2 : ∀ l : List Int, (l.filter fun p => decide (p ∈ y)).isEmpty = !blk y l := fun l => by
    induction l with
    | nil => rfl
    | cons p l ih =>
      unfold blk at ih ⊢
      rw [List.filter_cons, List.any_cons]
      by_cases h : p ∈ y
      · simp [h]
      · simpa [h] using ih
  have l1 := forC_find (F := run tab k) (tg := .one 3) (b := b_l_over_1) T (fun ρ => ∃ s3 s4 : Sl, ρ = [.im (.tup (Fd n ls :: r)), .im (T m), .im (T y), s3, s4]) (fun l => if full m l then some (.int 0) else none) ls [.im (.tup (Fd n ls :: r)), .im (T m), .im (T y), .no, .no] ⟨.no, .no, rfl⟩
    (fun l ρ hl hi => by
      obtain ⟨s3, s4, rfl⟩ := hi
      have e := f1 l
      cases h : full m l with
      | true =>
        rw [h] at e
        exact .inl ⟨.int 0, rfl, by simp -implicitDefEqProofs [b_l_over_1, c1, e]⟩
      | false =>
        rw [h] at e
        exact .inr ⟨rfl, [.im (.tup (Fd n ls :: r)), .im (T m), .im (T y), .im (T l), s4], by simp -implicitDefEqProofs [b_l_over_1, c1, e], _, _, rfl⟩)
  have l2 := fun s3 s4 : Sl => forC_find (F := run tab k) (tg := .one 3) (b := b_l_over_2) T (fun ρ => ∃ s3 s4 : Sl, ρ = [.im (.tup (Fd n ls :: r)), .im (T m), .im (T y), s3, s4]) (fun l => if blk y l then none else some .non) ls [.im (.tup (Fd n ls :: r)), .im (T m), .im (T y), s3, s4] ⟨s3, s4, rfl⟩
    (fun l ρ hl hi => by
      obtain ⟨s3, s4, rfl⟩ := hi
      have e := f2 l
      cases h : blk y l with
      | false =>
        rw [h] at e
        exact .inl ⟨.non, rfl, by simp -implicitDefEqProofs [b_l_over_2, c2, e]⟩
      | true =>
        rw [h] at e
        exact .inr ⟨rfl, [.im (.tup (Fd n ls :: r)), .im (T m), .im (T y), .im (T l), s4], by simp -implicitDefEqProofs [b_l_over_2, c2, e], _, _, rfl⟩)
  rw [run_code rfl rfl, overM]
  rcases l1 with ⟨d, h1, h2⟩ | ⟨h1, ρ1, h2, s3, s4, rfl⟩
  · obtain ⟨l, hl, hq⟩ := List.exists_of_findSome?_eq_some h1
    have hfull : full m l = true := by
      cases h : full m l with
      | true => rfl
      | false => rw [h] at hq; cases hq
    rw [hfull] at hq
    cases hq
    rw [if_pos (List.any_eq_true.mpr ⟨l, hl, hfull⟩)]
    simp -implicitDefEqProofs [d_l_over, start, h2, oD]
  · have hnf : ls.any (full m) = false := by
      rw [List.any_eq_false]
      intro l hl
      rw [List.findSome?_eq_none_iff] at h1
      have := h1 l hl
      intro hq
      rw [hq] at this
      cases this
    rw [hnf, if_neg Bool.false_ne_true]
    rcases l2 s3 s4 with ⟨d, g1, g2⟩ | ⟨g1, ρ2, g2, _⟩
    · obtain ⟨l, hl, hq⟩ := List.exists_of_findSome?_eq_some g1
      have hb : blk y l = false := by
        cases h : blk y l with
        | false => rfl
        | true => rw [h] at hq; cases hq
      rw [hb] at hq
      cases hq
      have : ls.all (blk y) = false := List.all_eq_false.mpr ⟨l, hl, by rw [hb]; exact Bool.false_ne_true⟩
      rw [this, if_neg Bool.false_ne_true]
      simp -implicitDefEqProofs [d_l_over, start, h2, g2, oD]
    · have : ls.all (blk y) = true := by
        rw [List.all_eq_true]
        intro l hl
        rw [List.findSome?_eq_none_iff] at g1
        have := g1 l hl
        cases h : blk y l with
        | true => rfl
        | false => rw [h] at this; cases this
      rw [this, if_pos rfl]
      simp -implicitDefEqProofs [d_l_over, start, h2, g2, oD]
end FC

/-! Claims: the module's and the law's. -/
set_option autoImplicit false
set_option linter.all false
set_option maxRecDepth 100000
set_option maxHeartbeats 4000000
set_option Elab.async false
namespace FC
open PySem

/-! ### choosing -/
def subs : List Int → Nat → List (List Int)
  | _, 0 => [[]]
  | [], _ + 1 => []
  | x :: xs, c + 1 => (subs xs c).map (x :: ·) ++ subs xs (c + 1)
theorem mem_subs : ∀ {xs : List Int} {c : Nat} {r : List Int}, r ∈ subs xs c ↔ r.Sublist xs ∧ r.length = c
  | xs, 0, r => by
    rw [subs, List.mem_singleton]
    constructor
    · rintro rfl; exact ⟨List.nil_sublist _, rfl⟩
    · rintro ⟨_, h⟩; exact List.length_eq_zero_iff.mp h
  | [], c + 1, r => by
    rw [subs]
    constructor
    · intro h; cases h
    · rintro ⟨h1, h2⟩
      rw [List.sublist_nil.mp h1] at h2
      cases h2
  | x :: xs, c + 1, r => by
    rw [subs, List.mem_append, List.mem_map, mem_subs (xs := xs) (c := c + 1)]
    constructor
    · rintro (⟨s, hs, rfl⟩ | ⟨h1, h2⟩)
      · obtain ⟨h1, h2⟩ := mem_subs.mp hs
        exact ⟨h1.cons_cons x, by rw [List.length_cons, h2]⟩
      · exact ⟨h1.cons x, h2⟩
    · rintro ⟨h1, h2⟩
      cases h1 with
      | cons _ h => exact .inr ⟨h, h2⟩
      | cons_cons _ h => exact .inl ⟨_, mem_subs.mpr ⟨h, by simpa using h2⟩, rfl⟩
theorem subs_len : ∀ (xs : List Int) (c : Nat), (subs xs c).length ≤ 2 ^ xs.length
  | xs, 0 => by rw [subs]; exact Nat.one_le_two_pow
  | [], c + 1 => by rw [subs]; exact Nat.zero_le _
  | x :: xs, c + 1 => by
    have h1 := subs_len xs c
    have h2 := subs_len xs (c + 1)
    rw [subs, List.length_append, List.length_map, List.length_cons, Nat.pow_succ]
    omega
theorem subs_len9 {xs : List Int} {c : Nat} (h : xs.length ≤ 9) : (subs xs c).length ≤ 512 := Nat.le_trans (subs_len xs c) (Nat.pow_le_pow_right (by decide) h)
theorem mapIdx_range {f : Nat → D → D} (xs : List Int) : (xs.map D.int).mapIdx f = (List.range xs.length).map fun j => f j (.int (xs.getD j 0)) := by
  apply List.ext_getElem
  · simp
  · intro i h1 h2
    simp at h1
    simp [h1]
theorem cut_from {α : Type} (xs : List α) (j : Nat) : cut xs (some ((j : Int) + 1)) none = xs.drop (j + 1) := by
  unfold cut
  have e : HT.sIx xs.length 0 (some ((j : Int) + 1)) = min (j + 1) xs.length := by
    rw [show (j : Int) + 1 = ((j + 1 : Nat) : Int) by omega, HT.sIx_nat]
  rw [e, HT.sIx_none]
  by_cases h : j + 1 ≤ xs.length
  · rw [Nat.min_eq_left h]
    exact List.take_of_length_le (by rw [List.length_drop]; omega)
  · rw [Nat.min_eq_right (by omega), Nat.sub_self, List.take_zero, List.drop_eq_nil_of_le (by omega)]
theorem drop_succ {xs : List Int} {j : Nat} (h : j < xs.length) : xs.drop j = xs.getD j 0 :: xs.drop (j + 1) := by
  rw [List.drop_eq_getElem_cons h]
  simp [h]
theorem run_choose : ∀ (c : Nat) {k : Nat} (_ : c + 1 ≤ k) {pts : List Int} (_ : pts.length ≤ 9), run tab k .choose [.lst (pts.map .int), N c] = .ok (.lst ((subs pts c).map T))
  | 0, k, hk, pts, hp => by
    obtain ⟨k, rfl, hj⟩ := suc hk
    rw [run_code rfl rfl, subs]
    simp -implicitDefEqProofs [d_choose, start]
  | c + 1, k, hk, pts, hp => by
    obtain ⟨k, rfl, hj⟩ := suc hk
    have ih := fun q : List Int => fun hq : q.length ≤ 9 => run_choose c (k := k) hj (pts := q) hq
    have e1 : ((c + 1 : Nat) : Int) - 1 = (c : Int) := by omega
    have e2 : ¬ (((c + 1 : Nat) : Int) = 0) := by omega
    obtain ⟨ρ', e, found, s3, s4, s5, h1, h2, rfl⟩ := forC_pre (F := run tab k) (tg := .many [3, 4]) (b := b_choose_1) (fun j : Nat => D.tup [N j, .int (pts.getD j 0)]) (fun (pre : List Nat) ρ => ∃ (found : List (List Int)) (s3 s4 s5 : Sl),
        found ++ subs (pts.drop pre.length) (c + 1) = subs pts (c + 1) ∧ found.length ≤ 512 ∧ ρ = [.im (.lst (pts.map .int)), .im (N (c + 1)), .ow (found.map T), s3, s4, s5]) (List.range pts.length)
      [.im (.lst (pts.map .int)), .im (N (c + 1)), .ow [], .no, .no, .no] ⟨[], .no, .no, .no, rfl, by decide, rfl⟩
      (fun pre post j ρ e hi => by
        obtain ⟨found, s3, s4, s5, h1, h2, rfl⟩ := hi
        have hlt : pre.length < pts.length := by
          have := congrArg List.length e
          rw [List.length_range, List.length_append, List.length_cons] at this
          omega
        have hj2 : j = pre.length := by
          have h3 : (List.range pts.length)[pre.length]? = some j := by rw [e, List.getElem?_append_right (Nat.le_refl _), Nat.sub_self]; rfl
          rw [List.getElem?_range hlt] at h3
          exact (Option.some.inj h3).symm
        subst hj2
        rw [drop_succ hlt, subs] at h1
        generalize hx : pts.getD pre.length 0 = x at h1 ⊢
        have hd : (pts.drop (pre.length + 1)).length ≤ 9 := by rw [List.length_drop]; omega
        have r := ih (pts.drop (pre.length + 1)) hd
        rw [List.map_drop] at r
        have hcut : cut (pts.map D.int) (some ((pre.length : Int) + 1)) none = (pts.map D.int).drop (pre.length + 1) := cut_from _ _
        have lc := fun s2 s5 : Option D => lcC_map (F := run tab k) (own := [5]) (tg := .one 5) (ifs := .nil) (elt := c_choose_1) (ρ := [some (.lst (pts.map .int)), some (N (c + 1)), s2, some (N pre.length), some (.int x), s5]) T (fun rest => T (x :: rest)) (subs (pts.drop (pre.length + 1)) c)
          (fun rest hr => by
            have hl : rest.length ≤ 9 := Nat.le_trans (mem_subs.mp hr).1.length_le hd
            have ha : binD .add (.tup [.int x]) (T rest) = .ok (.tup (D.int x :: rest.map D.int)) := by rw [bin_addT (by rw [List.length_map]; simp; omega)]; rfl
            simp -implicitDefEqProofs [lcT, c_choose_1, ha])
        have hlen := subs_len9 (c := c) hd
        have htot : found.length + (subs (pts.drop (pre.length + 1)) c).length ≤ 512 := by
          have := congrArg List.length h1
          rw [List.length_append, List.length_append, List.length_map] at this
          have h3 := subs_len9 (c := c + 1) hp
          omega
        have hlim : found.length + (subs (pts.drop (pre.length + 1)) c).length ≤ lim := Nat.le_trans htot (by decide)
        refine ⟨[.im (.lst (pts.map .int)), .im (N (c + 1)), .ow ((found ++ (subs (pts.drop (pre.length + 1)) c).map (x :: ·)).map T), .im (N pre.length), .im (.int x), s5], ?_, found ++ (subs (pts.drop (pre.length + 1)) c).map (x :: ·), _, _, _, ?_, ?_, rfl⟩
        · rw [List.map_append, List.map_map]
          simp -implicitDefEqProofs only [b_choose_1, bindS_many, setAll_cons, setAll_nil, ofOpt, Res.bind_ok, X_seq, X_ext, X_skip, E_lc, IT_cons, E_call, EL_cons, EL_nil, E_slc, EO_cons, EO_nil, E_var, E_bin, E_int, List.set_cons_succ, List.set_cons_zero, strict_cons, strict_nil, strict_im, strict_ow, List.getElem?_cons_succ, List.getElem?_cons_zero, bin_add, bin_sub, e1, optI_int, slc_lst, hcut, r, seqOf_lst, lc, List.length_map, hlim, if_true, thenF_nx]
          rfl
        · rw [List.length_append, List.length_singleton, List.append_assoc]; exact h1
        · rw [List.length_append, List.length_map]; exact htot)
    rw [List.length_range] at h1
    rw [List.drop_length, subs, List.append_nil] at h1
    subst h1
    rw [run_code rfl rfl]
    simp -implicitDefEqProofs [-Int.natCast_add, -List.getD_eq_getElem?_getD, d_choose, start, e2, mapIdx_range, e]
end FC

/-! Claims: the law's; putting them. -/
set_option autoImplicit false
set_option linter.all false
set_option maxRecDepth 100000
set_option maxHeartbeats 4000000
set_option Elab.async false
namespace FC
open PySem

/-- what may follow -/
def aft (cl : List Int) (p : Int) : Bool := match cl.getLast? with
  | none => true
  | some q => decide (q < p)
def nxt (some_ : List Int) (cl : List Int) : List (List Int) := (some_.filter (aft cl)).map fun p => cl ++ [p]
theorem aft_cons {x : Int} {cl : List Int} (h : cl ≠ []) (p : Int) : aft (x :: cl) p = aft cl p := by
  cases cl with
  | nil => exact absurd rfl h
  | cons y cl => unfold aft; rw [List.getLast?_cons_cons]
theorem fm_congr {α β : Type} {f g : α → List β} : ∀ {l : List α}, (∀ x ∈ l, f x = g x) → l.flatMap f = l.flatMap g
  | [], _ => rfl
  | x :: l, h => by rw [List.flatMap_cons, List.flatMap_cons, h x List.mem_cons_self, fm_congr fun y hy => h y (List.mem_cons_of_mem _ hy)]
theorem subs_bfs : ∀ {xs : List Int} (_ : xs.Pairwise (· < ·)) (c : Nat), subs xs (c + 1) = (subs xs c).flatMap (nxt xs)
  | [], _, 0 => rfl
  | [], _, c + 1 => rfl
  | x :: xs, h, 0 => by
    have h1 := List.pairwise_cons.mp h
    have ih := subs_bfs h1.2 0
    rw [subs, subs, subs, ih, subs]
    have e : ∀ ys : List Int, nxt ys [] = ys.map fun p => [p] := fun ys => by
      unfold nxt
      rw [(List.filter_eq_self (p := aft [])).mpr fun _ _ => rfl]; rfl
    rw [List.flatMap_singleton, List.flatMap_singleton, e, e]; rfl
  | x :: xs, h, c + 1 => by
    have h1 := List.pairwise_cons.mp h
    have ih1 := subs_bfs h1.2 c
    have ih2 := subs_bfs h1.2 (c + 1)
    rw [subs, subs, List.flatMap_append, List.flatMap_map]
    have a1 : (subs xs (c + 1)).flatMap (nxt (x :: xs)) = (subs xs (c + 1)).flatMap (nxt xs) := by
      apply fm_congr
      intro cl hcl
      obtain ⟨hs, hl⟩ := mem_subs.mp hcl
      have hne : cl ≠ [] := fun e => by rw [e] at hl; cases hl
      have hx : aft cl x = false := by
        unfold aft
        rw [List.getLast?_eq_some_getLast hne]
        have : cl.getLast hne ∈ xs := hs.subset (List.getLast_mem hne)
        have := h1.1 _ this
        exact decide_eq_false (by omega)
      unfold nxt
      rw [List.filter_cons, hx]; rfl
    have a2 : (subs xs c).flatMap (fun cl => nxt (x :: xs) (x :: cl)) = (subs xs (c + 1)).map (x :: ·) := by
      rw [ih1, List.map_flatMap]
      apply fm_congr
      intro cl hcl
      obtain ⟨hs, hl⟩ := mem_subs.mp hcl
      cases cl with
      | nil =>
        have e1 : aft [x] x = false := decide_eq_false (Int.lt_irrefl x)
        have e2 : xs.filter (aft [x]) = xs := List.filter_eq_self.mpr fun p hp => decide_eq_true (h1.1 p hp)
        have e3 : xs.filter (aft []) = xs := List.filter_eq_self.mpr fun p hp => rfl
        unfold nxt
        rw [List.filter_cons, e1, if_neg Bool.false_ne_true, e2, e3, List.map_map]; rfl
      | cons z cl =>
        have hne : z :: cl ≠ [] := fun e => by cases e
        have hx : aft (x :: z :: cl) x = false := by
          rw [aft_cons hne]
          unfold aft
          rw [List.getLast?_eq_some_getLast hne]
          have : (z :: cl).getLast hne ∈ xs := hs.subset (List.getLast_mem hne)
          have := h1.1 _ this
          exact decide_eq_false (by omega)
        have e2 : xs.filter (aft (x :: z :: cl)) = xs.filter (aft (z :: cl)) := List.filter_congr fun p _ => aft_cons hne p
        unfold nxt
        rw [List.filter_cons, hx, if_neg Bool.false_ne_true, e2, List.map_map]; rfl
    show (subs xs (c + 1)).map (x :: ·) ++ subs xs (c + 2) = _
    rw [a1, ← ih2]
    congr 1
    exact a2.symm
def cntM (b g w : Int) : Int := if w = 0 then b else g
/-- claims of one at turn -/
def clM (n b g : Int) (m y : List Int) (w : Int) : List (List Int) := subs (frees n m y) (min (cntM b g w).toNat (frees n m y).length)
theorem cnt_idx {f : D} {first b g w : Int} (hw : w = 0 ∨ w = 1) : ofOpt (L2.atI [f, .int first, .int b, .int g] (2 + w)) = .ok (.int (cntM b g w)) := by
  rcases hw with rfl | rfl
  · rfl
  · rfl
theorem min_cnt {c : Int} {l : Nat} (hc : 0 ≤ c) : (if (l : Int) < c then (l : Int) else c) = ((min c.toNat l : Nat) : Int) := by
  split <;> omega
theorem run_claims {k : Nat} {n : Int} (h0 : 0 ≤ n) (hn : n ≤ 9) {ls : D} {first b g w : Int} (hb : 0 ≤ b) (hg : 0 ≤ g) (hw : w = 0 ∨ w = 1) {m y : List Int} (hk : (frees n m y).length + 2 ≤ k) :
    run tab k .claims [.tup [.tup [.int n, ls], .int first, .int b, .int g], T m, T y, .int w] = .ok (.tup ((clM n b g m y w).map T)) := by
  obtain ⟨k, rfl, hj⟩ := suc hk
  have f := run_free (k := k) (by omega) (n := n) (ls := ls) (m := m) (y := y) h0 (by omega)
  have hfr := frees_len (n := n) (m := m) (y := y) h0
  have hc : 0 ≤ cntM b g w := by unfold cntM; split <;> omega
  have r := run_choose (min (cntM b g w).toNat (frees n m y).length) (k := k) (by omega) (pts := frees n m y) (by omega)
  have ci := cnt_idx (f := .tup [.int n, ls]) (first := first) (b := b) (g := g) hw
  have mc := min_cnt (l := (frees n m y).length) hc
  unfold clM
  generalize min (cntM b g w).toNat (frees n m y).length = cn at r mc ⊢
  rw [run_code rfl rfl]
  simp -implicitDefEqProofs [d_claims, start, f, ci, mc, r]
/-! ### putting -/
def putM (m y : List Int) (w : Int) (c : List Int) : List Int × List Int := if w = 0 then (sortI (m ++ c), y) else (m, sortI (y ++ c))
theorem addT {a b : List Int} (h : a.length + b.length ≤ 1000) : binD .add (T a) (T b) = .ok (T (a ++ b)) := by
  rw [bin_addT (by rw [List.length_map, List.length_map]; exact h)]
  exact congrArg (fun q => Res.ok (D.tup q)) List.map_append.symm
theorem run_added {k : Nat} (hk : 1 ≤ k) {a b : List Int} (h : a.length + b.length ≤ 1000) : run tab k .added [T a, T b] = .ok (T (sortI (a ++ b))) := by
  obtain ⟨k, rfl, hj⟩ := suc hk
  have e := addT h
  have s : biD .sorted [T (a ++ b)] = .ok (.lst ((sortI (a ++ b)).map .int)) := bj_sorted_intsT (a ++ b)
  rw [run_code rfl rfl]
  generalize T (a ++ b) = ab at e s
  simp -implicitDefEqProofs only [d_added, start, X_seq, X_ret, E_bi, EL_cons, EL_nil, E_bin, E_var, Res.bind_ok, view_cons, view_nil, view_im, List.map, List.replicate, List.length_cons, List.length_nil, List.cons_append, List.nil_append, List.getElem?_cons_zero, List.getElem?_cons_succ, e, s, bj_tuple_lst, thenF_rt, fin_rt, Nat.sub_self]
theorem run_l_put {k : Nat} (hk : 1 ≤ k) {m y c : List Int} {w : Int} (hm : m.length + c.length ≤ 1000) (hy : y.length + c.length ≤ 1000) : run tab k .l_put [T m, T y, .int w, T c] = .ok (.tup [T (putM m y w c).1, T (putM m y w c).2]) := by
  obtain ⟨k, rfl, hj⟩ := suc hk
  have e1 := addT hm
  have e2 := addT hy
  have s1 : biD .sorted [T (m ++ c)] = .ok (.lst ((sortI (m ++ c)).map .int)) := bj_sorted_intsT (m ++ c)
  have s2 : biD .sorted [T (y ++ c)] = .ok (.lst ((sortI (y ++ c)).map .int)) := bj_sorted_intsT (y ++ c)
  rw [run_code rfl rfl]
  unfold putM
  by_cases hw : w = 0
  · rw [if_pos hw]
    generalize T (m ++ c) = mc at e1 s1
    generalize T (y ++ c) = yc at e2 s2
    simp -implicitDefEqProofs [d_l_put, start, hw, e1, s1]
  · rw [if_neg hw]
    generalize T (m ++ c) = mc at e1 s1
    generalize T (y ++ c) = yc at e2 s2
    simp -implicitDefEqProofs [d_l_put, start, hw, e2, s2]
/-! ### the law's claims -/
theorem atI_last {cl : List Int} {q : Int} (h : cl.getLast? = some q) : L2.atI (cl.map D.int) (-1) = some (.int q) := by
  have hne : cl ≠ [] := fun e => by rw [e] at h; cases h
  have hl : 0 < cl.length := List.length_pos_iff.mpr hne
  unfold L2.atI L2.ixN
  rw [if_neg (by decide), List.length_map, if_pos (by omega)]
  show (cl.map D.int)[(-1 + (cl.length : Int)).toNat]? = _
  rw [List.getElem?_map, show (-1 + (cl.length : Int)).toNat = cl.length - 1 by omega, ← List.getLast?_eq_getElem?, h]; rfl
theorem run_l_claims {k : Nat} (hk : 1 ≤ k) {n : Int} (h0 : 0 ≤ n) (hn : n ≤ 9) {ls : D} {first b g w : Int} (hb : 0 ≤ b) (hg : 0 ≤ g) (hw : w = 0 ∨ w = 1) {m y : List Int} (hm : m.length + y.length ≤ 1000) :
    run tab k .l_claims [.tup [.tup [.int n, ls], .int first, .int b, .int g], T m, T y, .int w] = .ok (.lst ((clM n b g m y w).map T)) := by
  obtain ⟨k, rfl, hj⟩ := suc hk
  have r := rngD_zero (n := n) (by omega) (by omega)
  have ha := addT hm
  have hfr := frees_len (n := n) (m := m) (y := y) h0
  have hc : 0 ≤ cntM b g w := by unfold cntM; split <;> omega
  have ci := cnt_idx (f := .tup [.int n, ls]) (first := first) (b := b) (g := g) hw
  have mc := min_cnt (l := (frees n m y).length) hc
  have lc1 := fun s4 s5 s6 s7 s8 s9 : Option D => lcC_filter (F := run tab k) (own := [5]) (tg := .one 5) (ifs := c_l_claims_1) (elt := c_l_claims_2) (ρ := [some (.tup [.tup [.int n, ls], .int first, .int b, .int g]), some (T m), some (T y), some (.int w), s4, s5, s6, s7, s8, s9]) D.int (fun p => decide (p ∉ m ++ y)) D.int (rgI n.toNat)
    (fun p hp => by
      have e := cmp_nin_ints p (m ++ y)
      have e : cmpD .notin (.int p) (T (m ++ y)) = .ok (.bl (!decide (p ∈ m ++ y))) := e
      by_cases h : p ∈ m ++ y
      · rw [decide_eq_true h] at e
        rw [decide_eq_false (not_not_intro h)]
        generalize T (m ++ y) = my at ha e
        simp -implicitDefEqProofs [lcT, c_l_claims_1, c_l_claims_2, ha, e]
      · rw [decide_eq_false h] at e
        rw [decide_eq_true h]
        generalize T (m ++ y) = my at ha e
        simp -implicitDefEqProofs [lcT, c_l_claims_1, c_l_claims_2, ha, e])
  have e0 : (rgI n.toNat).filter (fun p => decide (p ∉ m ++ y)) = frees n m y := by
    unfold frees
    apply List.filter_congr
    intro p _
    by_cases h1 : p ∈ m <;> by_cases h2 : p ∈ y <;> simp [h1, h2]
  rw [e0] at lc1
  have hup : (frees n m y).Pairwise (· < ·) := by
    unfold frees rgI
    refine List.Pairwise.filter _ ?_
    rw [List.pairwise_map]
    exact List.pairwise_lt_range.imp fun h => Int.ofNat_lt.mpr h
  unfold clM
  have hcn : min (cntM b g w).toNat (frees n m y).length ≤ 9 := by omega
  generalize min (cntM b g w).toNat (frees n m y).length = cn at mc hcn ⊢
  generalize frees n m y = fr at *
  have hfr9 : fr.length ≤ 9 := by omega
  have rc := rngD_zero (n := (cn : Int)) (by omega) (by omega)
  rw [Int.toNat_natCast] at rc
  have lc3 := fun (cl : List Int) (s5 s6 s7 s8 : Option D) => fun hcl : cl.length ≤ 900 => lcC_filter (F := run tab k) (own := [5]) (tg := .one 5) (ifs := c_l_claims_3) (elt := c_l_claims_4) (ρ := [some (.tup [.tup [.int n, ls], .int first, .int b, .int g]), some (T m), some (T y), some (.int w), some (.lst (fr.map .int)), s5, s6, s7, s8, some (T cl)]) D.int (aft cl) (fun p => T (cl ++ [p])) fr
    (fun p hp => by
      have hadd : binD .add (T cl) (.tup [.int p]) = .ok (T (cl ++ [p])) := addT (a := cl) (b := [p]) (by show cl.length + 1 ≤ 1000; omega)
      have heq : cmpD .eq (T cl) (.tup []) = .ok (.bl (decide (cl = []))) := cmp_eq_T cl []
      cases hq : cl.getLast? with
      | none =>
        have hn : cl = [] := List.getLast?_eq_none_iff.mp hq
        have ea : aft cl p = true := by unfold aft; rw [hq]
        rw [decide_eq_true hn] at heq
        generalize T (cl ++ [p]) = clp at *
        generalize T cl = tcl at *
        simp -implicitDefEqProofs [lcT, c_l_claims_3, c_l_claims_4, heq, ea, hadd]
      | some q =>
        have hn : ¬ cl = [] := fun e => by rw [e] at hq; cases hq
        have hlast := atI_last hq
        have ea : aft cl p = decide (q < p) := by unfold aft; rw [hq]
        rw [decide_eq_false hn] at heq
        have hidx : idxD (T cl) (.int (-1)) = .ok (.int q) := by rw [idx_tup, hlast]; rfl
        generalize T (cl ++ [p]) = clp at *
        generalize T cl = tcl at *
        by_cases hqp : q < p
        · simp -implicitDefEqProofs [lcT, c_l_claims_3, c_l_claims_4, heq, ea, hadd, hidx, hqp]
        · simp -implicitDefEqProofs [lcT, c_l_claims_3, c_l_claims_4, heq, ea, hadd, hidx, hqp])
  have inner := fun (F : List (List Int)) (s5 s6 s7 s8 s9 : Sl) => fun hF : (F.flatMap (nxt fr)).length ≤ 512 => fun hF2 : ∀ cl ∈ F, cl.length ≤ 900 => forC_pre (F := run tab k) (tg := .one 9) (b := b_l_claims_1) T (fun (pre : List (List Int)) ρ => ∃ s9 : Sl, ρ = [.im (.tup [.tup [.int n, ls], .int first, .int b, .int g]), .im (T m), .im (T y), .im (.int w), .im (.lst (fr.map .int)), s5, s6, s7, .ow ((pre.flatMap (nxt fr)).map T), s9]) F
    [.im (.tup [.tup [.int n, ls], .int first, .int b, .int g]), .im (T m), .im (T y), .im (.int w), .im (.lst (fr.map .int)), s5, s6, s7, .ow [], s9] ⟨s9, rfl⟩
    (fun pre post cl ρ e hi => by
      obtain ⟨s9, rfl⟩ := hi
      have l3 := fun s5 s6 s7 s8 : Option D => lc3 cl s5 s6 s7 s8 (hF2 cl (by rw [e]; simp))
      have hlen : (pre.flatMap (nxt fr)).length + (fr.filter (aft cl)).length ≤ lim := by
        have h1 : (F.flatMap (nxt fr)).length = (pre.flatMap (nxt fr)).length + ((nxt fr cl).length + (post.flatMap (nxt fr)).length) := by
          rw [e, List.flatMap_append, List.flatMap_cons, List.length_append, List.length_append]
        have h2 : (nxt fr cl).length = (fr.filter (aft cl)).length := by unfold nxt; rw [List.length_map]
        exact Nat.le_trans (show _ ≤ 512 by omega) (by decide)
      refine ⟨[.im (.tup [.tup [.int n, ls], .int first, .int b, .int g]), .im (T m), .im (T y), .im (.int w), .im (.lst (fr.map .int)), s5, s6, s7, .ow (((pre ++ [cl]).flatMap (nxt fr)).map T), .im (T cl)], ?_, _, rfl⟩
      rw [List.flatMap_append, List.flatMap_singleton, List.map_append, show (nxt fr cl).map T = (fr.filter (aft cl)).map fun p => T (cl ++ [p]) by unfold nxt; rw [List.map_map]; rfl]
      generalize T cl = tcl at *
      simp -implicitDefEqProofs only [b_l_claims_1, bindS_one, Res.bind_ok, X_seq, X_ext, X_skip, E_lc, IT_cons, E_var, List.set_cons_succ, List.set_cons_zero, strict_cons, strict_nil, strict_im, strict_ow, List.getElem?_cons_succ, List.getElem?_cons_zero, seqOf_lst, l3, List.length_map, hlen, if_true, thenF_nx])
  obtain ⟨ρ', e, s5, s7, s8, s9, rfl⟩ := forC_pre (F := run tab k) (tg := .one 7) (b := b_l_claims_2) D.int (fun (pre : List Int) ρ => ∃ s5 s7 s8 s9 : Sl, ρ = [.im (.tup [.tup [.int n, ls], .int first, .int b, .int g]), .im (T m), .im (T y), .im (.int w), .im (.lst (fr.map .int)), s5, .im (.lst ((subs fr pre.length).map T)), s7, s8, s9]) (rgI cn)
    [.im (.tup [.tup [.int n, ls], .int first, .int b, .int g]), .im (T m), .im (T y), .im (.int w), .im (.lst (fr.map .int)), .no, .im (.lst [.tup []]), .no, .no, .no] ⟨.no, .no, .no, .no, by rw [List.length_nil, subs]; rfl⟩
    (fun pre post i ρ e hi => by
      obtain ⟨s5, s7, s8, s9, rfl⟩ := hi
      have hb := subs_bfs hup pre.length
      have hF : ((subs fr pre.length).flatMap (nxt fr)).length ≤ 512 := by rw [← hb]; exact subs_len9 hfr9
      obtain ⟨ρ2, e2, t9, rfl⟩ := inner (subs fr pre.length) s5 (.im (.lst ((subs fr pre.length).map T))) (.im (.int i)) s8 s9 hF (fun cl hcl => by have := (mem_subs.mp hcl).1.length_le; omega)
      rw [← hb] at e2
      refine ⟨[.im (.tup [.tup [.int n, ls], .int first, .int b, .int g]), .im (T m), .im (T y), .im (.int w), .im (.lst (fr.map .int)), s5, .im (.lst ((subs fr (pre.length + 1)).map T)), .im (.int i), .im (.lst ((subs fr (pre.length + 1)).map T)), t9], ?_, s5, _, _, _, by rw [List.length_append, List.length_singleton]⟩
      simp -implicitDefEqProofs [b_l_claims_2, e2])
  rw [rgI_length] at e
  rw [run_code rfl rfl]
  simp -implicitDefEqProofs [d_l_claims, start, r, lc1, ci, mc, rc, e]
end FC

/-! Who has its way. -/
set_option autoImplicit false
set_option linter.all false
set_option maxRecDepth 100000
set_option maxHeartbeats 4000000
set_option Elab.async false
namespace FC
open PySem

/-! ### positions -/
theorem mem_frees {n : Int} {m y : List Int} {p : Int} (h0 : 0 ≤ n) : p ∈ frees n m y ↔ (0 ≤ p ∧ p < n) ∧ p ∉ m ∧ p ∉ y := by
  unfold frees
  rw [List.mem_filter, mem_rgI, Bool.and_eq_true, decide_eq_true_eq, decide_eq_true_eq, Int.toNat_of_nonneg h0]
theorem frees_up {n : Int} {m y : List Int} : (frees n m y).Pairwise (· < ·) := by
  unfold frees rgI
  refine List.Pairwise.filter _ ?_
  rw [List.pairwise_map]
  exact List.pairwise_lt_range.imp fun h => Int.ofNat_lt.mpr h
theorem up_nodup {l : List Int} (h : l.Pairwise (· < ·)) : l.Nodup := h.imp fun h e => by omega
theorem over_free {n : Int} {ls : List (List Int)} {m y : List Int} (hf : FieldOk n ls) (h : frees n m y = []) : overM ls m y ≠ none := by
  unfold overM
  by_cases h1 : ls.any (full m) = true
  · rw [if_pos h1]; intro e; cases e
  · rw [if_neg h1]
    by_cases h2 : ls.all (blk y) = true
    · rw [if_pos h2]; intro e; cases e
    · exfalso
      apply h2
      rw [List.all_eq_true]
      intro l hl
      have hnf : ¬ full m l = true := fun z => h1 (List.any_eq_true.mpr ⟨l, hl, z⟩)
      unfold full at hnf
      rw [List.all_eq_true] at hnf
      have ⟨p, hp, hpm⟩ : ∃ p, p ∈ l ∧ p ∉ m := by
        refine Classical.byContradiction fun hn => hnf fun p hp => ?_
        rw [decide_eq_true_eq]
        exact Classical.byContradiction fun hm => hn ⟨p, hp, hm⟩
      have hlo := (hf.ln l hl).lo p hp
      have hhi := (hf.ln l hl).hi p hp
      have hpy : p ∈ y := Classical.byContradiction fun hy => by
        have : p ∈ frees n m y := (mem_frees (by have := hf.lo; omega)).mpr ⟨⟨hlo, hhi⟩, hpm, hy⟩
        rw [h] at this; cases this
      exact List.any_eq_true.mpr ⟨p, hp, decide_eq_true hpy⟩
theorem cl_sub {n b g : Int} {m y : List Int} {w : Int} {c : List Int} (h : c ∈ clM n b g m y w) : c.Sublist (frees n m y) ∧ c.length = min (cntM b g w).toNat (frees n m y).length := mem_subs.mp h
theorem nodup_app {a b : List Int} (h1 : a.Nodup) (h2 : b.Nodup) (h : ∀ p ∈ a, p ∉ b) : (a ++ b).Nodup := List.nodup_append.mpr ⟨h1, h2, fun x hx y hy e => h x hx (e ▸ hy)⟩
theorem put_ok {n b g : Int} (h0 : 0 ≤ n) {m y : List Int} {w : Int} {c : List Int} (hp : PosOk n m y) (hc : c ∈ clM n b g m y w) : PosOk n (putM m y w c).1 (putM m y w c).2 := by
  have hs := (cl_sub hc).1
  have hcf : ∀ p ∈ c, (0 ≤ p ∧ p < n) ∧ p ∉ m ∧ p ∉ y := fun p h => (mem_frees h0).mp (hs.subset h)
  have hcn : c.Nodup := up_nodup (frees_up.sublist hs)
  unfold putM
  split
  · refine ⟨sortI_lt (nodup_app (up_nodup hp.mup) hcn fun p h1 h2 => (hcf p h2).2.1 h1), hp.yup, fun p h => ?_, hp.ylo, fun p h => ?_⟩
    · rcases List.mem_append.mp (mem_sortI.mp h) with h | h
      · exact hp.mlo p h
      · exact (hcf p h).1
    · rcases List.mem_append.mp (mem_sortI.mp h) with h | h
      · exact hp.dis p h
      · exact (hcf p h).2.2
  · refine ⟨hp.mup, sortI_lt (nodup_app (up_nodup hp.yup) hcn fun p h1 h2 => (hcf p h2).2.2 h1), hp.mlo, fun p h => ?_, fun p h1 h => ?_⟩
    · rcases List.mem_append.mp (mem_sortI.mp h) with h | h
      · exact hp.ylo p h
      · exact (hcf p h).1
    · rcases List.mem_append.mp (mem_sortI.mp h) with h | h
      · exact hp.dis p h1 h
      · exact (hcf p h).2.1 h1
theorem filter_lt {α : Type} {p q : α → Bool} : ∀ {l : List α} {x : α}, x ∈ l → (∀ z, q z = true → p z = true) → p x = true → q x = false → (l.filter q).length < (l.filter p).length
  | z :: l, x, hx, hqp, h1, h2 => by
    have hle : (l.filter q).length ≤ (l.filter p).length := by
      clear hx h1 h2
      induction l with
      | nil => exact Nat.le_refl _
      | cons a l ih =>
        rw [List.filter_cons, List.filter_cons]
        cases hq : q a with
        | true => rw [hqp a hq]; simpa using ih
        | false => cases p a <;> simp <;> omega
    rw [List.filter_cons, List.filter_cons]
    rcases List.mem_cons.mp hx with rfl | hx
    · rw [h1, h2]; simp; omega
    · have ih := filter_lt hx hqp h1 h2
      cases hq : q z with
      | true => rw [hqp z hq]; simpa using ih
      | false => cases p z <;> simp <;> omega
theorem put_mem {m y : List Int} {w : Int} {c : List Int} {p : Int} : (p ∈ (putM m y w c).1 ∨ p ∈ (putM m y w c).2) ↔ (p ∈ m ∨ p ∈ y ∨ p ∈ c) := by
  unfold putM
  split
  · show (p ∈ sortI (m ++ c) ∨ p ∈ y) ↔ _
    rw [mem_sortI, List.mem_append]
    exact ⟨fun h => by rcases h with (h | h) | h <;> simp [h], fun h => by rcases h with h | h | h <;> simp [h]⟩
  · show (p ∈ m ∨ p ∈ sortI (y ++ c)) ↔ _
    rw [mem_sortI, List.mem_append]
theorem put_free {n b g : Int} (h0 : 0 ≤ n) (hb : 1 ≤ b) (hg : 1 ≤ g) {m y : List Int} {w : Int} {c : List Int} (hc : c ∈ clM n b g m y w) (hne : frees n m y ≠ []) : (frees n (putM m y w c).1 (putM m y w c).2).length < (frees n m y).length := by
  obtain ⟨hs, hl⟩ := cl_sub hc
  have hpos : 0 < (frees n m y).length := List.length_pos_iff.mpr hne
  have hcnt : 1 ≤ cntM b g w := by unfold cntM; split <;> omega
  have hc0 : 0 < c.length := by omega
  obtain ⟨x, hx⟩ := List.exists_mem_of_length_pos hc0
  have hxf := (mem_frees h0).mp (hs.subset hx)
  have hx2 := (put_mem (m := m) (y := y) (w := w) (c := c) (p := x)).mpr (.inr (.inr hx))
  refine filter_lt (x := x) (mem_rgI.mpr ⟨hxf.1.1, by have := hxf.1.2; omega⟩) (fun z hz => ?_) ?_ ?_
  · rw [Bool.and_eq_true, decide_eq_true_eq, decide_eq_true_eq] at hz ⊢
    exact ⟨fun h => (put_mem.mpr (.inl h)).elim hz.1 hz.2, fun h => (put_mem.mpr (.inr (.inl h))).elim hz.1 hz.2⟩
  · rw [Bool.and_eq_true, decide_eq_true_eq, decide_eq_true_eq]
    exact hxf.2
  · rw [Bool.and_eq_false_iff, decide_eq_false_iff_not, decide_eq_false_iff_not]
    exact hx2.imp (fun h q => q h) (fun h q => q h)
/-! ### the winner -/
section
variable (n b g : Int) (ls : List (List Int))
def Wf : Nat → List Int → List Int → Int → Int
  | 0, _, _, _ => 0
  | f + 1, m, y, w => match overM ls m y with
    | some v => v
    | none => if (clM n b g m y w).any (fun c => decide (Wf f (putM m y w c).1 (putM m y w c).2 (1 - w) = w)) then w else 1 - w
/-- who has its way -/
def W (m y : List Int) (w : Int) : Int := Wf n b g ls ((frees n m y).length + 1) m y w
/-- the claims behind which it has it -/
def goods (m y : List Int) (w : Int) : List (List Int) := (clM n b g m y w).filter fun c => decide (W n b g ls (putM m y w c).1 (putM m y w c).2 (1 - w) = w)
end
theorem over01 {ls : List (List Int)} {m y : List Int} {v : Int} (h : overM ls m y = some v) : v = 0 ∨ v = 1 := by
  unfold overM at h
  split at h
  · cases h; exact .inl rfl
  · split at h
    · cases h; exact .inr rfl
    · cases h
section
variable {n b g : Int} {ls : List (List Int)}
theorem Wf01 {f : Nat} {m y : List Int} {w : Int} (hw : w = 0 ∨ w = 1) : Wf n b g ls f m y w = 0 ∨ Wf n b g ls f m y w = 1 := by
  cases f with
  | zero => exact .inl rfl
  | succ f =>
    rw [Wf]
    split
    · rename_i v h; exact over01 h
    · split <;> omega
theorem W01 {m y : List Int} {w : Int} (hw : w = 0 ∨ w = 1) : W n b g ls m y w = 0 ∨ W n b g ls m y w = 1 := Wf01 hw
theorem Wf_same (hf : FieldOk n ls) (hb : 1 ≤ b) (hg : 1 ≤ g) : ∀ (f f' : Nat) (m y : List Int) (w : Int), (frees n m y).length ≤ f → (frees n m y).length ≤ f' → Wf n b g ls (f + 1) m y w = Wf n b g ls (f' + 1) m y w
  | f, f', m, y, w, h, h' => by
    have h0 : 0 ≤ n := by have := hf.lo; omega
    rw [Wf, Wf]
    cases ho : overM ls m y with
    | some v => rfl
    | none =>
      have hne : frees n m y ≠ [] := fun e => over_free hf e ho
      have hpos : 0 < (frees n m y).length := List.length_pos_iff.mpr hne
      obtain ⟨f, rfl, h1⟩ := suc (n := 0) (k := f) (by omega)
      obtain ⟨f', rfl, h1'⟩ := suc (n := 0) (k := f') (by omega)
      have e : ∀ c ∈ clM n b g m y w, Wf n b g ls (f + 1) (putM m y w c).1 (putM m y w c).2 (1 - w) = Wf n b g ls (f' + 1) (putM m y w c).1 (putM m y w c).2 (1 - w) := fun c hc => by
        have := put_free h0 hb hg hc hne
        exact Wf_same hf hb hg f f' _ _ _ (by omega) (by omega)
      have e2 : (clM n b g m y w).any (fun c => decide (Wf n b g ls (f + 1) (putM m y w c).1 (putM m y w c).2 (1 - w) = w)) = (clM n b g m y w).any (fun c => decide (Wf n b g ls (f' + 1) (putM m y w c).1 (putM m y w c).2 (1 - w) = w)) := by
        rw [Bool.eq_iff_iff, List.any_eq_true, List.any_eq_true]
        exact ⟨fun ⟨c, hc, q⟩ => ⟨c, hc, by rw [← e c hc]; exact q⟩, fun ⟨c, hc, q⟩ => ⟨c, hc, by rw [e c hc]; exact q⟩⟩
      simp only [e2]
theorem W_eq (hf : FieldOk n ls) (hb : 1 ≤ b) (hg : 1 ≤ g) {m y : List Int} {w : Int} : W n b g ls m y w = match overM ls m y with
    | some v => v
    | none => if (clM n b g m y w).any (fun c => decide (W n b g ls (putM m y w c).1 (putM m y w c).2 (1 - w) = w)) then w else 1 - w := by
  have h0 : 0 ≤ n := by have := hf.lo; omega
  show Wf n b g ls ((frees n m y).length + 1) m y w = _
  rw [Wf]
  cases ho : overM ls m y with
  | some v => rfl
  | none =>
    have hne : frees n m y ≠ [] := fun e => over_free hf e ho
    have hpos : 0 < (frees n m y).length := List.length_pos_iff.mpr hne
    have e : ∀ c ∈ clM n b g m y w, Wf n b g ls (frees n m y).length (putM m y w c).1 (putM m y w c).2 (1 - w) = W n b g ls (putM m y w c).1 (putM m y w c).2 (1 - w) := fun c hc => by
      have := put_free h0 hb hg hc hne
      obtain ⟨f, e, h1⟩ := suc (n := 0) (k := (frees n m y).length) (by omega)
      rw [e]
      exact Wf_same hf hb hg _ _ _ _ _ (by omega) (Nat.le_refl _)
    have e2 : (clM n b g m y w).any (fun c => decide (Wf n b g ls (frees n m y).length (putM m y w c).1 (putM m y w c).2 (1 - w) = w)) = (clM n b g m y w).any (fun c => decide (W n b g ls (putM m y w c).1 (putM m y w c).2 (1 - w) = w)) := by
      rw [Bool.eq_iff_iff, List.any_eq_true, List.any_eq_true]
      exact ⟨fun ⟨c, hc, q⟩ => ⟨c, hc, by rw [← e c hc]; exact q⟩, fun ⟨c, hc, q⟩ => ⟨c, hc, by rw [e c hc]; exact q⟩⟩
    simp only [e2]
end
end FC

/-! Who has its way: the module's solver and the law's. -/
set_option autoImplicit false
set_option linter.all false
set_option maxRecDepth 100000
set_option maxHeartbeats 4000000
set_option Elab.async false
namespace FC
open PySem

theorem rises_ok {n : Int} (hn : n ≤ 9) : ∀ {l : List Int}, l.Pairwise (· < ·) → (∀ p ∈ l, 0 ≤ p ∧ p < n) → risesIn 9 l = true
  | [], _, _ => rfl
  | [a], _, h => by
    have := h a List.mem_cons_self
    rw [risesIn]
    exact decide_eq_true ⟨this.1, by omega⟩
  | a :: b :: r, hp, h => by
    have h1 := List.pairwise_cons.mp hp
    have ha := h a List.mem_cons_self
    have hab := h1.1 b List.mem_cons_self
    rw [risesIn, rises_ok hn h1.2 fun p hp => h p (List.mem_cons_of_mem _ hp), Bool.and_true]
    exact decide_eq_true ⟨ha.1, hab⟩
theorem key_ok {n : Int} (hn : n ≤ 9) {m y : List Int} {w : Int} (hp : PosOk n m y) (hw : w = 0 ∨ w = 1) : keyOfD (.tup [T m, T y, .int w]) = some (m, y, w) := by
  show (match allInts (m.map D.int), allInts (y.map D.int) with
    | some m, some y => if keyOk m y w then some (m, y, w) else none
    | _, _ => none) = _
  rw [allInts_ints, allInts_ints]
  have : keyOk m y w = true := by
    unfold keyOk
    rw [rises_ok hn hp.mup hp.mlo, rises_ok hn hp.yup hp.ylo, decide_eq_true hw]; rfl
  simp only [this, if_true]
theorem pos_len {n : Int} (hn : n ≤ 9) {m y : List Int} (hp : PosOk n m y) : m.length ≤ 9 ∧ y.length ≤ 9 := by
  have h1 := len_up m 0 hp.mup hp.mlo
  have h2 := len_up y 0 hp.yup hp.ylo
  omega
theorem cl_len {n b g : Int} (h0 : 0 ≤ n) (hn : n ≤ 9) {m y c : List Int} {w : Int} (hc : c ∈ clM n b g m y w) : c.length ≤ 9 := by
  have := (cl_sub hc).1.length_le
  have := frees_len (n := n) (m := m) (y := y) h0
  omega
theorem find_take {α : Type} (p : α → Bool) : ∀ (cs : List α), (cs.filter p).take 1 = (match cs.find? p with
    | some c => [c]
    | none => [])
  | [] => rfl
  | c :: cs => by
    rw [List.filter_cons, List.find?_cons]
    cases p c with
    | true => rfl
    | false => exact find_take p cs
theorem find_some {α β : Type} (q : α → Prop) [DecidablePred q] (f : α → β) : ∀ (cs : List α), cs.findSome? (fun c => if q c then some (f c) else none) = (cs.find? fun c => decide (q c)).map f
  | [] => rfl
  | c :: cs => by
    rw [List.findSome?_cons, List.find?_cons]
    by_cases h : q c
    · rw [decide_eq_true h, if_pos h]; rfl
    · rw [decide_eq_false h, if_neg h]; exact find_some q f cs
section
variable {n b g : Int} {ls : List (List Int)} {first : Int}
/-- behind a claim, the solver -/
theorem run_behind_of {k : Nat} (hf : FieldOk n ls) {m y c : List Int} {w v : Int} (hw : w = 0 ∨ w = 1) (hp : PosOk n m y) (hc : c ∈ clM n b g m y w) (hk : 1 ≤ k)
    (h : run tab k .s_winner [.slv (Gm n ls first b g), T (putM m y w c).1, T (putM m y w c).2, .int (1 - w)] = .ok (.int v)) :
    run tab (k + 1) .s_behind [.slv (Gm n ls first b g), T m, T y, .int w, T c] = .ok (.int v) := by
  have h0 : 0 ≤ n := by have := hf.lo; omega
  have hl := pos_len hf.hi hp
  have hcl := cl_len h0 hf.hi hc
  have a1 := run_added (k := k) hk (a := m) (b := c) (by omega)
  have a2 := run_added (k := k) hk (a := y) (b := c) (by omega)
  rw [run_code rfl rfl]
  rcases hw with rfl | rfl
  · have h : run tab k .s_winner [.slv (Gm n ls first b g), T (sortI (m ++ c)), T y, .int 1] = .ok (.int v) := h
    generalize T (sortI (m ++ c)) = mc at *
    generalize Gm n ls first b g = G at *
    simp -implicitDefEqProofs [d_s_behind, start, a1, h]
  · have h : run tab k .s_winner [.slv (Gm n ls first b g), T m, T (sortI (y ++ c)), .int 0] = .ok (.int v) := h
    generalize T (sortI (y ++ c)) = yc at *
    generalize Gm n ls first b g = G at *
    simp -implicitDefEqProofs [d_s_behind, start, a2, h]
/-- the good claims, of what is behind each -/
theorem run_good_of {k : Nat} (hf : FieldOk n ls) (hb : 1 ≤ b) (hg : 1 ≤ g) {m y : List Int} {w : Int} (hw : w = 0 ∨ w = 1) (hp : PosOk n m y) (hk : (frees n m y).length + 2 ≤ k)
    (h : ∀ c ∈ clM n b g m y w, run tab k .s_behind [.slv (Gm n ls first b g), T m, T y, .int w, T c] = .ok (.int (W n b g ls (putM m y w c).1 (putM m y w c).2 (1 - w)))) :
    run tab (k + 1) .s_good [.slv (Gm n ls first b g), T m, T y, .int w, .bl true] = .ok (.lst (((goods n b g ls m y w).take 1).map T)) ∧
    run tab (k + 1) .s_good [.slv (Gm n ls first b g), T m, T y, .int w, .bl false] = .ok (.lst ((goods n b g ls m y w).map T)) := by
  have h0 : 0 ≤ n := by have := hf.lo; omega
  have cl := run_claims (k := k) h0 hf.hi (ls := TT ls) (first := first) (b := b) (g := g) (w := w) (by omega) (by omega) hw (m := m) (y := y) hk
  have hc512 : (clM n b g m y w).length ≤ 512 := subs_len9 (by have := frees_len (n := n) (m := m) (y := y) h0; have := hf.hi; omega)
  have cl : run tab k .claims [Gm n ls first b g, T m, T y, .int w] = .ok (.tup ((clM n b g m y w).map T)) := cl
  unfold goods
  generalize clM n b g m y w = cs at *
  generalize hv : (fun c => W n b g ls (putM m y w c).1 (putM m y w c).2 (1 - w)) = v at *
  have h : ∀ c ∈ cs, run tab k .s_behind [.slv (Gm n ls first b g), T m, T y, .int w, T c] = .ok (.int (v c)) := fun c hc => by rw [h c hc, ← hv]
  have e : (fun c => decide (W n b g ls (putM m y w c).1 (putM m y w c).2 (1 - w) = w)) = fun c => decide (v c = w) := by rw [← hv]
  rw [e]
  clear e hv
  generalize Gm n ls first b g = G at *
  constructor
  · have l := forC_find (F := run tab k) (tg := .one 6) (b := b_s_good_1) T (fun ρ => ∃ s6 : Sl, ρ = [.im (.slv G), .im (T m), .im (T y), .im (.int w), .im (.bl true), .ow [], s6]) (fun c => if v c = w then some (.lst [T c]) else none) cs [.im (.slv G), .im (T m), .im (T y), .im (.int w), .im (.bl true), .ow [], .no] ⟨.no, rfl⟩
      (fun c ρ hc hi => by
        obtain ⟨s6, rfl⟩ := hi
        have hb := h c hc
        have hlim : 0 < lim := by decide
        generalize T c = tc at *
        generalize v c = vc at *
        by_cases hq : vc = w
        · refine .inl ⟨_, if_pos hq, ?_⟩
          simp -implicitDefEqProofs [b_s_good_1, hb, hq, hlim]
        · refine .inr ⟨if_neg hq, [.im (.slv G), .im (T m), .im (T y), .im (.int w), .im (.bl true), .ow [], .im tc], ?_, _, rfl⟩
          simp -implicitDefEqProofs [b_s_good_1, hb, hq])
    rw [find_take]
    rw [find_some] at l
    rw [run_code rfl rfl]
    cases hfd : cs.find? fun c => decide (v c = w) with
    | none =>
      rw [hfd] at l
      rcases l with ⟨d, h1, _⟩ | ⟨_, ρ', h2, s6, rfl⟩
      · cases h1
      · simp -implicitDefEqProofs [d_s_good, start, cl, h2]
    | some c =>
      rw [hfd] at l
      rcases l with ⟨d, h1, h2⟩ | ⟨h1, _⟩
      · cases h1
        simp -implicitDefEqProofs [d_s_good, start, cl, h2]
      · cases h1
  · obtain ⟨ρ', e, s6, rfl⟩ := forC_pre (F := run tab k) (tg := .one 6) (b := b_s_good_1) T (fun (pre : List (List Int)) ρ => ∃ s6 : Sl, ρ = [.im (.slv G), .im (T m), .im (T y), .im (.int w), .im (.bl false), .ow ((pre.filter fun c => decide (v c = w)).map T), s6]) cs
      [.im (.slv G), .im (T m), .im (T y), .im (.int w), .im (.bl false), .ow [], .no] ⟨.no, rfl⟩
      (fun pre post c ρ e hi => by
        obtain ⟨s6, rfl⟩ := hi
        have hb := h c (by rw [e]; simp)
        have hlen : pre.length ≤ 512 := by rw [e, List.length_append] at hc512; omega
        have hlim : (pre.filter fun c => decide (v c = w)).length < lim := Nat.lt_of_le_of_lt (Nat.le_trans (List.length_filter_le _ _) hlen) (by decide)
        by_cases hq : v c = w
        · refine ⟨[.im (.slv G), .im (T m), .im (T y), .im (.int w), .im (.bl false), .ow (((pre ++ [c]).filter fun c => decide (v c = w)).map T), .im (T c)], ?_, _, rfl⟩
          rw [List.filter_append, List.filter_cons, decide_eq_true hq, if_pos rfl, List.filter_nil, List.map_append, List.map_singleton]
          generalize T c = tc at *
          generalize v c = vc at *
          simp -implicitDefEqProofs [b_s_good_1, hb, hq, hlim]
        · refine ⟨[.im (.slv G), .im (T m), .im (T y), .im (.int w), .im (.bl false), .ow (((pre ++ [c]).filter fun c => decide (v c = w)).map T), .im (T c)], ?_, _, rfl⟩
          rw [List.filter_append, List.filter_cons, decide_eq_false hq, if_neg Bool.false_ne_true, List.filter_nil, List.append_nil]
          generalize T c = tc at *
          generalize v c = vc at *
          simp -implicitDefEqProofs [b_s_good_1, hb, hq, hlim])
    rw [run_code rfl rfl]
    simp -implicitDefEqProofs [d_s_good, start, cl, e]
end
end FC

/-! Who has its way: by the module, by the law. -/
set_option autoImplicit false
set_option linter.all false
set_option maxRecDepth 100000
set_option maxHeartbeats 4000000
set_option Elab.async false
namespace FC
open PySem

theorem cods_ints : ∀ xs : List Int, cods (xs.map D.int) = true
  | [] => by rw [List.map_nil, cods]
  | x :: xs => by rw [List.map_cons, cods, cod, cods_ints xs]; rfl
theorem cods_Ts : ∀ xs : List (List Int), cods (xs.map T) = true
  | [] => by rw [List.map_nil, cods]
  | x :: xs => by
    rw [List.map_cons, cods, cods_Ts xs, Bool.and_true]
    show cod (.tup (x.map D.int)) = true
    rw [cod, cods_ints]
theorem cod_Gm (n : Int) (ls : List (List Int)) (first b g : Int) : cod (Gm n ls first b g) = true := by
  show cod (.tup [.tup [.int n, .tup (ls.map T)], .int first, .int b, .int g]) = true
  simp only [cod, cods, cods_Ts, Bool.and_self]
section
variable {n b g : Int} {ls : List (List Int)} {first : Int}
theorem goods_any {m y : List Int} {w : Int} : ((goods n b g ls m y w).take 1).isEmpty = !(clM n b g m y w).any (fun c => decide (W n b g ls (putM m y w c).1 (putM m y w c).2 (1 - w) = w)) := by
  unfold goods
  generalize clM n b g m y w = cs
  induction cs with
  | nil => rfl
  | cons c cs ih =>
    rw [List.filter_cons, List.any_cons]
    split
    · rename_i h; rw [h]; rfl
    · rename_i h; rw [Bool.eq_false_iff.mpr h, ih]; rfl
theorem run_s_winner (hf : FieldOk n ls) (hb : 1 ≤ b) (hg : 1 ≤ g) : ∀ (f : Nat) {k : Nat} {m y : List Int} {w : Int} (_ : w = 0 ∨ w = 1) (_ : PosOk n m y) (_ : (frees n m y).length ≤ f) (_ : 3 * f + 5 ≤ k),
    run tab k .s_winner [.slv (Gm n ls first b g), T m, T y, .int w] = .ok (.int (W n b g ls m y w))
  | f, k, m, y, w, hw, hp, hfr, hk => by
    have h0 : 0 ≤ n := by have := hf.lo; omega
    obtain ⟨k, rfl, hj⟩ := suc (n := 3 * f + 4) hk
    have hd := run_decided (k := k) (by omega) (n := n) (ls := ls) (r := [.int first, .int b, .int g]) (m := m) (y := y)
    have hd : run tab k .decided [Gm n ls first b g, T m, T y] = .ok (oD (overM ls m y)) := hd
    have hkey := key_ok hf.hi hp hw
    have hw' := W_eq hf hb hg (m := m) (y := y) (w := w)
    have hs := sameD_refl (Gm n ls first b g)
    cases ho : overM ls m y with
    | some v =>
      rw [ho] at hd hw'
      simp only at hw'
      rw [hw']
      have hd : run tab k .decided [Gm n ls first b g, T m, T y] = .ok (.int v) := hd
      rw [run_code rfl rfl]
      generalize Gm n ls first b g = G at *
      generalize T m = tm at *
      generalize T y = ty at *
      simp -implicitDefEqProofs [d_s_winner, start, b_s_winner_1, hd, hkey, gameOf, hs]
    | none =>
      rw [ho] at hd hw'
      simp only at hw'
      have hd : run tab k .decided [Gm n ls first b g, T m, T y] = .ok .non := hd
      have hne : frees n m y ≠ [] := fun e => over_free hf e ho
      have hpos : 0 < (frees n m y).length := List.length_pos_iff.mpr hne
      obtain ⟨f, rfl, hf1⟩ := suc (n := 0) (k := f) (by omega)
      obtain ⟨k, rfl, hj2⟩ := suc (n := 3 * f + 6) (k := k) (by omega)
      have beh : ∀ c ∈ clM n b g m y w, run tab k .s_behind [.slv (Gm n ls first b g), T m, T y, .int w, T c] = .ok (.int (W n b g ls (putM m y w c).1 (putM m y w c).2 (1 - w))) := fun c hc => by
        obtain ⟨k, rfl, hj3⟩ := suc (n := 3 * f + 5) (k := k) (by omega)
        have hlt := put_free h0 hb hg hc hne
        exact run_behind_of hf hw hp hc (by omega) (run_s_winner hf hb hg f (by omega) (put_ok h0 hp hc) (by omega) hj3)
      have gd := (run_good_of (k := k) hf hb hg hw hp (by omega) beh).1
      have hany := goods_any (n := n) (b := b) (g := g) (ls := ls) (m := m) (y := y) (w := w)
      generalize (clM n b g m y w).any (fun c => decide (W n b g ls (putM m y w c).1 (putM m y w c).2 (1 - w) = w)) = an at *
      generalize (goods n b g ls m y w).take 1 = gs at *
      have hemp : (gs.map T).isEmpty = !an := by rw [List.isEmpty_map]; exact hany
      generalize gs.map T = gt at *
      rw [hw']
      rw [run_code rfl rfl]
      generalize Gm n ls first b g = G at *
      generalize T m = tm at *
      generalize T y = ty at *
      cases an with
      | true => simp -implicitDefEqProofs [d_s_winner, start, b_s_winner_1, hd, hkey, gameOf, hs, gd, hemp]
      | false => simp -implicitDefEqProofs [d_s_winner, start, b_s_winner_1, hd, hkey, gameOf, hs, gd, hemp]
theorem run_l_winner (hf : FieldOk n ls) (hb : 1 ≤ b) (hg : 1 ≤ g) : ∀ (f : Nat) {k : Nat} {m y : List Int} {w : Int} (_ : w = 0 ∨ w = 1) (_ : PosOk n m y) (_ : (frees n m y).length ≤ f) (_ : f + 2 ≤ k),
    run tab k .l_winner [Gm n ls first b g, .memo true (Gm n ls first b g), T m, T y, .int w] = .ok (.int (W n b g ls m y w))
  | f, k, m, y, w, hw, hp, hfr, hk => by
    have h0 : 0 ≤ n := by have := hf.lo; omega
    obtain ⟨k, rfl, hj⟩ := suc (n := f + 1) hk
    have hd := run_l_over (k := k) (by omega) (n := n) (ls := ls) (r := [.int first, .int b, .int g]) (m := m) (y := y)
    have hd : run tab k .l_over [Gm n ls first b g, T m, T y] = .ok (oD (overM ls m y)) := hd
    have hkey := key_ok hf.hi hp hw
    have hw' := W_eq hf hb hg (m := m) (y := y) (w := w)
    have hs := sameD_refl (Gm n ls first b g)
    have hpl := pos_len hf.hi hp
    cases ho : overM ls m y with
    | some v =>
      rw [ho] at hd hw'
      simp only at hw'
      rw [hw']
      have hd : run tab k .l_over [Gm n ls first b g, T m, T y] = .ok (.int v) := hd
      rw [run_code rfl rfl]
      generalize Gm n ls first b g = G at *
      generalize T m = tm at *
      generalize T y = ty at *
      simp -implicitDefEqProofs [d_l_winner, start, b_l_winner_2, hd, hkey, gameOf, hs]
    | none =>
      rw [ho] at hd hw'
      simp only at hw'
      have hd : run tab k .l_over [Gm n ls first b g, T m, T y] = .ok .non := hd
      have hne : frees n m y ≠ [] := fun e => over_free hf e ho
      have hpos : 0 < (frees n m y).length := List.length_pos_iff.mpr hne
      obtain ⟨f, rfl, hf1⟩ := suc (n := 0) (k := f) (by omega)
      have cl := run_l_claims (k := k) (by omega) h0 hf.hi (ls := TT ls) (first := first) (b := b) (g := g) (w := w) (by omega) (by omega) hw (m := m) (y := y) (by omega)
      have cl : run tab k .l_claims [Gm n ls first b g, T m, T y, .int w] = .ok (.lst ((clM n b g m y w).map T)) := cl
      have child : ∀ c ∈ clM n b g m y w, run tab k .l_winner [Gm n ls first b g, .memo true (Gm n ls first b g), T (putM m y w c).1, T (putM m y w c).2, .int (1 - w)] = .ok (.int (W n b g ls (putM m y w c).1 (putM m y w c).2 (1 - w))) := fun c hc => by
        have hlt := put_free h0 hb hg hc hne
        exact run_l_winner hf hb hg f (by omega) (put_ok h0 hp hc) (by omega) (by omega)
      have put : ∀ c ∈ clM n b g m y w, run tab k .l_put [T m, T y, .int w, T c] = .ok (.tup [T (putM m y w c).1, T (putM m y w c).2]) := fun c hc => by
        have := cl_len h0 hf.hi hc
        exact run_l_put (by omega) (by omega) (by omega)
      have v01 : ∀ c, W n b g ls (putM m y w c).1 (putM m y w c).2 (1 - w) = w ∨ W n b g ls (putM m y w c).1 (putM m y w c).2 (1 - w) = 1 - w := fun c => by
        have := W01 (n := n) (b := b) (g := g) (ls := ls) (m := (putM m y w c).1) (y := (putM m y w c).2) (w := 1 - w) (by omega)
        omega
      obtain ⟨ρ', e, s6, s7, s8, rfl⟩ := forC_pre (F := run tab k) (tg := .one 6) (b := b_l_winner_1) T (fun (pre : List (List Int)) ρ => ∃ s6 s7 s8 : Sl, ρ = [.im (Gm n ls first b g), .im (.memo true (Gm n ls first b g)), .im (T m), .im (T y), .im (.int w), .im (.int (if pre.any (fun c => decide (W n b g ls (putM m y w c).1 (putM m y w c).2 (1 - w) = w)) then w else 1 - w)), s6, s7, s8]) (clM n b g m y w)
        [.im (Gm n ls first b g), .im (.memo true (Gm n ls first b g)), .im (T m), .im (T y), .im (.int w), .im (.int (1 - w)), .no, .no, .no] ⟨.no, .no, .no, rfl⟩
        (fun pre post c ρ e hi => by
          obtain ⟨s6, s7, s8, rfl⟩ := hi
          have hc : c ∈ clM n b g m y w := by rw [e]; simp
          have h1 := child c hc
          have h2 := put c hc
          have h3 := v01 c
          rw [List.any_append, List.any_cons, List.any_nil, Bool.or_false]
          refine ⟨[.im (Gm n ls first b g), .im (.memo true (Gm n ls first b g)), .im (T m), .im (T y), .im (.int w), .im (.int (if (pre.any (fun c => decide (W n b g ls (putM m y w c).1 (putM m y w c).2 (1 - w) = w)) || decide (W n b g ls (putM m y w c).1 (putM m y w c).2 (1 - w) = w)) then w else 1 - w)), .im (T c), .im (T (putM m y w c).1), .im (T (putM m y w c).2)], ?_, _, _, _, rfl⟩
          generalize W n b g ls (putM m y w c).1 (putM m y w c).2 (1 - w) = vc at *
          generalize T (putM m y w c).1 = t1 at *
          generalize T (putM m y w c).2 = t2 at *
          generalize T c = tc at *
          generalize (pre.any fun c => decide (W n b g ls (putM m y w c).1 (putM m y w c).2 (1 - w) = w)) = an at *
          generalize Gm n ls first b g = G at *
          generalize T m = tm at *
          generalize T y = ty at *
          have hww : ¬ (1 - w = w) := by omega
          cases an with
          | true => simp -implicitDefEqProofs [b_l_winner_1, h2]
          | false =>
            rcases h3 with rfl | rfl
            · simp -implicitDefEqProofs [b_l_winner_1, h2, hww, h1]
            · simp -implicitDefEqProofs [b_l_winner_1, h2, hww, h1])
      generalize (clM n b g m y w).any (fun c => decide (W n b g ls (putM m y w c).1 (putM m y w c).2 (1 - w) = w)) = an at *
      rw [hw']
      rw [run_code rfl rfl]
      generalize Gm n ls first b g = G at *
      generalize T m = tm at *
      generalize T y = ty at *
      simp -implicitDefEqProofs [d_l_winner, start, b_l_winner_2, hd, hkey, gameOf, hs, cl, e]
end
end FC

/-! Law 4. -/
set_option autoImplicit false
set_option linter.all false
set_option maxRecDepth 100000
set_option maxHeartbeats 4000000
set_option Elab.async false
namespace FC
open PySem

section
variable {n b g : Int} {ls : List (List Int)} {first : Int}
theorem frees9 (h0 : 0 ≤ n) (hn : n ≤ 9) {m y : List Int} : (frees n m y).length ≤ 9 := by
  have := frees_len (n := n) (m := m) (y := y) h0
  omega
theorem pos_nil {n : Int} : PosOk n [] [] := ⟨.nil, .nil, fun _ h => (nomatch h), fun _ h => (nomatch h), fun _ h => (nomatch h)⟩
theorem run_winner_from {k : Nat} (hf : FieldOk n ls) (hb : 1 ≤ b) (hg : 1 ≤ g) {m y : List Int} {w : Int} (hw : w = 0 ∨ w = 1) (hp : PosOk n m y) (hk : 33 ≤ k) :
    run tab k .winner_from [Gm n ls first b g, T m, T y, .int w] = .ok (.int (W n b g ls m y w)) := by
  obtain ⟨k, rfl, hj⟩ := suc hk
  have r := run_s_winner (first := first) hf hb hg 9 (k := k) hw hp (frees9 (by have := hf.lo; omega) hf.hi) (by omega)
  have hc := cod_Gm n ls first b g
  rw [run_code rfl rfl]
  generalize Gm n ls first b g = G at *
  simp -implicitDefEqProofs [d_winner_from, start, hc, r]
theorem run_winner {k : Nat} (hf : FieldOk n ls) (hb : 1 ≤ b) (hg : 1 ≤ g) (hw : first = 0 ∨ first = 1) (hk : 34 ≤ k) :
    run tab k .winner [Gm n ls first b g] = .ok (.int (W n b g ls [] [] first)) := by
  obtain ⟨k, rfl, hj⟩ := suc hk
  have r := run_winner_from (first := first) hf hb hg hw pos_nil hj
  have r : run tab k .winner_from [Gm n ls first b g, .tup [], .tup [], .int first] = .ok (.int (W n b g ls [] [] first)) := r
  have i : idxD (Gm n ls first b g) (.int 1) = .ok (.int first) := by simp
  rw [run_code rfl rfl]
  generalize Gm n ls first b g = G at *
  simp -implicitDefEqProofs [d_winner, start, i, r]
def toldG (n b g : Int) (ls : List (List Int)) (m y : List Int) (w : Int) : List (List Int) := if (overM ls m y).isSome then [] else goods n b g ls m y w
theorem run_good {k : Nat} (hf : FieldOk n ls) (hb : 1 ≤ b) (hg : 1 ≤ g) {m y : List Int} {w : Int} (hw : w = 0 ∨ w = 1) (hp : PosOk n m y) (hk : 34 ≤ k) :
    run tab k .s_good [.slv (Gm n ls first b g), T m, T y, .int w, .bl true] = .ok (.lst (((goods n b g ls m y w).take 1).map T)) ∧
    run tab k .s_good [.slv (Gm n ls first b g), T m, T y, .int w, .bl false] = .ok (.lst ((goods n b g ls m y w).map T)) := by
  have h0 : 0 ≤ n := by have := hf.lo; omega
  obtain ⟨k, rfl, hj⟩ := suc (n := 33) hk
  refine run_good_of hf hb hg hw hp (by have := frees9 h0 hf.hi (m := m) (y := y); omega) fun c hc => ?_
  obtain ⟨k, rfl, hj2⟩ := suc (n := 32) hj
  exact run_behind_of hf hw hp hc (by omega) (run_s_winner hf hb hg 9 (by omega) (put_ok h0 hp hc) (frees9 h0 hf.hi) (by omega))
theorem run_good_claims {k : Nat} (hf : FieldOk n ls) (hb : 1 ≤ b) (hg : 1 ≤ g) {m y : List Int} {w : Int} (hw : w = 0 ∨ w = 1) (hp : PosOk n m y) (hk : 35 ≤ k) :
    run tab k .good_claims [Gm n ls first b g, T m, T y, .int w] = .ok (.tup ((toldG n b g ls m y w).map T)) := by
  obtain ⟨k, rfl, hj⟩ := suc hk
  have hd := run_decided (k := k) (by omega) (n := n) (ls := ls) (r := [.int first, .int b, .int g]) (m := m) (y := y)
  have hd : run tab k .decided [Gm n ls first b g, T m, T y] = .ok (oD (overM ls m y)) := hd
  have gd := (run_good (first := first) hf hb hg hw hp (k := k) (by omega)).2
  have hc := cod_Gm n ls first b g
  unfold toldG
  rw [run_code rfl rfl]
  generalize Gm n ls first b g = G at *
  cases ho : overM ls m y with
  | some v =>
    rw [ho] at hd
    have hd : run tab k .decided [G, T m, T y] = .ok (.int v) := hd
    simp -implicitDefEqProofs [d_good_claims, start, hd]
  | none =>
    rw [ho] at hd
    have hd : run tab k .decided [G, T m, T y] = .ok .non := hd
    simp -implicitDefEqProofs [d_good_claims, start, hd, hc, gd]
theorem run_l_whole {k : Nat} (hk : 1 ≤ k) {i : Int} : run tab k .l_whole [.int i] = .ok (.bl true) := by
  obtain ⟨k, rfl, hj⟩ := suc hk
  rw [run_code rfl rfl]
  simp -implicitDefEqProofs [d_l_whole, start]
theorem law4_who {k : Nat} (hk : 36 ≤ k) (hf : FieldOk n ls) (hb : 1 ≤ b) (hg : 1 ≤ g) {m y : List Int} {w : Int} (hw : w = 0 ∨ w = 1) (hp : PosOk n m y) {sc cell spots : D} {s7 s8 s9 s10 s11 s12 s13 : Sl} :
    ∃ t8 t9 t10 t11 t12 t13, (bindS (.one 7) (.int w) [.im sc, .im cell, .im (Gm n ls first b g), .im (.memo true (Gm n ls first b g)), .im spots, .im (T m), .im (T y), s7, s8, s9, s10, s11, s12, s13]).bind (exec (run tab k) b_law4_2) =
      .ok (.nx [.im sc, .im cell, .im (Gm n ls first b g), .im (.memo true (Gm n ls first b g)), .im spots, .im (T m), .im (T y), .im (.int w), t8, t9, t10, t11, t12, t13]) := by
  have h0 : 0 ≤ n := by have := hf.lo; omega
  have hpl := pos_len hf.hi hp
  have r1 := run_l_winner (first := first) hf hb hg 9 (k := k) hw hp (frees9 h0 hf.hi) (by omega)
  have r2 := run_winner_from (first := first) hf hb hg hw hp (k := k) (by omega)
  have r3 := run_good_claims (first := first) hf hb hg hw hp (k := k) (by omega)
  have cl := run_l_claims (k := k) (by omega) h0 hf.hi (ls := TT ls) (first := first) (b := b) (g := g) (w := w) (by omega) (by omega) hw (m := m) (y := y) (by omega)
  have cl : run tab k .l_claims [Gm n ls first b g, T m, T y, .int w] = .ok (.lst ((clM n b g m y w).map T)) := cl
  have hd := run_l_over (k := k) (by omega) (n := n) (ls := ls) (r := [.int first, .int b, .int g]) (m := m) (y := y)
  have hd : run tab k .l_over [Gm n ls first b g, T m, T y] = .ok (oD (overM ls m y)) := hd
  have hW := W_eq hf hb hg (m := m) (y := y) (w := w)
  have hany := goods_any (n := n) (b := b) (g := g) (ls := ls) (m := m) (y := y) (w := w)
  have hc512 : (clM n b g m y w).length ≤ 512 := subs_len9 (frees9 h0 hf.hi)
  obtain ⟨ρ', e, s10', s11', s12', rfl⟩ := forC_pre (F := run tab k) (tg := .one 10) (b := b_law4_1) T (fun (pre : List (List Int)) ρ => ∃ s10 s11 s12 : Sl, ρ = [.im sc, .im cell, .im (Gm n ls first b g), .im (.memo true (Gm n ls first b g)), .im spots, .im (T m), .im (T y), .im (.int w), .im (.int (W n b g ls m y w)), .ow ((pre.filter fun c => decide (W n b g ls (putM m y w c).1 (putM m y w c).2 (1 - w) = w)).map T), s10, s11, s12, s13]) (clM n b g m y w)
    [.im sc, .im cell, .im (Gm n ls first b g), .im (.memo true (Gm n ls first b g)), .im spots, .im (T m), .im (T y), .im (.int w), .im (.int (W n b g ls m y w)), .ow [], s10, s11, s12, s13] ⟨s10, s11, s12, rfl⟩
    (fun pre post c ρ e hi => by
      obtain ⟨s10, s11, s12, rfl⟩ := hi
      have hc : c ∈ clM n b g m y w := by rw [e]; simp
      have hcl := cl_len h0 hf.hi hc
      have h2 := run_l_put (k := k) (by omega) (m := m) (y := y) (c := c) (w := w) (by omega) (by omega)
      have h1 := run_l_winner (first := first) hf hb hg 9 (k := k) (m := (putM m y w c).1) (y := (putM m y w c).2) (w := 1 - w) (by omega) (put_ok h0 hp hc) (frees9 h0 hf.hi) (by omega)
      have hlen : pre.length ≤ 512 := by rw [e, List.length_append] at hc512; omega
      have hlim : (pre.filter fun c => decide (W n b g ls (putM m y w c).1 (putM m y w c).2 (1 - w) = w)).length < lim := Nat.lt_of_le_of_lt (Nat.le_trans (List.length_filter_le _ _) hlen) (by decide)
      refine ⟨[.im sc, .im cell, .im (Gm n ls first b g), .im (.memo true (Gm n ls first b g)), .im spots, .im (T m), .im (T y), .im (.int w), .im (.int (W n b g ls m y w)), .ow (((pre ++ [c]).filter fun c => decide (W n b g ls (putM m y w c).1 (putM m y w c).2 (1 - w) = w)).map T), .im (T c), .im (T (putM m y w c).1), .im (T (putM m y w c).2), s13], ?_, _, _, _, rfl⟩
      rw [List.filter_append, List.filter_cons, List.filter_nil]
      generalize (pre.filter fun c => decide (W n b g ls (putM m y w c).1 (putM m y w c).2 (1 - w) = w)) = L at *
      generalize W n b g ls (putM m y w c).1 (putM m y w c).2 (1 - w) = vc at *
      generalize T (putM m y w c).1 = t1 at *
      generalize T (putM m y w c).2 = t2 at *
      by_cases hq : vc = w
      · rw [decide_eq_true hq, if_pos rfl, List.map_append, List.map_singleton]
        generalize T c = tc at *
        generalize Gm n ls first b g = G at *
        generalize T m = tm at *
        generalize T y = ty at *
        simp -implicitDefEqProofs [b_law4_1, h2, h1, hq, hlim]
      · rw [decide_eq_false hq, if_neg Bool.false_ne_true, List.append_nil]
        generalize T c = tc at *
        generalize Gm n ls first b g = G at *
        generalize T m = tm at *
        generalize T y = ty at *
        simp -implicitDefEqProofs [b_law4_1, h2, h1, hq, hlim])
  have e9 : ((clM n b g m y w).filter fun c => decide (W n b g ls (putM m y w c).1 (putM m y w c).2 (1 - w) = w)) = goods n b g ls m y w := rfl
  rw [e9] at e
  have hlne : cmpD .ne (.lst ((goods n b g ls m y w).map T)) (.lst []) = .ok (.bl (!(goods n b g ls m y w).isEmpty)) := by
    rw [cmp_ne (shp_LT _) shp_lnil, eqD_lst, eqL_empty, List.isEmpty_map]
  have htk : ((goods n b g ls m y w).take 1).isEmpty = (goods n b g ls m y w).isEmpty := by cases goods n b g ls m y w <;> rfl
  rw [htk] at hany
  have hne := cmp_ne_TT (toldG n b g ls m y w) (toldG n b g ls m y w)
  unfold toldG at r3 hne
  generalize (clM n b g m y w).any (fun c => decide (W n b g ls (putM m y w c).1 (putM m y w c).2 (1 - w) = w)) = an at *
  cases ho : overM ls m y with
  | some v =>
    rw [ho] at hd r3 hne
    have hd : run tab k .l_over [Gm n ls first b g, T m, T y] = .ok (.int v) := hd
    have r3 : run tab k .good_claims [Gm n ls first b g, T m, T y, .int w] = .ok (.tup []) := r3
    have hne : cmpD .ne (.tup []) (.tup []) = .ok (.bl false) := by rw [cmp_ne shp_nil shp_nil, eqD_tup]; rfl
    refine ⟨.im (.int (W n b g ls m y w)), .ow [], s10', s11', s12', .im (.bl true), ?_⟩
    generalize Gm n ls first b g = G at *
    generalize T m = tm at *
    generalize T y = ty at *
    generalize W n b g ls m y w = v at *
    simp -implicitDefEqProofs [b_law4_2, r1, r2, cl, e, hd, r3, hne]
  | none =>
    rw [ho] at hd r3 hne hW
    simp only at hW
    have hd : run tab k .l_over [Gm n ls first b g, T m, T y] = .ok .non := hd
    have r3 : run tab k .good_claims [Gm n ls first b g, T m, T y, .int w] = .ok (.tup ((goods n b g ls m y w).map T)) := r3
    have hne : cmpD .ne (.tup ((goods n b g ls m y w).map T)) (.tup ((goods n b g ls m y w).map T)) = .ok (.bl false) := by rw [cmp_ne_TT]; simp
    have hbl := cmp_ne_bl (decide (W n b g ls m y w = w)) (!(goods n b g ls m y w).isEmpty)
    have hlast : decide (W n b g ls m y w = w) = !(goods n b g ls m y w).isEmpty := by
      rw [hany, hW]
      have hww : ¬ (1 - w = w) := by omega
      cases an <;> simp [hww]
    rw [hlast, decide_eq_true rfl] at hbl
    refine ⟨.im (.int (W n b g ls m y w)), .ow ((goods n b g ls m y w).map T), s10', s11', s12', .im (.bl false), ?_⟩
    generalize List.map T (goods n b g ls m y w) = L at *
    generalize Gm n ls first b g = G at *
    generalize T m = tm at *
    generalize T y = ty at *
    generalize W n b g ls m y w = v at *
    simp -implicitDefEqProofs [b_law4_2, r1, r2, cl, e, hd, r3, hne, hlne]
    rw [hlast]
    simp -implicitDefEqProofs [hbl]
end
end FC

/-! Law 4: the end. -/
set_option autoImplicit false
set_option linter.all false
set_option maxRecDepth 100000
set_option maxHeartbeats 4000000
set_option Elab.async false
namespace FC
open PySem

theorem cut_map' {α β : Type} (f : α → β) (xs : List α) (lo hi : Option Int) : cut (xs.map f) lo hi = (cut xs lo hi).map f := by
  unfold cut
  rw [List.length_map, List.map_take, List.map_drop]
theorem law4_spot {k : Nat} (hk : 36 ≤ k) {n b g : Int} {ls : List (List Int)} {first : Int} (hf : FieldOk n ls) (hb : 1 ≤ b) (hg : 1 ≤ g) {m y : List Int} (hp : PosOk n m y) {sc cell spots : D} {s5 s6 s7 s8 s9 s10 s11 s12 s13 : Sl} :
    ∃ t7 t8 t9 t10 t11 t12 t13, (bindS (.many [5, 6]) (.tup [T m, T y]) [.im sc, .im cell, .im (Gm n ls first b g), .im (.memo true (Gm n ls first b g)), .im spots, s5, s6, s7, s8, s9, s10, s11, s12, s13]).bind (exec (run tab k) b_law4_3) =
      .ok (.nx [.im sc, .im cell, .im (Gm n ls first b g), .im (.memo true (Gm n ls first b g)), .im spots, .im (T m), .im (T y), t7, t8, t9, t10, t11, t12, t13]) := by
  obtain ⟨ρ', e, t7, t8, t9, t10, t11, t12, t13, rfl⟩ := forC_pre (F := run tab k) (tg := .one 7) (b := b_law4_2) D.int (fun (pre : List Int) ρ => ∃ t7 t8 t9 t10 t11 t12 t13 : Sl, ρ = [.im sc, .im cell, .im (Gm n ls first b g), .im (.memo true (Gm n ls first b g)), .im spots, .im (T m), .im (T y), t7, t8, t9, t10, t11, t12, t13]) [0, 1]
    [.im sc, .im cell, .im (Gm n ls first b g), .im (.memo true (Gm n ls first b g)), .im spots, .im (T m), .im (T y), s7, s8, s9, s10, s11, s12, s13] ⟨s7, s8, s9, s10, s11, s12, s13, rfl⟩
    (fun pre post i ρ e hi => by
      obtain ⟨t7, t8, t9, t10, t11, t12, t13, rfl⟩ := hi
      have hi01 : i = 0 ∨ i = 1 := by
        have : i ∈ [(0 : Int), 1] := by rw [e]; simp
        simpa using this
      obtain ⟨u8, u9, u10, u11, u12, u13, h⟩ := law4_who (k := k) hk (first := first) hf hb hg hi01 hp (sc := sc) (cell := cell) (spots := spots) (s7 := t7) (s8 := t8) (s9 := t9) (s10 := t10) (s11 := t11) (s12 := t12) (s13 := t13)
      exact ⟨_, h, _, _, _, _, _, _, _, rfl⟩)
  have e : forC (run tab k) (.one 7) b_law4_2 [.int 0, .int 1] _ = _ := e
  refine ⟨t7, t8, t9, t10, t11, t12, t13, ?_⟩
  generalize Gm n ls first b g = G at *
  generalize T m = tm at *
  generalize T y = ty at *
  simp -implicitDefEqProofs [b_law4_3, e]
theorem law4_turn {k : Nat} (hk : 36 ≤ k) {sc : D} {c : Int} {s1 s2 s3 s4 s5 s6 s7 s8 s9 s10 s11 s12 s13 : Sl} : ∃ t1 t2 t3 t4 t5 t6 t7 t8 t9 t10 t11 t12 t13,
    (bindS (.one 1) (.int c) [.im sc, s1, s2, s3, s4, s5, s6, s7, s8, s9, s10, s11, s12, s13]).bind (exec (run tab k) b_law4_4) = .ok (.nx [.im sc, t1, t2, t3, t4, t5, t6, t7, t8, t9, t10, t11, t12, t13]) := by
  obtain ⟨n, ls, first, b, g, e, hf, q1, q2, q3, h1, h2, h3⟩ := run_game (k := k) (by omega) (cell := c) (least := 1) (most := 5 + (if c % 4 = 0 then 1 else 0)) (lines := 6) (by decide) (by split <;> omega) (by split <;> omega) (by decide) (by decide)
  have hn : n ≤ 9 := hf.hi
  have hb : 1 ≤ b := by omega
  have hg : 1 ≤ g := by omega
  obtain ⟨m, y, ep, hp⟩ := run_position (k := k) (by omega) (cell := c / 7) (n := n) (ls := ls) (first := first) (b := b) (g := g) hf.lo hn
  have r1 := run_winner (k := k) hf hb hg h1 (by omega)
  have r2 := run_l_winner (first := first) hf hb hg 9 (k := k) h1 pos_nil (frees9 (by have := hf.lo; omega) hn) (by omega)
  have r2 : run tab k .l_winner [Gm n ls first b g, .memo true (Gm n ls first b g), .tup [], .tup [], .int first] = .ok (.int (W n b g ls [] [] first)) := r2
  have r3 := run_l_whole (k := k) (by omega) (i := W n b g ls [] [] first)
  have hc := cod_Gm n ls first b g
  have i1 : idxD (Gm n ls first b g) (.int 1) = .ok (.int first) := by simp
  have two := forC_pre (F := run tab k) (tg := .many [5, 6]) (b := b_law4_3) (fun q : List Int × List Int => D.tup [T q.1, T q.2]) (fun (pre : List (List Int × List Int)) ρ => ∃ t5 t6 t7 t8 t9 t10 t11 t12 t13 : Sl, ρ = [.im sc, .im (.int c), .im (Gm n ls first b g), .im (.memo true (Gm n ls first b g)), .im (.lst [.tup [.tup [], .tup []], .tup [T m, T y]]), t5, t6, t7, t8, t9, t10, t11, t12, t13]) [([], []), (m, y)]
    [.im sc, .im (.int c), .im (Gm n ls first b g), .im (.memo true (Gm n ls first b g)), .im (.lst [.tup [.tup [], .tup []], .tup [T m, T y]]), s5, s6, s7, s8, s9, s10, s11, s12, s13] ⟨s5, s6, s7, s8, s9, s10, s11, s12, s13, rfl⟩
    (fun pre post q ρ e hi => by
      obtain ⟨t5, t6, t7, t8, t9, t10, t11, t12, t13, rfl⟩ := hi
      have hq : PosOk n q.1 q.2 := by
        have : q ∈ [(([] : List Int), ([] : List Int)), (m, y)] := by rw [e]; simp
        simp only [List.mem_cons, List.mem_nil_iff, or_false] at this
        rcases this with rfl | rfl
        · exact pos_nil
        · exact hp
      obtain ⟨u7, u8, u9, u10, u11, u12, u13, h⟩ := law4_spot (k := k) hk (first := first) hf hb hg hq (sc := sc) (cell := .int c) (spots := .lst [.tup [.tup [], .tup []], .tup [T m, T y]]) (s5 := t5) (s6 := t6) (s7 := t7) (s8 := t8) (s9 := t9) (s10 := t10) (s11 := t11) (s12 := t12) (s13 := t13)
      exact ⟨_, h, _, _, _, _, _, _, _, _, _, rfl⟩)
  obtain ⟨ρ', e2, u5, u6, u7, u8, u9, u10, u11, u12, u13, rfl⟩ := two
  have e2 : forC (run tab k) (.many [5, 6]) b_law4_3 [.tup [.tup [], .tup []], .tup [T m, T y]] _ = _ := e2
  have e : run tab k .l_game [.int c, .int 1, .int (5 + (if c % 4 = 0 then 1 else 0)), .int 6] = .ok (Gm n ls first b g) := e
  refine ⟨.im (.int c), .im (Gm n ls first b g), .im (.memo true (Gm n ls first b g)), .im (.lst [.tup [.tup [], .tup []], .tup [T m, T y]]), u5, u6, u7, u8, u9, u10, u11, u12, u13, ?_⟩
  generalize Gm n ls first b g = G at *
  generalize T m = tm at *
  generalize T y = ty at *
  generalize W n b g ls [] [] first = v at *
  by_cases h4 : c % 4 = 0
  · simp only [h4, if_true] at e
    simp -implicitDefEqProofs [b_law4_4, h4]
    rw [show (5 : Int) + 1 = 6 from rfl] at e
    simp -implicitDefEqProofs [e, hc, r1, r2, r3, i1, ep, e2]
  · simp only [h4, if_false] at e
    simp -implicitDefEqProofs [b_law4_4, h4]
    rw [show (5 : Int) + 0 = 5 from rfl] at e
    simp -implicitDefEqProofs [e, hc, r1, r2, r3, i1, ep, e2]
theorem law4_ok {k : Nat} (hk : 37 ≤ k) (ns : List Int) : run tab k .law4 [.scr ns] = .ok (.bl true) := by
  obtain ⟨k, rfl, hj⟩ := suc hk
  obtain ⟨ρ', l1, t1, t2, t3, t4, t5, t6, t7, t8, t9, t10, t11, t12, t13, rfl⟩ := forC_pre (F := run tab k) (tg := .one 1) (b := b_law4_4) D.int (fun (pre : List Int) ρ => ∃ (t1 t2 t3 t4 t5 t6 t7 t8 t9 t10 t11 t12 t13 : Sl), ρ = [.im (.scr ns), t1, t2, t3, t4, t5, t6, t7, t8, t9, t10, t11, t12, t13]) (cut ns none (some 2))
      [.im (.scr ns), .no, .no, .no, .no, .no, .no, .no, .no, .no, .no, .no, .no, .no] ⟨.no, .no, .no, .no, .no, .no, .no, .no, .no, .no, .no, .no, .no, rfl⟩
      (fun pre post i ρ e hi => by
        obtain ⟨t1, t2, t3, t4, t5, t6, t7, t8, t9, t10, t11, t12, t13, rfl⟩ := hi
        obtain ⟨u1, u2, u3, u4, u5, u6, u7, u8, u9, u10, u11, u12, u13, h⟩ := law4_turn (k := k) hj (sc := .scr ns) (c := i) (s1 := t1) (s2 := t2) (s3 := t3) (s4 := t4) (s5 := t5) (s6 := t6) (s7 := t7) (s8 := t8) (s9 := t9) (s10 := t10) (s11 := t11) (s12 := t12) (s13 := t13)
        exact ⟨_, h, _, _, _, _, _, _, _, _, _, _, _, _, _, rfl⟩)
  have hc := cut_map' D.int ns none (some 2)
  rw [run_code rfl rfl]
  simp -implicitDefEqProofs [d_law4, start, hc, l1]
end FC

/-! Law 3. -/
set_option autoImplicit false
set_option linter.all false
set_option maxRecDepth 100000
set_option maxHeartbeats 4000000
set_option Elab.async false
namespace FC
open PySem

section
variable {n b g : Int} {ls : List (List Int)} {first : Int}
theorem run_claimed {k : Nat} (hk : 12 ≤ k) (hf : FieldOk n ls) (hb : 1 ≤ b) (hg : 1 ≤ g) {m y : List Int} {w : Int} (hw : w = 0 ∨ w = 1) (hp : PosOk n m y) {c : List Int} :
    run tab k .claimed [Gm n ls first b g, T m, T y, .int w, T c] = if c ∈ clM n b g m y w then .ok (.tup [T (putM m y w c).1, T (putM m y w c).2]) else .exc 1 := by
  have h0 : 0 ≤ n := by have := hf.lo; omega
  obtain ⟨k, rfl, hj⟩ := suc (n := 11) hk
  have hfr := frees9 h0 hf.hi (m := m) (y := y)
  have cl : run tab k .claims [Gm n ls first b g, T m, T y, .int w] = .ok (.tup ((clM n b g m y w).map T)) := run_claims (k := k) h0 hf.hi (ls := TT ls) (first := first) (b := b) (g := g) (w := w) (by omega) (by omega) hw (m := m) (y := y) (by omega)
  have hin : cmpD .notin (T c) (.tup ((clM n b g m y w).map T)) = .ok (.bl (!decide (c ∈ clM n b g m y w))) := cmp_nin_TT c _
  have hpl := pos_len hf.hi hp
  rw [run_code rfl rfl]
  by_cases hc : c ∈ clM n b g m y w
  · rw [if_pos hc]
    rw [decide_eq_true hc] at hin
    have hcl := cl_len h0 hf.hi hc
    have a1 := run_added (k := k) (by omega) (a := m) (b := c) (by omega)
    have a2 := run_added (k := k) (by omega) (a := y) (b := c) (by omega)
    unfold putM
    by_cases hw0 : w = 0
    · rw [if_pos hw0]
      generalize (clM n b g m y w).map T = C at *
      generalize Gm n ls first b g = G at *
      generalize T (sortI (m ++ c)) = t1 at *
      generalize T c = tc at *
      generalize T m = tm at *
      generalize T y = ty at *
      simp -implicitDefEqProofs [d_claimed, start, cl, hin, hw0, a1]
      subst hw0
      simp -implicitDefEqProofs [cl, hin, a1]
    · rw [if_neg hw0]
      generalize (clM n b g m y w).map T = C at *
      generalize Gm n ls first b g = G at *
      generalize T (sortI (y ++ c)) = t1 at *
      generalize T c = tc at *
      generalize T m = tm at *
      generalize T y = ty at *
      simp -implicitDefEqProofs [d_claimed, start, cl, hin, hw0, a2]
  · rw [if_neg hc]
    rw [decide_eq_false hc] at hin
    generalize (clM n b g m y w).map T = C at *
    generalize Gm n ls first b g = G at *
    generalize T c = tc at *
    generalize T m = tm at *
    generalize T y = ty at *
    simp -implicitDefEqProofs [d_claimed, start, cl, hin]
theorem run_l_refused {k : Nat} (hk : 13 ≤ k) (hf : FieldOk n ls) (hb : 1 ≤ b) (hg : 1 ≤ g) {m y : List Int} {w : Int} (hw : w = 0 ∨ w = 1) (hp : PosOk n m y) {c : List Int} (hc : c ∉ clM n b g m y w) :
    run tab k .l_refused [Gm n ls first b g, T m, T y, .int w, T c] = .ok (.bl true) := by
  obtain ⟨k, rfl, hj⟩ := suc (n := 12) hk
  have h := run_claimed (first := first) hj hf hb hg hw hp (c := c)
  rw [if_neg hc] at h
  have e : run tab (k + 1) .l_refused [Gm n ls first b g, T m, T y, .int w, T c] = (match run tab k .claimed [Gm n ls first b g, T m, T y, .int w, T c] with | .ok _ => .ok (.bl false) | .exc n => if n = 1 then .ok (.bl true) else .bad | .bad => .bad) := by
    rw [run]; rfl
  rw [e, h]; rfl
theorem subs_ne : ∀ {xs : List Int} {c : Nat}, c ≤ xs.length → subs xs c ≠ []
  | xs, 0, _ => by rw [subs]; intro e; cases e
  | [], c + 1, h => by simp at h
  | x :: xs, c + 1, h => by
    rw [subs]
    intro e
    have := subs_ne (xs := xs) (c := c) (by simpa using h)
    rw [List.append_eq_nil_iff, List.map_eq_nil_iff] at e
    exact this e.1
theorem clM_ne {m y : List Int} {w : Int} : clM n b g m y w ≠ [] := subs_ne (Nat.min_le_right _ _)
end
end FC

/-! What helps whom: one game beside another. -/
set_option autoImplicit false
set_option linter.all false
set_option maxRecDepth 100000
set_option maxHeartbeats 4000000
set_option Elab.async false
namespace FC
open PySem

/-! ### counting -/
theorem nd_len {α : Type} [DecidableEq α] : ∀ {a b : List α}, a.Nodup → (∀ x ∈ a, x ∈ b) → a.length ≤ b.length
  | [], _, _, _ => Nat.zero_le _
  | x :: a, b, h, hs => by
    have h1 := List.nodup_cons.mp h
    have hx := hs x List.mem_cons_self
    have ih := nd_len (b := b.erase x) h1.2 fun y hy => (List.mem_erase_of_ne (fun e => h1.1 (by rw [← e]; exact hy))).mpr (hs y (List.mem_cons_of_mem _ hy))
    rw [List.length_erase_of_mem hx] at ih
    have := List.length_pos_of_mem hx
    rw [List.length_cons]
    omega
theorem fill {P : Int → Bool} : ∀ {xs : List Int} {k : Nat}, (xs.filter P).length ≤ k → k ≤ xs.length → ∃ c : List Int, c.Sublist xs ∧ c.length = k ∧ ∀ x ∈ xs, P x = true → x ∈ c
  | [], k, _, h => ⟨[], .refl _, by rw [List.length_nil] at h ⊢; omega, fun x hx => nomatch hx⟩
  | x :: xs, k, h1, h2 => by
    rw [List.length_cons] at h2
    by_cases hx : P x = true
    · rw [List.filter_cons_of_pos hx, List.length_cons] at h1
      obtain ⟨k, rfl, _⟩ := suc (n := 0) (k := k) (by omega)
      obtain ⟨c, s, l, m⟩ := fill (P := P) (xs := xs) (k := k) (by omega) (by omega)
      refine ⟨x :: c, s.cons_cons x, by rw [List.length_cons, l], fun y hy hp => ?_⟩
      rcases List.mem_cons.mp hy with rfl | hy
      · exact List.mem_cons_self
      · exact List.mem_cons_of_mem _ (m y hy hp)
    · rw [List.filter_cons_of_neg hx] at h1
      by_cases hk : k ≤ xs.length
      · obtain ⟨c, s, l, m⟩ := fill (P := P) (xs := xs) (k := k) h1 hk
        refine ⟨c, s.cons x, l, fun y hy hp => ?_⟩
        rcases List.mem_cons.mp hy with rfl | hy
        · exact absurd hp hx
        · exact m y hy hp
      · exact ⟨x :: xs, .refl _, by rw [List.length_cons]; omega, fun y hy _ => hy⟩
/-! ### deciding -/
theorem over_zero {ls : List (List Int)} {m y : List Int} : overM ls m y = some 0 ↔ ∃ l ∈ ls, ∀ p ∈ l, p ∈ m := by
  unfold overM
  have hf : ls.any (full m) = true ↔ ∃ l ∈ ls, ∀ p ∈ l, p ∈ m := by
    rw [List.any_eq_true]
    unfold full
    simp only [List.all_eq_true, decide_eq_true_eq]
  rw [← hf]
  split
  · rename_i h; simp [h]
  · rename_i h
    split <;> simp [h]
theorem blk_iff {y l : List Int} : blk y l = true ↔ ∃ p ∈ l, p ∈ y := by
  unfold blk
  simp only [List.any_eq_true, decide_eq_true_eq]
theorem over_one {ls : List (List Int)} {m y : List Int} (h : overM ls m y = some 1) : ∀ l ∈ ls, ∃ p ∈ l, p ∈ y := by
  unfold overM at h
  split at h
  · cases h
  · split at h
    · rename_i h2
      rw [List.all_eq_true] at h2
      exact fun l hl => blk_iff.mp (h2 l hl)
    · cases h
theorem over_none {ls : List (List Int)} {m y : List Int} (h : overM ls m y = none) : ¬ (∀ l ∈ ls, ∃ p ∈ l, p ∈ y) := by
  intro q
  unfold overM at h
  split at h
  · cases h
  · split at h
    · cases h
    · rename_i h2
      exact h2 (List.all_eq_true.mpr fun l hl => blk_iff.mpr (q l hl))
/-! ### one game beside another -/
structure Sim (n b g : Int) (ls : List (List Int)) (n' b' g' : Int) (ls' : List (List Int)) (s : Int → Int) : Prop where
  f : FieldOk n ls
  f' : FieldOk n' ls'
  b1 : 1 ≤ b
  g1' : 1 ≤ g'
  bb : b ≤ b'
  gg : g' ≤ g
  inj : ∀ p q, 0 ≤ p → p < n → 0 ≤ q → q < n → s p = s q → p = q
  into : ∀ p, 0 ≤ p → p < n → 0 ≤ s p ∧ s p < n'
  lines : ∀ l ∈ ls, ∃ l' ∈ ls', ∀ q ∈ l', ∃ p ∈ l, s p = q
section
variable {n b g n' b' g' : Int} {ls ls' : List (List Int)} {s : Int → Int}
theorem sim_W (S : Sim n b g ls n' b' g' ls' s) : ∀ (f : Nat) {m y m' y' : List Int} {w w' : Int}, (frees n' m' y').length ≤ f → PosOk n m y → PosOk n' m' y' → (∀ p ∈ m, s p ∈ m') → (∀ p, 0 ≤ p → p < n → s p ∈ y' → p ∈ y) →
    (w = 0 ∨ w = 1) → (w' = w ∨ (w = 1 ∧ w' = 0)) → W n b g ls m y w = 0 → W n' b' g' ls' m' y' w' = 0
  | f, m, y, m', y', w, w', hfr, hp, hp', hm, hy, hw, hww, h => by
    have h0 : 0 ≤ n := by have := S.f.lo; omega
    have h0' : 0 ≤ n' := by have := S.f'.lo; omega
    have hb' : 1 ≤ b' := by have := S.b1; have := S.bb; omega
    have hg : 1 ≤ g := by have := S.g1'; have := S.gg; omega
    have hE := W_eq S.f S.b1 hg (m := m) (y := y) (w := w)
    rw [h] at hE
    rw [W_eq S.f' hb' S.g1']
    have hitb : ∀ {l l' : List Int}, l ∈ ls → (∀ q ∈ l', ∃ p ∈ l, s p = q) → (∃ q ∈ l', q ∈ y') → ∃ p ∈ l, p ∈ y := fun {l l'} hl hs ⟨q, hq, hqy⟩ => by
      obtain ⟨p, hpl, e⟩ := hs q hq
      have L := S.f.ln l hl
      exact ⟨p, hpl, hy p (L.lo p hpl) (L.hi p hpl) (by rw [e]; exact hqy)⟩
    cases ho : overM ls m y with
    | some v =>
      rw [ho] at hE
      have hE : 0 = v := hE
      subst hE
      obtain ⟨l, hl, hfu⟩ := over_zero.mp ho
      obtain ⟨l', hl', hs⟩ := S.lines l hl
      rw [over_zero.mpr ⟨l', hl', fun q hq => by
        obtain ⟨p, hpl, e⟩ := hs q hq
        rw [← e]
        exact hm p (hfu p hpl)⟩]
    | none =>
      have hnb := over_none ho
      rw [ho] at hE
      simp only at hE
      cases ho' : overM ls' m' y' with
      | some v =>
        rcases over01 ho' with rfl | rfl
        · rfl
        · exfalso
          have hb := over_one ho'
          exact hnb fun l hl => by
            obtain ⟨l', hl', hs⟩ := S.lines l hl
            exact hitb hl hs (hb l' hl')
      | none =>
        simp only
        have hne : frees n m y ≠ [] := fun e => over_free S.f e ho
        have hne' : frees n' m' y' ≠ [] := fun e => over_free S.f' e ho'
        have hpos' : 0 < (frees n' m' y').length := List.length_pos_iff.mpr hne'
        obtain ⟨f, rfl, _⟩ := suc (n := 0) (k := f) (by omega)
        have ih := fun {m y m' y' : List Int} {w w' : Int} => sim_W S f (m := m) (y := y) (m' := m') (y' := y') (w := w) (w' := w')
        have w01 : ∀ c, W n b g ls (putM m y w c).1 (putM m y w c).2 (1 - w) = 0 ∨ W n b g ls (putM m y w c).1 (putM m y w c).2 (1 - w) = 1 := fun c => W01 (by omega)
        rcases hww with rfl | ⟨rfl, rfl⟩
        · rcases hw with rfl | rfl
          · -- the builder's turn in both
            have hany : (clM n b g m y 0).any (fun c => decide (W n b g ls (putM m y 0 c).1 (putM m y 0 c).2 (1 - 0) = 0)) = true := by
              cases q : (clM n b g m y 0).any (fun c => decide (W n b g ls (putM m y 0 c).1 (putM m y 0 c).2 (1 - 0) = 0)) with
              | true => rfl
              | false => rw [q] at hE; simp at hE
            obtain ⟨c, hc, hcw⟩ := List.any_eq_true.mp hany
            rw [decide_eq_true_eq] at hcw
            obtain ⟨cs, cl⟩ := cl_sub hc
            have cfree : ∀ p ∈ c, (0 ≤ p ∧ p < n) ∧ p ∉ m ∧ p ∉ y := fun p q => (mem_frees h0).mp (cs.subset q)
            have hcb : c.length ≤ b.toNat := by rw [cl]; exact Nat.min_le_left _ _
            have hcount : ((frees n' m' y').filter fun q => decide (q ∈ c.map s)).length ≤ c.length := by
              have := nd_len (a := (frees n' m' y').filter fun q => decide (q ∈ c.map s)) (b := c.map s) ((up_nodup frees_up).filter _) fun x hx => of_decide_eq_true (List.mem_filter.mp hx).2
              rwa [List.length_map] at this
            obtain ⟨c', cs', cl', cm'⟩ := fill (P := fun q => decide (q ∈ c.map s)) (xs := frees n' m' y') (k := min b'.toNat (frees n' m' y').length) (by
              have h1 := List.length_filter_le (fun q => decide (q ∈ c.map s)) (frees n' m' y')
              have := S.bb
              omega) (Nat.min_le_right _ _)
            have hc' : c' ∈ clM n' b' g' m' y' 0 := mem_subs.mpr ⟨cs', cl'⟩
            have hlt := put_free h0' hb' S.g1' hc' hne'
            have r := ih (m := (putM m y 0 c).1) (y := (putM m y 0 c).2) (m' := (putM m' y' 0 c').1) (y' := (putM m' y' 0 c').2) (w := 1) (w' := 1) (by omega) (put_ok h0 hp hc) (put_ok h0' hp' hc')
              (fun p q => by
                have q : p ∈ sortI (m ++ c) := q
                show s p ∈ sortI (m' ++ c')
                rw [mem_sortI, List.mem_append] at q ⊢
                rcases q with q | q
                · exact .inl (hm p q)
                · obtain ⟨⟨a1, a2⟩, a3, a4⟩ := cfree p q
                  by_cases z : s p ∈ m'
                  · exact .inl z
                  · refine .inr (cm' (s p) ((mem_frees h0').mpr ⟨S.into p a1 a2, z, fun z2 => a4 (hy p a1 a2 z2)⟩) (decide_eq_true (List.mem_map_of_mem q))))
              (fun p a1 a2 q => hy p a1 a2 q) (.inr rfl) (.inl rfl) hcw
            have hany' : (clM n' b' g' m' y' 0).any (fun c => decide (W n' b' g' ls' (putM m' y' 0 c).1 (putM m' y' 0 c).2 (1 - 0) = 0)) = true := List.any_eq_true.mpr ⟨c', hc', decide_eq_true r⟩
            rw [hany', if_pos rfl]
          · -- the guard's turn in both
            have hany : (clM n b g m y 1).any (fun c => decide (W n b g ls (putM m y 1 c).1 (putM m y 1 c).2 (1 - 1) = 1)) = false := by
              cases q : (clM n b g m y 1).any (fun c => decide (W n b g ls (putM m y 1 c).1 (putM m y 1 c).2 (1 - 1) = 1)) with
              | false => rfl
              | true => rw [q] at hE; simp at hE
            rw [if_neg]
            · rfl
            · intro q
              obtain ⟨c', hc', hcw'⟩ := List.any_eq_true.mp q
              rw [decide_eq_true_eq] at hcw'
              obtain ⟨cs', cl'⟩ := cl_sub hc'
              have cfree' : ∀ p ∈ c', (0 ≤ p ∧ p < n') ∧ p ∉ m' ∧ p ∉ y' := fun p q => (mem_frees h0').mp (cs'.subset q)
              have hcg : c'.length ≤ g'.toNat := by rw [cl']; exact Nat.min_le_left _ _
              have hcount : ((frees n m y).filter fun p => decide (s p ∈ c')).length ≤ c'.length := by
                have hnd : (((frees n m y).filter fun p => decide (s p ∈ c')).map s).Nodup := by
                  have h1 : ((frees n m y).filter fun p => decide (s p ∈ c')).Nodup := (up_nodup frees_up).filter _
                  refine List.pairwise_map.mpr (List.Pairwise.imp_of_mem (fun {a b} ha hb hne e => ?_) h1)
                  obtain ⟨⟨a1, a2⟩, _⟩ := (mem_frees h0).mp (List.mem_filter.mp ha).1
                  obtain ⟨⟨b1, b2⟩, _⟩ := (mem_frees h0).mp (List.mem_filter.mp hb).1
                  exact hne (S.inj a b a1 a2 b1 b2 e)
                have := nd_len hnd (b := c') fun x hx => by
                  obtain ⟨p, hp1, rfl⟩ := List.mem_map.mp hx
                  exact of_decide_eq_true (List.mem_filter.mp hp1).2
                rwa [List.length_map] at this
              obtain ⟨c, cs, cl, cm⟩ := fill (P := fun p => decide (s p ∈ c')) (xs := frees n m y) (k := min g.toNat (frees n m y).length) (by
                have h1 := List.length_filter_le (fun p => decide (s p ∈ c')) (frees n m y)
                have := S.gg
                omega) (Nat.min_le_right _ _)
              have hc : c ∈ clM n b g m y 1 := mem_subs.mpr ⟨cs, cl⟩
              have hW : W n b g ls (putM m y 1 c).1 (putM m y 1 c).2 (1 - 1) = 0 := by
                rcases w01 c with z | z
                · exact z
                · rw [List.any_eq_false] at hany
                  exact absurd (decide_eq_true z) (hany c hc)
              have hlt := put_free h0' hb' S.g1' hc' hne'
              have r := ih (m := (putM m y 1 c).1) (y := (putM m y 1 c).2) (m' := (putM m' y' 1 c').1) (y' := (putM m' y' 1 c').2) (w := 1 - 1) (w' := 1 - 1) (by omega) (put_ok h0 hp hc) (put_ok h0' hp' hc')
                (fun p q => hm p q)
                (fun p a1 a2 q => by
                  have q : s p ∈ sortI (y' ++ c') := q
                  show p ∈ sortI (y ++ c)
                  rw [mem_sortI, List.mem_append] at q ⊢
                  rcases q with q | q
                  · exact .inl (hy p a1 a2 q)
                  · by_cases z : p ∈ y
                    · exact .inl z
                    · refine .inr (cm p ((mem_frees h0).mpr ⟨⟨a1, a2⟩, fun z2 => (cfree' _ q).2.1 (hm p z2), z⟩) (decide_eq_true q)))
                (.inl rfl) (.inl rfl) hW
              rw [r] at hcw'
              cases hcw'
        · -- the builder's turn here, the guard's there
          obtain ⟨c', cr, hcr⟩ := List.exists_cons_of_ne_nil (clM_ne (n := n') (b := b') (g := g') (m := m') (y := y') (w := 0))
          have hc' : c' ∈ clM n' b' g' m' y' 0 := by rw [hcr]; exact List.mem_cons_self
          have hlt := put_free h0' hb' S.g1' hc' hne'
          have r := ih (m := m) (y := y) (m' := (putM m' y' 0 c').1) (y' := (putM m' y' 0 c').2) (w := 1) (w' := 1) (by omega) hp (put_ok h0' hp' hc')
            (fun p q => by
              show s p ∈ sortI (m' ++ c')
              rw [mem_sortI, List.mem_append]
              exact .inl (hm p q))
            (fun p a1 a2 q => hy p a1 a2 q) (.inr rfl) (.inl rfl) h
          have hany' : (clM n' b' g' m' y' 0).any (fun c => decide (W n' b' g' ls' (putM m' y' 0 c).1 (putM m' y' 0 c).2 (1 - 0) = 0)) = true := List.any_eq_true.mpr ⟨c', hc', decide_eq_true r⟩
          rw [hany', if_pos rfl]
/-- the same points, other numbers claimed, other lines -/
theorem sim_id (hf : FieldOk n ls) (hf' : FieldOk n ls') (hb : 1 ≤ b) (hg : 1 ≤ g') (hbb : b ≤ b') (hgg : g' ≤ g) (hl : ∀ l ∈ ls, ∃ l' ∈ ls', ∀ q ∈ l', q ∈ l) : Sim n b g ls n b' g' ls' id :=
  ⟨hf, hf', hb, hg, hbb, hgg, fun p q _ _ _ _ e => e, fun p a b => ⟨a, b⟩, fun l h => by
    obtain ⟨l', h1, h2⟩ := hl l h
    exact ⟨l', h1, fun q hq => ⟨q, h2 q hq, rfl⟩⟩⟩
end
end FC

/-! Two fields beside one another. -/
set_option autoImplicit false
set_option linter.all false
set_option maxRecDepth 100000
set_option maxHeartbeats 4000000
set_option Elab.async false
namespace FC
open PySem

structure Two (n : Int) (ls : List (List Int)) (kA : Int) (lA : List (List Int)) (oA : Int) (kB : Int) (lB : List (List Int)) (oB : Int) : Prop where
  f : FieldOk n ls
  fA : FieldOk kA lA
  fB : FieldOk kB lB
  oA0 : 0 ≤ oA
  oB0 : 0 ≤ oB
  hA : oA + kA ≤ n
  hB : oB + kB ≤ n
  cover : ∀ p, 0 ≤ p → p < n → (oA ≤ p ∧ p < oA + kA) ∨ (oB ≤ p ∧ p < oB + kB)
  apart : ∀ p, ¬ ((oA ≤ p ∧ p < oA + kA) ∧ (oB ≤ p ∧ p < oB + kB))
  lines : ∀ l ∈ ls, (∃ l1 ∈ lA, l = l1.map (· + oA)) ∨ (∃ l1 ∈ lB, l = l1.map (· + oB))
theorem Two.swap {n : Int} {ls : List (List Int)} {kA : Int} {lA : List (List Int)} {oA kB : Int} {lB : List (List Int)} {oB : Int} (h : Two n ls kA lA oA kB lB oB) : Two n ls kB lB oB kA lA oA :=
  ⟨h.f, h.fB, h.fA, h.oB0, h.oA0, h.hB, h.hA, fun p a b => (h.cover p a b).symm, fun p q => h.apart p ⟨q.2, q.1⟩, fun l q => (h.lines l q).symm⟩
structure At (k o : Int) (m y mk yk : List Int) : Prop where
  pos : PosOk k mk yk
  m : ∀ p, 0 ≤ p → p < k → (p ∈ mk ↔ p + o ∈ m)
  y : ∀ p, 0 ≤ p → p < k → (p ∈ yk ↔ p + o ∈ y)
theorem cl_one {n : Int} {m y : List Int} {w : Int} {c : List Int} (hne : frees n m y ≠ []) : c ∈ clM n 1 1 m y w ↔ ∃ p ∈ frees n m y, c = [p] := by
  have hpos := List.length_pos_iff.mpr hne
  have e : min (cntM 1 1 w).toNat (frees n m y).length = 1 := by
    have : (cntM 1 1 w).toNat = 1 := by unfold cntM; split <;> rfl
    rw [this]; omega
  unfold clM
  rw [mem_subs, e]
  constructor
  · rintro ⟨h1, h2⟩
    obtain ⟨p, rfl⟩ := List.length_eq_one_iff.mp h2
    exact ⟨p, List.singleton_sublist.mp h1, rfl⟩
  · rintro ⟨p, hp, rfl⟩
    exact ⟨List.singleton_sublist.mpr hp, rfl⟩
theorem one_put {n : Int} {m y : List Int} {w p : Int} (h0 : 0 ≤ n) (hp : PosOk n m y) (h : p ∈ frees n m y) : PosOk n (putM m y w [p]).1 (putM m y w [p]).2 :=
  put_ok (b := 1) (g := 1) (w := w) h0 hp ((cl_one (fun e => by rw [e] at h; cases h)).mpr ⟨p, h, rfl⟩)
section
variable {n : Int} {ls : List (List Int)}
/-- decided for the guard: whoever claims what -/
theorem guard_done (hf : FieldOk n ls) {m y : List Int} {w : Int} (hp : PosOk n m y) (h : ∀ l ∈ ls, ∃ p ∈ l, p ∈ y) : W n 1 1 ls m y w = 1 := by
  rw [W_eq hf (by decide) (by decide)]
  have hn0 : ¬ ∃ l ∈ ls, ∀ p ∈ l, p ∈ m := fun ⟨l, hl, hq⟩ => by
    obtain ⟨p, hpl, hpy⟩ := h l hl
    exact hp.dis p (hq p hpl) hpy
  cases ho : overM ls m y with
  | some v =>
    rcases over01 ho with rfl | rfl
    · exact absurd (over_zero.mp ho) hn0
    · rfl
  | none => exact absurd h (over_none ho)
/-- behind a point of the builder -/
theorem step0 (hf : FieldOk n ls) {m y : List Int} {p : Int} (hp : PosOk n m y) (hW : W n 1 1 ls m y 0 = 1) (h : p ∈ frees n m y) : W n 1 1 ls (sortI (m ++ [p])) y 1 = 1 := by
  have h0 : 0 ≤ n := by have := hf.lo; omega
  have hne : frees n m y ≠ [] := fun e => by rw [e] at h; cases h
  have hE := W_eq hf (b := 1) (g := 1) (by decide) (by decide) (m := m) (y := y) (w := 0)
  rw [hW] at hE
  cases ho : overM ls m y with
  | some v =>
    rw [ho] at hE
    have hE : 1 = v := hE
    subst hE
    exact guard_done hf (one_put (w := 0) h0 hp h) (over_one ho)
  | none =>
    rw [ho] at hE
    simp only at hE
    have hany : (clM n 1 1 m y 0).any (fun c => decide (W n 1 1 ls (putM m y 0 c).1 (putM m y 0 c).2 (1 - 0) = 0)) = false := by
      cases q : (clM n 1 1 m y 0).any (fun c => decide (W n 1 1 ls (putM m y 0 c).1 (putM m y 0 c).2 (1 - 0) = 0)) with
      | false => rfl
      | true => rw [q] at hE; simp at hE
    rw [List.any_eq_false] at hany
    have := hany [p] ((cl_one hne).mpr ⟨p, h, rfl⟩)
    rw [decide_eq_true_eq] at this
    rcases W01 (n := n) (b := 1) (g := 1) (ls := ls) (m := sortI (m ++ [p])) (y := y) (w := 1) (.inr rfl) with z | z
    · exact absurd z this
    · exact z
/-- the guard with a point more -/
theorem gain (hf : FieldOk n ls) {m y : List Int} {p : Int} (hp : PosOk n m y) (hW : W n 1 1 ls m y 0 = 1) (h : p ∈ frees n m y) : W n 1 1 ls m (sortI (y ++ [p])) 0 = 1 := by
  have h0 : 0 ≤ n := by have := hf.lo; omega
  rcases W01 (n := n) (b := 1) (g := 1) (ls := ls) (m := m) (y := sortI (y ++ [p])) (w := 0) (.inl rfl) with z | z
  · have S : Sim n 1 1 ls n 1 1 ls id := sim_id hf hf (by decide) (by decide) (by decide) (by decide) fun l hl => ⟨l, hl, fun q hq => hq⟩
    have := sim_W S _ (Nat.le_refl _) (one_put (w := 1) h0 hp h) hp (fun q hq => hq) (fun q _ _ hq => by
      show q ∈ sortI (y ++ [p])
      rw [mem_sortI]
      exact List.mem_append_left _ hq) (.inl rfl) (.inl rfl) (show W n 1 1 ls (putM m y 1 [p]).1 (putM m y 1 [p]).2 0 = 0 from z)
    rw [hW] at this
    cases this
  · exact z
end
section
variable {k o : Int} {m y mk yk : List Int} {p : Int}
theorem At.free (h : At k o m y mk yk) {n : Int} (h0 : 0 ≤ n) (hk0 : 0 ≤ k) (ho : 0 ≤ o) (hn : o + k ≤ n) (p0 : 0 ≤ p) (pk : p < k) : p ∈ frees k mk yk ↔ p + o ∈ frees n m y := by
  rw [mem_frees hk0, mem_frees h0, h.m p p0 pk, h.y p p0 pk]
  constructor
  · rintro ⟨_, b⟩; exact ⟨by omega, b⟩
  · rintro ⟨_, b⟩; exact ⟨by omega, b⟩
theorem mem_one {a : List Int} {p q : Int} : q ∈ sortI (a ++ [p]) ↔ q ∈ a ∨ q = p := by rw [mem_sortI, List.mem_append, List.mem_singleton]
theorem At.own_m (h : At k o m y mk yk) (hk0 : 0 ≤ k) (hf : p ∈ frees k mk yk) : At k o (sortI (m ++ [p + o])) y (sortI (mk ++ [p])) yk := by
  refine ⟨one_put (w := 0) hk0 h.pos hf, fun q a b => ?_, h.y⟩
  rw [mem_one, mem_one, h.m q a b]
  exact or_congr_right ⟨fun e => by rw [e], fun e => by omega⟩
theorem At.own_y (h : At k o m y mk yk) (hk0 : 0 ≤ k) (hf : p ∈ frees k mk yk) : At k o m (sortI (y ++ [p + o])) mk (sortI (yk ++ [p])) := by
  refine ⟨one_put (w := 1) hk0 h.pos hf, h.m, fun q a b => ?_⟩
  rw [mem_one, mem_one, h.y q a b]
  exact or_congr_right ⟨fun e => by rw [e], fun e => by omega⟩
theorem At.other_m (h : At k o m y mk yk) (hp : ¬ (o ≤ p ∧ p < o + k)) : At k o (sortI (m ++ [p])) y mk yk := by
  refine ⟨h.pos, fun q a b => ?_, h.y⟩
  rw [mem_one, h.m q a b]
  exact ⟨.inl, fun z => z.elim id fun e => absurd ⟨by omega, by omega⟩ hp⟩
theorem At.other_y (h : At k o m y mk yk) (hp : ¬ (o ≤ p ∧ p < o + k)) : At k o m (sortI (y ++ [p])) mk yk := by
  refine ⟨h.pos, h.m, fun q a b => ?_⟩
  rw [mem_one, h.y q a b]
  exact ⟨.inl, fun z => z.elim id fun e => absurd ⟨by omega, by omega⟩ hp⟩
end
/-- the guard plays in both -/
theorem sum_W : ∀ (f : Nat) {n : Int} {ls : List (List Int)} {kA : Int} {lA : List (List Int)} {oA kB : Int} {lB : List (List Int)} {oB : Int} {m y mA yA mB yB : List Int}, Two n ls kA lA oA kB lB oB → (frees n m y).length ≤ f → PosOk n m y →
    At kA oA m y mA yA → At kB oB m y mB yB →
    (W kA 1 1 lA mA yA 0 = 1 → W kB 1 1 lB mB yB 0 = 1 → W n 1 1 ls m y 0 = 1) ∧ (W kA 1 1 lA mA yA 1 = 1 → W kB 1 1 lB mB yB 0 = 1 → W n 1 1 ls m y 1 = 1)
  | f, n, ls, kA, lA, oA, kB, lB, oB, m, y, mA, yA, mB, yB, Tw, hfr, hp, hA, hB => by
    have h0 : 0 ≤ n := by have := Tw.f.lo; omega
    have kA0 : 0 ≤ kA := by have := Tw.fA.lo; omega
    have kB0 : 0 ≤ kB := by have := Tw.fB.lo; omega
    -- no whole line of the builder
    have noz : ∀ {k : Int} {l1 : List (List Int)} {o : Int} {mk yk : List Int} {w : Int}, FieldOk k l1 → At k o m y mk yk → W k 1 1 l1 mk yk w = 1 → ¬ ∃ l ∈ l1, ∀ p ∈ l.map (· + o), p ∈ m := fun {k l1 o mk yk w} fk hk hW ⟨l, hl, hq⟩ => by
      have : overM l1 mk yk = some 0 := over_zero.mpr ⟨l, hl, fun p hpl => by
        have L := fk.ln l hl
        exact (hk.m p (L.lo p hpl) (L.hi p hpl)).mpr (hq _ (List.mem_map_of_mem hpl))⟩
      rw [W_eq fk (by decide) (by decide), this] at hW
      cases hW
    have key : ∀ wA : Int, W kA 1 1 lA mA yA wA = 1 → W kB 1 1 lB mB yB 0 = 1 → overM ls m y ≠ some 0 := fun wA hWA hWB ho => by
      obtain ⟨l, hl, hq⟩ := over_zero.mp ho
      rcases Tw.lines l hl with ⟨l1, h1, rfl⟩ | ⟨l1, h1, rfl⟩
      · exact noz Tw.fA hA hWA ⟨l1, h1, hq⟩
      · exact noz Tw.fB hB hWB ⟨l1, h1, hq⟩
    have main : ∀ w wA : Int, (w = 0 ∧ wA = 0 ∨ w = 1 ∧ wA = 1) → W kA 1 1 lA mA yA wA = 1 → W kB 1 1 lB mB yB 0 = 1 → W n 1 1 ls m y w = 1 := fun w wA hw hWA hWB => by
      rw [W_eq Tw.f (by decide) (by decide)]
      cases ho : overM ls m y with
      | some v =>
        rcases over01 ho with rfl | rfl
        · exact absurd ho (key wA hWA hWB)
        · rfl
      | none =>
        have hne : frees n m y ≠ [] := fun e => over_free Tw.f e ho
        have hpos : 0 < (frees n m y).length := List.length_pos_iff.mpr hne
        obtain ⟨f, rfl, _⟩ := suc (n := 0) (k := f) (by omega)
        have ih := fun {kA : Int} {lA : List (List Int)} {oA kB : Int} {lB : List (List Int)} {oB : Int} {m y mA yA mB yB : List Int} => sum_W f (n := n) (ls := ls) (kA := kA) (lA := lA) (oA := oA) (kB := kB) (lB := lB) (oB := oB) (m := m) (y := y) (mA := mA) (yA := yA) (mB := mB) (yB := yB)
        have less : ∀ {w p : Int}, p ∈ frees n m y → (frees n (putM m y w [p]).1 (putM m y w [p]).2).length ≤ f := fun {w p} q => by
          have := put_free (b := 1) (g := 1) h0 (by decide) (by decide) (w := w) ((cl_one hne).mpr ⟨p, q, rfl⟩) hne
          omega
        simp only
        rcases hw with ⟨rfl, rfl⟩ | ⟨rfl, rfl⟩
        · -- the builder claims
          rw [if_neg]
          · rfl
          · intro q
            obtain ⟨c, hc, hcw⟩ := List.any_eq_true.mp q
            rw [decide_eq_true_eq] at hcw
            obtain ⟨p, hpf, rfl⟩ := (cl_one hne).mp hc
            obtain ⟨⟨p0, pn⟩, _⟩ := (mem_frees h0).mp hpf
            have hpo := one_put (w := 0) h0 hp hpf
            have hl := less (w := 0) hpf
            have r : W n 1 1 ls (sortI (m ++ [p])) y 1 = 1 := by
              rcases Tw.cover p p0 pn with hin | hin
              · have hout : ¬ (oB ≤ p ∧ p < oB + kB) := fun z => Tw.apart p ⟨hin, z⟩
                have e : p - oA + oA = p := by omega
                have hfA : p - oA ∈ frees kA mA yA := (hA.free h0 kA0 Tw.oA0 Tw.hA (by omega) (by omega)).mpr (by rw [e]; exact hpf)
                have hA' := hA.own_m kA0 hfA
                rw [e] at hA'
                exact (ih Tw hl hpo hA' (hB.other_m hout)).2 (step0 Tw.fA hA.pos hWA hfA) hWB
              · have hout : ¬ (oA ≤ p ∧ p < oA + kA) := fun z => Tw.apart p ⟨z, hin⟩
                have e : p - oB + oB = p := by omega
                have hfB : p - oB ∈ frees kB mB yB := (hB.free h0 kB0 Tw.oB0 Tw.hB (by omega) (by omega)).mpr (by rw [e]; exact hpf)
                have hB' := hB.own_m kB0 hfB
                rw [e] at hB'
                exact (ih Tw.swap hl hpo hB' (hA.other_m hout)).2 (step0 Tw.fB hB.pos hWB hfB) hWA
            rw [show W n 1 1 ls (putM m y 0 [p]).1 (putM m y 0 [p]).2 (1 - 0) = 1 from r] at hcw
            cases hcw
        · -- the guard claims
          suffices q : ∃ p ∈ frees n m y, W n 1 1 ls m (sortI (y ++ [p])) 0 = 1 by
            obtain ⟨p, hpf, hq⟩ := q
            have hany : (clM n 1 1 m y 1).any (fun c => decide (W n 1 1 ls (putM m y 1 c).1 (putM m y 1 c).2 (1 - 1) = 1)) = true := List.any_eq_true.mpr ⟨[p], (cl_one hne).mpr ⟨p, hpf, rfl⟩, decide_eq_true hq⟩
            rw [hany, if_pos rfl]
          have hE := W_eq Tw.fA (b := 1) (g := 1) (by decide) (by decide) (m := mA) (y := yA) (w := 1)
          rw [hWA] at hE
          cases hoA : overM lA mA yA with
          | some v =>
            rw [hoA] at hE
            have hE : 1 = v := hE
            subst hE
            -- nothing to do there: any point
            obtain ⟨p, pr, hpr⟩ := List.exists_cons_of_ne_nil hne
            have hpf : p ∈ frees n m y := by rw [hpr]; exact List.mem_cons_self
            obtain ⟨⟨p0, pn⟩, _⟩ := (mem_frees h0).mp hpf
            have hpo := one_put (w := 1) h0 hp hpf
            have hl := less (w := 1) hpf
            refine ⟨p, hpf, ?_⟩
            rcases Tw.cover p p0 pn with hin | hin
            · have hout : ¬ (oB ≤ p ∧ p < oB + kB) := fun z => Tw.apart p ⟨hin, z⟩
              have e : p - oA + oA = p := by omega
              have hfA : p - oA ∈ frees kA mA yA := (hA.free h0 kA0 Tw.oA0 Tw.hA (by omega) (by omega)).mpr (by rw [e]; exact hpf)
              have hA' := hA.own_y kA0 hfA
              rw [e] at hA'
              exact (ih Tw hl hpo hA' (hB.other_y hout)).1 (gain Tw.fA hA.pos (guard_done Tw.fA hA.pos (over_one hoA)) hfA) hWB
            · have hout : ¬ (oA ≤ p ∧ p < oA + kA) := fun z => Tw.apart p ⟨z, hin⟩
              have e : p - oB + oB = p := by omega
              have hfB : p - oB ∈ frees kB mB yB := (hB.free h0 kB0 Tw.oB0 Tw.hB (by omega) (by omega)).mpr (by rw [e]; exact hpf)
              have hB' := hB.own_y kB0 hfB
              rw [e] at hB'
              exact (ih Tw hl hpo (hA.other_y hout) hB').1 (guard_done Tw.fA hA.pos (over_one hoA)) (gain Tw.fB hB.pos hWB hfB)
          | none =>
            rw [hoA] at hE
            simp only at hE
            have hneA : frees kA mA yA ≠ [] := fun e => over_free Tw.fA e hoA
            have hany : (clM kA 1 1 mA yA 1).any (fun c => decide (W kA 1 1 lA (putM mA yA 1 c).1 (putM mA yA 1 c).2 (1 - 1) = 1)) = true := by
              cases q : (clM kA 1 1 mA yA 1).any (fun c => decide (W kA 1 1 lA (putM mA yA 1 c).1 (putM mA yA 1 c).2 (1 - 1) = 1)) with
              | true => rfl
              | false => rw [q] at hE; simp at hE
            obtain ⟨c, hc, hcw⟩ := List.any_eq_true.mp hany
            rw [decide_eq_true_eq] at hcw
            obtain ⟨p, hfA, rfl⟩ := (cl_one hneA).mp hc
            obtain ⟨⟨p0, pn⟩, _⟩ := (mem_frees kA0).mp hfA
            have hpf : p + oA ∈ frees n m y := (hA.free h0 kA0 Tw.oA0 Tw.hA p0 pn).mp hfA
            have hout : ¬ (oB ≤ p + oA ∧ p + oA < oB + kB) := fun z => Tw.apart _ ⟨⟨by omega, by omega⟩, z⟩
            exact ⟨p + oA, hpf, (ih Tw (less (w := 1) hpf) (one_put (w := 1) h0 hp hpf) (hA.own_y kA0 hfA) (hB.other_y hout)).1 hcw hWB⟩
    exact ⟨main 0 0 (.inl ⟨rfl, rfl⟩), main 1 1 (.inr ⟨rfl, rfl⟩)⟩
end FC

/-! Fields changed: sorted lines, beside. Law 11. -/
set_option autoImplicit false
set_option linter.all false
set_option maxRecDepth 100000
set_option maxHeartbeats 4000000
set_option Elab.async false
namespace FC
open PySem

/-! ### lines, each once, rising -/
theorem mem_dd {α : Type} [DecidableEq α] {x : α} : ∀ {xs : List α}, x ∈ ddup xs ↔ x ∈ xs
  | [] => by rw [ddup]
  | y :: ys => by
    have ih := mem_dd (x := x) (xs := ys)
    rw [ddup]
    split
    · rename_i h
      rw [ih, List.mem_cons]
      exact ⟨.inr, fun q => q.elim (fun e => e ▸ h) id⟩
    · rw [List.mem_cons, List.mem_cons, ih]
theorem nodup_dd {α : Type} [DecidableEq α] : ∀ {xs : List α}, (ddup xs).Nodup
  | [] => by rw [ddup]; exact .nil
  | y :: ys => by
    rw [ddup]
    split
    · exact nodup_dd
    · rename_i h
      exact List.nodup_cons.mpr ⟨fun q => h (mem_dd.mp q), nodup_dd⟩
theorem dd_len {α : Type} [DecidableEq α] : ∀ {xs : List α}, (ddup xs).length ≤ xs.length
  | [] => by rw [ddup]; exact Nat.le_refl _
  | y :: ys => by
    have := dd_len (xs := ys)
    rw [ddup]
    split <;> simp <;> omega
theorem dd_id {α : Type} [DecidableEq α] : ∀ {xs : List α}, xs.Nodup → ddup xs = xs
  | [], _ => by rw [ddup]
  | y :: ys, h => by
    have h1 := List.nodup_cons.mp h
    rw [ddup, if_neg h1.1, dd_id h1.2]
theorem setL_sort (rs : List (List Int)) : setL rs = sortL (ddup rs) := rfl
theorem setI_sort (rs : List Int) : setI rs = sortI (ddup rs) := rfl
theorem mem_setL {rs : List (List Int)} {x : List Int} : x ∈ setL rs ↔ x ∈ rs := by rw [setL_sort, mem_sortL, mem_dd]
theorem setL_lt (rs : List (List Int)) : (setL rs).Pairwise (· < ·) := by rw [setL_sort]; exact sortL_lt nodup_dd
theorem setL_len (rs : List (List Int)) : (setL rs).length ≤ rs.length := by rw [setL_sort, sortL_length]; exact dd_len
theorem setL_id {rs : List (List Int)} (h : rs.Nodup) : setL rs = sortL rs := by rw [setL_sort, dd_id h]
theorem mem_setI {rs : List Int} {x : Int} : x ∈ setI rs ↔ x ∈ rs := by rw [setI_sort, mem_sortI, mem_dd]
theorem setI_lt (rs : List Int) : (setI rs).Pairwise (· < ·) := by rw [setI_sort]; exact sortI_lt nodup_dd
theorem setI_len (rs : List Int) : (setI rs).length ≤ rs.length := by rw [setI_sort, sortI_length]; exact dd_len
theorem rowD_Ts : ∀ rs : List (List Int), (rs.map T).mapM rowD = some rs
  | [] => rfl
  | r :: rs => by
    rw [List.map_cons, List.mapM_cons, show rowD (T r) = some r from allInts_ints r, rowD_Ts rs]; rfl
theorem sset_rows {d : D} {rs : List (List Int)} (hd : seqOf d = .ok (rs.map T)) (hl : rs.length < 64) (hn : ∀ r ∈ rs, r ≠ []) : ssetD d = .ok (.lst ((setL rs).map T)) := by
  unfold ssetD
  rw [hd, Res.bind_ok]
  cases rs with
  | nil => simp [allInts, setI, setL, ddup]
  | cons r rs =>
    have e : allInts ((r :: rs).map T) = none := rfl
    rw [e]
    simp only
    rw [rowD_Ts]
    simp only
    rw [if_pos ⟨hl, sortable_Ts hn⟩]
theorem sset_tup {rs : List (List Int)} (hl : rs.length < 64) (hn : ∀ r ∈ rs, r ≠ []) : ssetD (.tup (rs.map T)) = .ok (.lst ((setL rs).map T)) := sset_rows rfl hl hn
theorem sset_lst {rs : List (List Int)} (hl : rs.length < 64) (hn : ∀ r ∈ rs, r ≠ []) : ssetD (.lst (rs.map T)) = .ok (.lst ((setL rs).map T)) := sset_rows rfl hl hn
theorem run_sorted_lines {k : Nat} (hk : 1 ≤ k) {d : D} {rs : List (List Int)} (hd : seqOf d = .ok (rs.map T)) (hl : rs.length < 64) (hn : ∀ r ∈ rs, r ≠ []) : run tab k .sorted_lines [d] = .ok (.tup ((setL rs).map T)) := by
  obtain ⟨k, rfl, hj⟩ := suc hk
  have s := sset_rows hd hl hn
  rw [run_code rfl rfl]
  generalize (setL rs).map T = R at *
  simp -implicitDefEqProofs [d_sorted_lines, start, s]
/-! ### beside -/
def shl (o : Int) (ls : List (List Int)) : List (List Int) := ls.map fun l => l.map (· + o)
theorem lc_shift {k : Nat} {o : Int} {own : Nat} {e : C} {ρ : List (Option D)} (h : ∀ p : Int, lcT (run tab k) [own] (.one own) .nil e ρ (.int p) = .ok (some (.int (p + o)))) (l : List Int) : lcC (run tab k) [own] (.one own) .nil e ρ (l.map .int) = .ok ((l.map (· + o)).map .int) := by
  rw [List.map_map]
  exact lcC_map D.int (fun p => D.int (p + o)) l fun p _ => h p
theorem besides {n1 n2 : Int} {l1 l2 : List (List Int)} (h1 : FieldOk n1 l1) (h2 : FieldOk n2 l2) (hn : n1 + n2 ≤ 9) (hl : l1.length + l2.length ≤ 10) : FieldOk (n1 + n2) (setL (l1 ++ shl n1 l2)) ∧ (l1 ++ shl n1 l2).Nodup := by
  have a := h1.lo
  have b := h2.lo
  refine ⟨⟨by omega, hn, fun l q => ?_, setL_lt _, ?_⟩, ?_⟩
  · rw [mem_setL] at q
    rcases List.mem_append.mp q with q | q
    · have L := h1.ln l q
      exact ⟨L.ne, L.up, L.lo, fun p hp => by have := L.hi p hp; omega, L.len⟩
    · obtain ⟨r, hr, rfl⟩ := List.mem_map.mp q
      have L := h2.ln r hr
      refine ⟨fun e => L.ne (List.map_eq_nil_iff.mp e), List.pairwise_map.mpr (L.up.imp fun h => by omega), fun p hp => ?_, fun p hp => ?_, by rw [List.length_map]; exact L.len⟩
      · obtain ⟨q, hq, rfl⟩ := List.mem_map.mp hp
        have := L.lo q hq
        omega
      · obtain ⟨q, hq, rfl⟩ := List.mem_map.mp hp
        have := L.hi q hq
        omega
  · have := setL_len (l1 ++ shl n1 l2)
    rw [List.length_append, show (shl n1 l2).length = l2.length from List.length_map ..] at this
    omega
  · refine List.nodup_append.mpr ⟨h1.up.imp fun h e => by rw [e] at h; exact absurd h (List.lt_irrefl _), ?_, fun x hx y hy e => ?_⟩
    · refine List.pairwise_map.mpr (h2.up.imp fun {x y} h e => ?_)
      have := (List.map_inj_right (f := fun q : Int => q + n1) (fun x y h => by omega)).mp e
      rw [this] at h
      exact absurd h (List.lt_irrefl _)
    · subst e
      obtain ⟨r, hr, rfl⟩ := List.mem_map.mp hy
      have L := h2.ln r hr
      obtain ⟨p, pr, e⟩ := List.exists_cons_of_ne_nil L.ne
      have q1 := (h1.ln _ hx).hi (p + n1) (by rw [e]; exact List.mem_cons_self)
      have q2 := L.lo p (by rw [e]; exact List.mem_cons_self)
      omega
theorem TT_app (a b : List (List Int)) : (a ++ b).map T = a.map T ++ b.map T := List.map_append
theorem run_beside {k : Nat} (hk : 2 ≤ k) {n1 n2 : Int} {l1 l2 : List (List Int)} (h1 : FieldOk n1 l1) (h2 : FieldOk n2 l2) (hl : l1.length + l2.length ≤ 10) : run tab k .beside [Fd n1 l1, Fd n2 l2] = .ok (Fd (n1 + n2) (setL (l1 ++ shl n1 l2))) := by
  obtain ⟨k, rfl, hj⟩ := suc hk
  have i1 := fun (l : List Int) (s2 s3 : Option D) => lc_shift (k := k) (o := n1) (own := 3) (e := c_beside_1) (ρ := [some (Fd n1 l1), some (Fd n2 l2), s2, s3, some (T l)]) (fun p => by simp -implicitDefEqProofs [lcT, c_beside_1]) l
  have i2 := fun (s2 s3 s4 : Option D) => lcC_map (F := run tab k) (own := [4]) (tg := .one 4) (ifs := .nil) (elt := c_beside_2) (ρ := [some (Fd n1 l1), some (Fd n2 l2), s2, s3, s4]) T (fun l => T (l.map (· + n1))) l2
    (fun l hl => by
      have a := i1 l
      show _ = Res.ok (some (D.tup ((l.map (· + n1)).map D.int)))
      generalize (l.map (· + n1)).map D.int = z at *
      simp -implicitDefEqProofs [lcT, c_beside_2, a])
  have hlen : (l1 ++ shl n1 l2).length ≤ 10 := by
    rw [List.length_append, show (shl n1 l2).length = l2.length from List.length_map ..]
    exact hl
  have sl := run_sorted_lines (k := k) (by omega) (d := .tup ((l1 ++ shl n1 l2).map T)) rfl (by omega) fun r hr => by
    rcases List.mem_append.mp hr with hr | hr
    · exact (h1.ln r hr).ne
    · obtain ⟨q, hq, rfl⟩ := List.mem_map.mp hr
      exact fun e => (h2.ln q hq).ne (List.map_eq_nil_iff.mp e)
  have ad : binD .add (.tup (l1.map T)) (.tup (l2.map fun l => T (l.map (· + n1)))) = .ok (.tup ((l1 ++ shl n1 l2).map T)) := by
    rw [bin_addT (by rw [List.length_map, List.length_map]; omega), TT_app]
    congr 3
    unfold shl
    rw [List.map_map]; rfl
  rw [run_code rfl rfl]
  generalize (l1 ++ shl n1 l2).map T = A at *
  generalize hS : (setL (l1 ++ shl n1 l2)).map T = B at *
  generalize (l2.map fun l => T (l.map (· + n1))) = M at *
  rw [show Fd (n1 + n2) (setL (l1 ++ shl n1 l2)) = .tup [.int (n1 + n2), .tup B] by rw [← hS]]
  have i10 : idxD (Fd n1 l1) (.int 0) = .ok (.int n1) := by simp
  have i11 : idxD (Fd n1 l1) (.int 1) = .ok (TT l1) := by simp
  have i20 : idxD (Fd n2 l2) (.int 0) = .ok (.int n2) := by simp
  have i21 : idxD (Fd n2 l2) (.int 1) = .ok (TT l2) := by simp
  have sq2 : seqOf (TT l2) = .ok (l2.map T) := rfl
  have ad : binD .add (TT l1) (.tup M) = .ok (.tup A) := ad
  generalize TT l1 = T1 at *
  generalize TT l2 = T2 at *
  generalize l2.map T = L2 at *
  generalize Fd n1 l1 = F1 at *
  generalize Fd n2 l2 = F2 at *
  simp -implicitDefEqProofs [d_beside, start, i10, i11, i20, i21, sq2, i2, ad, sl]
theorem two_of_beside {n1 n2 : Int} {l1 l2 : List (List Int)} (h1 : FieldOk n1 l1) (h2 : FieldOk n2 l2) (hn : n1 + n2 ≤ 9) (hl : l1.length + l2.length ≤ 10) : Two (n1 + n2) (setL (l1 ++ shl n1 l2)) n1 l1 0 n2 l2 n1 := by
  have a := h1.lo
  have b := h2.lo
  refine ⟨(besides h1 h2 hn hl).1, h1, h2, by omega, by omega, by omega, by omega, fun p q r => by omega, fun p ⟨q, r⟩ => by omega, fun l hl' => ?_⟩
  rw [mem_setL] at hl'
  rcases List.mem_append.mp hl' with q | q
  · exact .inl ⟨l, q, by simp⟩
  · obtain ⟨r, hr, rfl⟩ := List.mem_map.mp q
    exact .inr ⟨r, hr, rfl⟩
theorem at_nil {k o : Int} : At k o [] [] [] [] := ⟨pos_nil, fun p _ _ => ⟨(fun h => nomatch h), (fun h => nomatch h)⟩, fun p _ _ => ⟨(fun h => nomatch h), (fun h => nomatch h)⟩⟩
theorem beside_W {n1 n2 : Int} {l1 l2 : List (List Int)} (h1 : FieldOk n1 l1) (h2 : FieldOk n2 l2) (hn : n1 + n2 ≤ 9) (hl : l1.length + l2.length ≤ 10) :
    W (n1 + n2) 1 1 (setL (l1 ++ shl n1 l2)) [] [] 0 = (if W n2 1 1 l2 [] [] 0 < W n1 1 1 l1 [] [] 0 then W n2 1 1 l2 [] [] 0 else W n1 1 1 l1 [] [] 0) ∧
    (W n1 1 1 l1 [] [] 1 = 1 → W n2 1 1 l2 [] [] 0 = 1 → W (n1 + n2) 1 1 (setL (l1 ++ shl n1 l2)) [] [] 1 = 1) ∧
    (W n2 1 1 l2 [] [] 1 = 1 → W n1 1 1 l1 [] [] 0 = 1 → W (n1 + n2) 1 1 (setL (l1 ++ shl n1 l2)) [] [] 1 = 1) := by
  have Tw := two_of_beside h1 h2 hn hl
  have s := sum_W _ Tw (Nat.le_refl _) pos_nil at_nil at_nil
  have s' := sum_W _ Tw.swap (Nat.le_refl _) pos_nil at_nil at_nil
  have a := h1.lo
  have b := h2.lo
  refine ⟨?_, s.2, s'.2⟩
  rcases W01 (n := n1) (b := 1) (g := 1) (ls := l1) (m := []) (y := []) (w := 0) (.inl rfl) with z1 | z1
  · have S : Sim n1 1 1 l1 (n1 + n2) 1 1 (setL (l1 ++ shl n1 l2)) id := ⟨h1, Tw.f, by decide, by decide, by decide, by decide, fun p q _ _ _ _ e => e, fun p q r => ⟨q, by show p < n1 + n2; omega⟩, fun l q => ⟨l, mem_setL.mpr (List.mem_append_left _ q), fun x hx => ⟨x, hx, rfl⟩⟩⟩
    rw [sim_W S _ (Nat.le_refl _) pos_nil pos_nil (fun p h => nomatch h) (fun p _ _ h => nomatch h) (.inl rfl) (.inl rfl) z1, z1]
    have := W01 (n := n2) (b := 1) (g := 1) (ls := l2) (m := []) (y := []) (w := 0) (.inl rfl)
    rw [if_neg (by omega)]
  · rcases W01 (n := n2) (b := 1) (g := 1) (ls := l2) (m := []) (y := []) (w := 0) (.inl rfl) with z2 | z2
    · have S : Sim n2 1 1 l2 (n1 + n2) 1 1 (setL (l1 ++ shl n1 l2)) (fun p => p + n1) := ⟨h2, Tw.f, by decide, by decide, by decide, by decide, fun p q _ _ _ _ e => by omega, fun p q r => by show 0 ≤ p + n1 ∧ p + n1 < n1 + n2; omega, fun l q => ⟨l.map (· + n1), mem_setL.mpr (List.mem_append_right _ (List.mem_map_of_mem q)), fun x hx => List.mem_map.mp hx⟩⟩
      rw [sim_W S _ (Nat.le_refl _) pos_nil pos_nil (fun p h => nomatch h) (fun p _ _ h => nomatch h) (.inl rfl) (.inl rfl) z2, z2, z1]
      rfl
    · rw [s.1 z1 z2, z1, z2]
      rfl
/-! ### law 11 -/
theorem run_cell {k : Nat} (hk : 1 ≤ k) {ns : List Int} {i : Int} (h0 : 0 ≤ i) : ∃ c, run tab k .l_cell [.scr ns, .int i] = .ok (.int c) := by
  obtain ⟨k, rfl, hj⟩ := suc hk
  by_cases h : i < ns.length
  · have a : L2.atI ns i = some (ns[i.toNat]'(by omega)) := by rw [atI_ok h0 h, List.getElem?_eq_getElem (by omega)]
    exact ⟨ns[i.toNat]'(by omega), by rw [run_code rfl rfl]; simp -implicitDefEqProofs [d_l_cell, start, h, a]⟩
  · exact ⟨0, by rw [run_code rfl rfl]; simp -implicitDefEqProofs [d_l_cell, start, h]⟩
theorem fd_ne (n : Int) (ls : List (List Int)) : cmpD .ne (Fd n ls) (Fd n ls) = .ok (.bl false) := by
  rw [cmp_ne (shp_of (lay_Fd n ls)) (shp_of (lay_Fd n ls)), eqD_tup, eqL_cons, eqL_cons, eqD_int, eqD_TT]
  simp
theorem law11_turn {k : Nat} (hk : 36 ≤ k) {ns : List Int} {i : Int} (hi : 0 ≤ i) {s1 s2 s3 s4 s5 s6 s7 s8 s9 s10 s11 : Sl} : ∃ t2 t3 t4 t5 t6 t7 t8 t9 t10 t11,
    (bindS (.one 1) (.int i) [.im (.scr ns), s1, s2, s3, s4, s5, s6, s7, s8, s9, s10, s11]).bind (exec (run tab k) b_law11_3) = .ok (.nx [.im (.scr ns), .im (.int i), t2, t3, t4, t5, t6, t7, t8, t9, t10, t11]) := by
  obtain ⟨c1, k1⟩ := run_cell (k := k) (by omega) (ns := ns) (i := 2 * i) (by omega)
  obtain ⟨c2, k2⟩ := run_cell (k := k) (by omega) (ns := ns) (i := 2 * i + 1) (by omega)
  obtain ⟨n1, l1, e1, f1, p1, q1, r1⟩ := run_field (k := k) (by omega) (cell := c1) (least := 1) (most := 3) (lines := 4) (by decide) (by decide) (by decide) (by decide) (by decide)
  obtain ⟨n2, l2, e2, f2, p2, q2, r2⟩ := run_field (k := k) (by omega) (cell := c2) (least := 1) (most := 3) (lines := 4) (by decide) (by decide) (by decide) (by decide) (by decide)
  have hn : n1 + n2 ≤ 9 := by omega
  have hl : l1.length + l2.length ≤ 10 := by omega
  have bs := run_beside (k := k) (by omega) f1 f2 hl
  obtain ⟨fB, nd⟩ := besides f1 f2 hn hl
  obtain ⟨w1, w2, w3⟩ := beside_W f1 f2 hn hl
  have lcl := fun (l : List Int) (s4 : Option D) (s5 s7 s8 s9 s10 s11 : Option D) => lc_shift (k := k) (o := n1) (own := 7) (e := c_law11_1) (ρ := [some (.scr ns), some (.int i), some (Fd n1 l1), some (Fd n2 l2), s4, s5, some (T l), s7, s8, s9, s10, s11]) (fun p => by simp -implicitDefEqProofs [lcT, c_law11_1]) l
  obtain ⟨ρ', lp, t6, rfl⟩ := forC_pre (F := run tab k) (tg := .one 6) (b := b_law11_1) T (fun (pre : List (List Int)) ρ => ∃ t6 : Sl, ρ = [.im (.scr ns), .im (.int i), .im (Fd n1 l1), .im (Fd n2 l2), .im (Fd (n1 + n2) (setL (l1 ++ shl n1 l2))), .ow ((l1 ++ shl n1 pre).map T), t6, s7, s8, s9, s10, s11]) l2
    [.im (.scr ns), .im (.int i), .im (Fd n1 l1), .im (Fd n2 l2), .im (Fd (n1 + n2) (setL (l1 ++ shl n1 l2))), .ow (l1.map T), s6, s7, s8, s9, s10, s11] ⟨s6, by rw [show shl n1 [] = [] from rfl, List.append_nil]⟩
    (fun pre post l ρ e hi => by
      obtain ⟨t6, rfl⟩ := hi
      have a := lcl l
      have hlen : (l1 ++ shl n1 pre).length < lim := by
        have := congrArg List.length e
        rw [List.length_append, List.length_cons] at this
        rw [List.length_append, show (shl n1 pre).length = pre.length from List.length_map ..]
        exact Nat.lt_of_lt_of_le (show _ < 11 by omega) (by decide)
      have ha : (l1 ++ shl n1 (pre ++ [l])).map T = (l1 ++ shl n1 pre).map T ++ [D.tup ((l.map (· + n1)).map D.int)] := by
        have : shl n1 (pre ++ [l]) = shl n1 pre ++ [l.map (· + n1)] := by unfold shl; rw [List.map_append]; rfl
        rw [this, ← List.append_assoc, TT_app]; rfl
      refine ⟨[.im (.scr ns), .im (.int i), .im (Fd n1 l1), .im (Fd n2 l2), .im (Fd (n1 + n2) (setL (l1 ++ shl n1 l2))), .ow ((l1 ++ shl n1 (pre ++ [l])).map T), .im (T l), s7, s8, s9, s10, s11], ?_, _, rfl⟩
      rw [ha]
      rw [← List.length_map (f := T)] at hlen
      generalize (l1 ++ shl n1 pre).map T = L at *
      generalize Fd (n1 + n2) (setL (l1 ++ shl n1 l2)) = F3 at *
      generalize (l.map (· + n1)).map D.int = z at *
      generalize Fd n1 l1 = F1 at *
      generalize Fd n2 l2 = F2 at *
      simp -implicitDefEqProofs [b_law11_1, a, hlen])
  have srt : biD .sorted [.lst ((l1 ++ shl n1 l2).map T)] = .ok (.lst ((setL (l1 ++ shl n1 l2)).map T)) := by
    rw [bj_sorted_Ts, setL_id nd]
    intro x hx
    exact (fB.ln x (mem_setL.mpr hx)).ne
  have ne1 := fd_ne (n1 + n2) (setL (l1 ++ shl n1 l2))
  have ne1 : cmpD .ne (Fd (n1 + n2) (setL (l1 ++ shl n1 l2))) (.tup [.int (n1 + n2), .tup ((setL (l1 ++ shl n1 l2)).map T)]) = .ok (.bl false) := ne1
  have g0 : ∀ {n ls} (w : Int), FieldOk n ls → (w = 0 ∨ w = 1) → run tab k .winner [.tup [Fd n ls, .int w, .int 1, .int 1]] = .ok (.int (W n 1 1 ls [] [] w)) := fun {n ls} w hf hw => run_winner (k := k) hf (by decide) (by decide) hw (by omega)
  have x0 := g0 0 fB (.inl rfl)
  have x1 := g0 1 fB (.inr rfl)
  have y0 := g0 0 f1 (.inl rfl)
  have y1 := g0 1 f1 (.inr rfl)
  have z0 := g0 0 f2 (.inl rfl)
  have z1 := g0 1 f2 (.inr rfl)
  have i10 : idxD (Fd n1 l1) (.int 0) = .ok (.int n1) := by simp
  have i11 : idxD (Fd n1 l1) (.int 1) = .ok (TT l1) := by simp
  have i20 : idxD (Fd n2 l2) (.int 0) = .ok (.int n2) := by simp
  have i21 : idxD (Fd n2 l2) (.int 1) = .ok (TT l2) := by simp
  have ls1 : biD .list [TT l1] = .ok (.lst (l1.map T)) := bj_list_tup _
  have sq2 : seqOf (TT l2) = .ok (l2.map T) := rfl
  rw [w1] at x0
  -- the end
  have lst2 : ∃ t10 t11, forC (run tab k) (.many [10, 11]) b_law11_2 [.tup [Fd n1 l1, Fd n2 l2], .tup [Fd n2 l2, Fd n1 l1]] [.im (.scr ns), .im (.int i), .im (Fd n1 l1), .im (Fd n2 l2), .im (Fd (n1 + n2) (setL (l1 ++ shl n1 l2))), .ow ((l1 ++ shl n1 l2).map T), t6, s7, .im (.int (W (n1 + n2) 1 1 (setL (l1 ++ shl n1 l2)) [] [] 1)), .im (.int (if W n2 1 1 l2 [] [] 0 < W n1 1 1 l1 [] [] 0 then W n2 1 1 l2 [] [] 0 else W n1 1 1 l1 [] [] 0)), s10, s11] =
      .ok (.nx [.im (.scr ns), .im (.int i), .im (Fd n1 l1), .im (Fd n2 l2), .im (Fd (n1 + n2) (setL (l1 ++ shl n1 l2))), .ow ((l1 ++ shl n1 l2).map T), t6, s7, .im (.int (W (n1 + n2) 1 1 (setL (l1 ++ shl n1 l2)) [] [] 1)), .im (.int (if W n2 1 1 l2 [] [] 0 < W n1 1 1 l1 [] [] 0 then W n2 1 1 l2 [] [] 0 else W n1 1 1 l1 [] [] 0)), t10, t11]) := by
    refine ⟨.im (Fd n2 l2), .im (Fd n1 l1), ?_⟩
    generalize W (n1 + n2) 1 1 (setL (l1 ++ shl n1 l2)) [] [] 1 = v at *
    generalize W n1 1 1 l1 [] [] 1 = a1 at *
    generalize W n1 1 1 l1 [] [] 0 = a0 at *
    generalize W n2 1 1 l2 [] [] 1 = b1 at *
    generalize W n2 1 1 l2 [] [] 0 = b0 at *
    generalize Fd (n1 + n2) (setL (l1 ++ shl n1 l2)) = F3 at *
    generalize Fd n1 l1 = F1 at *
    generalize Fd n2 l2 = F2 at *
    generalize (l1 ++ shl n1 l2).map T = L at *
    have one : ∀ (r10 r11 : Sl), (bindS (.many [10, 11]) (.tup [F1, F2]) [.im (.scr ns), .im (.int i), .im F1, .im F2, .im F3, .ow L, t6, s7, .im (.int v), .im (.int (if b0 < a0 then b0 else a0)), r10, r11]).bind (exec (run tab k) b_law11_2) = .ok (.nx [.im (.scr ns), .im (.int i), .im F1, .im F2, .im F3, .ow L, t6, s7, .im (.int v), .im (.int (if b0 < a0 then b0 else a0)), .im F1, .im F2]) := fun r10 r11 => by
      by_cases ha : a1 = 1
      · by_cases hb : b0 = 1
        · have := w2 ha hb
          simp -implicitDefEqProofs [b_law11_2, y1, z0, ha, hb, this]
        · simp -implicitDefEqProofs [b_law11_2, y1, z0, ha, hb]
      · simp -implicitDefEqProofs [b_law11_2, y1, z0, ha]
    have two : ∀ (r10 r11 : Sl), (bindS (.many [10, 11]) (.tup [F2, F1]) [.im (.scr ns), .im (.int i), .im F1, .im F2, .im F3, .ow L, t6, s7, .im (.int v), .im (.int (if b0 < a0 then b0 else a0)), r10, r11]).bind (exec (run tab k) b_law11_2) = .ok (.nx [.im (.scr ns), .im (.int i), .im F1, .im F2, .im F3, .ow L, t6, s7, .im (.int v), .im (.int (if b0 < a0 then b0 else a0)), .im F2, .im F1]) := fun r10 r11 => by
      by_cases ha : b1 = 1
      · by_cases hb : a0 = 1
        · have := w3 ha hb
          simp -implicitDefEqProofs [b_law11_2, y0, z1, ha, hb, this]
        · simp -implicitDefEqProofs [b_law11_2, y0, z1, ha, hb]
      · simp -implicitDefEqProofs [b_law11_2, y0, z1, ha]
    rw [forC_cons, one, thenF_nx, forC_cons, two, thenF_nx, forC_nil]
  obtain ⟨t10, t11, l2'⟩ := lst2
  refine ⟨.im (Fd n1 l1), .im (Fd n2 l2), .im (Fd (n1 + n2) (setL (l1 ++ shl n1 l2))), .ow ((l1 ++ shl n1 l2).map T), t6, s7, .im (.int (W (n1 + n2) 1 1 (setL (l1 ++ shl n1 l2)) [] [] 1)), .im (.int (if W n2 1 1 l2 [] [] 0 < W n1 1 1 l1 [] [] 0 then W n2 1 1 l2 [] [] 0 else W n1 1 1 l1 [] [] 0)), t10, t11, ?_⟩
  clear w2 w3 w1
  generalize W (n1 + n2) 1 1 (setL (l1 ++ shl n1 l2)) [] [] 1 = v at *
  generalize W n1 1 1 l1 [] [] 1 = a1 at *
  generalize W n1 1 1 l1 [] [] 0 = a0 at *
  generalize W n2 1 1 l2 [] [] 1 = b1 at *
  generalize W n2 1 1 l2 [] [] 0 = b0 at *
  generalize Fd (n1 + n2) (setL (l1 ++ shl n1 l2)) = F3 at *
  generalize (setL (l1 ++ shl n1 l2)).map T = L3 at *
  generalize (l1 ++ shl n1 l2).map T = L at *
  generalize TT l1 = T1 at *
  generalize TT l2 = T2 at *
  generalize Fd n1 l1 = F1 at *
  generalize Fd n2 l2 = F2 at *
  simp -implicitDefEqProofs [b_law11_3, k1, k2, e1, e2, bs, i10, i11, i20, i21, ls1, sq2, lp, srt, ne1, x0, x1, y0, z0, l2']
theorem law11_ok {k : Nat} (hk : 37 ≤ k) (ns : List Int) : run tab k .law11 [.scr ns] = .ok (.bl true) := by
  obtain ⟨k, rfl, hj⟩ := suc hk
  have r := rngD_zero (n := 3) (by decide) (by decide)
  obtain ⟨ρ', l1, t1, t2, t3, t4, t5, t6, t7, t8, t9, t10, t11, rfl⟩ := forC_pre (F := run tab k) (tg := .one 1) (b := b_law11_3) D.int (fun (pre : List Int) ρ => ∃ (t1 t2 t3 t4 t5 t6 t7 t8 t9 t10 t11 : Sl), ρ = [.im (.scr ns), t1, t2, t3, t4, t5, t6, t7, t8, t9, t10, t11]) (rgI 3)
      [.im (.scr ns), .no, .no, .no, .no, .no, .no, .no, .no, .no, .no, .no] ⟨.no, .no, .no, .no, .no, .no, .no, .no, .no, .no, .no, rfl⟩
      (fun pre post i ρ e hi => by
        obtain ⟨t1, t2, t3, t4, t5, t6, t7, t8, t9, t10, t11, rfl⟩ := hi
        have hm := mem_rgI.mp (show i ∈ rgI 3 by rw [e]; simp)
        obtain ⟨u2, u3, u4, u5, u6, u7, u8, u9, u10, u11, h⟩ := law11_turn (k := k) hj (ns := ns) hm.1 (s1 := t1) (s2 := t2) (s3 := t3) (s4 := t4) (s5 := t5) (s6 := t6) (s7 := t7) (s8 := t8) (s9 := t9) (s10 := t10) (s11 := t11)
        exact ⟨_, h, _, _, _, _, _, _, _, _, _, _, _, rfl⟩)
  have r : rngD (.int 0) (.int 3) = .ok ((rgI 3).map .int) := r
  rw [run_code rfl rfl]
  generalize (rgI 3).map D.int = z3 at *
  simp -implicitDefEqProofs [d_law11, start, r, l1]
end FC

/-! Law 6: pairs; what is_pairing and the law's own tell. -/
set_option autoImplicit false
set_option linter.all false
set_option maxRecDepth 100000
set_option maxHeartbeats 4000000
set_option Elab.async false
namespace FC
open PySem

abbrev Pr := Int × Int
def pr (p : Pr) : List Int := [p.1, p.2]
def rows (ps : List Pr) : List (List Int) := ps.map pr
def hp (l : List Int) (ps : List Pr) : Bool := ps.any fun p => decide (p.1 ∈ l) && decide (p.2 ∈ l)
def pts (ps : List Pr) : List Int := ps.flatMap pr
theorem rows_T (ps : List Pr) : (rows ps).map T = ps.map fun p => D.tup [.int p.1, .int p.2] := by unfold rows; rw [List.map_map]; rfl
theorem run_holds_pair {k : Nat} (hk : 1 ≤ k) {l : List Int} {d : D} {ps : List Pr} (hd : seqOf d = .ok ((rows ps).map T)) : run tab k .holds_pair [T l, d] = .ok (.bl (hp l ps)) := by
  obtain ⟨k, rfl, hj⟩ := suc hk
  have lc := fun s2 s3 : Option D => lcC_map (F := run tab k) (own := [2, 3]) (tg := .many [2, 3]) (ifs := .nil) (elt := c_holds_pair_1) (ρ := [some (T l), some d, s2, s3]) (fun p : Pr => D.tup [.int p.1, .int p.2]) (fun p => D.bl (decide (p.1 ∈ l) && decide (p.2 ∈ l))) ps
    (fun p hp => by
      by_cases h : p.1 ∈ l
      · simp -implicitDefEqProofs [lcT, c_holds_pair_1, h]
      · simp -implicitDefEqProofs [lcT, c_holds_pair_1, h])
  rw [← rows_T] at lc
  have an := any_bls (fun p : Pr => decide (p.1 ∈ l) && decide (p.2 ∈ l)) ps
  rw [run_code rfl rfl]
  unfold hp
  generalize (ps.any fun p : Pr => decide (p.1 ∈ l) && decide (p.2 ∈ l)) = r at *
  generalize (ps.map fun p : Pr => D.bl (decide (p.1 ∈ l) && decide (p.2 ∈ l))) = B at *
  generalize (rows ps).map T = R at *
  generalize T l = tl at *
  simp -implicitDefEqProofs [d_holds_pair, start, hd, lc, an]
theorem filt_any {α : Type} (q : α → Bool) : ∀ xs : List α, (xs.filter q).isEmpty = !xs.any q
  | [] => rfl
  | x :: xs => by
    rw [List.filter_cons, List.any_cons]
    cases h : q x with
    | true => rfl
    | false => simpa using filt_any q xs
theorem run_l_holds {k : Nat} (hk : 1 ≤ k) {l : List Int} {d : D} {ps : List Pr} (hd : seqOf d = .ok ((rows ps).map T)) : run tab k .l_holds [T l, d] = .ok (.bl (hp l ps)) := by
  obtain ⟨k, rfl, hj⟩ := suc hk
  have lc := fun s2 : Option D => lcC_filter (F := run tab k) (own := [2]) (tg := .one 2) (ifs := c_l_holds_1) (elt := c_l_holds_2) (ρ := [some (T l), some d, s2]) (fun p : Pr => D.tup [.int p.1, .int p.2]) (fun p => decide (p.1 ∈ l) && decide (p.2 ∈ l)) (fun p : Pr => D.tup [.int p.1, .int p.2]) ps
    (fun p hp => by
      by_cases h : p.1 ∈ l
      · by_cases h2 : p.2 ∈ l
        · simp -implicitDefEqProofs [lcT, c_l_holds_1, c_l_holds_2, h, h2]
        · simp -implicitDefEqProofs [lcT, c_l_holds_1, c_l_holds_2, h, h2]
      · simp -implicitDefEqProofs [lcT, c_l_holds_1, c_l_holds_2, h])
  have e1 : ∀ xs : List Pr, (xs.map fun p => D.tup [.int p.1, .int p.2]) = (rows xs).map T := fun xs => (rows_T xs).symm
  rw [e1] at lc
  simp only [e1] at lc
  have ne : cmpD .ne (.lst ((rows (ps.filter fun p => decide (p.1 ∈ l) && decide (p.2 ∈ l))).map T)) (.lst []) = .ok (.bl (hp l ps)) := by
    rw [cmp_ne (shp_LT _) shp_lnil, eqD_lst, eqL_empty]
    have : ((rows (ps.filter fun p => decide (p.1 ∈ l) && decide (p.2 ∈ l))).map T).isEmpty = !hp l ps := by
      unfold rows hp
      rw [List.isEmpty_map, List.isEmpty_map]
      exact filt_any _ ps
    rw [this, Bool.not_not]
  rw [run_code rfl rfl]
  generalize (rows (ps.filter fun p => decide (p.1 ∈ l) && decide (p.2 ∈ l))).map T = R1 at *
  generalize (rows ps).map T = R at *
  generalize T l = tl at *
  simp -implicitDefEqProofs [d_l_holds, start, hd, lc, ne]
theorem run_points_of {k : Nat} (hk : 1 ≤ k) {d : D} {rs : List (List Int)} (hd : seqOf d = .ok (rs.map T)) (hl : rs.flatten.length ≤ 1000) : run tab k .points_of [d] = .ok (.lst (rs.flatten.map .int)) := by
  obtain ⟨k, rfl, hj⟩ := suc hk
  obtain ⟨ρ', e, s2, rfl⟩ := forC_pre (F := run tab k) (tg := .one 2) (b := b_points_of_1) T (fun (pre : List (List Int)) ρ => ∃ s2 : Sl, ρ = [.im d, .ow (pre.flatten.map .int), s2]) rs [.im d, .ow [], .no] ⟨.no, rfl⟩
    (fun pre post r ρ e hi => by
      obtain ⟨s2, rfl⟩ := hi
      have hlen : (pre.flatten.map D.int).length + (r.map D.int).length ≤ lim := by
        rw [List.length_map, List.length_map]
        rw [e, List.flatten_append, List.length_append, List.flatten_cons, List.length_append] at hl
        exact small_lim (by omega)
      have bl : biD .list [T r] = .ok (.lst (r.map .int)) := bj_list_tup _
      refine ⟨[.im d, .ow ((pre ++ [r]).flatten.map .int), .im (T r)], ?_, _, rfl⟩
      rw [List.flatten_append, List.flatten_singleton, List.map_append]
      generalize pre.flatten.map D.int = A at *
      generalize r.map D.int = B at *
      generalize D.tup B = tr at *
      simp -implicitDefEqProofs [b_points_of_1, bl, hlen])
  rw [run_code rfl rfl]
  generalize rs.flatten.map D.int = A at *
  generalize rs.map T = R at *
  simp -implicitDefEqProofs [d_points_of, start, hd, e]
/-! ### what a pairing is -/
def pairB (n : Int) : List Int → Bool
  | [a, b] => decide (0 ≤ a ∧ a < b ∧ b < n)
  | _ => false
def dn (ns : List Int) : Bool := decide ((meets ns).length = ns.length)
def isP (n : Int) (ls rs : List (List Int)) : Bool := rs.all (pairB n) && (dn rs.flatten && (ris ltL rs && ls.all fun l => rs.any fun r => r.all fun x => decide (x ∈ l)))
theorem pairB_line {n : Int} {r : List Int} : (lineB n (T r) && decide (r.length = 2)) = pairB n r := by
  rw [Bool.eq_iff_iff, Bool.and_eq_true, decide_eq_true_eq, lineB_T]
  match r with
  | [] => simp [pairB]
  | [_] => simp [pairB]
  | _ :: _ :: _ :: _ => simp [pairB]
  | [a, b] =>
    simp only [pairB, decide_eq_true_eq]
    constructor
    · rintro ⟨⟨_, h2, h3⟩, _⟩
      have a1 := h2 a (by simp)
      have b1 := h2 b (by simp)
      have := (List.pairwise_cons.mp h3).1 b (by simp)
      omega
    · rintro ⟨h1, h2, h3⟩
      refine ⟨⟨by simp, fun z hz => ?_, ?_⟩, rfl⟩
      · simp only [List.mem_cons, List.mem_nil_iff, or_false] at hz
        omega
      · exact List.pairwise_cons.mpr ⟨fun z hz => by rw [List.mem_singleton.mp hz]; exact h2, List.pairwise_singleton _ _⟩
theorem pairB_rows {n : Int} : ∀ {rs : List (List Int)}, rs.all (pairB n) = true → ∃ ps : List Pr, rs = rows ps ∧ ∀ p ∈ ps, 0 ≤ p.1 ∧ p.1 < p.2 ∧ p.2 < n
  | [], _ => ⟨[], rfl, fun p h => nomatch h⟩
  | r :: rs, h => by
    rw [List.all_cons, Bool.and_eq_true] at h
    obtain ⟨ps, rfl, hp⟩ := pairB_rows h.2
    match r, h.1 with
    | [a, b], h1 =>
      have h1 : decide (0 ≤ a ∧ a < b ∧ b < n) = true := h1
      rw [decide_eq_true_eq] at h1
      exact ⟨(a, b) :: ps, rfl, fun p hq => by
        rcases List.mem_cons.mp hq with rfl | hq
        · exact h1
        · exact hp p hq⟩
theorem rows_flat (ps : List Pr) : (rows ps).flatten = pts ps := by unfold rows pts; rw [List.flatMap_def]
theorem hp_rows (l : List Int) (ps : List Pr) : ((rows ps).any fun r => r.all fun x => decide (x ∈ l)) = hp l ps := by
  unfold rows hp
  rw [List.any_map]
  congr 1
  funext p
  simp [pr]
theorem lset_run {ns : List Int} (h : ns.length < 64) : lsetD (.lst (ns.map .int)) = .ok (.int (meets ns).length) := by
  unfold lsetD
  rw [seqOf_lst, Res.bind_ok, allInts_ints]
  simp only
  rw [if_pos h]
theorem flat_two : ∀ {ps : List Pr}, (pts ps).length = 2 * ps.length
  | [] => rfl
  | p :: ps => by
    have := flat_two (ps := ps)
    unfold pts at this ⊢
    rw [List.flatMap_cons, List.length_append, this, List.length_cons]
    show 2 + _ = _
    omega
theorem run_is_pairing {k : Nat} (hk : 4 ≤ k) {n : Int} {ls rs : List (List Int)} (hr : ∀ r ∈ rs, r.length ≤ 100) (hl : rs.length ≤ 31) : run tab k .is_pairing [Fd n ls, .tup (rs.map T)] = .ok (.bl (isP n ls rs)) := by
  obtain ⟨k, rfl, hj⟩ := suc hk
  have i0 : idxD (Fd n ls) (.int 0) = .ok (.int n) := by simp
  have i1 : idxD (Fd n ls) (.int 1) = .ok (TT ls) := by simp
  have sqL : seqOf (TT ls) = .ok (ls.map T) := rfl
  have lc1 := fun s2 s3 s4 : Option D => lcC_map (F := run tab k) (own := [2]) (tg := .one 2) (ifs := .nil) (elt := c_is_pairing_1) (ρ := [some (Fd n ls), some (.tup (rs.map T)), s2, s3, s4]) T (fun r => D.bl (pairB n r)) rs
    (fun r hrm => by
      have ln : run tab k .is_line [T r, .int n] = .ok (.bl (lineB n (T r))) := run_line (k := k) (by omega) (sm_T (by have := hr r hrm; omega))
      have bl : biD .len [T r] = .ok (.int (r.length : Int)) := by rw [bj_len_tup, List.length_map]
      rw [← pairB_line]
      generalize Fd n ls = F at *
      generalize D.tup (rs.map T) = R at *
      have e2 : decide ((r.length : Int) = 2) = decide (r.length = 2) := by
        by_cases h : r.length = 2
        · rw [decide_eq_true h, decide_eq_true (by omega)]
        · rw [decide_eq_false h, decide_eq_false (by omega)]
      generalize T r = tr at *
      cases h : lineB n tr with
      | true => rw [h] at ln; simp -implicitDefEqProofs [lcT, c_is_pairing_1, i0, ln, bl, e2]
      | false => rw [h] at ln; simp -implicitDefEqProofs [lcT, c_is_pairing_1, i0, ln])
  have al := all_bls (pairB n) rs
  rw [run_code rfl rfl]
  unfold isP
  cases hA : rs.all (pairB n) with
  | false =>
    rw [hA] at al
    generalize (rs.map fun r => D.bl (pairB n r)) = B at *
    generalize Fd n ls = F at *
    generalize rs.map T = R at *
    simp -implicitDefEqProofs [d_is_pairing, start, lc1, al]
  | true =>
    rw [hA] at al
    obtain ⟨ps, rfl, hps⟩ := pairB_rows hA
    have hfl : (pts ps).length = 2 * ps.length := flat_two
    have hpl : (rows ps).length = ps.length := List.length_map ..
    have po := run_points_of (k := k) (by omega) (d := .tup ((rows ps).map T)) (rs := rows ps) rfl (by rw [rows_flat]; omega)
    have ls_ := lset_run (ns := (rows ps).flatten) (by rw [rows_flat]; omega)
    have bl : biD .len [.lst ((rows ps).flatten.map .int)] = .ok (.int ((rows ps).flatten.length : Int)) := by rw [bj_len_lst, List.length_map]
    have ri := rising_Ts (k := k) (by omega) (xs := rows ps) (by omega)
    have ri : run tab k .is_rising [.tup ((rows ps).map T)] = .ok (.bl (ris ltL (rows ps))) := ri
    have lc2 := fun s2 s3 s4 : Option D => lcC_map (F := run tab k) (own := [4]) (tg := .one 4) (ifs := .nil) (elt := c_is_pairing_2) (ρ := [some (Fd n ls), some (.tup ((rows ps).map T)), s2, s3, s4]) T (fun l => D.bl (hp l ps)) ls
      (fun l hl => by
        have h := run_holds_pair (k := k) (by omega) (l := l) (d := .tup ((rows ps).map T)) (ps := ps) rfl
        generalize Fd n ls = F at *
        generalize D.tup ((rows ps).map T) = R at *
        generalize T l = tl at *
        simp -implicitDefEqProofs [lcT, c_is_pairing_2, h])
    have al2 := all_bls (fun l => hp l ps) ls
    have e3 : (ls.all fun l => (rows ps).any fun r => r.all fun x => decide (x ∈ l)) = ls.all fun l => hp l ps := by simp only [hp_rows]
    rw [e3]
    have hdn : dn (rows ps).flatten = decide (((meets (rows ps).flatten).length : Int) = ((rows ps).flatten.length : Int)) := by
      unfold dn
      by_cases h : (meets (rows ps).flatten).length = (rows ps).flatten.length
      · rw [decide_eq_true h, decide_eq_true (by omega)]
      · rw [decide_eq_false h, decide_eq_false (by omega)]
    rw [hdn]
    generalize (ls.all fun l => hp l ps) = r4 at *
    generalize (ls.map fun l => D.bl (hp l ps)) = B4 at *
    generalize ris ltL (rows ps) = r3 at *
    generalize ((meets (rows ps).flatten).length : Int) = m1 at *
    generalize ((rows ps).flatten.length : Int) = m2 at *
    generalize (rows ps).flatten.map D.int = PF at *
    generalize ((rows ps).map fun r => D.bl (pairB n r)) = B at *
    generalize ls.map T = L2 at *
    generalize TT ls = TL at *
    generalize Fd n ls = F at *
    generalize (rows ps).map T = R at *
    by_cases h : m1 = m2
    · cases r3 <;> simp -implicitDefEqProofs [d_is_pairing, start, lc1, al, po, ls_, bl, h, ri, i1, sqL, lc2, al2]
    · simp -implicitDefEqProofs [d_is_pairing, start, lc1, al, po, ls_, bl, h]
theorem run_is_pairing_no {k : Nat} (hk : 1 ≤ k) {F d : D} (h : isiD .tuple d = .ok (.bl false)) : run tab k .is_pairing [F, d] = .ok (.bl false) := by
  obtain ⟨k, rfl, hj⟩ := suc hk
  rw [run_code rfl rfl]
  simp -implicitDefEqProofs [d_is_pairing, start, h]
end FC

/-! Law 6: what the law's own is_pairing tells. -/
set_option autoImplicit false
set_option linter.all false
set_option maxRecDepth 100000
set_option maxHeartbeats 4000000
set_option Elab.async false
namespace FC
open PySem

theorem meet_go : ∀ (ns acc : List Int), acc.Nodup → (ns.foldl meetS acc).Nodup ∧ ∀ k, k ∈ ns.foldl meetS acc ↔ k ∈ acc ∨ k ∈ ns
  | [], acc, h => ⟨h, fun k => by simp⟩
  | n :: ns, acc, h => by
    rw [List.foldl_cons]
    by_cases hn : n ∈ acc
    · have e : meetS acc n = acc := by unfold meetS; rw [if_pos (List.any_eq_true.mpr ⟨n, hn, by simp⟩)]
      rw [e]
      obtain ⟨h1, h2⟩ := meet_go ns acc h
      refine ⟨h1, fun k => (h2 k).trans ⟨fun q => q.imp_right (List.mem_cons_of_mem _), fun q => ?_⟩⟩
      rcases q with q | q
      · exact .inl q
      · rcases List.mem_cons.mp q with rfl | q
        · exact .inl hn
        · exact .inr q
    · have e : meetS acc n = acc ++ [n] := if_neg fun q => by
        obtain ⟨y, hy, ey⟩ := List.any_eq_true.mp q
        exact hn (eq_of_beq ey ▸ hy)
      rw [e]
      obtain ⟨h1, h2⟩ := meet_go ns (acc ++ [n]) (List.nodup_append.mpr ⟨h, List.pairwise_singleton _ _, fun x hx y hy e => hn (by rw [← List.mem_singleton.mp hy, ← e]; exact hx)⟩)
      refine ⟨h1, fun k => (h2 k).trans ?_⟩
      rw [List.mem_append, List.mem_singleton, List.mem_cons]
      exact ⟨fun q => by rcases q with (q | q) | q <;> simp [q], fun q => by rcases q with q | q | q <;> simp [q]⟩
theorem dd_full {α : Type} [DecidableEq α] : ∀ {xs : List α}, (ddup xs).length = xs.length → xs.Nodup
  | [], _ => .nil
  | x :: xs, h => by
    have hl := dd_len (xs := xs)
    rw [ddup] at h
    split at h
    · rw [List.length_cons] at h; omega
    · rename_i hx
      rw [List.length_cons, List.length_cons] at h
      exact List.nodup_cons.mpr ⟨hx, dd_full (by omega)⟩
theorem dn_iff {ns : List Int} : dn ns = true ↔ ns.Nodup := by
  obtain ⟨h1, h2⟩ := meet_go ns [] .nil
  unfold dn meets
  rw [decide_eq_true_eq]
  constructor
  · intro h
    have a := nd_len (b := ddup ns) h1 fun x hx => mem_dd.mpr (by simpa using (h2 x).mp hx)
    have b := dd_len (xs := ns)
    exact dd_full (by omega)
  · intro h
    have a := nd_len (b := ns) h1 fun x hx => by simpa using (h2 x).mp hx
    have b := nd_len (b := ns.foldl meetS []) h fun x hx => (h2 x).mpr (.inr hx)
    omega
theorem flat_nodup {rs : List (List Int)} (h : rs.flatten.Nodup) (hne : ∀ r ∈ rs, r ≠ []) : rs.Nodup := by
  induction rs with
  | nil => exact .nil
  | cons r rs ih =>
    rw [List.flatten_cons, List.nodup_append] at h
    refine List.nodup_cons.mpr ⟨fun q => ?_, ih h.2.1 fun x hx => hne x (List.mem_cons_of_mem _ hx)⟩
    obtain ⟨x, xs, e⟩ := List.exists_cons_of_ne_nil (hne r List.mem_cons_self)
    have hx : x ∈ r := by rw [e]; exact List.mem_cons_self
    exact h.2.2 x hx x (List.mem_flatten.mpr ⟨r, q, hx⟩) rfl
theorem sort_iff {rs : List (List Int)} (h : rs.flatten.Nodup) (hne : ∀ r ∈ rs, r ≠ []) : decide (rs = sortL rs) = ris ltL rs := by
  rw [Bool.eq_iff_iff, decide_eq_true_eq, ris_upL]
  constructor
  · intro e
    rw [e]
    exact sortL_lt (flat_nodup h hne)
  · intro e
    exact (sortL_id e).symm
theorem cmp_ne_LT (a b : List (List Int)) : cmpD .ne (.lst (a.map T)) (.lst (b.map T)) = .ok (.bl (!decide (a = b))) := by rw [cmp_ne (shp_LT a) (shp_LT b), eqD_lst, eqL_TT]
theorem run_l_is_pairing {k : Nat} (hk : 2 ≤ k) {n : Int} {ls rs : List (List Int)} (hn0 : 0 ≤ n) (hn : n ≤ 100) (hr : ∀ r ∈ rs, r.length ≤ 100) (hb : ∀ r ∈ rs, ∀ x ∈ r, -1000 ≤ x ∧ x ≤ 1000) (hl : rs.length ≤ 31) : run tab k .l_is_pairing [Fd n ls, .tup (rs.map T)] = .ok (.bl (isP n ls rs)) := by
  obtain ⟨k, rfl, hj⟩ := suc hk
  have i0 : idxD (Fd n ls) (.int 0) = .ok (.int n) := by simp
  have i1 : idxD (Fd n ls) (.int 1) = .ok (TT ls) := by simp
  have sqL : seqOf (TT ls) = .ok (ls.map T) := rfl
  have ok : ∀ x : Int, -1000 ≤ x → x ≤ 1000 → rngOk x = true := fun x a b => by unfold rngOk; exact decide_eq_true ⟨by omega, by omega⟩
  have hrn := ok n (by omega) (by omega)
  have lc1 := fun (r : List Int) (hrm : r ∈ rs) (s2 s4 s5 : Option D) => lcC_filter (F := run tab k) (own := [4]) (tg := .one 4) (ifs := c_l_is_pairing_1) (elt := c_l_is_pairing_2) (ρ := [some (Fd n ls), some (.tup (rs.map T)), s2, some (T r), s4, s5]) D.int (fun x => !decide (0 ≤ x ∧ x < n)) D.int r
    (fun x hx => by
      have hb' := hb r hrm x hx
      have hrx := ok x hb'.1 hb'.2
      generalize Fd n ls = F at *
      generalize D.tup (rs.map T) = R at *
      by_cases h : 0 ≤ x ∧ x < n
      · simp -implicitDefEqProofs [lcT, c_l_is_pairing_1, c_l_is_pairing_2, i0, hrn, hrx, h]
      · have h2 : (!decide (0 ≤ x) || !decide (x < n)) = true := by
          rw [Bool.or_eq_true, Bool.not_eq_true', Bool.not_eq_true', decide_eq_false_iff_not, decide_eq_false_iff_not]
          omega
        rw [decide_eq_false h]
        simp -implicitDefEqProofs [lcT, c_l_is_pairing_1, c_l_is_pairing_2, i0, hrn, hrx, h, h2])
  have loop := forC_preR (F := run tab k) (tg := .one 3) (b := b_l_is_pairing_1) T (fun (pre : List (List Int)) ρ => ∃ s3 s4 : Sl, ρ = [.im (Fd n ls), .im (.tup (rs.map T)), .im (.lst (pre.flatten.map .int)), s3, s4, .no] ∧ pre.all (pairB n) = true) (fun d => d = .bl false ∧ rs.all (pairB n) = false) rs
    [.im (Fd n ls), .im (.tup (rs.map T)), .im (.lst []), .no, .no, .no] ⟨.no, .no, rfl, rfl⟩
    (fun pre post r ρ e hi => by
      obtain ⟨s3, s4, rfl, hpre⟩ := hi
      have hrm : r ∈ rs := by rw [e]; simp
      have bl : biD .len [T r] = .ok (.int (r.length : Int)) := by rw [bj_len_tup, List.length_map]
      have isT : isiD .tuple (T r) = .ok (.bl true) := rfl
      have l1 := lc1 r hrm
      have sqr : seqOf (T r) = .ok (r.map .int) := rfl
      have stop : pairB n r = false → rs.all (pairB n) = false := fun h => List.all_eq_false.mpr ⟨r, hrm, by rw [h]; exact Bool.false_ne_true⟩
      by_cases h2 : r.length = 2
      · obtain ⟨a, b, rfl⟩ : ∃ a b, r = [a, b] := by
          match r, h2 with
          | [a, b], _ => exact ⟨a, b, rfl⟩
        have hem : (([a, b].filter fun x => !decide (0 ≤ x ∧ x < n)).map D.int).isEmpty = ((decide (0 ≤ a ∧ a < n)) && decide (0 ≤ b ∧ b < n)) := by
          rw [List.isEmpty_map, filter_all]
          simp
        have ix0 : idxD (T [a, b]) (.int 0) = .ok (.int a) := by simp
        have ix1 : idxD (T [a, b]) (.int 1) = .ok (.int b) := by simp
        have bl2 : biD .len [T [a, b]] = .ok (.int 2) := bl
        generalize ([a, b].filter fun x => !decide (0 ≤ x ∧ x < n)).map D.int = FL at *
        cases hE : (decide (0 ≤ a ∧ a < n)) && decide (0 ≤ b ∧ b < n) with
        | false =>
          rw [hE] at hem
          refine .inl ⟨.bl false, ?_, rfl, stop ?_⟩
          · generalize Fd n ls = F at *
            generalize D.tup (rs.map T) = R at *
            generalize hT : T [a, b] = tr at *
            generalize [a, b].map D.int = ab at *
            simp -implicitDefEqProofs [b_l_is_pairing_1, isT, bl2, sqr, l1, hem]
          · show decide (0 ≤ a ∧ a < b ∧ b < n) = false
            rw [decide_eq_false_iff_not]
            intro q
            rw [decide_eq_true (by omega : 0 ≤ a ∧ a < n), decide_eq_true (by omega : 0 ≤ b ∧ b < n)] at hE
            cases hE
        | true =>
          rw [hE] at hem
          rw [Bool.and_eq_true, decide_eq_true_eq, decide_eq_true_eq] at hE
          by_cases hab : b ≤ a
          · refine .inl ⟨.bl false, ?_, rfl, stop ?_⟩
            · generalize Fd n ls = F at *
              generalize D.tup (rs.map T) = R at *
              generalize hT : T [a, b] = tr at *
              generalize [a, b].map D.int = ab at *
              simp -implicitDefEqProofs [b_l_is_pairing_1, isT, bl2, sqr, l1, hem, ix0, ix1, hab]
            · show decide (0 ≤ a ∧ a < b ∧ b < n) = false
              rw [decide_eq_false_iff_not]
              omega
          · refine .inr ⟨[.im (Fd n ls), .im (.tup (rs.map T)), .im (.lst ((pre ++ [[a, b]]).flatten.map .int)), .im (T [a, b]), s4, .no], ?_, _, _, rfl, ?_⟩
            · have ls2 : biD .list [T [a, b]] = .ok (.lst ([a, b].map .int)) := bj_list_tup _
              have ad : binD .add (.lst (pre.flatten.map .int)) (.lst ([a, b].map .int)) = .ok (.lst ((pre ++ [[a, b]]).flatten.map .int)) := by
                have hpf : pre.flatten.length ≤ 62 := by
                  obtain ⟨ps, rfl, _⟩ := pairB_rows hpre
                  rw [rows_flat, flat_two]
                  have := congrArg List.length e
                  rw [List.length_append, List.length_cons, show (rows ps).length = ps.length from List.length_map ..] at this
                  omega
                rw [bin_addL (by rw [List.length_map, List.length_map]; show _ + 2 ≤ 1000; omega), List.flatten_append, List.flatten_singleton, List.map_append]
              generalize (pre ++ [[a, b]]).flatten.map D.int = PF2 at *
              generalize pre.flatten.map D.int = PF1 at *
              generalize Fd n ls = F at *
              generalize D.tup (rs.map T) = R at *
              generalize hT : T [a, b] = tr at *
              generalize [a, b].map D.int = ab at *
              simp -implicitDefEqProofs [b_l_is_pairing_1, isT, bl2, sqr, l1, hem, ix0, ix1, hab, ls2, ad]
            · rw [List.all_append, hpre]
              show (decide (0 ≤ a ∧ a < b ∧ b < n) && true) = true
              rw [decide_eq_true (by omega)]; rfl
      · refine .inl ⟨.bl false, ?_, rfl, stop ?_⟩
        · have h3 : ¬ ((r.length : Int) = 2) := by omega
          generalize Fd n ls = F at *
          generalize D.tup (rs.map T) = R at *
          generalize T r = tr at *
          simp -implicitDefEqProofs [b_l_is_pairing_1, isT, bl, h3]
        · rw [← pairB_line, decide_eq_false h2, Bool.and_false])
  rw [run_code rfl rfl]
  unfold isP
  rcases loop with ⟨d, e, rfl, hA⟩ | ⟨ρ', e, s3, s4, rfl, hA⟩
  · rw [hA]
    have sqR : seqOf (.tup (rs.map T)) = .ok (rs.map T) := rfl
    generalize Fd n ls = F at *
    generalize rs.map T = R at *
    simp -implicitDefEqProofs [d_l_is_pairing, start, e]
  · rw [hA]
    obtain ⟨ps, rfl, hps⟩ := pairB_rows hA
    have hfl : (pts ps).length = 2 * ps.length := flat_two
    have hpl : (rows ps).length = ps.length := List.length_map ..
    have hne : ∀ r ∈ rows ps, r ≠ [] := fun r hr => by
      obtain ⟨p, hp, rfl⟩ := List.mem_map.mp hr
      intro z; cases z
    have so := bj_sorted_TsT hne
    have li : biD .list [.tup ((rows ps).map T)] = .ok (.lst ((rows ps).map T)) := bj_list_tup _
    have ne := cmp_ne_LT (rows ps) (sortL (rows ps))
    have ls_ := lset_run (ns := (rows ps).flatten) (by rw [rows_flat]; omega)
    have bl : biD .len [.lst ((rows ps).flatten.map .int)] = .ok (.int ((rows ps).flatten.length : Int)) := by rw [bj_len_lst, List.length_map]
    have hdn : dn (rows ps).flatten = decide (((meets (rows ps).flatten).length : Int) = ((rows ps).flatten.length : Int)) := by
      unfold dn
      by_cases h : (meets (rows ps).flatten).length = (rows ps).flatten.length
      · rw [decide_eq_true h, decide_eq_true (by omega)]
      · rw [decide_eq_false h, decide_eq_false (by omega)]
    have lc2 := fun s2 s3 s4 s5 : Option D => lcC_filter (F := run tab k) (own := [5]) (tg := .one 5) (ifs := c_l_is_pairing_3) (elt := c_l_is_pairing_4) (ρ := [some (Fd n ls), some (.tup ((rows ps).map T)), s2, s3, s4, s5]) T (fun l => !hp l ps) T ls
      (fun l hl => by
        have h := run_l_holds (k := k) (by omega) (l := l) (d := .tup ((rows ps).map T)) (ps := ps) rfl
        generalize Fd n ls = F at *
        generalize D.tup ((rows ps).map T) = R at *
        generalize T l = tl at *
        cases q : hp l ps with
        | true => rw [q] at h; simp -implicitDefEqProofs [lcT, c_l_is_pairing_3, c_l_is_pairing_4, h]
        | false => rw [q] at h; simp -implicitDefEqProofs [lcT, c_l_is_pairing_3, c_l_is_pairing_4, h])
    have eq2 : cmpD .eq (.lst ((ls.filter fun l => !hp l ps).map T)) (.lst []) = .ok (.bl (ls.all fun l => hp l ps)) := by
      rw [cmp_eq (shp_LT _) shp_lnil, eqD_lst, eqL_empty, List.isEmpty_map, filter_all]
    have e3 : (ls.all fun l => (rows ps).any fun r => r.all fun x => decide (x ∈ l)) = ls.all fun l => hp l ps := by simp only [hp_rows]
    rw [e3]
    have key : dn (rows ps).flatten = true → decide (rows ps = sortL (rows ps)) = ris ltL (rows ps) := fun h => sort_iff (dn_iff.mp h) hne
    cases hD : dn (rows ps).flatten with
    | true =>
      rw [key hD] at ne
      rw [hD] at hdn
      have hdn := of_decide_eq_true hdn.symm
      clear key
      generalize (ls.all fun l => hp l ps) = r4 at *
      generalize (ls.filter fun l => !hp l ps).map T = B4 at *
      generalize (sortL (rows ps)).map T = SR at *
      generalize ris ltL (rows ps) = r3 at *
      generalize ((meets (rows ps).flatten).length : Int) = m1 at *
      generalize ((rows ps).flatten.length : Int) = m2 at *
      generalize (rows ps).flatten.map D.int = PF at *
      generalize ls.map T = L2 at *
      generalize TT ls = TL at *
      generalize Fd n ls = F at *
      generalize (rows ps).map T = R at *
      cases r3 <;> simp -implicitDefEqProofs [d_l_is_pairing, start, e, li, so, ne, ls_, bl, hdn, i1, sqL, lc2, eq2]
    | false =>
      rw [hD] at hdn
      have hdn := of_decide_eq_false hdn.symm
      clear key
      generalize (ls.all fun l => hp l ps) = r4 at *
      generalize (ls.filter fun l => !hp l ps).map T = B4 at *
      generalize (sortL (rows ps)).map T = SR at *
      generalize decide (rows ps = sortL (rows ps)) = r3 at *
      generalize ((meets (rows ps).flatten).length : Int) = m1 at *
      generalize ((rows ps).flatten.length : Int) = m2 at *
      generalize (rows ps).flatten.map D.int = PF at *
      generalize ls.map T = L2 at *
      generalize TT ls = TL at *
      generalize Fd n ls = F at *
      generalize (rows ps).map T = R at *
      cases r3 <;> simp -implicitDefEqProofs [d_l_is_pairing, start, e, li, so, ne, ls_, bl, hdn]
theorem run_l_is_pairing_no {k : Nat} (hk : 1 ≤ k) {F d : D} (h : isiD .tuple d = .ok (.bl false)) : run tab k .l_is_pairing [F, d] = .ok (.bl false) := by
  obtain ⟨k, rfl, hj⟩ := suc hk
  rw [run_code rfl rfl]
  simp -implicitDefEqProofs [d_l_is_pairing, start, h]
end FC

/-! Law 6: searching a pairing. -/
set_option autoImplicit false
set_option linter.all false
set_option maxRecDepth 100000
set_option maxHeartbeats 4000000
set_option Elab.async false
namespace FC
open PySem

def unheld (ls : List (List Int)) (ps : List Pr) : List (List Int) := ls.filter fun l => !hp l ps
def cands (xs : List Int) : List Pr := (subs xs 2).map fun r => (r.getD 0 0, r.getD 1 0)
def fre (l : List Int) (ps : List Pr) : List Int := l.filter fun x => !decide (x ∈ pts ps)
def srch : Nat → List (List Int) → List Pr → Option (List Pr)
  | 0, _, _ => none
  | f + 1, ls, ps => match unheld ls ps with
    | [] => some ps
    | l :: r => (cands (fre l ps)).findSome? fun q => srch f (l :: r) (ps ++ [q])
theorem cands_rows (xs : List Int) : rows (cands xs) = subs xs 2 := by
  unfold rows cands
  rw [List.map_map]
  have : ∀ r ∈ subs xs 2, (pr ∘ fun r : List Int => (r.getD 0 0, r.getD 1 0)) r = r := fun r hr => by
    have := (mem_subs.mp hr).2
    match r, this with
    | [a, b], _ => rfl
  rw [List.map_congr_left this, List.map_id']
theorem pr_inj {p q : Pr} (h : pr p = pr q) : p = q := by
  obtain ⟨a, b⟩ := p
  obtain ⟨c, d⟩ := q
  have h : [a, b] = [c, d] := h
  cases h
  rfl
theorem mem_rows {p : Pr} {ps : List Pr} : pr p ∈ rows ps ↔ p ∈ ps := by
  unfold rows
  rw [List.mem_map]
  exact ⟨fun ⟨q, hq, e⟩ => by rw [← pr_inj e]; exact hq, fun h => ⟨p, h, rfl⟩⟩
theorem mem_cands {xs : List Int} {q : Pr} : q ∈ cands xs ↔ [q.1, q.2].Sublist xs := by
  rw [← mem_rows, cands_rows, mem_subs]
  exact ⟨fun h => h.1, fun h => ⟨h, rfl⟩⟩
theorem run_search : ∀ (f : Nat) {k : Nat} {d : D} {ls : List (List Int)} {ps : List Pr}, seqOf d = .ok (ls.map T) → (∀ l ∈ ls, l.length ≤ 4) → (unheld ls ps).length < f → ps.length + f ≤ 100 → f + 10 ≤ k →
    run tab k .search [d, .lst ((rows ps).map T)] = .ok (match srch f ls ps with | some r => .lst ((rows r).map T) | none => .non)
  | 0, _, _, _, _, _, _, h, _, _ => absurd h (Nat.not_lt_zero _)
  | f + 1, k, d, ls, ps, hd, hl, hu, hps, hk => by
    obtain ⟨k, rfl, hj⟩ := suc (n := f + 10) (by omega : f + 10 + 1 ≤ k)
    have lc1 := fun s2 s3 s4 s5 s6 s7 : Option D => lcC_filter (F := run tab k) (own := [3]) (tg := .one 3) (ifs := c_search_1) (elt := c_search_2) (ρ := [some d, some (.lst ((rows ps).map T)), s2, s3, s4, s5, s6, s7]) T (fun l => !hp l ps) T ls
      (fun l hl => by
        have h := run_holds_pair (k := k) (by omega) (l := l) (d := .lst ((rows ps).map T)) (ps := ps) rfl
        generalize D.lst ((rows ps).map T) = R at *
        generalize T l = tl at *
        cases q : hp l ps with
        | true => rw [q] at h; simp -implicitDefEqProofs [lcT, c_search_1, c_search_2, h]
        | false => rw [q] at h; simp -implicitDefEqProofs [lcT, c_search_1, c_search_2, h])
    have lc1 : ∀ s2 s3 s4 s5 s6 s7 : Option D, lcC (run tab k) [3] (.one 3) c_search_1 c_search_2 [some d, some (.lst ((rows ps).map T)), s2, s3, s4, s5, s6, s7] (ls.map T) = .ok ((unheld ls ps).map T) := lc1
    rw [run_code rfl rfl, srch]
    cases hun : unheld ls ps with
    | nil =>
      rw [hun] at lc1
      have lc1 : ∀ s2 s3 s4 s5 s6 s7 : Option D, lcC (run tab k) [3] (.one 3) c_search_1 c_search_2 [some d, some (.lst ((rows ps).map T)), s2, s3, s4, s5, s6, s7] (ls.map T) = .ok [] := lc1
      show _ = Res.ok (D.lst ((rows ps).map T))
      generalize (rows ps).map T = R at *
      generalize ls.map T = L at *
      simp -implicitDefEqProofs [d_search, start, hd, lc1]
    | cons l r =>
      rw [hun] at lc1 hu
      have hlm : l ∈ ls := (List.mem_filter.mp (show l ∈ unheld ls ps by rw [hun]; exact List.mem_cons_self)).1
      have po := run_points_of (k := k) (by omega) (d := .lst ((rows ps).map T)) (rs := rows ps) rfl (by rw [rows_flat, flat_two]; omega)
      have ix : idxD (.lst ((l :: r).map T)) (.int 0) = .ok (T l) := by rw [idx_lst, List.map_cons, atI_cons0]; rfl
      have lc2 := fun s3 s5 s6 s7 : Option D => lcC_filter (F := run tab k) (own := [6]) (tg := .one 6) (ifs := c_search_3) (elt := c_search_4) (ρ := [some d, some (.lst ((rows ps).map T)), some (.lst ((l :: r).map T)), s3, some (.lst ((rows ps).flatten.map .int)), s5, s6, s7]) D.int (fun x => !decide (x ∈ pts ps)) D.int l
        (fun x hx => by
          have hn := cmp_nin_intsL x (rows ps).flatten
          rw [rows_flat] at hn ⊢
          generalize D.lst ((rows ps).map T) = R at *
          generalize D.lst ((l :: r).map T) = L at *
          generalize D.lst ((pts ps).map D.int) = P at *
          by_cases h : x ∈ pts ps
          · rw [decide_eq_true h] at hn; simp -implicitDefEqProofs [lcT, c_search_3, c_search_4, h, hn]
          · rw [decide_eq_false h] at hn; simp -implicitDefEqProofs [lcT, c_search_3, c_search_4, h, hn])
      have lc2 : ∀ s3 s5 s6 s7 : Option D, lcC (run tab k) [6] (.one 6) c_search_3 c_search_4 [some d, some (.lst ((rows ps).map T)), some (.lst ((l :: r).map T)), s3, some (.lst ((rows ps).flatten.map .int)), s5, s6, s7] (l.map .int) = .ok ((fre l ps).map .int) := lc2
      have sqt : seqOf (T l) = .ok (l.map .int) := rfl
      have ch := run_choose 2 (k := k) (by omega) (pts := fre l ps) (by
        have := List.length_filter_le (fun x => !decide (x ∈ pts ps)) l
        have := hl l hlm
        unfold fre
        omega)
      rw [← cands_rows] at ch
      have ch : run tab k .choose [.lst ((fre l ps).map .int), .int 2] = .ok (.lst ((rows (cands (fre l ps))).map T)) := ch
      have child : ∀ q ∈ cands (fre l ps), run tab k .search [.lst ((l :: r).map T), .lst ((rows (ps ++ [q])).map T)] = .ok (match srch f (l :: r) (ps ++ [q]) with | some r => .lst ((rows r).map T) | none => .non) := fun q hq => by
        refine run_search f rfl (fun x hx => hl x (List.mem_filter.mp (show x ∈ unheld ls ps by rw [hun]; exact hx)).1) ?_ (by rw [List.length_append, List.length_singleton]; omega) (by omega)
        have hs := mem_cands.mp hq
        have h1 : q.1 ∈ l := (List.mem_filter.mp (hs.subset (by simp))).1
        have h2 : q.2 ∈ l := (List.mem_filter.mp (hs.subset (by simp))).1
        have hheld : hp l (ps ++ [q]) = true := by
          unfold hp
          rw [List.any_append]
          simp [h1, h2]
        have : (unheld (l :: r) (ps ++ [q])).length < (l :: r).length := by
          unfold unheld
          rw [List.filter_cons, hheld]
          have := List.length_filter_le (fun l => !hp l (ps ++ [q])) r
          simp
          omega
        omega
      have lp := forC_find (F := run tab k) (tg := .one 5) (b := b_search_1) (fun q : Pr => D.tup [.int q.1, .int q.2]) (fun ρ => ∃ s5 s6 s7 : Sl, ρ = [.im d, .im (.lst ((rows ps).map T)), .im (.lst ((l :: r).map T)), .no, .im (.lst ((rows ps).flatten.map .int)), s5, s6, s7]) (fun q => (srch f (l :: r) (ps ++ [q])).map fun r => D.lst ((rows r).map T)) (cands (fre l ps))
        [.im d, .im (.lst ((rows ps).map T)), .im (.lst ((l :: r).map T)), .no, .im (.lst ((rows ps).flatten.map .int)), .no, .no, .no] ⟨.no, .no, .no, rfl⟩
        (fun q ρ hq hi => by
          obtain ⟨s5, s6, s7, rfl⟩ := hi
          have c1 := child q hq
          have ad : binD .add (.lst ((rows ps).map T)) (.lst [.tup [.int q.1, .int q.2]]) = .ok (.lst ((rows (ps ++ [q])).map T)) := by
            rw [bin_addL (by rw [List.length_map, List.length_singleton, show (rows ps).length = ps.length from List.length_map ..]; omega)]
            unfold rows
            rw [List.map_append, List.map_append]; rfl
          generalize D.lst ((rows ps).flatten.map .int) = P at *
          generalize (rows (ps ++ [q])).map T = R2 at *
          generalize D.lst ((l :: r).map T) = L at *
          generalize (rows ps).map T = R at *
          generalize D.tup [.int q.1, .int q.2] = tq at *
          cases hs : srch f (l :: r) (ps ++ [q]) with
          | none =>
            rw [hs] at c1
            have c1 : run tab k .search [L, .lst R2] = .ok .non := c1
            refine .inr ⟨rfl, [.im d, .im (.lst R), .im L, .no, .im P, .im tq, s6, .im .non], ?_, _, _, _, rfl⟩
            simp -implicitDefEqProofs [b_search_1, ad, c1]
          | some r2 =>
            rw [hs] at c1
            have c1 : run tab k .search [L, .lst R2] = .ok (.lst ((rows r2).map T)) := c1
            refine .inl ⟨.lst ((rows r2).map T), rfl, ?_⟩
            generalize (rows r2).map T = R3 at *
            simp -implicitDefEqProofs [b_search_1, ad, c1])
      rw [← rows_T] at lp
      have hne : ((l :: r).map T).isEmpty = false := rfl
      have hfs : ∀ xs : List Pr, (xs.findSome? fun q => (srch f (l :: r) (ps ++ [q])).map fun r => D.lst ((rows r).map T)) = (xs.findSome? fun q => srch f (l :: r) (ps ++ [q])).map fun r => D.lst ((rows r).map T) := fun xs => by
        induction xs with
        | nil => rfl
        | cons x xs ih =>
          rw [List.findSome?_cons, List.findSome?_cons]
          cases srch f (l :: r) (ps ++ [x]) with
          | none => exact ih
          | some _ => rfl
      rw [hfs] at lp
      simp only
      generalize (rows (cands (fre l ps))).map T = CR at *
      generalize (fre l ps).map D.int = FR at *
      generalize (rows ps).flatten.map D.int = PF at *
      generalize (l :: r).map T = LR at *
      generalize (rows ps).map T = R at *
      generalize ls.map T = L0 at *
      generalize l.map D.int = li at *
      generalize D.tup li = tl at *
      rcases lp with ⟨d', e1, e2⟩ | ⟨e1, ρ', e2, s5, s6, s7, rfl⟩
      · cases hf : (cands (fre l ps)).findSome? fun q => srch f (l :: r) (ps ++ [q]) with
        | none => rw [hf] at e1; cases e1
        | some r2 =>
          rw [hf] at e1
          cases e1
          dsimp only at e2
          show _ = Res.ok (D.lst ((rows r2).map T))
          generalize (rows r2).map T = R3 at *
          simp -implicitDefEqProofs [-idx_lst, d_search, start, hd, lc1, hne, po, ix, sqt, lc2, ch, e2]
      · cases hf : (cands (fre l ps)).findSome? fun q => srch f (l :: r) (ps ++ [q]) with
        | some _ => rw [hf] at e1; cases e1
        | none =>
          show _ = Res.ok D.non
          simp -implicitDefEqProofs [-idx_lst, d_search, start, hd, lc1, hne, po, ix, sqt, lc2, ch, e2]
/-! ### what it finds -/
structure Vd (n : Int) (ps : List Pr) : Prop where
  bd : ∀ p ∈ ps, 0 ≤ p.1 ∧ p.1 < p.2 ∧ p.2 < n
  nd : (pts ps).Nodup
theorem hp_iff {l : List Int} {ps : List Pr} : hp l ps = true ↔ ∃ p ∈ ps, p.1 ∈ l ∧ p.2 ∈ l := by
  unfold hp
  simp only [List.any_eq_true, Bool.and_eq_true, decide_eq_true_eq]
theorem hp_mono {l : List Int} {ps qs : List Pr} (h : ∀ p ∈ ps, p ∈ qs) (hp' : hp l ps = true) : hp l qs = true := by
  obtain ⟨p, a, b⟩ := hp_iff.mp hp'
  exact hp_iff.mpr ⟨p, h p a, b⟩
theorem mem_pts {x : Int} {ps : List Pr} : x ∈ pts ps ↔ ∃ p ∈ ps, x = p.1 ∨ x = p.2 := by
  unfold pts pr
  simp only [List.mem_flatMap, List.mem_cons, List.mem_nil_iff, or_false]
theorem pts_uniq : ∀ {Q : List Pr} {p q : Pr} {x : Int}, (pts Q).Nodup → p ∈ Q → q ∈ Q → x ∈ pr p → x ∈ pr q → p = q
  | r :: Q, p, q, x, h, hp, hq, h1, h2 => by
    have h : (pr r ++ pts Q).Nodup := h
    rw [List.nodup_append] at h
    have inQ : ∀ {s : Pr}, s ∈ Q → x ∈ pr s → x ∈ pts Q := fun {s} hs hx => List.mem_flatMap.mpr ⟨s, hs, hx⟩
    rcases List.mem_cons.mp hp with e1 | hp2
    · rcases List.mem_cons.mp hq with e2 | hq2
      · rw [e1, e2]
      · exact absurd rfl (h.2.2 x (e1 ▸ h1) x (inQ hq2 h2))
    · rcases List.mem_cons.mp hq with e2 | hq2
      · exact absurd rfl (h.2.2 x (e2 ▸ h2) x (inQ hp2 h1))
      · exact pts_uniq h.2.1 hp2 hq2 h1 h2
theorem two_sub : ∀ {xs : List Int} {a b : Int}, xs.Pairwise (· < ·) → a ∈ xs → b ∈ xs → a < b → [a, b].Sublist xs
  | x :: xs, a, b, h, ha, hb, hab => by
    have h1 := List.pairwise_cons.mp h
    rcases List.mem_cons.mp ha with e1 | ha2
    · rcases List.mem_cons.mp hb with e2 | hb2
      · omega
      · rw [e1]
        exact (List.singleton_sublist.mpr hb2).cons_cons x
    · rcases List.mem_cons.mp hb with e2 | hb2
      · have := h1.1 a ha2
        omega
      · exact (two_sub h1.2 ha2 hb2 hab).cons x
section
variable {n : Int}
theorem vd_snoc {ps : List Pr} {q : Pr} {l : List Int} (hv : Vd n ps) (hl : LineOk n l) (hq : q ∈ cands (fre l ps)) : Vd n (ps ++ [q]) ∧ q.1 ∈ l ∧ q.2 ∈ l := by
  have hs := mem_cands.mp hq
  have h1 := List.mem_filter.mp (hs.subset (show q.1 ∈ [q.1, q.2] by simp))
  have h2 := List.mem_filter.mp (hs.subset (show q.2 ∈ [q.1, q.2] by simp))
  have hlt : q.1 < q.2 := by
    have := (hl.up.filter fun x => !decide (x ∈ pts ps)).sublist hs
    exact (List.pairwise_cons.mp this).1 q.2 (by simp)
  have n1 : q.1 ∉ pts ps := by simpa using h1.2
  have n2 : q.2 ∉ pts ps := by simpa using h2.2
  refine ⟨⟨fun p hp => ?_, ?_⟩, h1.1, h2.1⟩
  · rcases List.mem_append.mp hp with hp | hp
    · exact hv.bd p hp
    · rw [List.mem_singleton.mp hp]
      exact ⟨hl.lo _ h1.1, hlt, hl.hi _ h2.1⟩
  · have : pts (ps ++ [q]) = pts ps ++ [q.1, q.2] := by unfold pts; rw [List.flatMap_append]; rfl
    rw [this]
    refine List.nodup_append.mpr ⟨hv.nd, List.nodup_cons.mpr ⟨by simp; omega, List.pairwise_singleton _ _⟩, fun x hx y hy e => ?_⟩
    subst e
    simp only [List.mem_cons, List.mem_nil_iff, or_false] at hy
    rcases hy with rfl | rfl
    · exact n1 hx
    · exact n2 hx
theorem srch_sound : ∀ {f : Nat} {ls : List (List Int)} {ps r : List Pr}, srch f ls ps = some r → Vd n ps → (∀ l ∈ ls, LineOk n l) → Vd n r ∧ (∀ p ∈ ps, p ∈ r) ∧ ∀ l ∈ ls, hp l r = true
  | f + 1, ls, ps, r, h, hv, hl => by
    rw [srch] at h
    cases hun : unheld ls ps with
    | nil =>
      rw [hun] at h
      cases h
      refine ⟨hv, fun p hp => hp, fun l hl' => ?_⟩
      cases q : hp l ps with
      | true => rfl
      | false =>
        have : l ∈ unheld ls ps := List.mem_filter.mpr ⟨hl', by rw [q]; rfl⟩
        rw [hun] at this
        cases this
    | cons l u =>
      rw [hun] at h
      simp only at h
      have hsub : ∀ x ∈ l :: u, x ∈ ls := fun x hx => (List.mem_filter.mp (show x ∈ unheld ls ps by rw [hun]; exact hx)).1
      obtain ⟨q, hq, hs⟩ := List.exists_of_findSome?_eq_some h
      have hl0 := hl l (hsub l List.mem_cons_self)
      obtain ⟨v1, v2, v3⟩ := vd_snoc hv hl0 hq
      obtain ⟨a, b, c⟩ := srch_sound hs v1 fun x hx => hl x (hsub x hx)
      refine ⟨a, fun p hp => b p (List.mem_append_left _ hp), fun x hx => ?_⟩
      cases q2 : hp x ps with
      | true => exact hp_mono (fun p hp => b p (List.mem_append_left _ hp)) q2
      | false =>
        have : x ∈ unheld ls ps := List.mem_filter.mpr ⟨hx, by rw [q2]; rfl⟩
        rw [hun] at this
        exact c x this
theorem srch_full : ∀ {f : Nat} {ls : List (List Int)} {ps Q : List Pr}, Vd n Q → (∀ p ∈ ps, p ∈ Q) → (∀ l ∈ ls, LineOk n l) → (∀ l ∈ ls, hp l Q = true) → (unheld ls ps).length < f → srch f ls ps ≠ none
  | 0, _, _, _, _, _, _, _, h => absurd h (Nat.not_lt_zero _)
  | f + 1, ls, ps, Q, hQ, hsubQ, hl, hh, hu => by
    rw [srch]
    cases hun : unheld ls ps with
    | nil => intro e; cases e
    | cons l u =>
      simp only
      have hlm := List.mem_filter.mp (show l ∈ unheld ls ps by rw [hun]; exact List.mem_cons_self)
      have hnp : hp l ps = false := by simpa using hlm.2
      obtain ⟨q, hq, q1, q2⟩ := hp_iff.mp (hh l hlm.1)
      have hqp : q ∉ ps := fun z => by
        rw [hp_iff.mpr ⟨q, z, q1, q2⟩] at hnp
        cases hnp
      have hno : ∀ x ∈ pr q, x ∉ pts ps := fun x hx z => by
        obtain ⟨p, hp', hxp⟩ := List.mem_flatMap.mp z
        have := pts_uniq hQ.nd (hsubQ p hp') hq hxp hx
        exact hqp (this ▸ hp')
      have hc : q ∈ cands (fre l ps) := mem_cands.mpr (two_sub ((hl l hlm.1).up.filter _) (List.mem_filter.mpr ⟨q1, by simpa using hno q.1 (by simp [pr])⟩) (List.mem_filter.mpr ⟨q2, by simpa using hno q.2 (by simp [pr])⟩) (hQ.bd q hq).2.1)
      intro e
      rw [List.findSome?_eq_none_iff] at e
      refine srch_full (f := f) (ls := l :: u) (ps := ps ++ [q]) hQ (fun p hp' => ?_) (fun x hx => hl x (List.mem_filter.mp (show x ∈ unheld ls ps by rw [hun]; exact hx)).1) (fun x hx => hh x (List.mem_filter.mp (show x ∈ unheld ls ps by rw [hun]; exact hx)).1) ?_ (e q hc)
      · rcases List.mem_append.mp hp' with z | z
        · exact hsubQ p z
        · rw [List.mem_singleton.mp z]; exact hq
      · rw [hun] at hu
        have hheld : hp l (ps ++ [q]) = true := hp_iff.mpr ⟨q, by simp, q1, q2⟩
        have : (unheld (l :: u) (ps ++ [q])).length < (l :: u).length := by
          unfold unheld
          rw [List.filter_cons, hheld]
          have := List.length_filter_le (fun l => !hp l (ps ++ [q])) u
          simp
          omega
        omega
end
end FC

/-! Law 6: pairing; all pairings. -/
set_option autoImplicit false
set_option linter.all false
set_option maxRecDepth 100000
set_option maxHeartbeats 4000000
set_option Elab.async false
namespace FC
open PySem

def less (p : Pr) (cur : List Pr) : List Pr := cur.filter fun o => !decide (o = p)
def stepP (ls : List (List Int)) (cur : List Pr) (p : Pr) : List Pr := if (ls.all fun l => hp l (less p cur)) then less p cur else cur
theorem pts_sub {a b : List Pr} (h : a.Sublist b) : (pts a).Sublist (pts b) := by
  induction h with
  | slnil => exact .refl _
  | cons x _ ih => exact ih.trans (List.sublist_append_right _ _)
  | cons_cons x _ ih => exact (List.Sublist.refl _).append ih
theorem Vd.sub {n : Int} {a b : List Pr} (h : a.Sublist b) (hv : Vd n b) : Vd n a := ⟨fun p hp => hv.bd p (h.subset hp), hv.nd.sublist (pts_sub h)⟩
theorem prn_facts (ls : List (List Int)) : ∀ (ps cur : List Pr), (∀ l ∈ ls, hp l cur = true) → (ps.foldl (stepP ls) cur).Sublist cur ∧ (∀ l ∈ ls, hp l (ps.foldl (stepP ls) cur) = true) ∧ ∀ p ∈ ps, p ∈ ps.foldl (stepP ls) cur → (ls.all fun l => hp l (less p (ps.foldl (stepP ls) cur))) = false
  | [], cur, h => ⟨.refl _, h, fun p hp => nomatch hp⟩
  | p :: ps, cur, h => by
    rw [List.foldl_cons]
    have hstep : (stepP ls cur p).Sublist cur ∧ ∀ l ∈ ls, hp l (stepP ls cur p) = true := by
      unfold stepP
      split
      · rename_i q
        exact ⟨List.filter_sublist, List.all_eq_true.mp q⟩
      · exact ⟨.refl _, h⟩
    obtain ⟨a, b, c⟩ := prn_facts ls ps (stepP ls cur p) hstep.2
    refine ⟨a.trans hstep.1, b, fun q hq hqc => ?_⟩
    rcases List.mem_cons.mp hq with rfl | hq
    · have hq1 := a.subset hqc
      unfold stepP at hq1
      split at hq1
      · have := (List.mem_filter.mp hq1).2
        simp at this
      · rename_i hno
        rw [List.all_eq_false]
        have hno : (ls.all fun l => hp l (less q cur)) = false := Bool.eq_false_iff.mpr hno
        obtain ⟨l, hl, hn⟩ := List.all_eq_false.mp hno
        exact ⟨l, hl, fun z => hn (hp_mono (fun p hp => by
          obtain ⟨x, y⟩ := List.mem_filter.mp hp
          exact List.mem_filter.mpr ⟨(a.trans hstep.1).subset x, y⟩) z)⟩
    · exact c q hq hqc
theorem perm_map_ex' {α β : Type} {f : α → β} {vs us : List β} (h : vs.Perm us) : ∀ L : List α, us = L.map f → ∃ L1 : List α, L1.Perm L ∧ vs = L1.map f := by
  induction h with
  | nil => intro L e; exact ⟨[], by rw [List.map_eq_nil_iff.mp e.symm], rfl⟩
  | cons x _ ih =>
    intro L e
    match L, e with
    | y :: L, e =>
      rw [List.map_cons] at e
      obtain ⟨e1, e2⟩ := List.cons.inj e
      obtain ⟨L1, p, q⟩ := ih L e2
      exact ⟨y :: L1, p.cons y, by rw [List.map_cons, q, e1]⟩
  | swap x y r =>
    intro L e
    match L, e with
    | a :: b :: L, e =>
      rw [List.map_cons, List.map_cons] at e
      obtain ⟨e1, e2⟩ := List.cons.inj e
      obtain ⟨e3, e4⟩ := List.cons.inj e2
      exact ⟨b :: a :: L, .swap a b L, by rw [List.map_cons, List.map_cons, e1, e3, e4]⟩
  | trans _ _ ih1 ih2 =>
    intro L e
    obtain ⟨L2, p2, q2⟩ := ih2 L e
    obtain ⟨L1, p1, q1⟩ := ih1 L2 q2
    exact ⟨L1, p1.trans p2, q1⟩
theorem sort_rows (ps : List Pr) : ∃ qs : List Pr, qs.Perm ps ∧ sortL (rows ps) = rows qs := perm_map_ex' (sortL_perm (rows ps)) ps rfl
theorem hp_perm {l : List Int} {a b : List Pr} (h : a.Perm b) : hp l a = hp l b := by
  rw [Bool.eq_iff_iff]
  exact ⟨hp_mono fun p q => h.mem_iff.mp q, hp_mono fun p q => h.mem_iff.mpr q⟩
theorem Vd.perm {n : Int} {a b : List Pr} (h : a.Perm b) (hv : Vd n b) : Vd n a := ⟨fun p q => hv.bd p (h.mem_iff.mp q), by
  have : (pts a).Perm (pts b) := h.flatMap_right pr
  exact this.nodup_iff.mpr hv.nd⟩
theorem Vd.rnd {n : Int} {ps : List Pr} (h : Vd n ps) : (rows ps).Nodup := flat_nodup (by rw [rows_flat]; exact h.nd) fun r hr => by
  obtain ⟨p, _, rfl⟩ := List.mem_map.mp hr
  intro z; cases z
theorem isP_vd {n : Int} {ls : List (List Int)} {ps : List Pr} (h : Vd n ps) (hu : (rows ps).Pairwise (· < ·)) : isP n ls (rows ps) = ls.all fun l => hp l ps := by
  unfold isP
  have h1 : (rows ps).all (pairB n) = true := by
    rw [List.all_eq_true]
    intro r hr
    obtain ⟨p, hp, rfl⟩ := List.mem_map.mp hr
    exact decide_eq_true (h.bd p hp)
  have h2 : dn (rows ps).flatten = true := dn_iff.mpr (by rw [rows_flat]; exact h.nd)
  have h3 : ris ltL (rows ps) = true := ris_upL.mpr hu
  rw [h1, h2, h3, Bool.true_and, Bool.true_and, Bool.true_and]
  simp only [hp_rows]
structure Found (n : Int) (ls : List (List Int)) (ps : List Pr) : Prop where
  vd : Vd n ps
  up : (rows ps).Pairwise (· < ·)
  held : ∀ l ∈ ls, hp l ps = true
  least : ∀ p ∈ ps, (ls.all fun l => hp l (less p ps)) = false
theorem cmp_ne_pr (p q : Pr) : cmpD .ne (.tup [.int p.1, .int p.2]) (.tup [.int q.1, .int q.2]) = .ok (.bl (!decide (p = q))) := by
  have e : cmpD .ne (T (pr p)) (T (pr q)) = _ := cmp_ne_T (pr p) (pr q)
  rw [show (.tup [.int p.1, .int p.2] : D) = T (pr p) from rfl, show (.tup [.int q.1, .int q.2] : D) = T (pr q) from rfl, e]
  congr 3
  by_cases h : p = q
  · rw [h]; simp
  · rw [decide_eq_false h, decide_eq_false fun z => h (pr_inj z)]
theorem run_pairing {k : Nat} (hk : 22 ≤ k) {n : Int} {ls : List (List Int)} (hf : FieldOk n ls) :
    (run tab k .pairing [Fd n ls] = .ok .non ∧ ∀ Q, Vd n Q → ¬ ∀ l ∈ ls, hp l Q = true) ∨ ∃ ps, run tab k .pairing [Fd n ls] = .ok (.tup ((rows ps).map T)) ∧ Found n ls ps := by
  obtain ⟨k, rfl, hj⟩ := suc hk
  have hlen := hf.len
  have i1 : idxD (Fd n ls) (.int 1) = .ok (TT ls) := by simp
  have sqL : seqOf (TT ls) = .ok (ls.map T) := rfl
  have hun : (unheld ls []).length < 11 := by
    have := List.length_filter_le (fun l => !hp l []) ls
    unfold unheld
    omega
  have sr := run_search 11 (k := k) (d := TT ls) (ls := ls) (ps := []) rfl (fun l hl => (hf.ln l hl).len) hun (by simp) (by omega)
  have sr : run tab k .search [TT ls, .lst []] = _ := sr
  have v0 : Vd n [] := ⟨(fun p hp => nomatch hp), .nil⟩
  cases hs : srch 11 ls [] with
  | none =>
    rw [hs] at sr
    have sr : run tab k .search [TT ls, .lst []] = .ok .non := sr
    refine .inl ⟨?_, fun Q hQ hh => srch_full (n := n) (f := 11) (ls := ls) (ps := []) hQ (fun p q => by cases q) hf.ln hh hun hs⟩
    rw [run_code rfl rfl]
    generalize TT ls = TL at *
    generalize Fd n ls = F at *
    simp -implicitDefEqProofs [d_pairing, start, i1, sr]
  | some r =>
    rw [hs] at sr
    have sr : run tab k .search [TT ls, .lst []] = .ok (.lst ((rows r).map T)) := sr
    obtain ⟨vr, _, hr⟩ := srch_sound hs v0 hf.ln
    obtain ⟨a, b, c⟩ := prn_facts ls r r hr
    have vc := vr.sub a
    obtain ⟨qs, hq, eq⟩ := sort_rows (r.foldl (stepP ls) r)
    refine .inr ⟨qs, ?_, vc.perm hq, by rw [← eq]; exact sortL_lt vc.rnd, fun l hl => by rw [hp_perm hq]; exact b l hl, fun p hp' => ?_⟩
    · have so := bj_sorted_Ts (xs := rows (r.foldl (stepP ls) r)) fun x hx => by
        obtain ⟨p, _, rfl⟩ := List.mem_map.mp hx
        intro z; cases z
      rw [eq] at so
      obtain ⟨ρ', lp, s2, s3, s4, s5, rfl⟩ := forC_pre (F := run tab k) (tg := .one 2) (b := b_pairing_1) (fun p : Pr => D.tup [.int p.1, .int p.2]) (fun (pre : List Pr) ρ => ∃ s2 s3 s4 s5 : Sl, ρ = [.im (Fd n ls), .im (.lst ((rows (pre.foldl (stepP ls) r)).map T)), s2, s3, s4, s5]) r
        [.im (Fd n ls), .im (.lst ((rows r).map T)), .no, .no, .no, .no] ⟨.no, .no, .no, .no, rfl⟩
        (fun pre post p ρ e hi => by
          obtain ⟨s2, s3, s4, s5, rfl⟩ := hi
          rw [List.foldl_append, List.foldl_cons, List.foldl_nil]
          generalize pre.foldl (stepP ls) r = cur at *
          have lc1 := fun s3 s4 s5 : Option D => lcC_filter (F := run tab k) (own := [4]) (tg := .one 4) (ifs := c_pairing_1) (elt := c_pairing_2) (ρ := [some (Fd n ls), some (.lst ((rows cur).map T)), some (.tup [.int p.1, .int p.2]), s3, s4, s5]) (fun p : Pr => D.tup [.int p.1, .int p.2]) (fun o => !decide (o = p)) (fun p : Pr => D.tup [.int p.1, .int p.2]) cur
            (fun o ho => by
              have ne := cmp_ne_pr o p
              generalize D.lst ((rows cur).map T) = R at *
              generalize Fd n ls = F at *
              generalize D.tup [.int o.1, .int o.2] = to_ at *
              generalize D.tup [.int p.1, .int p.2] = tp at *
              by_cases h : o = p
              · rw [decide_eq_true h] at ne; simp -implicitDefEqProofs [lcT, c_pairing_1, c_pairing_2, ne, h]
              · rw [decide_eq_false h] at ne; simp -implicitDefEqProofs [lcT, c_pairing_1, c_pairing_2, ne, h])
          simp only [← rows_T] at lc1
          have lc1 : ∀ s3 s4 s5 : Option D, lcC (run tab k) [4] (.one 4) c_pairing_1 c_pairing_2 [some (Fd n ls), some (.lst ((rows cur).map T)), some (.tup [.int p.1, .int p.2]), s3, s4, s5] ((rows cur).map T) = .ok ((rows (less p cur)).map T) := lc1
          have lc2 := fun s1 s2 s4 s5 : Option D => lcC_map (F := run tab k) (own := [5]) (tg := .one 5) (ifs := .nil) (elt := c_pairing_3) (ρ := [some (Fd n ls), s1, s2, some (.lst ((rows (less p cur)).map T)), s4, s5]) T (fun l => D.bl (hp l (less p cur))) ls
            (fun l hl => by
              have h := run_holds_pair (k := k) (by omega) (l := l) (d := .lst ((rows (less p cur)).map T)) (ps := less p cur) rfl
              generalize D.lst ((rows (less p cur)).map T) = R at *
              generalize Fd n ls = F at *
              generalize T l = tl at *
              simp -implicitDefEqProofs [lcT, c_pairing_3, h])
          have al := all_bls (fun l => hp l (less p cur)) ls
          refine ⟨[.im (Fd n ls), .im (.lst ((rows (stepP ls cur p)).map T)), .im (.tup [.int p.1, .int p.2]), .im (.lst ((rows (less p cur)).map T)), s4, s5], ?_, _, _, _, _, rfl⟩
          have hst : (rows (stepP ls cur p)).map T = if (ls.all fun l => hp l (less p cur)) then (rows (less p cur)).map T else (rows cur).map T := by unfold stepP; split <;> rfl
          rw [hst]
          generalize (ls.map fun l => D.bl (hp l (less p cur))) = B at *
          generalize (rows (less p cur)).map T = R2 at *
          generalize (rows cur).map T = R at *
          generalize ls.map T = L2 at *
          generalize TT ls = TL at *
          generalize Fd n ls = F at *
          generalize D.tup [.int p.1, .int p.2] = tp at *
          cases h : ls.all fun l => hp l (less p cur) with
          | true => rw [h] at al; simp -implicitDefEqProofs [b_pairing_1, i1, sqL, lc1, lc2, al]
          | false => rw [h] at al; simp -implicitDefEqProofs [b_pairing_1, i1, sqL, lc1, lc2, al])
      rw [← rows_T] at lp
      rw [run_code rfl rfl]
      generalize (rows (r.foldl (stepP ls) r)).map T = R2 at *
      generalize (rows r).map T = R at *
      generalize (rows qs).map T = R3 at *
      generalize TT ls = TL at *
      generalize Fd n ls = F at *
      simp -implicitDefEqProofs [d_pairing, start, i1, sr, lp, so]
    · have hpc := hq.mem_iff.mp hp'
      have := c p (a.subset hpc) hpc
      have hpm : (less p qs).Perm (less p (r.foldl (stepP ls) r)) := hq.filter _
      simp only [hp_perm hpm]
      exact this
/-! ### all pairings -/
def allM : Nat → List Int → List (List Pr)
  | 0, _ => [[]]
  | f + 1, x :: y :: r => allM f (y :: r) ++ (List.range (y :: r).length).flatMap fun j => (allM f ((y :: r).eraseIdx j)).map fun m => (x, (y :: r).getD j 0) :: m
  | _ + 1, _ => [[]]
def invo : Nat → Nat
  | 0 => 1
  | 1 => 1
  | m + 2 => invo (m + 1) + (m + 1) * invo m
theorem allM_len : ∀ (f : Nat) {xs : List Int}, xs.length ≤ f → (allM f xs).length = invo xs.length
  | 0, xs, h => by
    rw [List.length_eq_zero_iff.mp (Nat.le_zero.mp h)]; rfl
  | f + 1, [], h => rfl
  | f + 1, [_], h => rfl
  | f + 1, x :: y :: r, h => by
    rw [List.length_cons] at h
    rw [allM, List.length_append, allM_len f (by omega)]
    show _ = invo (r.length + 1) + (r.length + 1) * invo r.length
    congr 1
    have e : ∀ j ∈ List.range (y :: r).length, ((allM f ((y :: r).eraseIdx j)).map fun m => (x, (y :: r).getD j 0) :: m).length = invo r.length := fun j hj => by
      have hj' := List.mem_range.mp hj
      have hl : ((y :: r).eraseIdx j).length = r.length := by rw [List.length_eraseIdx_of_lt hj']; rfl
      rw [List.length_map, allM_len f (by rw [hl]; rw [List.length_cons] at h; omega), hl]
    rw [List.length_flatMap, List.map_congr_left e, List.map_const', List.sum_replicate_nat, List.length_range]; rfl
theorem allM_ne : ∀ (f : Nat) {xs : List Int}, allM f xs ≠ []
  | 0, xs => by rw [allM]; intro e; cases e
  | f + 1, [] => fun e => by
    have e : ([[]] : List (List Pr)) = [] := e
    cases e
  | f + 1, [_] => fun e => by
    have e : ([[]] : List (List Pr)) = [] := e
    cases e
  | f + 1, x :: y :: r => by
    rw [allM]
    intro e
    exact allM_ne f (List.append_eq_nil_iff.mp e).1
end FC

/-! Law 6: all pairings, by hand. -/
set_option autoImplicit false
set_option linter.all false
set_option maxRecDepth 100000
set_option maxHeartbeats 4000000
set_option Elab.async false
namespace FC
open PySem

abbrev RT (m : List Pr) : D := .tup ((rows m).map T)
theorem allM_mlen : ∀ (f : Nat) {xs : List Int} {m : List Pr}, m ∈ allM f xs → m.length ≤ f
  | 0, xs, m, h => by
    have h : m ∈ ([[]] : List (List Pr)) := h
    rw [List.mem_singleton.mp h]; exact Nat.le_refl _
  | f + 1, [], m, h => by
    have h : m ∈ ([[]] : List (List Pr)) := h
    rw [List.mem_singleton.mp h]; exact Nat.zero_le _
  | f + 1, [_], m, h => by
    have h : m ∈ ([[]] : List (List Pr)) := h
    rw [List.mem_singleton.mp h]; exact Nat.zero_le _
  | f + 1, x :: y :: r, m, h => by
    rw [allM] at h
    rcases List.mem_append.mp h with h | h
    · have := allM_mlen f h; omega
    · obtain ⟨j, _, h⟩ := List.mem_flatMap.mp h
      obtain ⟨m', hm, rfl⟩ := List.mem_map.mp h
      have := allM_mlen f hm
      rw [List.length_cons]
      omega
theorem rng_one {n : Nat} (hl : n ≤ 1000) : rngD (.int 1) (.int (n : Int)) = .ok ((List.range (n - 1)).map fun j : Nat => D.int ((j : Int) + 1)) := by
  have e : rngOk (n : Int) = true := by unfold rngOk; exact decide_eq_true ⟨by omega, by omega⟩
  have e0 : rngOk 1 = true := by decide
  have e2 : ((n : Int) - 1).toNat ≤ lim := small_lim (by omega)
  rw [rngD, e, e0, decide_eq_true e2]
  have e3 : ((n : Int) - 1).toNat = n - 1 := by omega
  rw [e3]
  simp only [Bool.and_self, if_true]
  unfold rng
  exact congrArg Res.ok (List.map_congr_left fun a _ => by rw [Int.add_comm])
theorem cut_mid {α : Type} (x : α) (xs : List α) {j : Nat} (hj : j ≤ xs.length) : cut (x :: xs) (some 1) (some ((j : Int) + 1)) = xs.take j := by
  unfold cut
  rw [show (1 : Int) = ((1 : Nat) : Int) from rfl, show (j : Int) + ((1 : Nat) : Int) = ((j + 1 : Nat) : Int) by omega, HT.sIx_nat, HT.sIx_nat, List.length_cons, Nat.min_eq_left (by omega), Nat.min_eq_left (by omega)]
  rfl
theorem invo76 : ∀ m, m ≤ 6 → invo m ≤ 76 := by decide
theorem run_l_all : ∀ (f : Nat) {k : Nat} {xs : List Int}, xs.length ≤ f → f ≤ 6 → f + 2 ≤ k → run tab k .l_all [.lst (xs.map .int)] = .ok (.lst ((allM f xs).map RT))
  | f, k, [], h, h6, hk => by
    obtain ⟨k, rfl, hj⟩ := suc (n := f + 1) hk
    have e : allM f [] = [[]] := by cases f <;> rfl
    rw [run_code rfl rfl, e]
    simp -implicitDefEqProofs [d_l_all, start, rows]
  | f, k, [x], h, h6, hk => by
    obtain ⟨k, rfl, hj⟩ := suc (n := f + 1) hk
    have e : allM f [x] = [[]] := by cases f <;> rfl
    rw [run_code rfl rfl, e]
    simp -implicitDefEqProofs [d_l_all, start, rows]
  | 0, _, _ :: _ :: _, h, _, _ => by simp at h
  | f + 1, k, x :: y :: r, h, h6, hk => by
    obtain ⟨k, rfl, hj⟩ := suc (n := f + 2) (by omega : f + 2 + 1 ≤ k)
    have hl : (y :: r).length ≤ f := by rw [List.length_cons] at h ⊢; rw [List.length_cons] at h; omega
    have hr := run_l_all f (k := k) (xs := y :: r) hl (by omega) (by omega)
    have ln : biD .len [.lst ((x :: y :: r).map .int)] = .ok (.int (((y :: r).length + 1 : Nat) : Int)) := by rw [bj_len_lst, List.length_map]; rfl
    have lt : ¬ ((((y :: r).length + 1 : Nat) : Int) < 2) := by rw [List.length_cons]; omega
    have s1 : slcD (.lst ((x :: y :: r).map .int)) (some 1) none = .ok (.lst ((y :: r).map .int)) := by
      have c0 := cut_from (x :: y :: r) 0
      rw [show ((0 : Nat) : Int) + 1 = 1 by omega] at c0
      rw [slc_lst, cut_map', c0]
      rfl
    have rg := rng_one (n := (y :: r).length + 1) (by rw [List.length_cons] at hl ⊢; omega)
    rw [Nat.add_sub_cancel] at rg
    have total := allM_len (f + 1) h
    have t76 := invo76 _ (Nat.le_trans h h6)
    rw [allM] at total
    have ix0 : idxD (.lst ((x :: y :: r).map .int)) (.int 0) = .ok (.int x) := by rw [idx_lst, List.map_cons, atI_cons0]; rfl
    obtain ⟨ρ', lp, s2, s3, rfl⟩ := forC_pre (F := run tab k) (tg := .one 2) (b := b_l_all_1) (fun j : Nat => D.int ((j : Int) + 1)) (fun (pre : List Nat) ρ => ∃ s2 s3 : Sl, ρ = [.im (.lst ((x :: y :: r).map .int)), .im (.lst ((allM f (y :: r) ++ pre.flatMap fun j => (allM f ((y :: r).eraseIdx j)).map fun m => (x, (y :: r).getD j 0) :: m).map RT)), s2, s3, .no]) (List.range (y :: r).length)
      [.im (.lst ((x :: y :: r).map .int)), .im (.lst ((allM f (y :: r)).map RT)), .no, .no, .no] ⟨.no, .no, by rw [List.flatMap_nil, List.append_nil]⟩
      (fun pre post j ρ e hi => by
        obtain ⟨s2, s3, rfl⟩ := hi
        have hj' : j < (y :: r).length := List.mem_range.mp (by rw [e]; simp)
        have a1 : slcD (.lst ((x :: y :: r).map .int)) (some 1) (some ((j : Int) + 1)) = .ok (.lst (((y :: r).take j).map .int)) := by rw [slc_lst, cut_map', cut_mid x (y :: r) (by omega)]
        have a2 : slcD (.lst ((x :: y :: r).map .int)) (some ((j : Int) + 1 + 1)) none = .ok (.lst (((y :: r).drop (j + 1)).map .int)) := by
          have c0 := cut_from (x :: y :: r) (j + 1)
          rw [show ((j + 1 : Nat) : Int) + 1 = (j : Int) + 1 + 1 by omega] at c0
          rw [slc_lst, cut_map', c0]
          rfl
        have ad : binD .add (.lst (((y :: r).take j).map .int)) (.lst (((y :: r).drop (j + 1)).map .int)) = .ok (.lst (((y :: r).eraseIdx j).map .int)) := by
          rw [bin_addL (by rw [List.length_map, List.length_map, List.length_take, List.length_drop]; omega), ← List.map_append, List.eraseIdx_eq_take_drop_succ]
        have hle : ((y :: r).eraseIdx j).length ≤ f := by rw [List.length_eraseIdx_of_lt hj']; omega
        have rc := run_l_all f (k := k) (xs := (y :: r).eraseIdx j) hle (by omega) (by omega)
        have ixj : idxD (.lst ((x :: y :: r).map .int)) (.int ((j : Int) + 1)) = .ok (.int ((y :: r).getD j 0)) := by
          rw [idx_lst, atI_ok (by omega) (by rw [List.length_map, List.length_cons]; omega), show ((j : Int) + 1).toNat = j + 1 by omega, List.getElem?_map, List.getElem?_cons_succ, List.getD_eq_getElem?_getD, List.getElem?_eq_getElem hj']; rfl
        have lc := fun s1 s3 s4 : Option D => lcC_map (F := run tab k) (own := [4]) (tg := .one 4) (ifs := .nil) (elt := c_l_all_1) (ρ := [some (.lst ((x :: y :: r).map .int)), s1, some (.int ((j : Int) + 1)), s3, s4]) RT (fun m => RT ((x, (y :: r).getD j 0) :: m)) (allM f ((y :: r).eraseIdx j))
          (fun m hm => by
            have hml := allM_mlen f hm
            have ad2 : binD .add (.tup [.tup [.int x, .int ((y :: r).getD j 0)]]) (RT m) = .ok (RT ((x, (y :: r).getD j 0) :: m)) := by
              rw [bin_addT (by rw [List.length_map, show (rows m).length = m.length from List.length_map .., List.length_singleton]; omega)]
              rfl
            generalize RT ((x, (y :: r).getD j 0) :: m) = r2 at *
            generalize RT m = r1 at *
            generalize (y :: r).getD j 0 = z at *
            generalize D.lst ((x :: y :: r).map .int) = XS at *
            simp -implicitDefEqProofs [-idx_lst, lcT, c_l_all_1, ix0, ixj, ad2])
        refine ⟨[.im (.lst ((x :: y :: r).map .int)), .im (.lst ((allM f (y :: r) ++ (pre ++ [j]).flatMap fun j => (allM f ((y :: r).eraseIdx j)).map fun m => (x, (y :: r).getD j 0) :: m).map RT)), .im (.int ((j : Int) + 1)), .im (.lst (((y :: r).eraseIdx j).map .int)), .no], ?_, _, _, rfl⟩
        have ad3 : binD .add (.lst ((allM f (y :: r) ++ pre.flatMap fun j => (allM f ((y :: r).eraseIdx j)).map fun m => (x, (y :: r).getD j 0) :: m).map RT)) (.lst ((allM f ((y :: r).eraseIdx j)).map fun m => RT ((x, (y :: r).getD j 0) :: m))) = .ok (.lst ((allM f (y :: r) ++ (pre ++ [j]).flatMap fun j => (allM f ((y :: r).eraseIdx j)).map fun m => (x, (y :: r).getD j 0) :: m).map RT)) := by
          rw [bin_addL]
          · rw [List.flatMap_append, List.flatMap_singleton, ← List.append_assoc, List.map_append (l₂ := List.map _ _), List.map_map]
            rfl
          · rw [List.length_map, List.length_map]
            rw [e, List.flatMap_append, List.flatMap_cons, List.length_append, List.length_append, List.length_append, List.length_map] at total
            rw [List.length_append]
            omega
        generalize (allM f (y :: r) ++ (pre ++ [j]).flatMap fun j => (allM f ((y :: r).eraseIdx j)).map fun m => (x, (y :: r).getD j 0) :: m).map RT = A2 at *
        generalize (allM f (y :: r) ++ pre.flatMap fun j => (allM f ((y :: r).eraseIdx j)).map fun m => (x, (y :: r).getD j 0) :: m).map RT = A1 at *
        generalize ((allM f ((y :: r).eraseIdx j)).map fun m => RT ((x, (y :: r).getD j 0) :: m)) = A3 at *
        generalize (allM f ((y :: r).eraseIdx j)).map RT = A4 at *
        generalize ((y :: r).eraseIdx j).map D.int = E1 at *
        generalize ((y :: r).drop (j + 1)).map D.int = E2 at *
        generalize ((y :: r).take j).map D.int = E3 at *
        generalize D.lst ((x :: y :: r).map .int) = XS at *
        simp -implicitDefEqProofs [-idx_lst, -slc_lst, b_l_all_1, a1, a2, ad, rc, lc, ad3])
    rw [run_code rfl rfl, allM]
    generalize (allM f (y :: r) ++ (List.range (y :: r).length).flatMap fun j => (allM f ((y :: r).eraseIdx j)).map fun m => (x, (y :: r).getD j 0) :: m).map RT = A2 at *
    generalize (allM f (y :: r)).map RT = A1 at *
    generalize ((List.range (y :: r).length).map fun j : Nat => D.int ((j : Int) + 1)) = RG at *
    generalize (((y :: r).length + 1 : Nat) : Int) = L1 at *
    generalize (y :: r).map D.int = YS at *
    generalize (x :: y :: r).map D.int = XS at *
    simp -implicitDefEqProofs [-idx_lst, -slc_lst, -bj_len_lst, d_l_all, start, ln, lt, s1, hr, rg, lp]
/-! ### which they are -/
structure InP (xs : List Int) (m : List Pr) : Prop where
  bd : ∀ p ∈ m, p.1 < p.2 ∧ p.1 ∈ xs ∧ p.2 ∈ xs
  nd : (pts m).Nodup
theorem inP_nil (xs : List Int) : InP xs [] := ⟨(fun p hp => nomatch hp), .nil⟩
theorem pts_in {xs : List Int} {m : List Pr} (h : InP xs m) : ∀ z ∈ pts m, z ∈ xs := fun z hz => by
  obtain ⟨p, hp, e⟩ := mem_pts.mp hz
  rcases e with rfl | rfl
  · exact (h.bd p hp).2.1
  · exact (h.bd p hp).2.2
theorem allM_ok : ∀ (f : Nat) {xs : List Int} {m : List Pr}, xs.Pairwise (· < ·) → m ∈ allM f xs → InP xs m
  | 0, xs, m, _, h => by
    have h : m ∈ ([[]] : List (List Pr)) := h
    rw [List.mem_singleton.mp h]; exact inP_nil _
  | f + 1, [], m, _, h => by
    have h : m ∈ ([[]] : List (List Pr)) := h
    rw [List.mem_singleton.mp h]; exact inP_nil _
  | f + 1, [_], m, _, h => by
    have h : m ∈ ([[]] : List (List Pr)) := h
    rw [List.mem_singleton.mp h]; exact inP_nil _
  | f + 1, x :: y :: r, m, hu, h => by
    have h1 := List.pairwise_cons.mp hu
    rw [allM] at h
    rcases List.mem_append.mp h with h | h
    · have ih := allM_ok f h1.2 h
      exact ⟨fun p hp => ⟨(ih.bd p hp).1, List.mem_cons_of_mem _ (ih.bd p hp).2.1, List.mem_cons_of_mem _ (ih.bd p hp).2.2⟩, ih.nd⟩
    · obtain ⟨j, hj, h⟩ := List.mem_flatMap.mp h
      obtain ⟨m', hm, rfl⟩ := List.mem_map.mp h
      have hj := List.mem_range.mp hj
      have hsub : ((y :: r).eraseIdx j).Sublist (y :: r) := List.eraseIdx_sublist ..
      have ih := allM_ok f (h1.2.sublist hsub) hm
      have hz : (y :: r).getD j 0 = (y :: r)[j] := by rw [List.getD_eq_getElem?_getD, List.getElem?_eq_getElem hj]; rfl
      have hzm : (y :: r).getD j 0 ∈ y :: r := by rw [hz]; exact List.getElem_mem hj
      have hlt := h1.1 _ hzm
      refine ⟨fun p hp => ?_, ?_⟩
      · rcases List.mem_cons.mp hp with rfl | hp
        · exact ⟨hlt, List.mem_cons_self, List.mem_cons_of_mem _ hzm⟩
        · have := ih.bd p hp
          exact ⟨this.1, List.mem_cons_of_mem _ (hsub.subset this.2.1), List.mem_cons_of_mem _ (hsub.subset this.2.2)⟩
      · show ([x, (y :: r).getD j 0] ++ pts m').Nodup
        refine List.nodup_append.mpr ⟨List.nodup_cons.mpr ⟨by simp only [List.mem_singleton]; omega, List.pairwise_singleton _ _⟩, ih.nd, fun a ha b hb e => ?_⟩
        subst e
        have hin := pts_in ih a hb
        simp only [List.mem_cons, List.mem_nil_iff, or_false] at ha
        rcases ha with rfl | rfl
        · have := h1.1 _ (hsub.subset hin)
          omega
        · rw [List.mem_eraseIdx_iff_getElem] at hin
          obtain ⟨i, hi, hne, e⟩ := hin
          rw [hz] at e
          exact hne ((List.getElem_inj (up_nodup h1.2)).mp e)
theorem allM_full : ∀ (f : Nat) {xs : List Int} {Q : List Pr}, xs.length ≤ f → xs.Pairwise (· < ·) → InP xs Q → ∃ m ∈ allM f xs, m.Perm Q
  | f, [], Q, _, _, h => by
    have e : allM f [] = [[]] := by cases f <;> rfl
    cases Q with
    | nil => exact ⟨[], by rw [e]; exact List.mem_singleton_self _, .refl _⟩
    | cons p Q => exact nomatch (h.bd p List.mem_cons_self).2.1
  | f, [x], Q, _, _, h => by
    have e : allM f [x] = [[]] := by cases f <;> rfl
    cases Q with
    | nil => exact ⟨[], by rw [e]; exact List.mem_singleton_self _, .refl _⟩
    | cons p Q =>
      obtain ⟨a, b, c⟩ := h.bd p List.mem_cons_self
      rw [List.mem_singleton.mp b, List.mem_singleton.mp c] at a
      omega
  | 0, _ :: _ :: _, _, h, _, _ => by simp at h
  | f + 1, x :: y :: r, Q, hl, hu, h => by
    have h1 := List.pairwise_cons.mp hu
    have hl' : (y :: r).length ≤ f := by rw [List.length_cons] at hl ⊢; rw [List.length_cons] at hl; omega
    rw [allM]
    have inT : ∀ {z : Int}, z ∈ x :: y :: r → z ≠ x → z ∈ y :: r := fun hz hn => (List.mem_cons.mp hz).resolve_left hn
    by_cases hx : x ∈ pts Q
    · obtain ⟨q, hq, e⟩ := mem_pts.mp hx
      obtain ⟨b1, b2, b3⟩ := h.bd q hq
      have ex : x = q.1 := by
        rcases e with e | e
        · exact e
        · exfalso
          rcases List.mem_cons.mp b2 with z | z
          · omega
          · have := h1.1 _ z
            omega
      have hb : q.2 ∈ y :: r := inT b3 (by omega)
      obtain ⟨j, hj, ej⟩ := List.mem_iff_getElem.mp hb
      have hz : (y :: r).getD j 0 = q.2 := by rw [List.getD_eq_getElem?_getD, List.getElem?_eq_getElem hj]; exact ej
      have hperm := List.perm_cons_erase hq
      have hnd : (pts (q :: Q.erase q)).Nodup := (hperm.flatMap_right pr).nodup_iff.mp h.nd
      have hnd : (pr q ++ pts (Q.erase q)).Nodup := hnd
      rw [List.nodup_append] at hnd
      have hin : InP ((y :: r).eraseIdx j) (Q.erase q) := by
        refine ⟨fun p hp => ?_, hnd.2.1⟩
        have hpQ := List.mem_of_mem_erase hp
        obtain ⟨c1, c2, c3⟩ := h.bd p hpQ
        have key : ∀ z, z ∈ pr p → z ∈ x :: y :: r → z ∈ (y :: r).eraseIdx j := fun z hz1 hz2 => by
          have hzp : z ∈ pts (Q.erase q) := List.mem_flatMap.mpr ⟨p, hp, hz1⟩
          have n1 : z ≠ x := fun e => hnd.2.2 x (by rw [ex]; simp [pr]) z hzp e.symm
          have n2 : z ≠ q.2 := fun e => hnd.2.2 q.2 (by simp [pr]) z hzp e.symm
          obtain ⟨i, hi, ei⟩ := List.mem_iff_getElem.mp (inT hz2 n1)
          rw [List.mem_eraseIdx_iff_getElem]
          refine ⟨i, hi, fun e => n2 ?_, ei⟩
          subst e
          rw [← ei, ej]
        exact ⟨c1, key _ (by simp [pr]) c2, key _ (by simp [pr]) c3⟩
      obtain ⟨m, hm, pm⟩ := allM_full f (xs := (y :: r).eraseIdx j) (by rw [List.length_eraseIdx_of_lt hj]; omega) (h1.2.sublist (List.eraseIdx_sublist ..)) hin
      refine ⟨(x, (y :: r).getD j 0) :: m, List.mem_append_right _ (List.mem_flatMap.mpr ⟨j, List.mem_range.mpr hj, List.mem_map_of_mem hm⟩), ?_⟩
      rw [hz, ex]
      exact (pm.cons q).trans hperm.symm
    · obtain ⟨m, hm, pm⟩ := allM_full f hl' h1.2 (Q := Q) ⟨fun p hp => by
        obtain ⟨c1, c2, c3⟩ := h.bd p hp
        exact ⟨c1, inT c2 fun e => hx (mem_pts.mpr ⟨p, hp, .inl e.symm⟩), inT c3 fun e => hx (mem_pts.mpr ⟨p, hp, .inr e.symm⟩)⟩, h.nd⟩
      exact ⟨m, List.mem_append_left _ hm, pm⟩
end FC

/-! Law 6: partner, reply; the guard that replies so. -/
set_option autoImplicit false
set_option linter.all false
set_option maxRecDepth 100000
set_option maxHeartbeats 4000000
set_option Elab.async false
namespace FC
open PySem

def prt (x : Int) (p : Pr) : Option Int := if x = p.1 then some p.2 else if x = p.2 then some p.1 else none
def partM (ps : List Pr) (x : Int) : Option Int := ps.findSome? (prt x)
theorem run_partner {k : Nat} (hk : 1 ≤ k) {d : D} {ps : List Pr} {x : Int} (hd : seqOf d = .ok ((rows ps).map T)) : run tab k .partner [d, .int x] = .ok (oD (partM ps x)) := by
  obtain ⟨k, rfl, hj⟩ := suc hk
  have lp := forC_find (F := run tab k) (tg := .many [2, 3]) (b := b_partner_1) (fun p : Pr => D.tup [.int p.1, .int p.2]) (fun ρ => ∃ s2 s3 : Sl, ρ = [.im d, .im (.int x), s2, s3]) (fun p => (prt x p).map D.int) ps [.im d, .im (.int x), .no, .no] ⟨.no, .no, rfl⟩
    (fun p ρ hp hi => by
      obtain ⟨s2, s3, rfl⟩ := hi
      unfold prt
      by_cases h1 : x = p.1
      · exact .inl ⟨.int p.2, by rw [if_pos h1]; rfl, by simp -implicitDefEqProofs [b_partner_1, h1]⟩
      · by_cases h2 : x = p.2
        · refine .inl ⟨.int p.1, by rw [if_neg h1, if_pos h2]; rfl, ?_⟩
          have h3 : ¬ p.2 = p.1 := fun e => h1 (h2.trans e)
          simp -implicitDefEqProofs [b_partner_1, h2, h3]
        · refine .inr ⟨by rw [if_neg h1, if_neg h2]; rfl, [.im d, .im (.int x), .im (.int p.1), .im (.int p.2)], ?_, _, _, rfl⟩
          simp -implicitDefEqProofs [b_partner_1, h1, h2])
  rw [← rows_T] at lp
  have hfs : ∀ xs : List Pr, (xs.findSome? fun p => (prt x p).map D.int) = (xs.findSome? (prt x)).map D.int := fun xs => by
    induction xs with
    | nil => rfl
    | cons q xs ih =>
      rw [List.findSome?_cons, List.findSome?_cons]
      cases prt x q with
      | none => exact ih
      | some _ => rfl
  rw [hfs] at lp
  rw [run_code rfl rfl]
  unfold partM
  generalize (rows ps).map T = R at *
  rcases lp with ⟨d', e1, e2⟩ | ⟨e1, ρ', e2, s2, s3, rfl⟩
  · cases hf : ps.findSome? (prt x) with
    | none => rw [hf] at e1; cases e1
    | some v =>
      rw [hf] at e1
      cases e1
      simp -implicitDefEqProofs [d_partner, start, hd, e2, oD]
  · cases hf : ps.findSome? (prt x) with
    | some _ => rw [hf] at e1; cases e1
    | none => simp -implicitDefEqProofs [d_partner, start, hd, e2, oD]
def repM (n : Int) (ps : List Pr) (m y : List Int) (x : Int) : Option Int := match partM ps x with
  | some v => if v ∈ frees n m y then some v else (frees n m y).head?
  | none => (frees n m y).head?
theorem inD_non : ∀ xs : List Int, inD .non (xs.map .int) = false
  | [] => rfl
  | x :: xs => by rw [List.map_cons, inD_cons, eqD_int_non, inD_non xs]; rfl
theorem run_reply {k : Nat} (hk : 3 ≤ k) {n : Int} (h0 : 0 ≤ n) (hn : n ≤ 9) {ls d : D} {ps : List Pr} {m y : List Int} {x : Int} (hd : seqOf d = .ok ((rows ps).map T)) :
    run tab k .reply [.tup [.int n, ls], d, T m, T y, .int x] = .ok (oD (repM n ps m y x)) := by
  obtain ⟨k, rfl, hj⟩ := suc hk
  have f := run_free (k := k) (by omega) (n := n) (ls := ls) (m := m) (y := y) h0 (by omega)
  have pa := run_partner (k := k) (by omega) (x := x) hd
  have inn : cmpD .isin .non (.lst ((frees n m y).map .int)) = .ok (.bl false) := by rw [cmp_inL shp_non (shp_L _), inD_non]
  have ini := fun v : Int => cmp_in_intsL v (frees n m y)
  rw [run_code rfl rfl]
  unfold repM
  generalize D.tup [.int n, ls] = F at *
  generalize T m = tm at *
  generalize T y = ty at *
  cases hp : partM ps x with
  | none =>
    rw [hp] at pa
    have pa : run tab k .partner [d, .int x] = .ok .non := pa
    cases hf : frees n m y with
    | nil =>
      rw [hf] at f inn
      have f : run tab k .free_points [F, tm, ty] = .ok (.lst []) := f
      have inn : cmpD .isin .non (.lst []) = .ok (.bl false) := inn
      simp -implicitDefEqProofs [d_reply, start, f, pa, inn, oD]
    | cons z r =>
      rw [hf] at f inn
      have f : run tab k .free_points [F, tm, ty] = .ok (.lst (.int z :: r.map .int)) := f
      have inn : cmpD .isin .non (.lst (.int z :: r.map .int)) = .ok (.bl false) := inn
      simp -implicitDefEqProofs [d_reply, start, f, pa, inn, oD]
  | some v =>
    rw [hp] at pa
    have pa : run tab k .partner [d, .int x] = .ok (.int v) := pa
    have iv := ini v
    show _ = Res.ok (oD (if v ∈ frees n m y then some v else (frees n m y).head?))
    by_cases hv : v ∈ frees n m y
    · rw [decide_eq_true hv] at iv
      rw [if_pos hv]
      generalize (frees n m y).map D.int = fr at *
      simp -implicitDefEqProofs [d_reply, start, f, pa, iv, oD]
    · rw [decide_eq_false hv] at iv
      rw [if_neg hv]
      cases hf : frees n m y with
      | nil =>
        rw [hf] at f iv
        have f : run tab k .free_points [F, tm, ty] = .ok (.lst []) := f
        have iv : cmpD .isin (.int v) (.lst []) = .ok (.bl false) := iv
        simp -implicitDefEqProofs [d_reply, start, f, pa, iv, oD]
      | cons z r =>
        rw [hf] at f iv
        have f : run tab k .free_points [F, tm, ty] = .ok (.lst (.int z :: r.map .int)) := f
        have iv : cmpD .isin (.int v) (.lst (.int z :: r.map .int)) = .ok (.bl false) := iv
        simp -implicitDefEqProofs [d_reply, start, f, pa, iv, oD]
/-! ### the guard that replies -/
def Inv6 (ps : List Pr) (m y : List Int) : Prop := ∀ p ∈ ps, (p.1 ∈ m → p.2 ∈ y) ∧ (p.2 ∈ m → p.1 ∈ y)
section
variable {n : Int} {ls : List (List Int)} {ps : List Pr}
theorem part_of (hv : Vd n ps) {q : Pr} (hq : q ∈ ps) {x : Int} (hx : x = q.1 ∨ x = q.2) : partM ps x = some (if x = q.1 then q.2 else q.1) := by
  have hne := (hv.bd q hq).2.1
  have hxq : x ∈ pr q := by rcases hx with rfl | rfl <;> simp [pr]
  have hpq : prt x q = some (if x = q.1 then q.2 else q.1) := by
    unfold prt
    by_cases h : x = q.1
    · rw [if_pos h, if_pos h]
    · rw [if_neg h, if_neg h, if_pos (hx.resolve_left h)]
  unfold partM
  cases e : ps.findSome? (prt x) with
  | none =>
    rw [List.findSome?_eq_none_iff] at e
    rw [e q hq] at hpq
    cases hpq
  | some v =>
    obtain ⟨p, hp, hpv⟩ := List.exists_of_findSome?_eq_some e
    have hxp : x ∈ pr p := by
      unfold prt at hpv
      split at hpv
      · rename_i h; rw [h]; simp [pr]
      · split at hpv
        · rename_i h; rw [h]; simp [pr]
        · cases hpv
    have := pts_uniq hv.nd hp hq hxp hxq
    rw [this] at hpv
    rw [← hpv, hpq]
theorem inv_reply (hv : Vd n ps) {m y : List Int} {p : Int} (h0 : 0 ≤ n) (hp : PosOk n m y) (hi : Inv6 ps m y) (hf : p ∈ frees n m y) :
    match repM n ps (sortI (m ++ [p])) y p with
    | some v => v ∈ frees n (sortI (m ++ [p])) y ∧ Inv6 ps (sortI (m ++ [p])) (sortI (y ++ [v]))
    | none => frees n (sortI (m ++ [p])) y = [] ∧ Inv6 ps (sortI (m ++ [p])) y := by
  obtain ⟨⟨p0, pn⟩, pm, py⟩ := (mem_frees h0).mp hf
  -- where the partner is had already, or told
  have gen : ∀ y' : List Int, (∀ z ∈ y, z ∈ y') → (∀ d, partM ps p = some d → d ∈ frees n (sortI (m ++ [p])) y → d ∈ y') → Inv6 ps (sortI (m ++ [p])) y' := fun y' hs hd q hq => by
    obtain ⟨b0, b1, b2⟩ := hv.bd q hq
    obtain ⟨i1, i2⟩ := hi q hq
    constructor
    · intro h
      rw [mem_one] at h
      rcases h with h | h
      · exact hs _ (i1 h)
      · have pa := part_of hv hq (x := p) (.inl h.symm)
        rw [if_pos h.symm] at pa
        by_cases hy : q.2 ∈ y
        · exact hs _ hy
        · refine hd _ pa ((mem_frees h0).mpr ⟨⟨by omega, b2⟩, fun z => ?_, hy⟩)
          rw [mem_one] at z
          rcases z with z | z
          · exact py (by rw [← h]; exact i2 z)
          · omega
    · intro h
      rw [mem_one] at h
      rcases h with h | h
      · exact hs _ (i2 h)
      · have pa := part_of hv hq (x := p) (.inr h.symm)
        rw [if_neg (by omega)] at pa
        by_cases hy : q.1 ∈ y
        · exact hs _ hy
        · refine hd _ pa ((mem_frees h0).mpr ⟨⟨b0, by omega⟩, fun z => ?_, hy⟩)
          rw [mem_one] at z
          rcases z with z | z
          · exact py (by rw [← h]; exact i1 z)
          · omega
  have hmem : ∀ v, (∀ z ∈ y, z ∈ sortI (y ++ [v])) := fun v z hz => mem_one.mpr (.inl hz)
  cases hr : repM n ps (sortI (m ++ [p])) y p with
  | some v =>
    simp only
    unfold repM at hr
    cases hpa : partM ps p with
    | none =>
      rw [hpa] at hr
      simp only at hr
      exact ⟨List.mem_of_head? hr, gen _ (hmem v) fun d hd => by rw [hpa] at hd; cases hd⟩
    | some d =>
      rw [hpa] at hr
      simp only at hr
      split at hr
      · rename_i hdf
        cases hr
        exact ⟨hdf, gen _ (hmem v) fun d' hd' _ => by rw [hpa] at hd'; cases hd'; exact mem_one.mpr (.inr rfl)⟩
      · rename_i hdf
        exact ⟨List.mem_of_head? hr, gen _ (hmem v) fun d' hd' hf' => by rw [hpa] at hd'; cases hd'; exact absurd hf' hdf⟩
  | none =>
    simp only
    have hemp : frees n (sortI (m ++ [p])) y = [] := by
      unfold repM at hr
      cases hpa : partM ps p with
      | none => rw [hpa] at hr; exact List.head?_eq_none_iff.mp hr
      | some d =>
        rw [hpa] at hr
        simp only at hr
        split at hr
        · cases hr
        · exact List.head?_eq_none_iff.mp hr
    exact ⟨hemp, gen y (fun z hz => hz) fun d _ hf' => by rw [hemp] at hf'; cases hf'⟩
theorem inv_over (hF : Found n ls ps) {m y : List Int} (hp : PosOk n m y) (hi : Inv6 ps m y) : overM ls m y ≠ some 0 := fun ho => by
  obtain ⟨l, hl, hq⟩ := over_zero.mp ho
  obtain ⟨p, hpm, a, b⟩ := hp_iff.mp (hF.held l hl)
  exact hp.dis _ (hq _ b) ((hi p hpm).1 (hq _ a))
theorem inv_more {m y : List Int} {v : Int} (hi : Inv6 ps m y) : Inv6 ps m (sortI (y ++ [v])) := fun p hp => ⟨fun h => mem_one.mpr (.inl ((hi p hp).1 h)), fun h => mem_one.mpr (.inl ((hi p hp).2 h))⟩
/-- who has its way -/
theorem pair_W (hf : FieldOk n ls) (hF : Found n ls ps) : ∀ (f : Nat) {m y : List Int}, (frees n m y).length ≤ f → PosOk n m y → Inv6 ps m y → W n 1 1 ls m y 0 = 1 ∧ W n 1 1 ls m y 1 = 1
  | f, m, y, hfr, hp, hi => by
    have h0 : 0 ≤ n := by have := hf.lo; omega
    have hno := inv_over hF hp hi
    have e0 := W_eq hf (b := 1) (g := 1) (by decide) (by decide) (m := m) (y := y) (w := 0)
    have e1 := W_eq hf (b := 1) (g := 1) (by decide) (by decide) (m := m) (y := y) (w := 1)
    cases ho : overM ls m y with
    | some v =>
      rw [ho] at e0 e1
      rcases over01 ho with rfl | rfl
      · exact absurd ho hno
      · exact ⟨e0, e1⟩
    | none =>
      rw [ho] at e0 e1
      simp only at e0 e1
      have hne : frees n m y ≠ [] := fun e => over_free hf e ho
      have hpos : 0 < (frees n m y).length := List.length_pos_iff.mpr hne
      obtain ⟨f, rfl, _⟩ := suc (n := 0) (k := f) (by omega)
      have lessc : ∀ {w p : Int}, p ∈ frees n m y → (frees n (putM m y w [p]).1 (putM m y w [p]).2).length ≤ f := fun {w p} q => by
        have := put_free (b := 1) (g := 1) h0 (by decide) (by decide) (w := w) ((cl_one hne).mpr ⟨p, q, rfl⟩) hne
        omega
      constructor
      · rw [e0, if_neg]
        · rfl
        · intro q
          obtain ⟨c, hc, hcw⟩ := List.any_eq_true.mp q
          rw [decide_eq_true_eq] at hcw
          obtain ⟨p, hpf, rfl⟩ := (cl_one hne).mp hc
          have hp2 := one_put (w := 0) h0 hp hpf
          have hp2 : PosOk n (sortI (m ++ [p])) y := hp2
          have hl2 : (frees n (sortI (m ++ [p])) y).length ≤ f := lessc (w := 0) hpf
          have hcw : W n 1 1 ls (sortI (m ++ [p])) y 1 = 0 := hcw
          have rp := inv_reply hF.vd h0 hp hi hpf
          cases hr : repM n ps (sortI (m ++ [p])) y p with
          | none =>
            rw [hr] at rp
            have := (pair_W hf hF f hl2 hp2 rp.2).2
            rw [hcw] at this
            cases this
          | some v =>
            rw [hr] at rp
            obtain ⟨r1, r2⟩ := rp
            have hp3 := one_put (w := 1) h0 hp2 r1
            have hne2 : frees n (sortI (m ++ [p])) y ≠ [] := fun e => by rw [e] at r1; cases r1
            have hl3 := put_free (b := 1) (g := 1) h0 (by decide) (by decide) (w := 1) ((cl_one hne2).mpr ⟨v, r1, rfl⟩) hne2
            have w3 : W n 1 1 ls (sortI (m ++ [p])) (sortI (y ++ [v])) 0 = 1 := (pair_W hf hF f (by
              have : (frees n (putM (sortI (m ++ [p])) y 1 [v]).1 (putM (sortI (m ++ [p])) y 1 [v]).2).length < _ := hl3
              have e : (frees n (sortI (m ++ [p])) (sortI (y ++ [v]))).length < (frees n (sortI (m ++ [p])) y).length := this
              omega) hp3 r2).1
            have e2 := W_eq hf (b := 1) (g := 1) (by decide) (by decide) (m := sortI (m ++ [p])) (y := y) (w := 1)
            rw [hcw] at e2
            have hno2 : overM ls (sortI (m ++ [p])) y ≠ some 0 := fun ho2 => by
              obtain ⟨l, hl, hq⟩ := over_zero.mp ho2
              exact inv_over hF hp3 r2 (over_zero.mpr ⟨l, hl, hq⟩)
            cases ho2 : overM ls (sortI (m ++ [p])) y with
            | some u =>
              rw [ho2] at e2
              rcases over01 ho2 with rfl | rfl
              · exact hno2 ho2
              · cases e2
            | none =>
              rw [ho2] at e2
              simp only at e2
              rw [if_pos (List.any_eq_true.mpr ⟨[v], (cl_one hne2).mpr ⟨v, r1, rfl⟩, decide_eq_true w3⟩)] at e2
              cases e2
      · obtain ⟨p, pr_, hpr⟩ := List.exists_cons_of_ne_nil hne
        have hpf : p ∈ frees n m y := by rw [hpr]; exact List.mem_cons_self
        have w3 := (pair_W hf hF f (lessc (w := 1) hpf) (one_put (w := 1) h0 hp hpf) (inv_more hi)).1
        rw [e1, if_pos (List.any_eq_true.mpr ⟨[p], (cl_one hne).mpr ⟨p, hpf, rfl⟩, decide_eq_true w3⟩)]
theorem inv_nil : Inv6 ps [] [] := fun p hp => ⟨(fun h => nomatch h), (fun h => nomatch h)⟩
/-! ### the law's own look -/
theorem run_l_safe6 (hf : FieldOk n ls) (hF : Found n ls ps) : ∀ (f : Nat) {k : Nat} {m y : List Int}, (frees n m y).length ≤ f → PosOk n m y → Inv6 ps m y → f + 8 ≤ k → run tab k .l_safe6 [Fd n ls, RT ps, T m, T y] = .ok (.bl true)
  | f, k, m, y, hfr, hp, hi, hk => by
    have h0 : 0 ≤ n := by have := hf.lo; omega
    obtain ⟨k, rfl, hj⟩ := suc (n := f + 7) hk
    have hov := run_l_over (k := k) (by omega) (n := n) (ls := ls) (r := [.int 0, .int 1, .int 1]) (m := m) (y := y)
    have hpl := pos_len hf.hi hp
    have hcl := run_l_claims (k := k) (by omega) h0 hf.hi (ls := TT ls) (first := 0) (b := 1) (g := 1) (w := 0) (by decide) (by decide) (.inl rfl) (m := m) (y := y) (by omega)
    have hcl : run tab k .l_claims [.tup [Fd n ls, .int 0, .int 1, .int 1], T m, T y, .int 0] = .ok (.lst ((clM n 1 1 m y 0).map T)) := hcl
    have heq : cmpD .eq (oD (overM ls m y)) (.int 0) = .ok (.bl false) := by
      cases ho : overM ls m y with
      | none =>
        show cmpD .eq .non (.int 0) = _
        rw [cmp_eq shp_non (shp_int 0), eqD_non_int]
      | some v =>
        rcases over01 ho with rfl | rfl
        · exact absurd ho (inv_over hF hp hi)
        · rfl
    obtain ⟨ρ', lp, s5, s6, s7, s8, rfl⟩ := forC_pre (F := run tab k) (tg := .one 5) (b := b_l_safe6_1) T (fun (pre : List (List Int)) ρ => ∃ s5 s6 s7 s8 : Sl, ρ = [.im (Fd n ls), .im (RT ps), .im (T m), .im (T y), .im (.tup [Fd n ls, .int 0, .int 1, .int 1]), s5, s6, s7, s8]) (clM n 1 1 m y 0)
      [.im (Fd n ls), .im (RT ps), .im (T m), .im (T y), .im (.tup [Fd n ls, .int 0, .int 1, .int 1]), .no, .no, .no, .no] ⟨.no, .no, .no, .no, rfl⟩
      (fun pre post c ρ e hi' => by
        obtain ⟨s5, s6, s7, s8, rfl⟩ := hi'
        have hc : c ∈ clM n 1 1 m y 0 := by rw [e]; simp
        have ne := cmp_ne_T c []
        have ne : cmpD .ne (T c) (.tup []) = .ok (.bl (!decide (c = []))) := ne
        by_cases hne : frees n m y = []
        · have hce : c = [] := by
            have := (cl_sub hc).1
            rw [hne] at this
            exact List.sublist_nil.mp this
          rw [decide_eq_true hce] at ne
          refine ⟨[.im (Fd n ls), .im (RT ps), .im (T m), .im (T y), .im (.tup [Fd n ls, .int 0, .int 1, .int 1]), .im (T c), s6, s7, s8], ?_, _, _, _, _, rfl⟩
          generalize D.tup [Fd n ls, .int 0, .int 1, .int 1] = G at *
          generalize Fd n ls = F at *
          generalize RT ps = P at *
          generalize T m = tm at *
          generalize T y = ty at *
          generalize T c = tc at *
          simp -implicitDefEqProofs [b_l_safe6_1, ne]
        · obtain ⟨p, hpf, rfl⟩ := (cl_one hne).mp hc
          have hpos : 0 < (frees n m y).length := List.length_pos_iff.mpr hne
          obtain ⟨f, rfl, _⟩ := suc (n := 0) (k := f) (by omega)
          have hp2 : PosOk n (sortI (m ++ [p])) y := one_put (w := 0) h0 hp hpf
          have hl2 : (frees n (sortI (m ++ [p])) y).length < (frees n m y).length := put_free (b := 1) (g := 1) h0 (by decide) (by decide) (w := 0) hc hne
          have ne : cmpD .ne (T [p]) (.tup []) = .ok (.bl true) := ne
          have ad := addT (a := m) (b := [p]) (by show _ + 1 ≤ 1000; omega)
          have so : biD .sorted [T (m ++ [p])] = .ok (.lst ((sortI (m ++ [p])).map .int)) := bj_sorted_intsT _
          have tu : biD .tuple [.lst ((sortI (m ++ [p])).map .int)] = .ok (T (sortI (m ++ [p]))) := bj_tuple_lst _
          have ix : idxD (T [p]) (.int 0) = .ok (.int p) := by simp
          have rp := run_reply (k := k) (by omega) h0 hf.hi (ls := TT ls) (d := RT ps) (ps := ps) (m := sortI (m ++ [p])) (y := y) (x := p) rfl
          have rp : run tab k .reply [Fd n ls, RT ps, T (sortI (m ++ [p])), T y, .int p] = .ok (oD (repM n ps (sortI (m ++ [p])) y p)) := rp
          have ir := inv_reply hF.vd h0 hp hi hpf
          cases hr : repM n ps (sortI (m ++ [p])) y p with
          | none =>
            rw [hr] at rp ir
            have rp : run tab k .reply [Fd n ls, RT ps, T (sortI (m ++ [p])), T y, .int p] = .ok .non := rp
            have child := run_l_safe6 hf hF f (k := k) (m := sortI (m ++ [p])) (y := y) (by omega) hp2 ir.2 (by omega)
            refine ⟨[.im (Fd n ls), .im (RT ps), .im (T m), .im (T y), .im (.tup [Fd n ls, .int 0, .int 1, .int 1]), .im (T [p]), .im (T (sortI (m ++ [p]))), .im .non, .im (T y)], ?_, _, _, _, _, rfl⟩
            generalize D.tup [Fd n ls, .int 0, .int 1, .int 1] = G at *
            generalize Fd n ls = F at *
            generalize RT ps = P at *
            generalize T (sortI (m ++ [p])) = tmp at *
            generalize (sortI (m ++ [p])).map D.int = smp at *
            generalize T (m ++ [p]) = tmp0 at *
            generalize T m = tm at *
            generalize T y = ty at *
            generalize T [p] = tc at *
            simp -implicitDefEqProofs [-bj_tuple_lst, b_l_safe6_1, ne, ad, so, tu, ix, rp, child]
          | some v =>
            rw [hr] at rp ir
            obtain ⟨r1, r2⟩ := ir
            have rp : run tab k .reply [Fd n ls, RT ps, T (sortI (m ++ [p])), T y, .int p] = .ok (.int v) := rp
            have hp3 : PosOk n (sortI (m ++ [p])) (sortI (y ++ [v])) := one_put (w := 1) h0 hp2 r1
            have hne2 : frees n (sortI (m ++ [p])) y ≠ [] := fun e => by rw [e] at r1; cases r1
            have hl3 : (frees n (sortI (m ++ [p])) (sortI (y ++ [v]))).length < (frees n (sortI (m ++ [p])) y).length := put_free (b := 1) (g := 1) h0 (by decide) (by decide) (w := 1) ((cl_one hne2).mpr ⟨v, r1, rfl⟩) hne2
            have child := run_l_safe6 hf hF f (k := k) (m := sortI (m ++ [p])) (y := sortI (y ++ [v])) (by omega) hp3 r2 (by omega)
            have ad2 := addT (a := y) (b := [v]) (by show _ + 1 ≤ 1000; omega)
            have ad2 : binD .add (T y) (.tup [.int v]) = .ok (T (y ++ [v])) := ad2
            have so2 : biD .sorted [T (y ++ [v])] = .ok (.lst ((sortI (y ++ [v])).map .int)) := bj_sorted_intsT _
            have tu2 : biD .tuple [.lst ((sortI (y ++ [v])).map .int)] = .ok (T (sortI (y ++ [v]))) := bj_tuple_lst _
            refine ⟨[.im (Fd n ls), .im (RT ps), .im (T m), .im (T y), .im (.tup [Fd n ls, .int 0, .int 1, .int 1]), .im (T [p]), .im (T (sortI (m ++ [p]))), .im (.int v), .im (T (sortI (y ++ [v])))], ?_, _, _, _, _, rfl⟩
            generalize D.tup [Fd n ls, .int 0, .int 1, .int 1] = G at *
            generalize Fd n ls = F at *
            generalize RT ps = P at *
            generalize T (sortI (m ++ [p])) = tmp at *
            generalize (sortI (m ++ [p])).map D.int = smp at *
            generalize T (m ++ [p]) = tmp0 at *
            generalize T (sortI (y ++ [v])) = typ at *
            generalize (sortI (y ++ [v])).map D.int = syp at *
            generalize T (y ++ [v]) = typ0 at *
            generalize T m = tm at *
            generalize T y = ty at *
            generalize T [p] = tc at *
            simp -implicitDefEqProofs [-bj_tuple_lst, b_l_safe6_1, ne, ad, so, tu, ix, rp, ad2, so2, tu2, child])
    rw [run_code rfl rfl]
    have hov : run tab k .l_over [.tup [Fd n ls, .int 0, .int 1, .int 1], T m, T y] = .ok (oD (overM ls m y)) := hov
    generalize (clM n 1 1 m y 0).map T = C at *
    generalize oD (overM ls m y) = o at *
    generalize hG : D.tup [Fd n ls, .int 0, .int 1, .int 1] = G at *
    generalize Fd n ls = F at *
    generalize RT ps = P at *
    generalize T m = tm at *
    generalize T y = ty at *
    simp -implicitDefEqProofs [d_l_safe6, start, hG, hov, heq, hcl, lp]
end
end FC

/-! Law 6: the points, the things. -/
set_option autoImplicit false
set_option linter.all false
set_option maxRecDepth 100000
set_option maxHeartbeats 4000000
set_option Elab.async false
namespace FC
open PySem

theorem cmp_ne_oD6 (o : Option Int) : cmpD .ne (oD o) (oD o) = .ok (.bl false) := by
  cases o with
  | none => show cmpD .ne .non .non = _; rw [cmp_ne shp_non shp_non, eqD_non_non]; rfl
  | some v => show cmpD .ne (.int v) (.int v) = _; rw [cmp_ne_int]; simp
/-! ### a point's partner, by hand -/
def dueM (ps : List Pr) (x : Int) : List Int := (ps.filter fun p => decide (x ∈ pr p)).map fun p => p.1 + p.2 - x
theorem due_head (x : Int) : ∀ ps : List Pr, partM ps x = (dueM ps x).head?
  | [] => rfl
  | p :: ps => by
    have ih := due_head x ps
    unfold partM dueM at ih ⊢
    rw [List.findSome?_cons, List.filter_cons]
    by_cases h1 : x = p.1
    · have : prt x p = some p.2 := by unfold prt; rw [if_pos h1]
      rw [this, decide_eq_true (by rw [h1]; simp [pr]), if_pos rfl, List.map_cons, List.head?_cons]
      exact congrArg some (by omega)
    · by_cases h2 : x = p.2
      · have : prt x p = some p.1 := by unfold prt; rw [if_neg h1, if_pos h2]
        rw [this, decide_eq_true (by rw [h2]; simp [pr]), if_pos rfl, List.map_cons, List.head?_cons]
        exact congrArg some (by omega)
      · have : prt x p = none := by unfold prt; rw [if_neg h1, if_neg h2]
        rw [this, decide_eq_false (by simp [pr]; omega), if_neg Bool.false_ne_true]
        exact ih
theorem due_one {xs : List Int} {ps : List Pr} (h : InP xs ps) (x : Int) : ∀ a ∈ dueM ps x, ∀ b ∈ dueM ps x, a = b := fun a ha b hb => by
  obtain ⟨p, hp, rfl⟩ := List.mem_map.mp ha
  obtain ⟨q, hq, rfl⟩ := List.mem_map.mp hb
  obtain ⟨p1, p2⟩ := List.mem_filter.mp hp
  obtain ⟨q1, q2⟩ := List.mem_filter.mp hq
  rw [pts_uniq h.nd p1 q1 (of_decide_eq_true p2) (of_decide_eq_true q2)]
theorem wish_head {xs : List Int} {ps : List Pr} (h : InP xs ps) (n : Int) (m y : List Int) (x : Int) : repM n ps m y x = ((dueM ps x).filter (fun v => decide (v ∈ frees n m y)) ++ frees n m y).head? := by
  have one := due_one h x
  unfold repM
  rw [due_head]
  generalize frees n m y = L
  cases hd : dueM ps x with
  | nil => rfl
  | cons d ds =>
    rw [hd] at one
    simp only [List.head?_cons]
    by_cases hv : d ∈ L
    · rw [if_pos hv, List.filter_cons, decide_eq_true hv]; rfl
    · rw [if_neg hv]
      have : (d :: ds).filter (fun v => decide (v ∈ L)) = [] := by
        rw [List.filter_eq_nil_iff]
        intro a ha
        rw [one a ha d List.mem_cons_self, decide_eq_true_eq]
        exact hv
      rw [this, List.nil_append]
theorem idx_oD (ns : List Int) : idxD (.lst (ns.map .int ++ [.non])) (.int 0) = .ok (oD ns.head?) := by
  cases ns with
  | nil => rw [idx_lst]; rfl
  | cons n ns => rw [idx_lst, List.map_cons, List.cons_append, atI_cons0]; rfl
section
variable {n : Int} {ls : List (List Int)}
theorem law6_point {k : Nat} (hk : 3 ≤ k) (hf : FieldOk n ls) {ps : List Pr} (hin : InP (rgI n.toNat) ps) (hl : ps.length ≤ 6) {c x : Int} (x0 : 0 ≤ x) (xn : x < n) {sc v3 v4 : D} {s3 s4 s5 s6 s7 s9 s10 s11 s12 s13 s14 s15 s16 s17 : Sl} :
    ∃ t12 t13 t14 t15 t16 t17, (bindS (.one 12) (.int x) [.im sc, .im (.int c), .im (Fd n ls), s3, s4, s5, s6, s7, .im (RT ps), s9, s10, s11, s12, s13, s14, s15, s16, s17]).bind (exec (run tab k) b_law6_3) =
      .ok (.nx [.im sc, .im (.int c), .im (Fd n ls), s3, s4, s5, s6, s7, .im (RT ps), s9, s10, s11, t12, t13, t14, t15, t16, t17]) := by
  have n0 : 0 ≤ n := by omega
  have i0 : idxD (Fd n ls) (.int 0) = .ok (.int n) := by simp
  have r := rngD_zero (n := n) (by have := hf.hi; omega) (by omega)
  have pa := run_partner (k := k) (by omega) (d := RT ps) (ps := ps) (x := x) rfl
  have sqP : seqOf (RT ps) = .ok ((rows ps).map T) := rfl
  have lc1 := fun (u3 u4 u5 u6 u7 u9 u10 u11 u13 u14 u15 u16 u17 : Option D) => lcC_filter (F := run tab k) (own := [7]) (tg := .one 7) (ifs := c_law6_4) (elt := c_law6_5) (ρ := [some sc, some (.int c), some (Fd n ls), u3, u4, u5, u6, u7, some (RT ps), u9, u10, u11, some (.int x), u13, u14, u15, u16, u17]) (fun p : Pr => D.tup [.int p.1, .int p.2]) (fun p => decide (x ∈ pr p)) (fun p : Pr => D.int (p.1 + p.2 - x)) ps
    (fun p hp => by
      have hin : cmpD .isin (.int x) (.tup [.int p.1, .int p.2]) = .ok (.bl (decide (x ∈ pr p))) := cmp_in_ints x (pr p)
      generalize Fd n ls = F at *
      generalize RT ps = P at *
      by_cases h : x ∈ pr p
      · rw [decide_eq_true h] at hin
        have i0 : idxD (.tup [.int p.1, .int p.2]) (.int 0) = .ok (.int p.1) := by simp
        have i1 : idxD (.tup [.int p.1, .int p.2]) (.int 1) = .ok (.int p.2) := by simp
        generalize D.tup [.int p.1, .int p.2] = tp at *
        simp -implicitDefEqProofs [lcT, c_law6_4, c_law6_5, hin, h, i0, i1]
      · rw [decide_eq_false h] at hin
        generalize D.tup [.int p.1, .int p.2] = tp at *
        simp -implicitDefEqProofs [lcT, c_law6_4, c_law6_5, hin, h])
  rw [← rows_T] at lc1
  have e1 : ((ps.filter fun p => decide (x ∈ pr p)).map fun p => D.int (p.1 + p.2 - x)) = (dueM ps x).map .int := by unfold dueM; rw [List.map_map]; rfl
  rw [e1] at lc1
  have ad1 : binD .add (.lst ((dueM ps x).map .int)) (.lst [.non]) = .ok (.lst ((dueM ps x).map .int ++ [.non])) := bin_addL (by
    have := List.length_filter_le (fun p => decide (x ∈ pr p)) ps
    rw [List.length_map, List.length_singleton]
    unfold dueM
    rw [List.length_map]
    omega)
  have ix1 := idx_oD (dueM ps x)
  rw [← due_head] at ix1
  have ne1 := cmp_ne_oD6 (partM ps x)
  have lc2 := fun (u3 u4 u5 u6 u7 u8 u9 u10 u11 u13 u14 u15 u16 u17 : Option D) => lcC_filter (F := run tab k) (own := [5]) (tg := .one 5) (ifs := c_law6_6) (elt := c_law6_2) (ρ := [some sc, some (.int c), some (Fd n ls), u3, u4, u5, u6, u7, u8, u9, u10, u11, some (.int x), u13, u14, u15, u16, u17]) D.int (fun v => !decide (v = x)) D.int (rgI n.toNat)
    (fun v hv => by
      generalize Fd n ls = F at *
      by_cases h : v = x <;> simp -implicitDefEqProofs [lcT, c_law6_6, c_law6_2, h])
  have lc3 := fun (o : List Int) (u3 u4 u5 u6 u7 u8 u9 u10 u11 u12 u13 u14 u15 u16 u17 : Option D) => lcC_filter (F := run tab k) (own := [5]) (tg := .one 5) (ifs := c_law6_7) (elt := c_law6_2) (ρ := [some sc, some (.int c), some (Fd n ls), u3, u4, u5, u6, u7, u8, u9, u10, u11, u12, u13, u14, u15, u16, u17]) D.int (fun v => decide (mixI (c + v) 9887 2 = 0)) D.int o
    (fun v hv => by
      have m := run_mix' (k := k) (by omega) (c := c + v) (p := 9887) (m := 2) (by decide) (by decide)
      generalize Fd n ls = F at *
      by_cases h : mixI (c + v) 9887 2 = 0 <;> simp -implicitDefEqProofs [lcT, c_law6_7, c_law6_2, m, h])
  have lc4 := fun (o y : List Int) (u3 u4 u5 u6 u7 u8 u9 u10 u11 u12 u13 u14 u16 u17 : Option D) => lcC_filter (F := run tab k) (own := [5]) (tg := .one 5) (ifs := c_law6_8) (elt := c_law6_2) (ρ := [some sc, some (.int c), some (Fd n ls), u3, u4, u5, u6, u7, u8, u9, u10, u11, u12, u13, u14, some (T y), u16, u17]) D.int (fun v => !decide (v ∈ y)) D.int o
    (fun v hv => by
      have hn := cmp_nin_ints v y
      have hn : cmpD .notin (.int v) (T y) = _ := hn
      generalize Fd n ls = F at *
      generalize T y = ty at *
      by_cases h : v ∈ y
      · rw [decide_eq_true h] at hn; simp -implicitDefEqProofs [lcT, c_law6_8, c_law6_2, hn, h]
      · rw [decide_eq_false h] at hn; simp -implicitDefEqProofs [lcT, c_law6_8, c_law6_2, hn, h])
  have lc5 := fun (o L : List Int) (u3 u4 u5 u6 u7 u8 u9 u10 u11 u12 u13 u14 u15 u17 : Option D) => lcC_filter (F := run tab k) (own := [5]) (tg := .one 5) (ifs := c_law6_9) (elt := c_law6_2) (ρ := [some sc, some (.int c), some (Fd n ls), u3, u4, u5, u6, u7, u8, u9, u10, u11, u12, u13, u14, u15, some (.lst (L.map .int)), u17]) D.int (fun v => decide (v ∈ L)) D.int o
    (fun v hv => by
      have hn := cmp_in_intsL v L
      generalize Fd n ls = F at *
      generalize D.lst (L.map D.int) = tl at *
      by_cases h : v ∈ L
      · rw [decide_eq_true h] at hn; simp -implicitDefEqProofs [lcT, c_law6_9, c_law6_2, hn, h]
      · rw [decide_eq_false h] at hn; simp -implicitDefEqProofs [lcT, c_law6_9, c_law6_2, hn, h])
  obtain ⟨O, hO⟩ : ∃ O, O = (rgI n.toNat).filter fun v => !decide (v = x) := ⟨_, rfl⟩
  obtain ⟨Y, hY⟩ : ∃ Y, Y = O.filter fun v => decide (mixI (c + v) 9887 2 = 0) := ⟨_, rfl⟩
  have hL : (O.filter fun v => !decide (v ∈ Y)) = frees n [x] Y := by
    rw [hO, List.filter_filter]
    unfold frees
    apply List.filter_congr
    intro v _
    by_cases a : v = x <;> by_cases b : v ∈ Y <;> simp [a, b]
  have lc3 := lc3 O
  have lc4 := lc4 O Y
  have lc5 := lc5 (dueM ps x) (frees n [x] Y)
  rw [← hY] at lc3
  rw [hL] at lc4
  rw [← hO] at lc2
  have wh := wish_head hin n [x] Y x
  have rp := run_reply (k := k) hk n0 hf.hi (ls := TT ls) (d := RT ps) (ps := ps) (m := [x]) (y := Y) (x := x) rfl
  have rp : run tab k .reply [Fd n ls, RT ps, .tup [.int x], T Y, .int x] = .ok (oD (repM n ps [x] Y x)) := rp
  have ne2 := cmp_ne_oD6 (repM n ps [x] Y x)
  have h9 := frees9 (n := n) n0 hf.hi (m := [x]) (y := Y)
  have dl : (dueM ps x).length ≤ 6 := by
    have := List.length_filter_le (fun p => decide (x ∈ pr p)) ps
    unfold dueM
    rw [List.length_map]
    omega
  have ad2 : binD .add (.lst (((dueM ps x).filter fun v => decide (v ∈ frees n [x] Y)).map .int)) (.lst ((frees n [x] Y).map .int)) = .ok (.lst ((((dueM ps x).filter fun v => decide (v ∈ frees n [x] Y)) ++ frees n [x] Y).map .int)) := by
    rw [bin_addL (by
      have := List.length_filter_le (fun v => decide (v ∈ frees n [x] Y)) (dueM ps x)
      rw [List.length_map, List.length_map]
      omega), List.map_append]
  have ad3 : binD .add (.lst ((((dueM ps x).filter fun v => decide (v ∈ frees n [x] Y)) ++ frees n [x] Y).map .int)) (.lst [.non]) = .ok (.lst ((((dueM ps x).filter fun v => decide (v ∈ frees n [x] Y)) ++ frees n [x] Y).map .int ++ [.non])) := bin_addL (by
      have := List.length_filter_le (fun v => decide (v ∈ frees n [x] Y)) (dueM ps x)
      rw [List.length_map, List.length_append, List.length_singleton]
      omega)
  have ix2 := idx_oD (((dueM ps x).filter fun v => decide (v ∈ frees n [x] Y)) ++ frees n [x] Y)
  rw [← wh] at ix2
  have tuY : biD .tuple [.lst (Y.map .int)] = .ok (T Y) := bj_tuple_lst _
  refine ⟨.im (.int x), .im (.lst ((dueM ps x).map .int)), .im (.lst (O.map .int)), .im (T Y), .im (.lst ((frees n [x] Y).map .int)), .im (.lst ((((dueM ps x).filter fun v => decide (v ∈ frees n [x] Y)) ++ frees n [x] Y).map .int ++ [.non])), ?_⟩
  clear wh hL hY hO e1
  generalize repM n ps [x] Y x = rv at *
  generalize partM ps x = pv at *
  generalize oD rv = orv at *
  generalize oD pv = opv at *
  generalize (((dueM ps x).filter fun v => decide (v ∈ frees n [x] Y)) ++ frees n [x] Y).map D.int ++ [.non] = W3 at *
  generalize (((dueM ps x).filter fun v => decide (v ∈ frees n [x] Y)) ++ frees n [x] Y).map D.int = W2 at *
  generalize ((dueM ps x).filter fun v => decide (v ∈ frees n [x] Y)).map D.int = W1 at *
  generalize (frees n [x] Y).map D.int = FR at *
  generalize (dueM ps x).map D.int ++ [.non] = D2 at *
  generalize (dueM ps x).map D.int = D1 at *
  generalize T Y = TY at *
  generalize Y.map D.int = YI at *
  generalize O.map D.int = OI at *
  generalize (rgI n.toNat).map D.int = RG at *
  generalize (rows ps).map T = RP at *
  generalize Fd n ls = F at *
  generalize D.tup RP = P at *
  simp -implicitDefEqProofs [-idx_lst, -bj_tuple_lst, b_law6_3, sqP, lc1, pa, ad1, ix1, ne1, i0, r, lc2, lc3, tuY, lc4, lc5, ad2, ad3, rp, ix2, ne2]
/-! ### things -/
def Tg6 (d : D) : Prop := (∃ rs : List (List Int), d = .tup (rs.map T) ∧ (∀ r ∈ rs, r.length ≤ 2) ∧ (∀ r ∈ rs, ∀ x ∈ r, -1000 ≤ x ∧ x ≤ 1000) ∧ rs.length ≤ 31) ∨ isiD .tuple d = .ok (.bl false)
theorem thing_ok {k : Nat} (hk : 4 ≤ k) (hf : FieldOk n ls) {d : D} (h : Tg6 d) : ∃ r, run tab k .is_pairing [Fd n ls, d] = .ok (.bl r) ∧ run tab k .l_is_pairing [Fd n ls, d] = .ok (.bl r) := by
  have a := hf.lo
  have b := hf.hi
  rcases h with ⟨rs, rfl, h1, h2, h3⟩ | h
  · exact ⟨isP n ls rs, run_is_pairing hk (fun r hr => by have := h1 r hr; omega) h3, run_l_is_pairing (by omega) (by omega) (by omega) (fun r hr => by have := h1 r hr; omega) h2 h3⟩
  · exact ⟨false, run_is_pairing_no (by omega) h, run_l_is_pairing_no (by omega) h⟩
theorem law6_things {k : Nat} (hk : 4 ≤ k) (hf : FieldOk n ls) {ds : List D} (h : ∀ d ∈ ds, Tg6 d) {s0 s1 s3 s4 s5 s6 s7 s8 s9 s10 s11 s12 s13 s14 s15 s16 s17 : Sl} :
    ∃ t10 t11, forC (run tab k) (.one 10) b_law6_2 ds [s0, s1, .im (Fd n ls), s3, s4, s5, s6, s7, s8, s9, s10, s11, s12, s13, s14, s15, s16, s17] = .ok (.nx [s0, s1, .im (Fd n ls), s3, s4, s5, s6, s7, s8, s9, t10, t11, s12, s13, s14, s15, s16, s17]) := by
  obtain ⟨ρ', lp, t10, t11, rfl⟩ := forC_pre (F := run tab k) (tg := .one 10) (b := b_law6_2) (α := D) id (fun (pre : List D) ρ => ∃ t10 t11 : Sl, ρ = [s0, s1, .im (Fd n ls), s3, s4, s5, s6, s7, s8, s9, t10, t11, s12, s13, s14, s15, s16, s17]) ds
    [s0, s1, .im (Fd n ls), s3, s4, s5, s6, s7, s8, s9, s10, s11, s12, s13, s14, s15, s16, s17] ⟨s10, s11, rfl⟩
    (fun pre post d ρ e hi => by
      obtain ⟨t10, t11, rfl⟩ := hi
      obtain ⟨r, r1, r2⟩ := thing_ok hk hf (h d (by rw [e]; simp))
      have ne := cmp_ne_bl r r
      rw [decide_eq_true rfl] at ne
      refine ⟨[s0, s1, .im (Fd n ls), s3, s4, s5, s6, s7, s8, s9, .im d, .im (.bl r), s12, s13, s14, s15, s16, s17], ?_, _, _, rfl⟩
      generalize Fd n ls = F at *
      simp -implicitDefEqProofs [b_law6_2, r1, r2, ne])
  rw [List.map_id] at lp
  exact ⟨t10, t11, lp⟩
end
end FC

/-! Law 6: what is found against all there is. -/
set_option autoImplicit false
set_option linter.all false
set_option maxRecDepth 100000
set_option maxHeartbeats 4000000
set_option Elab.async false
namespace FC
open PySem

theorem rgI_up6 (n : Nat) : (rgI n).Pairwise (· < ·) := by
  unfold rgI
  rw [List.pairwise_map]
  exact List.pairwise_lt_range.imp fun h => Int.ofNat_lt.mpr h
def EV (n : Int) : List (List Pr) := allM 6 (rgI n.toNat)
section
variable {n : Int} {ls : List (List Int)} {ps : List Pr}
theorem in_vd (n0 : 0 ≤ n) {m : List Pr} (h : InP (rgI n.toNat) m) : Vd n m := ⟨fun p hp => by
  obtain ⟨a, b, c⟩ := h.bd p hp
  have b := mem_rgI.mp b
  have c := mem_rgI.mp c
  omega, h.nd⟩
theorem vd_in (n0 : 0 ≤ n) {m : List Pr} (h : Vd n m) : InP (rgI n.toNat) m := ⟨fun p hp => by
  obtain ⟨a, b, c⟩ := h.bd p hp
  exact ⟨b, mem_rgI.mpr (by omega), mem_rgI.mpr (by omega)⟩, h.nd⟩
theorem ev_in (n0 : 0 ≤ n) {m : List Pr} (h : m ∈ EV n) : InP (rgI n.toNat) m := allM_ok 6 (rgI_up6 _) h
theorem vd_ev (n0 : 0 ≤ n) (n6 : n ≤ 6) (h : Vd n ps) : ∃ m ∈ EV n, m.Perm ps := allM_full 6 (by rw [rgI_length]; omega) (rgI_up6 _) (vd_in n0 h)
theorem vd_len (n0 : 0 ≤ n) (n6 : n ≤ 6) (h : Vd n ps) : ps.length ≤ 6 := by
  obtain ⟨m, hm, p⟩ := vd_ev n0 n6 h
  rw [← p.length_eq]
  exact allM_mlen 6 hm
theorem isP_sorted {m : List Pr} (h : Vd n m) : isP n ls (sortL (rows m)) = ls.all fun l => hp l m := by
  obtain ⟨qs, hq, e⟩ := sort_rows m
  have hu : (rows qs).Pairwise (· < ·) := by rw [← e]; exact sortL_lt h.rnd
  rw [e, isP_vd (h.perm hq) hu]
  simp only [hp_perm hq]
theorem none_some (n0 : 0 ≤ n) (h : ∀ Q, Vd n Q → ¬ ∀ l ∈ ls, hp l Q = true) : (EV n).filter (fun m => isP n ls (sortL (rows m))) = [] := by
  rw [List.filter_eq_nil_iff]
  intro m hm q
  have hv := in_vd n0 (ev_in n0 hm)
  rw [isP_sorted hv] at q
  exact h m hv (List.all_eq_true.mp q)
theorem found_some (n0 : 0 ≤ n) (n6 : n ≤ 6) (h : Found n ls ps) : (EV n).filter (fun m => isP n ls (sortL (rows m))) ≠ [] := fun e => by
  rw [List.filter_eq_nil_iff] at e
  obtain ⟨m, hm, p⟩ := vd_ev n0 n6 h.vd
  refine e m hm ?_
  rw [isP_sorted (h.vd.perm p), List.all_eq_true]
  exact fun l hl => by rw [hp_perm p]; exact h.held l hl
theorem found_is (h : Found n ls ps) : isP n ls (rows ps) = true := by
  rw [isP_vd h.vd h.up, List.all_eq_true]; exact h.held
theorem less_not (h : Found n ls ps) {p : Pr} (hp' : p ∈ ps) : isP n ls (rows (less p ps)) = false := by
  have s : (less p ps).Sublist ps := List.filter_sublist
  rw [isP_vd (h.vd.sub s) (h.up.sublist (s.map pr))]
  exact h.least p hp'
/-! ### the two ways to ask -/
theorem rows_tg (n0 : 0 ≤ n) (n6 : n ≤ 6) (h : Vd n ps) {rs : List (List Int)} (hs : ∀ r ∈ rs, r ∈ rows ps) (hl : rs.length ≤ 31) : (∀ r ∈ rs, r.length ≤ 2) ∧ (∀ r ∈ rs, ∀ x ∈ r, -1000 ≤ x ∧ x ≤ 1000) ∧ rs.length ≤ 31 := by
  refine ⟨fun r hr => ?_, fun r hr x hx => ?_, hl⟩
  · obtain ⟨p, _, rfl⟩ := List.mem_map.mp (hs r hr)
    exact Nat.le_refl _
  · obtain ⟨p, hp, rfl⟩ := List.mem_map.mp (hs r hr)
    obtain ⟨a, b, c⟩ := h.bd p hp
    simp only [pr, List.mem_cons, List.mem_nil_iff, or_false] at hx
    rcases hx with rfl | rfl <;> omega
theorem ask {k : Nat} (hk : 4 ≤ k) (n0 : 0 ≤ n) (n6 : n ≤ 6) (h : Vd n ps) {rs : List (List Int)} (hs : ∀ r ∈ rs, r ∈ rows ps) (hl : rs.length ≤ 31) :
    run tab k .is_pairing [Fd n ls, .tup (rs.map T)] = .ok (.bl (isP n ls rs)) ∧ run tab k .l_is_pairing [Fd n ls, .tup (rs.map T)] = .ok (.bl (isP n ls rs)) := by
  obtain ⟨h1, h2, h3⟩ := rows_tg n0 n6 h hs hl
  exact ⟨run_is_pairing hk (fun r hr => by have := h1 r hr; omega) h3, run_l_is_pairing (by omega) (by omega) (by omega) (fun r hr => by have := h1 r hr; omega) h2 h3⟩
theorem tg_of (n0 : 0 ≤ n) (n6 : n ≤ 6) (h : Vd n ps) {rs : List (List Int)} (hs : ∀ r ∈ rs, r ∈ rows ps) (hl : rs.length ≤ 31) : Tg6 (.tup (rs.map T)) := by
  obtain ⟨h1, h2, h3⟩ := rows_tg n0 n6 h hs hl
  exact .inl ⟨rs, rfl, h1, h2, h3⟩
theorem rows_len (ps : List Pr) : (rows ps).length = ps.length := List.length_map ..
/-! ### no pair is idle -/
theorem law6_idle {k : Nat} (hk : 4 ≤ k) (n0 : 0 ≤ n) (n6 : n ≤ 6) (h : Found n ls ps) {s0 s1 s3 s4 s5 s7 s8 s9 s10 s11 s12 s13 s14 s15 s16 s17 : Sl} :
    ∃ t7, forC (run tab k) (.one 7) b_law6_1 ((rows ps).map T) [s0, s1, .im (Fd n ls), s3, s4, s5, .im (RT ps), s7, s8, s9, s10, s11, s12, s13, s14, s15, s16, s17] = .ok (.nx [s0, s1, .im (Fd n ls), s3, s4, s5, .im (RT ps), t7, s8, s9, s10, s11, s12, s13, s14, s15, s16, s17]) := by
  have h6 := vd_len n0 n6 h.vd
  obtain ⟨ρ', lp, t7, rfl⟩ := forC_pre (F := run tab k) (tg := .one 7) (b := b_law6_1) (fun p : Pr => D.tup [.int p.1, .int p.2]) (fun (pre : List Pr) ρ => ∃ t7 : Sl, ρ = [s0, s1, .im (Fd n ls), s3, s4, s5, .im (RT ps), t7, s8, s9, s10, s11, s12, s13, s14, s15, s16, s17]) ps
    [s0, s1, .im (Fd n ls), s3, s4, s5, .im (RT ps), s7, s8, s9, s10, s11, s12, s13, s14, s15, s16, s17] ⟨s7, rfl⟩
    (fun pre post p ρ e hi => by
      obtain ⟨t7, rfl⟩ := hi
      have hpm : p ∈ ps := by rw [e]; simp
      have sub : (less p ps).Sublist ps := List.filter_sublist
      have ak := (ask (k := k) (ls := ls) hk n0 n6 h.vd (rs := rows (less p ps)) (fun r hr => (sub.map pr).subset hr) (by
        rw [rows_len]; have := sub.length_le; omega)).2
      rw [less_not h hpm] at ak
      have lc := fun (u0 u1 u3 u4 u5 u8 u9 u10 u11 u12 u13 u14 u15 u16 u17 : Option D) => lcC_filter (F := run tab k) (own := [5]) (tg := .one 5) (ifs := c_law6_3) (elt := c_law6_2) (ρ := [u0, u1, some (Fd n ls), u3, u4, u5, some (RT ps), some (.tup [.int p.1, .int p.2]), u8, u9, u10, u11, u12, u13, u14, u15, u16, u17]) (fun p : Pr => D.tup [.int p.1, .int p.2]) (fun o => !decide (o = p)) (fun p : Pr => D.tup [.int p.1, .int p.2]) ps
        (fun o ho => by
          have ne := cmp_ne_pr o p
          generalize Fd n ls = F at *
          generalize RT ps = R at *
          generalize D.tup [.int o.1, .int o.2] = to_ at *
          generalize D.tup [.int p.1, .int p.2] = tp at *
          by_cases h : o = p
          · rw [decide_eq_true h] at ne; simp -implicitDefEqProofs [lcT, c_law6_3, c_law6_2, ne, h]
          · rw [decide_eq_false h] at ne; simp -implicitDefEqProofs [lcT, c_law6_3, c_law6_2, ne, h])
      simp only [← rows_T] at lc
      have lc : ∀ (u0 u1 u3 u4 u5 u8 u9 u10 u11 u12 u13 u14 u15 u16 u17 : Option D), lcC (run tab k) [5] (.one 5) c_law6_3 c_law6_2 [u0, u1, some (Fd n ls), u3, u4, u5, some (.tup ((rows ps).map T)), some (.tup [.int p.1, .int p.2]), u8, u9, u10, u11, u12, u13, u14, u15, u16, u17] ((rows ps).map T) = .ok ((rows (less p ps)).map T) := lc
      refine ⟨[s0, s1, .im (Fd n ls), s3, s4, s5, .im (RT ps), .im (.tup [.int p.1, .int p.2]), s8, s9, s10, s11, s12, s13, s14, s15, s16, s17], ?_, _, rfl⟩
      show (bindS _ _ [s0, s1, .im (Fd n ls), s3, s4, s5, .im (.tup ((rows ps).map T)), t7, s8, s9, s10, s11, s12, s13, s14, s15, s16, s17]).bind _ = Res.ok (Fl.nx [s0, s1, .im (Fd n ls), s3, s4, s5, .im (.tup ((rows ps).map T)), .im (.tup [.int p.1, .int p.2]), s8, s9, s10, s11, s12, s13, s14, s15, s16, s17])
      generalize (rows (less p ps)).map T = R2 at *
      generalize (rows ps).map T = R at *
      generalize Fd n ls = F at *
      generalize D.tup [.int p.1, .int p.2] = tp at *
      simp -implicitDefEqProofs [b_law6_1, lc, ak])
  rw [← rows_T] at lp
  exact ⟨t7, lp⟩
/-! ### every point -/
theorem law6_points {k : Nat} (hk : 3 ≤ k) (hf : FieldOk n ls) (hin : InP (rgI n.toNat) ps) (hl : ps.length ≤ 6) {c : Int} {sc : D} {s3 s4 s5 s6 s7 s9 s10 s11 s12 s13 s14 s15 s16 s17 : Sl} :
    ∃ t12 t13 t14 t15 t16 t17, forC (run tab k) (.one 12) b_law6_3 ((rgI n.toNat).map .int) [.im sc, .im (.int c), .im (Fd n ls), s3, s4, s5, s6, s7, .im (RT ps), s9, s10, s11, s12, s13, s14, s15, s16, s17] =
      .ok (.nx [.im sc, .im (.int c), .im (Fd n ls), s3, s4, s5, s6, s7, .im (RT ps), s9, s10, s11, t12, t13, t14, t15, t16, t17]) := by
  obtain ⟨ρ', lp, t12, t13, t14, t15, t16, t17, rfl⟩ := forC_pre (F := run tab k) (tg := .one 12) (b := b_law6_3) D.int (fun (pre : List Int) ρ => ∃ t12 t13 t14 t15 t16 t17 : Sl, ρ = [.im sc, .im (.int c), .im (Fd n ls), s3, s4, s5, s6, s7, .im (RT ps), s9, s10, s11, t12, t13, t14, t15, t16, t17]) (rgI n.toNat)
    [.im sc, .im (.int c), .im (Fd n ls), s3, s4, s5, s6, s7, .im (RT ps), s9, s10, s11, s12, s13, s14, s15, s16, s17] ⟨s12, s13, s14, s15, s16, s17, rfl⟩
    (fun pre post x ρ e hi => by
      obtain ⟨t12, t13, t14, t15, t16, t17, rfl⟩ := hi
      have hx : x ∈ rgI n.toNat := by rw [e]; simp
      have hx := mem_rgI.mp hx
      obtain ⟨v12, v13, v14, v15, v16, v17, h⟩ := law6_point hk hf hin hl (c := c) (x := x) hx.1 (by omega) (sc := sc) (v3 := sc) (v4 := sc) (s3 := s3) (s4 := s4) (s5 := s5) (s6 := s6) (s7 := s7) (s9 := s9) (s10 := s10) (s11 := s11) (s12 := t12) (s13 := t13) (s14 := t14) (s15 := t15) (s16 := t16) (s17 := t17)
      exact ⟨_, h, _, _, _, _, _, _, rfl⟩)
  exact ⟨_, _, _, _, _, _, lp⟩
end
end FC

/-! Law 6: the end. -/
set_option autoImplicit false
set_option linter.all false
set_option maxRecDepth 100000
set_option maxHeartbeats 4000000
set_option Elab.async false
namespace FC
open PySem

theorem law6_tail {k : Nat} (hk : 4 ≤ k) {n : Int} {ls : List (List Int)} (hf : FieldOk n ls) (n6 : n ≤ 6) {c : Int} {sc : D} {s4 s5 s6 s7 s8 s9 s10 s11 s12 s13 s14 s15 s16 s17 : Sl} :
    ∃ u8 u9 u10 u11 u12 u13 u14 u15 u16 u17, exec (run tab k)
 (.seq (.asg 8 (.idx (.var 3) (.call .l_mix (.cons (.var 1) (.cons (.int 9901) (.cons (.bi .len (.cons (.var 3) .nil)) .nil))))))
 (.seq (.asg 9 (.lst (.cons (.bi .tuple (.cons (.bi .sorted (.cons (.var 8) .nil)) .nil)) (.cons (.slc (.var 8) (.cons (.int 1) .nil) .nil) (.cons (.rev (.var 8)) (.cons (.bin .add (.var 8) (.slc (.var 8) .nil (.cons (.int 1) .nil))) (.cons (.bi .list (.cons (.var 8) .nil)) .nil)))))))
 (.seq (.for_ (.one 10) (.cons (.bin .add (.var 9) (.lst (.cons .non (.cons (.tup (.cons (.tup (.cons (.int 0) .nil)) .nil)) (.cons (.tup (.cons (.tup (.cons (.int 1) (.cons (.int 0) .nil))) .nil)) .nil))))) .nil) b_law6_2)
 (.seq (.for_ (.one 12) (.r1 (.idx (.var 2) (.int 0))) b_law6_3)
 .skip)))) [.im sc, .im (.int c), .im (Fd n ls), .im (.lst ((EV n).map RT)), s4, s5, s6, s7, s8, s9, s10, s11, s12, s13, s14, s15, s16, s17] =
      .ok (.nx [.im sc, .im (.int c), .im (Fd n ls), .im (.lst ((EV n).map RT)), s4, s5, s6, s7, u8, u9, u10, u11, u12, u13, u14, u15, u16, u17]) := by
  have n0 : 0 ≤ n := by have := hf.lo; omega
  have i0 : idxD (Fd n ls) (.int 0) = .ok (.int n) := by simp
  have r := rngD_zero (n := n) (by omega) (by omega)
  have e0 : EV n ≠ [] := allM_ne 6
  have hp : 0 < (EV n).length := List.length_pos_iff.mpr e0
  have mx := run_mix' (k := k) (by omega) (c := c) (p := 9901) (m := ((EV n).length : Int)) (by decide) (by omega)
  have lo := mixI_lo (c := c) (p := 9901) (m := ((EV n).length : Int)) (by omega)
  have hi := mixI_hi (c := c) (p := 9901) (m := ((EV n).length : Int)) (by omega)
  have ln : biD .len [.lst ((EV n).map RT)] = .ok (.int ((EV n).length : Int)) := by rw [bj_len_lst, List.length_map]
  obtain ⟨m, hm, ix⟩ : ∃ m ∈ EV n, idxD (.lst ((EV n).map RT)) (.int (mixI c 9901 ((EV n).length : Int))) = .ok (RT m) := by
    have h : (mixI c 9901 ((EV n).length : Int)).toNat < (EV n).length := by omega
    refine ⟨(EV n)[(mixI c 9901 ((EV n).length : Int)).toNat], List.getElem_mem h, ?_⟩
    rw [idx_lst, atI_ok lo (by rw [List.length_map]; exact hi), List.getElem?_map, List.getElem?_eq_getElem h]; rfl
  have hin := ev_in n0 hm
  have hv := in_vd n0 hin
  have hl := vd_len n0 n6 hv
  have rl := rows_len m
  have so : biD .sorted [RT m] = .ok (.lst ((sortL (rows m)).map T)) := bj_sorted_TsT fun r hr => by
    obtain ⟨p, _, rfl⟩ := List.mem_map.mp hr
    intro z; cases z
  have tu := bj_tuple_lst ((sortL (rows m)).map T)
  have s1 : slcD (RT m) (some 1) none = .ok (.tup (((rows m).drop 1).map T)) := by
    have c0 := cut_from (rows m) 0
    rw [show ((0 : Nat) : Int) + 1 = 1 by omega] at c0
    show slcD (.tup ((rows m).map T)) _ _ = _
    rw [slc_tup, cut_map', c0]
  have s2 : slcD (RT m) none (some 1) = .ok (.tup (((rows m).take 1).map T)) := by
    have c0 : cut (rows m) none (some ((1 : Nat) : Int)) = (rows m).take 1 := by
      unfold cut
      rw [HT.sIx_nat]
      cases rows m <;> rfl
    show slcD (.tup ((rows m).map T)) _ _ = _
    rw [slc_tup, cut_map']
    exact congrArg (fun z => Res.ok (D.tup (z.map T))) c0
  have rv : revD (RT m) = .ok (.tup ((rows m).reverse.map T)) := by show Res.ok (D.tup ((rows m).map T).reverse) = _; rw [← List.map_reverse]
  have ad1 : binD .add (RT m) (.tup (((rows m).take 1).map T)) = .ok (.tup ((rows m ++ (rows m).take 1).map T)) := by
    show binD .add (.tup ((rows m).map T)) _ = _
    rw [bin_addT (by rw [List.length_map, List.length_map, List.length_take]; omega), ← List.map_append]
  have li : biD .list [RT m] = .ok (.lst ((rows m).map T)) := bj_list_tup _
  have g1 : Tg6 (.tup ((sortL (rows m)).map T)) := tg_of n0 n6 hv (fun r hr => (sortL_perm _).mem_iff.mp hr) (by rw [(sortL_perm _).length_eq]; omega)
  have g2 : Tg6 (.tup (((rows m).drop 1).map T)) := tg_of n0 n6 hv (fun r hr => (List.drop_sublist _ _).subset hr) (by rw [List.length_drop]; omega)
  have g3 : Tg6 (.tup ((rows m).reverse.map T)) := tg_of n0 n6 hv (fun r hr => List.mem_reverse.mp hr) (by rw [List.length_reverse]; omega)
  have g4 : Tg6 (.tup ((rows m ++ (rows m).take 1).map T)) := tg_of n0 n6 hv (fun r hr => by
    rcases List.mem_append.mp hr with h | h
    · exact h
    · exact (List.take_sublist _ _).subset h) (by rw [List.length_append, List.length_take]; omega)
  have g5 : Tg6 (.lst ((rows m).map T)) := .inr rfl
  have g6 : Tg6 .non := .inr rfl
  have g7 : Tg6 (.tup [.tup [.int 0]]) := .inl ⟨[[0]], rfl, by decide, by decide, by decide⟩
  have g8 : Tg6 (.tup [.tup [.int 1, .int 0]]) := .inl ⟨[[1, 0]], rfl, by decide, by decide, by decide⟩
  obtain ⟨w1, hw1⟩ : ∃ w, w = D.tup ((sortL (rows m)).map T) := ⟨_, rfl⟩
  obtain ⟨w2, hw2⟩ : ∃ w, w = D.tup (((rows m).drop 1).map T) := ⟨_, rfl⟩
  obtain ⟨w3, hw3⟩ : ∃ w, w = D.tup ((rows m).reverse.map T) := ⟨_, rfl⟩
  obtain ⟨w4, hw4⟩ : ∃ w, w = D.tup ((rows m ++ (rows m).take 1).map T) := ⟨_, rfl⟩
  obtain ⟨w5, hw5⟩ : ∃ w, w = D.lst ((rows m).map T) := ⟨_, rfl⟩
  rw [← hw1] at tu g1
  rw [← hw2] at s1 g2
  rw [← hw3] at rv g3
  rw [← hw4] at ad1 g4
  rw [← hw5] at li g5
  obtain ⟨t10, t11, lp⟩ := law6_things (k := k) hk hf (ds := [w1, w2, w3, w4, w5, .non, .tup [.tup [.int 0]], .tup [.tup [.int 1, .int 0]]]) (fun d hd => by
    simp only [List.mem_cons, List.mem_nil_iff, or_false] at hd
    rcases hd with rfl | rfl | rfl | rfl | rfl | rfl | rfl | rfl <;> assumption)
    (s0 := .im sc) (s1 := .im (.int c)) (s3 := .im (.lst ((EV n).map RT))) (s4 := s4) (s5 := s5) (s6 := s6) (s7 := s7) (s8 := .im (RT m)) (s9 := .im (.lst [w1, w2, w3, w4, w5])) (s10 := s10) (s11 := s11) (s12 := s12) (s13 := s13) (s14 := s14) (s15 := s15) (s16 := s16) (s17 := s17)
  obtain ⟨t12, t13, t14, t15, t16, t17, lq⟩ := law6_points (k := k) (by omega) hf hin hl (c := c) (sc := sc) (s3 := .im (.lst ((EV n).map RT))) (s4 := s4) (s5 := s5) (s6 := s6) (s7 := s7) (s9 := .im (.lst [w1, w2, w3, w4, w5])) (s10 := t10) (s11 := t11) (s12 := s12) (s13 := s13) (s14 := s14) (s15 := s15) (s16 := s16) (s17 := s17)
  have ad2 : binD .add (.lst [w1, w2, w3, w4, w5]) (.lst [.non, .tup [.tup [.int 0]], .tup [.tup [.int 1, .int 0]]]) = .ok (.lst [w1, w2, w3, w4, w5, .non, .tup [.tup [.int 0]], .tup [.tup [.int 1, .int 0]]]) := by
    rw [bin_addL (by show 5 + 3 ≤ 1000; decide)]; rfl
  refine ⟨.im (RT m), .im (.lst [w1, w2, w3, w4, w5]), t10, t11, t12, t13, t14, t15, t16, t17, ?_⟩
  clear hin hv hl rl g1 g2 g3 g4 g5 g6 g7 g8 hw1 hw2 hw3 hw4 hw5 e0 hp lo hi
  generalize mixI c 9901 ((EV n).length : Int) = mi at *
  generalize ((EV n).length : Int) = le at *
  generalize (EV n).map RT = XS at *
  generalize (sortL (rows m)).map T = W1 at *
  generalize ((rows m).take 1).map T = W2 at *
  generalize RT m = M at *
  generalize (rgI n.toNat).map D.int = RG at *
  generalize Fd n ls = F at *
  simp -implicitDefEqProofs [-idx_lst, -slc_lst, -bj_len_lst, -bj_tuple_lst, -bin_addL, ln, mx, ix, so, tu, s1, s2, rv, ad1, li, ad2, lp, i0, r, lq]
theorem law6_turn {k : Nat} (hk : 35 ≤ k) {sc : D} {c : Int} {s1 s2 s3 s4 s5 s6 s7 s8 s9 s10 s11 s12 s13 s14 s15 s16 s17 : Sl} : ∃ t1 t2 t3 t4 t5 t6 t7 t8 t9 t10 t11 t12 t13 t14 t15 t16 t17,
    (bindS (.one 1) (.int c) [.im sc, s1, s2, s3, s4, s5, s6, s7, s8, s9, s10, s11, s12, s13, s14, s15, s16, s17]).bind (exec (run tab k) b_law6_4) = .ok (.nx [.im sc, t1, t2, t3, t4, t5, t6, t7, t8, t9, t10, t11, t12, t13, t14, t15, t16, t17]) := by
  obtain ⟨n, ls, e, hf, q1, n6, q3⟩ := run_field (k := k) (by omega) (cell := c) (least := 1) (most := 6) (lines := 6) (by decide) (by decide) (by decide) (by decide) (by decide)
  have n0 : 0 ≤ n := by omega
  have i0 : idxD (Fd n ls) (.int 0) = .ok (.int n) := by simp
  have r := rngD_zero (n := n) (by omega) (by omega)
  have al : run tab k .l_all [.lst ((rgI n.toNat).map .int)] = .ok (.lst ((EV n).map RT)) := run_l_all 6 (by rw [rgI_length]; omega) (by decide) (by omega)
  have lc := fun (u0 u1 u3 u4 u5 u6 u7 u8 u9 u10 u11 u12 u13 u14 u15 u16 u17 : Option D) => lcC_filter (F := run tab k) (own := [5]) (tg := .one 5) (ifs := c_law6_1) (elt := c_law6_2) (ρ := [u0, u1, some (Fd n ls), u3, u4, u5, u6, u7, u8, u9, u10, u11, u12, u13, u14, u15, u16, u17]) RT (fun m => isP n ls (sortL (rows m))) RT (EV n)
    (fun m hm => by
      have hv := in_vd n0 (ev_in n0 hm)
      have hl := vd_len n0 n6 hv
      have rl := rows_len m
      have so : biD .sorted [RT m] = .ok (.lst ((sortL (rows m)).map T)) := bj_sorted_TsT fun r hr => by
        obtain ⟨p, _, rfl⟩ := List.mem_map.mp hr
        intro z; cases z
      have tu := bj_tuple_lst ((sortL (rows m)).map T)
      have ak := (ask (k := k) (ls := ls) (by omega) n0 n6 hv (rs := sortL (rows m)) (fun r hr => (sortL_perm _).mem_iff.mp hr) (by rw [(sortL_perm _).length_eq]; omega)).2
      generalize (sortL (rows m)).map T = W1 at *
      generalize RT m = M at *
      generalize Fd n ls = F at *
      generalize isP n ls (sortL (rows m)) = v at *
      cases v <;> simp -implicitDefEqProofs [-bj_tuple_lst, lcT, c_law6_1, c_law6_2, so, tu, ak])
  have ne := cmp_ne_bl
  have sqX : seqOf (.lst ((EV n).map RT)) = .ok ((EV n).map RT) := rfl
  rcases run_pairing (k := k) (by omega) hf with ⟨pa, no⟩ | ⟨ps, pa, fo⟩
  · have em := none_some (ls := ls) n0 no
    rw [em] at lc
    have lc : ∀ (u0 u1 u3 u4 u5 u6 u7 u8 u9 u10 u11 u12 u13 u14 u15 u16 u17 : Option D), lcC (run tab k) [5] (.one 5) c_law6_1 c_law6_2 [u0, u1, some (Fd n ls), u3, u4, u5, u6, u7, u8, u9, u10, u11, u12, u13, u14, u15, u16, u17] ((EV n).map RT) = .ok [] := lc
    obtain ⟨u8, u9, u10, u11, u12, u13, u14, u15, u16, u17, tl⟩ := law6_tail (k := k) (by omega) hf n6 (c := c) (sc := sc) (s4 := .im (.lst [])) (s5 := s5) (s6 := .im .non) (s7 := s7) (s8 := s8) (s9 := s9) (s10 := s10) (s11 := s11) (s12 := s12) (s13 := s13) (s14 := s14) (s15 := s15) (s16 := s16) (s17 := s17)
    refine ⟨.im (.int c), .im (Fd n ls), .im (.lst ((EV n).map RT)), .im (.lst []), s5, .im .non, s7, u8, u9, u10, u11, u12, u13, u14, u15, u16, u17, ?_⟩
    unfold b_law6_4
    generalize htl : (S.seq (S.asg 8 _) _) = tail_ at tl ⊢
    clear htl
    generalize (EV n).map RT = XS at *
    generalize (rgI n.toNat).map D.int = RG at *
    generalize Fd n ls = F at *
    simp -implicitDefEqProofs [e, i0, r, al, lc, pa, ne, tl]
  · have nf := found_some (ls := ls) n0 n6 fo
    have h6 := vd_len n0 n6 fo.vd
    have rl := rows_len ps
    obtain ⟨a1, a2⟩ := ask (k := k) (ls := ls) (by omega) n0 n6 fo.vd (rs := rows ps) (fun r hr => hr) (by omega)
    rw [found_is fo] at a1 a2
    have h9 := frees9 (n := n) n0 hf.hi (m := []) (y := [])
    have sf := run_l_safe6 hf fo 9 (k := k) h9 pos_nil inv_nil (by omega)
    have sf : run tab k .l_safe6 [Fd n ls, .tup ((rows ps).map T), .tup [], .tup []] = _ := sf
    obtain ⟨pw0, pw1⟩ := pair_W hf fo 9 h9 pos_nil inv_nil
    have w0 : run tab k .winner [Gm n ls 0 1 1] = _ := run_winner (k := k) hf (by decide) (by decide) (.inl rfl) (by omega)
    have w1 : run tab k .winner [Gm n ls 1 1 1] = _ := run_winner (k := k) hf (by decide) (by decide) (.inr rfl) (by omega)
    rw [pw0] at w0
    rw [pw1] at w1
    have w0 : run tab k .winner [.tup [Fd n ls, .int 0, .int 1, .int 1]] = .ok (.int 1) := w0
    have w1 : run tab k .winner [.tup [Fd n ls, .int 1, .int 1, .int 1]] = .ok (.int 1) := w1
    obtain ⟨SM, hSM⟩ : ∃ z, z = ((EV n).filter fun m => isP n ls (sortL (rows m))).map RT := ⟨_, rfl⟩
    have hne : SM.isEmpty = false := by
      rw [hSM, List.isEmpty_map]
      cases h : (EV n).filter (fun m => isP n ls (sortL (rows m))) with
      | nil => exact absurd h nf
      | cons _ _ => rfl
    rw [← hSM] at lc
    have isn := cmp_is_tup ((rows ps).map T)
    have isnn := cmp_isnot_tup ((rows ps).map T)
    obtain ⟨t7, idl⟩ := law6_idle (k := k) (by omega) n0 n6 fo (s0 := .im sc) (s1 := .im (.int c)) (s3 := .im (.lst ((EV n).map RT))) (s4 := .im (.lst SM)) (s5 := s5) (s7 := s7) (s8 := s8) (s9 := s9) (s10 := s10) (s11 := s11) (s12 := s12) (s13 := s13) (s14 := s14) (s15 := s15) (s16 := s16) (s17 := s17)
    have idl : forC (run tab k) (.one 7) b_law6_1 ((rows ps).map T) [.im sc, .im (.int c), .im (Fd n ls), .im (.lst ((EV n).map RT)), .im (.lst SM), s5, .im (.tup ((rows ps).map T)), s7, s8, s9, s10, s11, s12, s13, s14, s15, s16, s17] = .ok (.nx [.im sc, .im (.int c), .im (Fd n ls), .im (.lst ((EV n).map RT)), .im (.lst SM), s5, .im (.tup ((rows ps).map T)), t7, s8, s9, s10, s11, s12, s13, s14, s15, s16, s17]) := idl
    obtain ⟨u8, u9, u10, u11, u12, u13, u14, u15, u16, u17, tl⟩ := law6_tail (k := k) (by omega) hf n6 (c := c) (sc := sc) (s4 := .im (.lst SM)) (s5 := s5) (s6 := .im (.tup ((rows ps).map T))) (s7 := t7) (s8 := s8) (s9 := s9) (s10 := s10) (s11 := s11) (s12 := s12) (s13 := s13) (s14 := s14) (s15 := s15) (s16 := s16) (s17 := s17)
    refine ⟨.im (.int c), .im (Fd n ls), .im (.lst ((EV n).map RT)), .im (.lst SM), s5, .im (.tup ((rows ps).map T)), t7, u8, u9, u10, u11, u12, u13, u14, u15, u16, u17, ?_⟩
    unfold b_law6_4
    generalize htl : (S.seq (S.asg 8 _) _) = tail_ at tl ⊢
    clear htl nf hSM fo rl
    generalize (EV n).map RT = XS at *
    generalize (rgI n.toNat).map D.int = RG at *
    generalize (rows ps).map T = R at *
    generalize Fd n ls = F at *
    by_cases h5 : n < 6
    · simp -implicitDefEqProofs [e, i0, r, al, lc, pa, ne, hne, a1, a2, idl, sf, w0, w1, h5, tl]
    · simp -implicitDefEqProofs [e, i0, r, al, lc, pa, ne, hne, a1, a2, idl, sf, w0, w1, h5, tl]
theorem law6_ok {k : Nat} (hk : 36 ≤ k) (ns : List Int) : run tab k .law6 [.scr ns] = .ok (.bl true) := by
  obtain ⟨k, rfl, hj⟩ := suc hk
  obtain ⟨ρ', l1, t1, t2, t3, t4, t5, t6, t7, t8, t9, t10, t11, t12, t13, t14, t15, t16, t17, rfl⟩ := forC_pre (F := run tab k) (tg := .one 1) (b := b_law6_4) D.int (fun (pre : List Int) ρ => ∃ (t1 t2 t3 t4 t5 t6 t7 t8 t9 t10 t11 t12 t13 t14 t15 t16 t17 : Sl), ρ = [.im (.scr ns), t1, t2, t3, t4, t5, t6, t7, t8, t9, t10, t11, t12, t13, t14, t15, t16, t17]) (cut ns none (some 2))
      [.im (.scr ns), .no, .no, .no, .no, .no, .no, .no, .no, .no, .no, .no, .no, .no, .no, .no, .no, .no] ⟨.no, .no, .no, .no, .no, .no, .no, .no, .no, .no, .no, .no, .no, .no, .no, .no, .no, rfl⟩
      (fun pre post i ρ e hi => by
        obtain ⟨t1, t2, t3, t4, t5, t6, t7, t8, t9, t10, t11, t12, t13, t14, t15, t16, t17, rfl⟩ := hi
        obtain ⟨u1, u2, u3, u4, u5, u6, u7, u8, u9, u10, u11, u12, u13, u14, u15, u16, u17, h⟩ := law6_turn (k := k) hj (sc := .scr ns) (c := i) (s1 := t1) (s2 := t2) (s3 := t3) (s4 := t4) (s5 := t5) (s6 := t6) (s7 := t7) (s8 := t8) (s9 := t9) (s10 := t10) (s11 := t11) (s12 := t12) (s13 := t13) (s14 := t14) (s15 := t15) (s16 := t16) (s17 := t17)
        exact ⟨_, h, _, _, _, _, _, _, _, _, _, _, _, _, _, _, _, _, _, rfl⟩)
  have hc := cut_map' D.int ns none (some 2)
  rw [run_code rfl rfl]
  simp -implicitDefEqProofs [d_law6, start, hc, l1]
end FC

open PySem PySem.W PyProof.Rows
set_option Elab.async false
set_option maxRecDepth 100000 in
set_option maxHeartbeats 8000000 in
theorem PySem.Challenge.cw_fieldclaim_k06_whole_pairs_holds : PySem.Challenge.rw_fieldclaim_k06_whole_pairs.Holds :=
  FC.law_of 36 (by decide) fun ns _ => FC.law6_ok (by decide) ns
