import PyProof.Rows.All
import Wide.All
import OpenK.AllK
import Wide.FinOn
import HandS.ForMost
import HandS.TupAny
import KE.SortData
import HandS.ForExc
import HandS.HeadHook2
import KE.KDictKeyed
import KE.KeyNested
import HandS.Deep
import HandS.IsInst
import HandS.SetFor
import HandS.Conv
import HandS.Flow
import KE.SortCalls
import HandS.TupLen
import HandS.Sort
import HandS.Remove
import HandS.Zip
import HandS.TupSets
import HandS.Defaults
import PyProof.DictCompW
import HandS.DictComp
import PyProof.Draws
import PyProof.EnumMake
import PyProof.EnumFor
import PyProof.Rows.FactsTup
import PyProof.CallType
import PyProof.WalkLemmas
import HandS.SortKw
import KE.SortKeyHeap
import HandS.HeadEnd
import HandS.HeadHook4
import HandS.Head3
import KE.KStateDown
import Lean
import HandS.Head0
import HandS.Head1
import HandS.Head2
import PySem.Challenge.RW_patchworlds_k51_closed_by_between
section Pv_A
set_option Elab.async false
set_option linter.all false
set_option maxRecDepth 10000
/-! Pv: a small evaluator of a part of Python over values, with tuples as values and a heap of lists, dicts, instances. -/
namespace Pv
open PySem (Str)

inductive GV where
  | non
  | bl (b : Bool)
  | int (i : Int)
  | str (x : Str)
  | tup (xs : List GV)
  | ref (n : Nat)
  | rng (lo hi : Int)
  | frl (xs : List GV)
  deriving Inhabited

namespace GV
mutual
def same : GV → GV → Bool
  | .non, .non => true
  | .bl a, .bl b => a == b
  | .int a, .int b => decide (a = b)
  | .str a, .str b => decide (a = b)
  | .tup a, .tup b => sames a b
  | .ref a, .ref b => decide (a = b)
  | .rng a b, .rng c d => decide (a = c) && decide (b = d)
  | .frl a, .frl b => sames a b
  | _, _ => false
def sames : List GV → List GV → Bool
  | [], [] => true
  | a :: as, b :: bs => same a b && sames as bs
  | _, _ => false
end
mutual
theorem same_refl : ∀ a : GV, same a a = true
  | .non => rfl
  | .bl a => by simp [same]
  | .int a => by simp [same]
  | .str a => by simp [same]
  | .tup a => by rw [same]; exact sames_refl a
  | .ref a => by simp [same]
  | .rng a b => by simp [same]
  | .frl a => by rw [same]; exact sames_refl a
theorem sames_refl : ∀ a : List GV, sames a a = true
  | [] => rfl
  | a :: as => by rw [sames, same_refl a, sames_refl as]; rfl
end
mutual
theorem eq_of_same : ∀ a b : GV, same a b = true → a = b
  | .non, b, h => by cases b <;> first | rfl | (simp [same] at h)
  | .bl a, b, h => by cases b <;> simp [same] at h; rw [h]
  | .int a, b, h => by cases b <;> simp [same] at h; rw [h]
  | .str a, b, h => by cases b <;> simp [same] at h; rw [h]
  | .tup a, b, h => by
    cases b with
    | tup b => rw [same] at h; rw [eq_of_sames a b h]
    | _ => simp [same] at h
  | .ref a, b, h => by cases b <;> simp [same] at h; rw [h]
  | .rng a c, b, h => by cases b <;> simp [same] at h; rw [h.1, h.2]
  | .frl a, b, h => by
    cases b with
    | frl b => rw [same] at h; rw [eq_of_sames a b h]
    | _ => simp [same] at h
theorem eq_of_sames : ∀ a b : List GV, sames a b = true → a = b
  | [], b, h => by cases b <;> first | rfl | (simp [sames] at h)
  | a :: as, b, h => by
    cases b with
    | nil => simp [sames] at h
    | cons b bs =>
      rw [sames, Bool.and_eq_true] at h
      rw [eq_of_same a b h.1, eq_of_sames as bs h.2]
end
instance : DecidableEq GV := fun a b => if h : same a b = true then .isTrue (eq_of_same a b h) else .isFalse fun e => h (e ▸ same_refl a)

mutual
/-- True and False as 1 and 0, also within: what == of data goes by -/
def num : GV → GV
  | .non => .non
  | .bl b => .int (if b then 1 else 0)
  | .int i => .int i
  | .str x => .str x
  | .tup xs => .tup (nums xs)
  | .ref n => .ref n
  | .rng a b => .rng a b
  | .frl a => .frl a
def nums : List GV → List GV
  | [] => []
  | x :: xs => num x :: nums xs
end
end GV
open GV

mutual
/-- None, True, intsOf, texts, tuples of these, so deep at most -/
def okN : Nat → GV → Bool
  | _, .non => true
  | _, .bl _ => true
  | _, .int _ => true
  | _, .str x => PySem.PyData.strOk x
  | 0, .tup _ => false
  | n + 1, .tup xs => oksN n xs
  | _, .ref _ => false
  | _, .rng _ _ => false
  | _, .frl _ => false
def oksN : Nat → List GV → Bool
  | _, [] => true
  | n, x :: xs => okN n x && oksN n xs
end

/-- what stands on the heap: a list, a dict, an instance (its class, its fields) -/
inductive GO where
  | lst (xs : List GV)
  | dct (kvs : List (GV × GV))
  | ins (c : Nat) (fs : List (Nat × GV))
  deriving Inhabited
abbrev GH := List GO
abbrev Env := List (Option GV)

/-- what a piece of the text gives: a value and the heap, an error (its class, its fields), or nothing told -/
inductive Res (α : Type) where
  | ok (a : α) (h : GH)
  | exc (c : Nat) (fs : List (Nat × GV)) (h : GH)
  | bad
def Res.bind {α β : Type} (r : Res α) (f : α → GH → Res β) : Res β := match r with
  | .ok a h => f a h
  | .exc c fs h => .exc c fs h
  | .bad => .bad

/-! ### operations by values -/
abbrev two64 : Int := 18446744073709551616
abbrev Calls := Nat → List GV → GH → Res GV
abbrev szL : Nat := 16777216

/-- the items of a value that is walked or made into a sequence -/
def seqOf : GV → GH → Option (List GV)
  | .tup xs, _ => some xs
  | .frl xs, _ => some xs
  | .ref n, h => match h[n]? with
    | some (.lst xs) => some xs
    | _ => none
  | .rng lo hi, _ => if -1000000 ≤ lo ∧ lo ≤ 1000000 ∧ -1000000 ≤ hi ∧ hi ≤ 1000000 then some ((List.range (hi - lo).toNat).map fun k => .int (lo + (k : Nat))) else none
  | _, _ => none

/-- .. of a tuple, a list -/
def seqT : GV → GH → Option (List GV)
  | .tup xs, _ => some xs
  | .frl xs, _ => some xs
  | .ref n, h => match h[n]? with
    | some (.lst xs) => some xs
    | _ => none
  | _, _ => none
/-- .. that list() takes -/
def seqD (v : GV) (h : GH) : Option (List GV) := match v with
  | .ref n => match h[n]? with
    | some (.dct kvs) => some (kvs.map (·.1))
    | _ => seqT v h
  | _ => seqT v h

def truth (v : GV) (h : GH) : Option Bool := match v with
  | .non => some false
  | .bl b => some b
  | .int i => some (i != 0)
  | .str x => if x.length ≤ szL then some (x.length != 0) else none
  | .tup xs => some (!xs.isEmpty)
  | .ref n => match h[n]? with
    | some (.lst xs) => some (!xs.isEmpty)
    | _ => none
  | .rng _ _ => none
  | .frl _ => none

/-- a == b -/
def eqV (a b : GV) (h : GH) : Option Bool :=
  if okN 40 a = true ∧ okN 40 b = true then some (decide (num a = num b))
  else match a, b with
    | .ref n, .ref m => match h[n]?, h[m]? with
      | some (.lst xs), some (.lst ys) => if oksN 40 xs = true ∧ oksN 40 ys = true then some (decide (nums xs = nums ys)) else none
      | _, _ => none
    | _, _ => none

def opAdd (a b : GV) (h : GH) : Res GV := match a, b with
  | .int i, .int j => .ok (.int (i + j)) h
  | .str x, .str y => if x.length + y.length ≤ szL then .ok (.str (x ++ y)) h else .bad
  | .tup xs, .tup ys => if xs.length + ys.length ≤ szL then .ok (.tup (xs ++ ys)) h else .bad
  | .ref n, .ref m => match h[n]?, h[m]? with
    | some (.lst xs), some (.lst ys) => if xs.length + ys.length ≤ szL then .ok (.ref h.length) (h ++ [.lst (xs ++ ys)]) else .bad
    | _, _ => .bad
  | _, _ => .bad
def opSub (a b : GV) (h : GH) : Res GV := match a, b with
  | .int i, .int j => .ok (.int (i - j)) h
  | _, _ => .bad
def opMul (a b : GV) (h : GH) : Res GV := match a, b with
  | .int i, .int j => if (-two64 < i ∧ i < two64) ∨ (-two64 < j ∧ j < two64) then .ok (.int (i * j)) h else .bad
  | .ref n, .int k => match h[n]? with
    | some (.lst xs) => if -1000000 ≤ k ∧ k ≤ 1000000 ∧ xs.length * k.toNat ≤ szL then .ok (.ref h.length) (h ++ [.lst (List.replicate k.toNat xs).flatten]) else .bad
    | _ => .bad
  | _, _ => .bad
def opFdiv (a b : GV) (h : GH) : Res GV := match a, b with
  | .int i, .int j => if j ≠ 0 ∧ j.natAbs < 1073741824 then .ok (.int (i.fdiv j)) h else .bad
  | _, _ => .bad
def opMod (a b : GV) (h : GH) : Res GV := match a, b with
  | .int i, .int j => if j ≠ 0 then .ok (.int (i.fmod j)) h else .bad
  | _, _ => .bad
def opPow (a b : GV) (h : GH) : Res GV := match a, b with
  | .int i, .int j => if 0 ≤ j ∧ j ≤ 1000 ∧ i.natAbs < 18446744073709551616 then .ok (.int (i ^ j.toNat)) h else .bad
  | _, _ => .bad
/-- ints in a row, compared -/
def intsOf : List GV → Option (List Int)
  | [] => some []
  | .int i :: r => (intsOf r).map (i :: ·)
  | _ :: _ => none
def opLt (a b : GV) (h : GH) : Res GV := match a, b with
  | .int i, .int j => .ok (.bl (decide (i < j))) h
  | .tup xs, .tup ys => match intsOf xs, intsOf ys with
    | some ns, some ms => .ok (.bl (HT.lexLt ns ms)) h
    | _, _ => .bad
  | _, _ => .bad
def opLe (a b : GV) (h : GH) : Res GV := match a, b with
  | .int i, .int j => .ok (.bl (decide (i ≤ j))) h
  | _, _ => .bad
def opGt (a b : GV) (h : GH) : Res GV := match a, b with
  | .int i, .int j => .ok (.bl (decide (j < i))) h
  | _, _ => .bad
def opGe (a b : GV) (h : GH) : Res GV := match a, b with
  | .int i, .int j => .ok (.bl (decide (j ≤ i))) h
  | _, _ => .bad
def opEq (a b : GV) (h : GH) : Res GV := match eqV a b h with
  | some k => .ok (.bl k) h
  | none => .bad
def opNe (a b : GV) (h : GH) : Res GV := match eqV a b h with
  | some k => .ok (.bl (!k)) h
  | none => .bad

/-! ### dicts: keys are tuples of data (a dict of such alone), or flat things (likewise) -/
def keyT : GV → Bool
  | .tup xs => oksN 6 xs
  | _ => false
def keyF : GV → Bool
  | .int _ => true
  | .str _ => true
  | _ => false
def look (kvs : List (GV × GV)) (k : GV) : Option GV := (kvs.find? fun p => decide (num p.1 = num k)).map (·.2)
def put (kvs : List (GV × GV)) (k v : GV) : List (GV × GV) :=
  if (look kvs k).isSome then kvs.map fun p => if num p.1 = num k then (p.1, v) else p else kvs ++ [(k, v)]
/-- the key fits the dict -/
def keyOk (kvs : List (GV × GV)) (k : GV) : Bool := (keyT k && kvs.all fun p => keyT p.1) || (keyF k && kvs.all fun p => keyF p.1)

def flatG : GV → Bool
  | .non => true
  | .bl _ => true
  | .int _ => true
  | .str _ => true
  | _ => false
/-- x in y -/
def opIn (a b : GV) (h : GH) : Option Bool := match b with
  | .tup xs => if flatG a = true ∧ (xs.all flatG) = true then some (xs.any fun y => decide (num y = num a)) else none
  | .ref n => match h[n]? with
    | some (.lst xs) => if okN 40 a = true ∧ oksN 40 xs = true then some (xs.any fun y => decide (num y = num a)) else none
    | some (.dct kvs) => if keyOk kvs a = true then some (look kvs a).isSome else none
    | _ => none
  | _ => none
def opIdx (a b : GV) (h : GH) : Res GV := match a with
  | .tup xs => match b with
    | .int i => match L2.atI xs i with
      | some v => .ok v h
      | none => .bad
    | _ => .bad
  | .str x => match b with
    | .int i => match L2.atI x.cps.toList i with
      | some c => if x.length ≤ szL then .ok (.str ⟨#[c]⟩) h else .bad
      | none => .bad
    | _ => .bad
  | .ref n => match h[n]? with
    | some (.lst xs) => match b with
      | .int i => match L2.atI xs i with
        | some v => .ok v h
        | none => .bad
      | _ => .bad
    | some (.dct kvs) => if keyOk kvs b = true then match look kvs b with
        | some v => .ok v h
        | none => .bad
      else .bad
    | _ => .bad
  | _ => .bad
def cutG {α : Type} (xs : List α) (lo hi : Option Int) : List α := (xs.drop (HT.sIx xs.length 0 lo)).take (HT.sIx xs.length xs.length hi - HT.sIx xs.length 0 lo)
def opSlc (a : GV) (lo hi : Option Int) (h : GH) : Res GV := match a with
  | .frl xs => .ok (.ref h.length) (h ++ [.lst (cutG xs lo hi)])
  | .tup xs => .ok (.tup (cutG xs lo hi)) h
  | .ref n => match h[n]? with
    | some (.lst xs) => .ok (.ref h.length) (h ++ [.lst (cutG xs lo hi)])
    | _ => .bad
  | _ => .bad
def opFld (a : GV) (cs : List Nat) (f : Nat) (h : GH) : Res GV := match a with
  | .ref n => match h[n]? with
    | some (.ins c fs) => if c ∈ cs then match fs.lookup f with
        | some v => .ok v h
        | none => .bad
      else .bad
    | _ => .bad
  | _ => .bad
/-- o[i] = v -/
def setIx (o i v : GV) (h : GH) : Option GH := match o with
  | .ref n => match h[n]? with
    | some (.lst xs) => match i with
      | .int k => match L2.ixN xs.length k with
        | some j => some (h.set n (.lst (xs.set j v)))
        | none => none
      | _ => none
    | some (.dct kvs) => if keyOk kvs i = true ∧ kvs.length < szL then some (h.set n (.dct (put kvs i v))) else none
    | _ => none
  | _ => none
def putFld (fs : List (Nat × GV)) (f : Nat) (v : GV) : List (Nat × GV) := match fs with
  | [] => [(f, v)]
  | (g, u) :: r => if g = f then (g, v) :: r else (g, u) :: putFld r f v
def setFld (o : GV) (cs : List Nat) (f : Nat) (v : GV) (h : GH) : Option GH := match o with
  | .ref n => match h[n]? with
    | some (.ins c fs) => if c ∈ cs ∧ fs.length < 900 then some (h.set n (.ins c (putFld fs f v))) else none
    | _ => none
  | _ => none

/-! ### the text -/
inductive B1 where
  | len | int | str | list
inductive B2 where
  | max | min
inductive Op where
  | add | sub | mul | fdiv | mod | pow | eq | ne | lt | le | gt | ge | inn | nin | idx
/-- built-in classes, for isinstance -/
inductive Ty where
  | int | bool | str | list | tuple
  deriving DecidableEq
inductive M1 where
  | append | remove | extend
/-- a target of names: one, or a tuple of such -/
inductive Tg where
  | nm (i : Nat)
  | tup (is : List Nat)

mutual
inductive Ex where
  | bad
  | var (i : Nat)
  | cst (v : GV)
  | tup (es : Exs)
  | lst (s : Sq)
  | tpl (s : Sq)
  | op (o : Op) (a b : Ex)
  | neg (a : Ex)
  | isn (a : Ex)
  | ntn (a : Ex)
  | and (a b : Ex)
  | or (a b : Ex)
  | not (a : Ex)
  | ite (c a b : Ex)
  | slc (a : Ex) (lo hi : OEx)
  | fld (a : Ex) (cs : List Nat) (f : Nat)
  | call (f : Nat) (es : Exs)
  | perm (f n j : Nat) (es ks : Exs) (p : List Nat)
  | mk (c f : Nat) (es : Exs)
  | b1 (b : B1) (a : Ex)
  | b2 (b : B2) (a c : Ex)
  | all (s : Sq)
  | any (s : Sq)
  | lset (e : Ex)
  | isi (a : Ex) (ts : List Ty)
  | rng (lo hi : Ex)
  | m1 (m : M1) (a e : Ex)
  | dic
  | dcp (ws : List Nat) (c : Cl) (k v : Ex)
inductive Exs where
  | nil
  | cons (e : Ex) (es : Exs)
inductive OEx where
  | non
  | som (e : Ex)
/-- what gives items in a row, without a place of its own -/
inductive Sq where
  | val (e : Ex)
  | dsp (es : Exs)
  | cmp (ws : List Nat) (c : Cl) (e : Ex)
  | srt (s : Sq)
  | srk (s : Sq) (f : Nat)
  | lis (s : Sq)
  | lsv (e : Ex)
  | rgl (lo hi : Ex)
/-- what is walked -/
inductive Iy where
  | val (e : Ex)
  | sq (s : Sq)
  | enm (e : Ex)
  | rng (lo hi : Ex)
  | rngS (lo hi st : Ex)
  | prm (e : Ex)
/-- the clauses of a comprehension -/
inductive Cl where
  | one (t : Tg) (i : Iy) (c : OEx)
  | two (t : Tg) (i : Iy) (c : OEx) (ws : List Nat) (u : Tg) (j : Iy) (d : OEx)
end
/-- a target of an assignment -/
inductive Tt where
  | nm (i : Nat)
  | tup (is : List Nat)
  | fld (o : Ex) (cs : List Nat) (f : Nat)
  | sub (o i : Ex)
mutual
inductive Sm where
  | bad
  | pass
  | brk
  | cnt
  | ret (e : Ex)
  | exp (e : Ex)
  | asg (t : Tt) (e : Ex)
  | iff (c : Ex) (a b : Sms)
  | for (t : Tg) (i : Iy) (b : Sms)
  | whl (c : Ex) (b : Sms)
inductive Sms where
  | nil
  | cons (s : Sm) (r : Sms)
end
end Pv
end Pv_A
section Pv_B
set_option Elab.async false
set_option linter.all false
set_option maxRecDepth 10000
namespace Pv
open PySem (Str)
open GV

mutual
def dat : GV → PySem.PyData
  | .non => .none
  | .bl b => .bool b
  | .int i => .int i
  | .str x => .str x
  | .tup xs => .tuple (dats xs)
  | .ref _ => .none
  | .rng _ _ => .none
  | .frl _ => .none
def dats : List GV → List PySem.PyData
  | [] => []
  | x :: xs => dat x :: dats xs
end
/-- data that may be sorted: of one kind at each place -/
def srtOk (xs : List GV) : Bool :=
  oksN 30 xs && (xs.all fun a => xs.all fun b => PySem.W.alike (dat a) (dat b)) &&
    ((xs.all fun a => match a with | .tup (_ :: _) => true | _ => false) || (xs.all fun a => match a with | .non => false | .tup _ => false | _ => true))
def leD (a b : GV) : Bool := !PySem.W.dataLt (dat b) (dat a)
def srtBy (ps : List (GV × GV)) : List GV := (ps.mergeSort fun p q => leD p.1 q.1).map (·.2)

def setTg (t : Tg) (v : GV) (env : Env) : Option Env := match t with
  | .nm i => some (env.set i (some v))
  | .tup is => match v with
    | .tup xs => if xs.length = is.length then some ((is.zip xs).foldl (fun e p => e.set p.1 (some p.2)) env) else none
    | _ => none
def wipeE (env : Env) : List Nat → Env
  | [] => env
  | i :: r => (wipeE env r).set i none

abbrev Gd := Option (Nat × List GV)
/-- the list that is walked stands as it stood -/
def chk (g : Gd) (h : GH) : Bool := match g with
  | none => true
  | some (n, xs) => match h[n]? with
    | some (.lst ys) => decide (ys = xs)
    | _ => false

/-- in pairs, counted -/
def enmL (xs : List GV) : List GV := ((List.range xs.length).zip xs).map fun p => .tup [.int (p.1 : Nat), p.2]
def gdOf (x : GV) (xs : List GV) : Gd := match x with
  | .ref n => some (n, xs)
  | _ => none
def enmG (x : GV) (xs : List GV) : Gd := gdOf x xs
/-- what is told of errors in a block: nothing -/
def Res.quiet {α : Type} (r : Res α) : Res α := match r with
  | .ok a h => .ok a h
  | _ => .bad

/-- what a comprehension gathers: items (beside None), or keys and values -/
abbrev Acc := List (GV × GV)
/-- a comprehension's loop -/
def cmpL {α : Type} (g : Gd) (f : GV → α → GH → Res α) : List GV → α → GH → Res α
  | [], acc, h => if chk g h = true then .ok acc h else .bad
  | x :: r, acc, h => if chk g h = true then (f x acc h).bind fun a h1 => cmpL g f r a h1 else .bad

/-- each once -/
def ddp : List Int → List Int
  | [] => []
  | a :: l => if a ∈ l then ddp l else a :: ddp l
theorem mem_ddp {a : Int} : ∀ {l : List Int}, a ∈ ddp l ↔ a ∈ l
  | [] => Iff.rfl
  | b :: l => by
    unfold ddp
    split
    · rename_i h
      rw [mem_ddp (l := l), List.mem_cons]
      exact ⟨.inr, fun q => q.elim (fun e => e ▸ h) id⟩
    · rw [List.mem_cons, List.mem_cons, mem_ddp (l := l)]
theorem nodup_ddp : ∀ l : List Int, (ddp l).Nodup
  | [] => List.nodup_nil
  | b :: l => by
    unfold ddp
    split
    · exact nodup_ddp l
    · rename_i h
      exact List.nodup_cons.mpr ⟨fun q => h (mem_ddp.mp q), nodup_ddp l⟩
def isT (t : Ty) (v : GV) (h : GH) : Option Bool := match v with
  | .non => some false
  | .bl _ => some (decide (t = .bool) || decide (t = .int))
  | .int _ => some (decide (t = .int))
  | .str _ => some (decide (t = .str))
  | .tup _ => some (decide (t = .tuple))
  | .ref n => match h[n]? with
    | some (.lst _) => some (decide (t = .list))
    | _ => none
  | .rng _ _ => none
  | .frl _ => none
def isTs (ts : List Ty) (v : GV) (h : GH) : Option Bool := match ts with
  | [] => some false
  | t :: r => match isT t v h with
    | some true => some true
    | some false => isTs r v h
    | none => none

def lenOf (v : GV) (h : GH) : Option Nat := match v with
  | .tup xs => some xs.length
  | .str x => if x.length ≤ szL then some x.length else none
  | .ref n => match h[n]? with
    | some (.lst xs) => some xs.length
    | some (.dct kvs) => some kvs.length
    | _ => none
  | _ => none
def ev1 (b : B1) (v : GV) (h : GH) : Res GV := match b with
  | .len => match lenOf v h with
    | some n => .ok (.int (n : Nat)) h
    | none => .bad
  | .int => match v with
    | .int i => .ok (.int i) h
    | .bl k => .ok (.int (if k then 1 else 0)) h
    | _ => .bad
  | .str => match v with
    | .int i => if i.natAbs.log2 < 1920 then .ok (.str (toString i)) h else .bad
    | _ => .bad
  | .list => .bad
def ev2 (b : B2) (v u : GV) (h : GH) : Res GV := match b, v, u with
  | .max, .int i, .int j => .ok (.int (if j > i then j else i)) h
  | .min, .int i, .int j => .ok (.int (if j < i then j else i)) h
  | _, _, _ => .bad
def opE (o : Op) (a b : GV) (h : GH) : Res GV := match o with
  | .add => opAdd a b h
  | .sub => opSub a b h
  | .mul => opMul a b h
  | .fdiv => opFdiv a b h
  | .mod => opMod a b h
  | .pow => opPow a b h
  | .eq => opEq a b h
  | .ne => opNe a b h
  | .lt => opLt a b h
  | .le => opLe a b h
  | .gt => opGt a b h
  | .ge => opGe a b h
  | .inn => match opIn a b h with
    | some k => .ok (.bl k) h
    | none => .bad
  | .nin => match opIn a b h with
    | some k => .ok (.bl (!k)) h
    | none => .bad
  | .idx => opIdx a b h
def isLst (v : GV) (h : GH) : Bool := match v with
  | .ref n => match h[n]? with
    | some (.lst _) => true
    | _ => false
  | _ => false
def evM1 (m : M1) (v u : GV) (h : GH) : Res GV := match v with
  | .ref n => match h[n]? with
    | some (.lst xs) => match m with
      | .append => if xs.length < szL then .ok .non (h.set n (.lst (xs ++ [u]))) else .bad
      | .extend => match u with
        | .ref k => match h[k]? with
          | some (.lst ys) => if xs.length + ys.length ≤ szL then .ok .non (h.set n (.lst (xs ++ ys))) else .bad
          | _ => .bad
        | _ => .bad
      | .remove => match u, intsOf xs with
        | .int i, some ns => if i ∈ ns then .ok .non (h.set n (.lst ((ns.erase i).map .int))) else .bad
        | _, _ => .bad
    | _ => .bad
  | _ => .bad
def bools : List GV → Option (List Bool)
  | [] => some []
  | .bl i :: r => (bools r).map (i :: ·)
  | _ :: _ => none
def rngL (lo hi : Int) : Option (List GV) := seqOf (.rng lo hi) []
/-- lo, lo + st, .. ahead of hi -/
def rngS (lo hi st : Int) : Option (List GV) :=
  if st = -1 ∧ -1000000 ≤ lo ∧ lo ≤ 1000000 ∧ -1000000 ≤ hi ∧ hi ≤ 1000000 then some ((List.range (lo - hi).toNat).map fun k => .int (lo - (k : Nat))) else none
/-- the step from one order to the next, as the machine has it -/
def nxP (n : Nat) : Nat → List Nat → List Nat → Option (List Nat × List Nat)
  | 0, _, _ => none
  | i + 1, ind, cyc =>
    let c := cyc.getD i 0 - 1
    if c == 0 then nxP n i (ind.take i ++ ind.drop (i + 1) ++ [ind.getD i 0]) (cyc.set i (n - i))
    else some ((ind.set i (ind.getD (n - c) 0)).set (n - c) (ind.getD i 0), cyc.set i c)
def nums0 (n : Nat) : List Nat := List.range n ++ (List.range n).map fun i => n - i
/-- the orders (with what stands behind them), one after another -/
def seqP (n : Nat) : Nat → List Nat → List (List Nat)
  | 0, _ => []
  | f + 1, x => x :: match nxP n n (x.take n) (x.drop n) with
    | some (a, b) => seqP n f (a ++ b)
    | none => []
def prmS (n : Nat) : List (List Nat) := seqP n 30 (nums0 n)
def prmL (n : Nat) : List GV := (prmS n).map fun x => .tup ((x.take n).map fun k => .int (k : Nat))

section
variable (cl : Calls)
mutual
def evE : Ex → Env → GH → Res GV
  | .bad, _, _ => .bad
  | .var i, env, h => match env[i]? with
    | some (some v) => .ok v h
    | _ => .bad
  | .cst v, _, h => .ok v h
  | .tup es, env, h => (evEs es env h).bind fun vs h1 => if vs.length ≤ szL then .ok (.tup vs) h1 else .bad
  | .lst s, env, h => (evS s env h).bind fun vs h1 => .ok (.ref h1.length) (h1 ++ [.lst vs])
  | .tpl s, env, h => (evS s env h).bind fun vs h1 => .ok (.tup vs) h1
  | .op o a b, env, h => (evE a env h).bind fun x h1 => (evE b env h1).bind fun y h2 => opE o x y h2
  | .neg a, env, h => (evE a env h).bind fun x h1 => match x with
    | .int i => .ok (.int (-i)) h1
    | _ => .bad
  | .isn a, env, h => (evE a env h).bind fun x h1 => .ok (.bl (decide (x = .non))) h1
  | .ntn a, env, h => (evE a env h).bind fun x h1 => .ok (.bl (!decide (x = .non))) h1
  | .and a b, env, h => (evE a env h).bind fun x h1 => match truth x h1 with
    | some k => if k = true then evE b env h1 else .ok x h1
    | none => .bad
  | .or a b, env, h => (evE a env h).bind fun x h1 => match truth x h1 with
    | some k => if k = true then .ok x h1 else evE b env h1
    | none => .bad
  | .not a, env, h => (evE a env h).bind fun x h1 => match truth x h1 with
    | some k => .ok (.bl (!k)) h1
    | none => .bad
  | .ite c a b, env, h => (evE c env h).bind fun x h1 => match truth x h1 with
    | some k => if k = true then evE a env h1 else evE b env h1
    | none => .bad
  | .slc a lo hi, env, h => (evE a env h).bind fun x h1 => (evO lo env h1).bind fun l h2 => (evO hi env h2).bind fun u h3 => opSlc x l u h3
  | .fld a cs f, env, h => (evE a env h).bind fun x h1 => opFld x cs f h1
  | .call f es, env, h => (evEs es env h).bind fun vs h1 => cl f vs h1
  | .perm f n j es ks p, env, h => (evEs es env h).bind fun vs h1 => (evEs ks env h1).bind fun us h2 => if vs.length = n ∧ us.length = j then cl f (p.map fun i => (vs ++ us).getD i .non) h2 else .bad
  | .mk c f es, env, h => (evEs es env h).bind fun vs h1 => (cl f (.ref h1.length :: vs) (h1 ++ [.ins c []])).bind fun v h2 => if v = .non then .ok (.ref h1.length) h2 else .bad
  | .b1 b a, env, h => (evE a env h).bind fun x h1 => ev1 b x h1
  | .b2 b a c, env, h => (evE a env h).bind fun x h1 => (evE c env h1).bind fun y h2 => ev2 b x y h2
  | .all s, env, h => (evS s env h).bind fun vs h1 => match bools vs with
    | some bs => .ok (.bl (bs.all id)) h1
    | none => .bad
  | .any s, env, h => (evS s env h).bind fun vs h1 => match bools vs with
    | some bs => .ok (.bl (bs.any id)) h1
    | none => .bad
  | .lset e, env, h => (evE e env h).bind fun x h1 => match x with
    | .tup vs => match intsOf vs with
      | some ns => if ns.length ≤ 3000 then .ok (.int ((ddp ns).length : Nat)) h1 else .bad
      | none => .bad
    | _ => .bad
  | .isi a ts, env, h => (evE a env h).bind fun x h1 => match isTs ts x h1 with
    | some k => .ok (.bl k) h1
    | none => .bad
  | .rng a b, env, h => (evE a env h).bind fun x h1 => (evE b env h1).bind fun y h2 => match x, y with
    | .int i, .int j => if -1000000 ≤ i ∧ i ≤ 1000000 ∧ -1000000 ≤ j ∧ j ≤ 1000000 then .ok (.rng i j) h2 else .bad
    | _, _ => .bad
  | .m1 m a e, env, h => (evE a env h).bind fun x h1 => if isLst x h1 = true then (evE e env h1).bind fun y h2 => evM1 m x y h2 else .bad
  | .dic, _, h => .ok (.ref h.length) (h ++ [.dct []])
  | .dcp ws c k v, env, h => (evC c env ws h (fun env1 acc h1 => (evE k env1 h1).bind fun x h2 => (evE v env1 h2).bind fun y h3 =>
      if keyOk acc x = true ∧ acc.length < szL then .ok (put acc x y) h3 else .bad) []).quiet.bind fun kvs h1 => .ok (.ref h1.length) (h1 ++ [.dct kvs])
termination_by structural x => x
def evEs : Exs → Env → GH → Res (List GV)
  | .nil, _, h => .ok [] h
  | .cons e es, env, h => (evE e env h).bind fun v h1 => (evEs es env h1).bind fun vs h2 => .ok (v :: vs) h2
termination_by structural x => x
def evO : OEx → Env → GH → Res (Option Int)
  | .non, _, h => .ok none h
  | .som e, env, h => (evE e env h).bind fun x h1 => match x with
    | .int i => .ok (some i) h1
    | _ => .bad
termination_by structural x => x
/-- a test of a clause -/
def evQ : OEx → Env → GH → Res Bool
  | .non, _, h => .ok true h
  | .som e, env, h => (evE e env h).bind fun x h1 => match truth x h1 with
    | some k => .ok k h1
    | none => .bad
termination_by structural x => x
def evS : Sq → Env → GH → Res (List GV)
  | .val e, env, h => (evE e env h).bind fun x h1 => match seqT x h1 with
    | some xs => .ok xs h1
    | none => .bad
  | .lsv e, env, h => (evE e env h).bind fun x h1 => match seqD x h1 with
    | some xs => .ok xs h1
    | none => .bad
  | .rgl a b, env, h => (evE a env h).bind fun x h1 => (evE b env h1).bind fun y h2 => match x, y with
    | .int i, .int j => match rngL i j with
      | some xs => .ok xs h2
      | none => .bad
    | _, _ => .bad
  | .dsp es, env, h => (evEs es env h).bind fun vs h1 => if vs.length ≤ szL then .ok vs h1 else .bad
  | .cmp ws c e, env, h => (evC c env ws h (fun env1 acc h1 => (evE e env1 h1).bind fun x h2 => if acc.length < szL then .ok (acc ++ [(x, .non)]) h2 else .bad) []).quiet.bind fun ps h1 => .ok (ps.map (·.1)) h1
  | .srt s, env, h => (evS s env h).bind fun vs h1 => if srtOk vs = true then .ok (vs.mergeSort leD) h1 else .bad
  | .srk s f, env, h => (evS s env h).bind fun vs h1 => (cmpL none (fun x acc h2 => (cl f [x] h2).bind fun k h3 => .ok (acc ++ [(k, x)]) h3) vs [] h1).quiet.bind fun ps h4 =>
      if srtOk (ps.map (·.1)) = true then .ok (srtBy ps) h4 else .bad
  | .lis s, env, h => evS s env h
termination_by structural x => x
def evI : Iy → Env → GH → Res (List GV × Gd)
  | .val e, env, h => (evE e env h).bind fun x h1 => match seqOf x h1 with
    | some xs => .ok (xs, gdOf x xs) h1
    | none => .bad
  | .sq s, env, h => (evS s env h).bind fun vs h1 => .ok (vs, none) h1
  | .enm e, env, h => (evE e env h).bind fun x h1 => match seqT x h1 with
    | some xs => .ok (enmL xs, enmG x xs) h1
    | none => .bad
  | .rng a b, env, h => (evE a env h).bind fun x h1 => (evE b env h1).bind fun y h2 => match x, y with
    | .int i, .int j => match rngL i j with
      | some xs => .ok (xs, none) h2
      | none => .bad
    | _, _ => .bad
  | .rngS a b c, env, h => (evE a env h).bind fun x h1 => (evE b env h1).bind fun y h2 => (evE c env h2).bind fun z h3 => match x, y, z with
    | .int i, .int j, .int k => match rngS i j k with
      | some xs => .ok (xs, none) h3
      | none => .bad
    | _, _, _ => .bad
  | .prm a, env, h => (evE a env h).bind fun x h1 => match x with
    | .int i => if 0 ≤ i ∧ i ≤ 4 then .ok (prmL i.toNat, none) h1 else .bad
    | _ => .bad
termination_by structural x => x
/-- the clauses of a comprehension, f within -/
def evC : Cl → Env → List Nat → GH → (Env → Acc → GH → Res Acc) → Acc → Res Acc
  | .one t i c, env, ws, h, f, a => (evI i env h).bind fun p h1 => cmpL p.2 (fun x acc h2 => match setTg t x (wipeE env ws) with
    | some env1 => (evQ c env1 h2).bind fun b h3 => if b = true then f env1 acc h3 else .ok acc h3
    | none => .bad) p.1 a h1
  | .two t i c us u j d, env, ws, h, f, a => (evI i env h).bind fun p h1 => cmpL p.2 (fun x acc h2 => match setTg t x (wipeE env ws) with
    | some env1 => (evQ c env1 h2).bind fun b h3 => if b = true then (evI j env1 h3).bind fun q h4 => cmpL q.2 (fun y acc2 h5 => match setTg u y (wipeE env1 us) with
        | some env2 => (evQ d env2 h5).bind fun k h6 => if k = true then f env2 acc2 h6 else .ok acc2 h6
        | none => .bad) q.1 acc h4 else .ok acc h3
    | none => .bad) p.1 a h1
termination_by structural x => x
end
end
end Pv
end Pv_B
section Pv_C
set_option Elab.async false
set_option linter.all false
set_option maxRecDepth 10000
namespace Pv
open PySem (Str)
open GV

/-- how a statement ends -/
inductive Fl where
  | nxt | brk | cnt
  | ret (v : GV)
abbrev RS := Res (Fl × Env)

def forL (g : Gd) (body : GV → Env → GH → RS) : List GV → Env → GH → RS
  | [], env, h => if chk g h = true then .ok (.nxt, env) h else .bad
  | x :: r, env, h => if chk g h = true then (body x env h).bind fun p h1 => match p with
    | (.nxt, e) => forL g body r e h1
    | (.cnt, e) => forL g body r e h1
    | (.brk, e) => .ok (.nxt, e) h1
    | (.ret v, e) => .ok (.ret v, e) h1
    else .bad
def whlL (c : Env → GH → Res Bool) (body : Env → GH → RS) : Nat → Env → GH → RS
  | 0, _, _ => .bad
  | n + 1, env, h => (c env h).bind fun k h1 => if k = true then (body env h1).bind fun p h2 => match p with
    | (.nxt, e) => whlL c body n e h2
    | (.cnt, e) => whlL c body n e h2
    | (.brk, e) => .ok (.nxt, e) h2
    | (.ret v, e) => .ok (.ret v, e) h2
    else .ok (.nxt, env) h1
/-- so many turns at most -/
def whF : Nat := 1000000

section
variable (cl : Calls)
def evT (e : Ex) (env : Env) (h : GH) : Res Bool := (evE cl e env h).bind fun x h1 => match truth x h1 with
  | some k => .ok k h1
  | none => .bad
def setTt (t : Tt) (v : GV) (env : Env) (h : GH) : Res Env := match t with
  | .nm i => .ok (env.set i (some v)) h
  | .tup is => match setTg (.tup is) v env with
    | some e => .ok e h
    | none => .bad
  | .fld o cs f => (evE cl o env h).bind fun x h1 => match setFld x cs f v h1 with
    | some h2 => .ok env h2
    | none => .bad
  | .sub o i => (evE cl o env h).bind fun x h1 => (evE cl i env h1).bind fun y h2 => match setIx x y v h2 with
    | some h3 => .ok env h3
    | none => .bad
mutual
def exS : Sm → Env → GH → RS
  | .bad, _, _ => .bad
  | .pass, env, h => .ok (.nxt, env) h
  | .brk, env, h => .ok (.brk, env) h
  | .cnt, env, h => .ok (.cnt, env) h
  | .ret e, env, h => (evE cl e env h).bind fun v h1 => .ok (.ret v, env) h1
  | .exp e, env, h => (evE cl e env h).bind fun _ h1 => .ok (.nxt, env) h1
  | .asg t e, env, h => (evE cl e env h).bind fun v h1 => (setTt cl t v env h1).bind fun e1 h2 => .ok (.nxt, e1) h2
  | .iff c a b, env, h => (evT cl c env h).bind fun k h1 => if k = true then exSs a env h1 else exSs b env h1
  | .for t i b, env, h => (evI cl i env h).bind fun p h1 => forL p.2 (fun x e h2 => match setTg t x e with
    | some e1 => exSs b e1 h2
    | none => .bad) p.1 env h1
  | .whl c b, env, h => whlL (fun e h1 => evT cl c e h1) (fun e h1 => exSs b e h1) whF env h
termination_by structural x => x
def exSs : Sms → Env → GH → RS
  | .nil, env, h => .ok (.nxt, env) h
  | .cons s r, env, h => (exS s env h).bind fun p h1 => match p with
    | (.nxt, e) => exSs r e h1
    | (f, e) => .ok (f, e) h1
termination_by structural x => x
end
end

/-- a def: how many parameters, how many names, whether it leaves the heap as it was, its body -/
structure Fn where
  np : Nat
  nn : Nat
  pure : Bool
  body : Sms
abbrev Prg := Nat → Option Fn

mutual
/-- no place on the heap from n on is named -/
def refsLt (n : Nat) : GV → Bool
  | .ref m => decide (m < n)
  | .tup xs => refsLts n xs
  | .frl xs => refsLts n xs
  | _ => true
def refsLts (n : Nat) : List GV → Bool
  | [] => true
  | x :: xs => refsLt n x && refsLts n xs
end
instance : DecidableEq GO := fun a b => match a, b with
  | .lst xs, .lst ys => if h : xs = ys then .isTrue (h ▸ rfl) else .isFalse fun e => h (GO.lst.inj e)
  | .dct xs, .dct ys => if h : xs = ys then .isTrue (h ▸ rfl) else .isFalse fun e => h (GO.dct.inj e)
  | .ins c xs, .ins d ys => if h : c = d ∧ xs = ys then .isTrue (by rw [h.1, h.2]) else .isFalse fun e => h ⟨(GO.ins.inj e).1, (GO.ins.inj e).2⟩
  | .lst _, .dct _ => .isFalse nofun
  | .lst _, .ins _ _ => .isFalse nofun
  | .dct _, .lst _ => .isFalse nofun
  | .dct _, .ins _ _ => .isFalse nofun
  | .ins _ _, .lst _ => .isFalse nofun
  | .ins _ _, .dct _ => .isFalse nofun

def retV : Fl → Option GV
  | .ret v => some v
  | .nxt => some .non
  | _ => none
/-- a call, d calls deep at most -/
def callF (G : Prg) : Nat → Calls
  | 0, _, _, _ => .bad
  | d + 1, f, vs, h => match G f with
    | none => .bad
    | some fn => if vs.length = fn.np then
        (exSs (callF G d) fn.body (vs.map some ++ List.replicate (fn.nn - vs.length) none) h).bind fun p h1 =>
          match retV p.1 with
            | some v => if fn.pure = true then (if h1.take h.length = h ∧ refsLt h.length v = true then .ok v h else .bad) else .ok v h1
            | none => .bad
      else .bad
end Pv
end Pv_C
section Pv_D
set_option Elab.async false
set_option linter.all false
set_option maxRecDepth 10000
namespace Pv
open PySem PySem.Spec PyProof.Rows
open L2
open GV

section
variable (K : PySem.W.Frag)
/-- a list that is only read -/
def Frl (H : Hp) (a : Addr) (xs : List V) : Prop :=
  (∃ o, H a = some (.frz o (.lst xs))) ∨
    ∃ (o : Obj) (its : Array Value) (n : Nat), K.lookup a = some o ∧ o.cls = .type "list" ∧ o.dict = none ∧ o.data = .seq its n ∧ its.size ≤ PySem.sizeLine ∧ Vals xs its.toList
theorem Frl.sql {H : Hp} {a : Addr} {xs : List V} (h : Frl K H a xs) : SqL K H a xs := by
  rcases h with ⟨o, h⟩ | h
  · exact .inl (.inr ⟨o, h⟩)
  · exact .inr h
mutual
/-- the value g stands as x -/
inductive VM (μ : List Addr) (H : Hp) : GV → V → Prop where
  | non : VM μ H .non .non
  | bl (b : Bool) : VM μ H (.bl b) (.bl b)
  | int (i : Int) : VM μ H (.int i) (.int i)
  | str (x : Str) : VM μ H (.str x) (.str x)
  | tup {a : Addr} {gs : List GV} {xs : List V} : SqT K H a xs → VMs μ H gs xs → VM μ H (.tup gs) (.ref a)
  | ref {n : Nat} {a : Addr} : μ[n]? = some a → VM μ H (.ref n) (.ref a)
  | rng {lo hi : Int} {a : Addr} : H a = some (.rng lo hi) → VM μ H (.rng lo hi) (.ref a)
  | frl {a : Addr} {gs : List GV} {xs : List V} : Frl K H a xs → VMs μ H gs xs → VM μ H (.frl gs) (.ref a)
inductive VMs (μ : List Addr) (H : Hp) : List GV → List V → Prop where
  | nil : VMs μ H [] []
  | cons {g : GV} {x : V} {gs : List GV} {xs : List V} : VM μ H g x → VMs μ H gs xs → VMs μ H (g :: gs) (x :: xs)
end
end

/-! ### lists of matched values -/
section
variable {K : PySem.W.Frag} {μ : List Addr} {H : Hp}
theorem VMs.length : ∀ {gs : List GV} {xs : List V}, VMs K μ H gs xs → gs.length = xs.length
  | _, _, .nil => rfl
  | _, _, .cons _ t => congrArg Nat.succ t.length
theorem VMs.app : ∀ {gs gs' : List GV} {xs xs' : List V}, VMs K μ H gs xs → VMs K μ H gs' xs' → VMs K μ H (gs ++ gs') (xs ++ xs')
  | _, _, _, _, .nil, s => s
  | _, _, _, _, .cons r t, s => .cons r (t.app s)
theorem VMs.get : ∀ {gs : List GV} {xs : List V} {i : Nat} {g : GV}, VMs K μ H gs xs → gs[i]? = some g → ∃ x, xs[i]? = some x ∧ VM K μ H g x
  | _, _, 0, _, .cons r _, e => by
    cases e
    exact ⟨_, rfl, r⟩
  | _, _, i + 1, _, .cons _ t, e => t.get (i := i) e
  | _, _, _, _, .nil, e => by simp at e
theorem VMs.getX : ∀ {gs : List GV} {xs : List V} {i : Nat} {x : V}, VMs K μ H gs xs → xs[i]? = some x → ∃ g, gs[i]? = some g ∧ VM K μ H g x
  | _, _, 0, _, .cons r _, e => by
    cases e
    exact ⟨_, rfl, r⟩
  | _, _, i + 1, _, .cons _ t, e => t.getX (i := i) e
  | _, _, _, _, .nil, e => by simp at e
theorem VMs.set : ∀ {gs : List GV} {xs : List V} (i : Nat) {g : GV} {x : V}, VMs K μ H gs xs → VM K μ H g x → VMs K μ H (gs.set i g) (xs.set i x)
  | _, _, _, _, _, .nil, _ => .nil
  | _, _, 0, _, _, .cons _ t, r => .cons r t
  | _, _, i + 1, _, _, .cons q t, r => .cons q (t.set i r)
theorem VMs.take : ∀ {gs : List GV} {xs : List V} (i : Nat), VMs K μ H gs xs → VMs K μ H (gs.take i) (xs.take i)
  | _, _, 0, _ => .nil
  | _, _, _ + 1, .nil => .nil
  | _, _, i + 1, .cons r t => .cons r (t.take i)
theorem VMs.drop : ∀ {gs : List GV} {xs : List V} (i : Nat), VMs K μ H gs xs → VMs K μ H (gs.drop i) (xs.drop i)
  | _, _, 0, r => r
  | _, _, _ + 1, .nil => .nil
  | _, _, i + 1, .cons _ t => t.drop i
theorem VMs.one {g : GV} {x : V} (r : VM K μ H g x) : VMs K μ H [g] [x] := .cons r .nil
theorem VMs.snoc {gs : List GV} {xs : List V} {g : GV} {x : V} (t : VMs K μ H gs xs) (r : VM K μ H g x) : VMs K μ H (gs ++ [g]) (xs ++ [x]) := t.app (.one r)
theorem VMs.empty {gs : List GV} {xs : List V} (t : VMs K μ H gs xs) : xs.isEmpty = gs.isEmpty := by cases t <;> rfl
end

/-! ### the heap -/
/-- names by number -/
abbrev Nm := Nat → Str
mutual
def nkey : GV → PySem.NestedKey
  | .non => .none
  | .bl b => .num (if b then 1 else 0)
  | .int i => .num i
  | .str x => .text x
  | .tup xs => .tup (nkeys xs)
  | .ref _ => .none
  | .rng _ _ => .none
  | .frl _ => .none
def nkeys : List GV → List PySem.NestedKey
  | [] => []
  | x :: xs => nkey x :: nkeys xs
end
section
variable (K : PySem.W.Frag) (w : World) (nm : Nm)
/-- an entry of a dict -/
def EntM (μ : List Addr) (H : Hp) (e : DictEntry) (p : GV × GV) : Prop :=
  e.hash = PySem.NestedKey.hash w (nkey p.1) ∧ ∃ kx vx, VM K μ H p.1 kx ∧ RelV kx e.key ∧ VM K μ H p.2 vx ∧ RelV vx e.val
/-- a dict's own object, as it lies -/
def dctO (a : Addr) (o : Obj) : HO := .ext fun h => h.get? a = some o
structure DctM (μ : List Addr) (H : Hp) (a : Addr) (kvs : List (GV × GV)) : Prop where
  obj : ∃ o es ep, H a = some (dctO a o) ∧ o.ExactDict ∧ o.data = .dict es ep ∧ Paired (EntM K w μ H) es.toList kvs
  sys : (a == PySem.sysModules) = false
  len : kvs.length ≤ PySem.sizeLine
  nd : (kvs.map fun p => num p.1).Nodup
  kind : (kvs.all fun p => keyT p.1) = true ∨ (kvs.all fun p => keyF p.1) = true
def FldM (μ : List Addr) (H : Hp) (p : Nat × GV) (q : Str × V) : Prop := nm p.1 = q.1 ∧ VM K μ H p.2 q.2
def ObjM (μ : List Addr) (H : Hp) (a : Addr) : GO → Prop
  | .lst gs => ∃ xs, H a = some (.lst xs) ∧ VMs K μ H gs xs
  | .dct kvs => DctM K w μ H a kvs
  | .ins c fs => ∃ dx fs', H a = some (.ins (He.ga K (nm c)) dx fs') ∧ Paired (FldM K nm μ H) fs fs'
structure MHeap (μ : List Addr) (h : GH) (H : Hp) : Prop where
  len : μ.length = h.length
  nd : μ.Nodup
  obj : ∀ (n : Nat) (a : Addr) (o : GO), μ[n]? = some a → h[n]? = some o → ObjM K w nm μ H a o
/-- what may have become of the heap -/
structure Grow (μ : List Addr) (H : Hp) (μ' : List Addr) (H' : Hp) : Prop where
  pre : μ <+: μ'
  keep : ∀ a u, H a = some u → a ∉ μ → H' a = some u
  new : ∀ a, a ∈ μ' → a ∉ μ → H a = none
end
/-- what stands where μ points may change -/
def Chg : HO → Prop
  | .lst _ => True
  | .ext _ => True
  | .ins _ _ _ => True
  | _ => False
section
variable {K : PySem.W.Frag} {w : World} {nm : Nm} {μ μ' μ'' : List Addr} {H H' H'' : Hp} {h h' : GH}
theorem Grow.refl : Grow μ H μ H := ⟨List.prefix_refl _, fun _ _ e _ => e, fun a m n => absurd m n⟩
theorem Grow.trans (g : Grow μ H μ' H') (g' : Grow μ' H' μ'' H'') : Grow μ H μ'' H'' where
  pre := g.pre.trans g'.pre
  keep := fun a u e n => g'.keep a u (g.keep a u e n) fun m => by
    rw [g.new a m n] at e
    cases e
  new := fun a m n => by
    by_cases m' : a ∈ μ'
    · exact g.new a m' n
    · cases e : H a with
      | none => rfl
      | some u =>
        have := g'.new a m m'
        rw [g.keep a u e n] at this
        cases this
theorem MHeap.chg (m : MHeap K w nm μ h H) {a : Addr} (ha : a ∈ μ) : ∃ u, H a = some u ∧ Chg u := by
  obtain ⟨n, hn, e⟩ := List.getElem_of_mem ha
  have hn' : n < h.length := by rw [← m.len]; exact hn
  have q := m.obj n a h[n] (by rw [List.getElem?_eq_getElem hn, e]) (List.getElem?_eq_getElem hn')
  cases ho : h[n] with
  | lst gs =>
    rw [ho] at q
    obtain ⟨xs, e, _⟩ := q
    exact ⟨_, e, trivial⟩
  | dct kvs =>
    rw [ho] at q
    obtain ⟨o, es, ep, e, _⟩ := q.obj
    exact ⟨_, e, trivial⟩
  | ins c fs =>
    rw [ho] at q
    obtain ⟨dx, fs', e, _⟩ := q
    exact ⟨_, e, trivial⟩
theorem MHeap.out (m : MHeap K w nm μ h H) {a : Addr} {u : HO} (e : H a = some u) (n : ¬ Chg u) : a ∉ μ := fun ha => by
  obtain ⟨v, e', c⟩ := m.chg ha
  rw [e] at e'
  cases e'
  exact n c
theorem MHeap.outN (m : MHeap K w nm μ h H) {a : Addr} (e : H a = none) : a ∉ μ := fun ha => by
  obtain ⟨v, e', c⟩ := m.chg ha
  rw [e] at e'
  cases e'
/-- what never changes is kept -/
theorem Grow.imm (m : MHeap K w nm μ h H) (g : Grow μ H μ' H') {a : Addr} {u : HO} (e : H a = some u) (n : ¬ Chg u) : H' a = some u := g.keep a u e (m.out e n)
theorem sqT_grow (m : MHeap K w nm μ h H) (g : Grow μ H μ' H') {a : Addr} {xs : List V} (q : SqT K H a xs) : SqT K H' a xs := by
  rcases q with (e | ⟨o, e⟩) | q
  · exact .inl (.inl (g.imm m e fun z => z))
  · exact .inl (.inr ⟨o, g.imm m e fun z => z⟩)
  · exact .inr q
theorem frl_grow (m : MHeap K w nm μ h H) (g : Grow μ H μ' H') {a : Addr} {xs : List V} (q : Frl K H a xs) : Frl K H' a xs := by
  rcases q with ⟨o, e⟩ | q
  · exact .inl ⟨o, g.imm m e fun z => z⟩
  · exact .inr q
theorem pre_get (p : μ <+: μ') {n : Nat} {a : Addr} (e : μ[n]? = some a) : μ'[n]? = some a := by
  obtain ⟨t, rfl⟩ := p
  exact List.getElem?_append_left (List.getElem?_eq_some_iff.mp e).1 ▸ e
mutual
theorem VM.grow (m : MHeap K w nm μ h H) (g : Grow μ H μ' H') : ∀ {v : GV} {x : V}, VM K μ H v x → VM K μ' H' v x
  | _, _, .non => .non
  | _, _, .bl b => .bl b
  | _, _, .int i => .int i
  | _, _, .str x => .str x
  | _, _, .tup q r => .tup (sqT_grow m g q) (VMs.grow m g r)
  | _, _, .ref e => .ref (pre_get g.pre e)
  | _, _, .rng e => .rng (g.imm m e fun z => z)
  | _, _, .frl q r => .frl (frl_grow m g q) (VMs.grow m g r)
theorem VMs.grow (m : MHeap K w nm μ h H) (g : Grow μ H μ' H') : ∀ {vs : List GV} {xs : List V}, VMs K μ H vs xs → VMs K μ' H' vs xs
  | _, _, .nil => .nil
  | _, _, .cons r t => .cons (VM.grow m g r) (VMs.grow m g t)
end
end
end Pv
end Pv_D
section Pv_E
set_option Elab.async false
set_option linter.all false
set_option maxRecDepth 10000
namespace Pv
open PySem PySem.Spec PyProof.Rows
open L2
open GV

section
variable {K : PySem.W.Frag} {w : World} {nm : Nm} {μ μ' μ'' : List Addr} {H H' H'' : Hp} {h h' : GH}

/-! ### the heap grows, is written -/
theorem Paired.impl {α β : Type} {F G : α → β → Prop} : ∀ {l : List α} {m : List β}, Paired F l m → (∀ a b, F a b → G a b) → Paired G l m
  | _, _, .nil, _ => .nil
  | _, _, .cons r t, f => .cons (f _ _ r) (Paired.impl t f)
theorem ObjM.grow (m : MHeap K w nm μ h H) (g : Grow μ H μ' H') {a : Addr} {o : GO} (e : H' a = H a) (q : ObjM K w nm μ H a o) : ObjM K w nm μ' H' a o := by
  cases o with
  | lst gs =>
    obtain ⟨xs, e1, r⟩ := q
    exact ⟨xs, e.trans e1, r.grow m g⟩
  | dct kvs =>
    obtain ⟨⟨ob, es, ep, e1, e2, e3, r⟩, s1, s2, s3, s4⟩ := q
    exact ⟨⟨ob, es, ep, e.trans e1, e2, e3, Paired.impl r fun en p ⟨r1, kx, vx, r2, r3, r4, r5⟩ => ⟨r1, kx, vx, r2.grow m g, r3, r4.grow m g, r5⟩⟩, s1, s2, s3, s4⟩
  | ins c fs =>
    obtain ⟨dx, fs', e1, r⟩ := q
    exact ⟨dx, fs', e.trans e1, Paired.impl r fun p q ⟨r1, r2⟩ => ⟨r1, r2.grow m g⟩⟩
/-- a new place that is not told -/
theorem Grow.side (m : MHeap K w nm μ h H) {p : Addr} {ho : HO} (hp : H p = none) : Grow μ H μ (upd H p ho) :=
  ⟨List.prefix_refl _, fun a u e _ => by rw [upd_ne (ne_of_none e hp)]; exact e, fun a ma n => absurd ma n⟩
theorem MHeap.side (m : MHeap K w nm μ h H) {p : Addr} {ho : HO} (hp : H p = none) : MHeap K w nm μ h (upd H p ho) :=
  ⟨m.len, m.nd, fun n a o e1 e2 => ObjM.grow m (Grow.side m hp) (upd_ne fun z => m.outN hp (z ▸ List.mem_of_getElem? e1)) (m.obj n a o e1 e2)⟩
/-- a new place that is told -/
theorem Grow.alloc (m : MHeap K w nm μ h H) {p : Addr} {ho : HO} (hp : H p = none) : Grow μ H (μ ++ [p]) (upd H p ho) :=
  ⟨List.prefix_append _ _, fun a u e _ => by rw [upd_ne (ne_of_none e hp)]; exact e, fun a ma n => by
    rcases List.mem_append.mp ma with z | z
    · exact absurd z n
    · rw [List.mem_singleton.mp z]; exact hp⟩
theorem MHeap.alloc (m : MHeap K w nm μ h H) {p : Addr} {ho : HO} {o : GO} (hp : H p = none) (ob : ObjM K w nm (μ ++ [p]) (upd H p ho) p o) : MHeap K w nm (μ ++ [p]) (h ++ [o]) (upd H p ho) where
  len := by simp [m.len]
  nd := List.nodup_append.mpr ⟨m.nd, by simp, fun a ha b hb e => m.outN hp (by rw [← List.mem_singleton.mp hb, ← e]; exact ha)⟩
  obj := fun n a u e1 e2 => by
    by_cases hn : n < μ.length
    · rw [List.getElem?_append_left hn] at e1
      rw [List.getElem?_append_left (by rw [← m.len]; exact hn)] at e2
      exact ObjM.grow m (Grow.alloc m hp) (upd_ne fun z => m.outN hp (z ▸ List.mem_of_getElem? e1)) (m.obj n a u e1 e2)
    · have en : n = μ.length := by
        have := (List.getElem?_eq_some_iff.mp e1).1
        simp at this
        omega
      subst en
      rw [List.getElem?_append_right (Nat.le_refl _)] at e1
      rw [m.len, List.getElem?_append_right (Nat.le_refl _)] at e2
      simp at e1 e2
      subst e1 e2
      exact ob
theorem alloc_ref (m : MHeap K w nm μ h H) {p : Addr} : (μ ++ [p])[h.length]? = some p := by
  rw [← m.len, List.getElem?_append_right (Nat.le_refl _)]
  simp
/-- a place that is told is written -/
theorem Grow.write (m : MHeap K w nm μ h H) {n : Nat} {a : Addr} {ho : HO} (e : μ[n]? = some a) : Grow μ H μ (upd H a ho) :=
  ⟨List.prefix_refl _, fun b u eb nb => by rw [upd_ne (show b ≠ a from fun z => nb (by rw [z]; exact List.mem_of_getElem? e))]; exact eb, fun a ma n => absurd ma n⟩
theorem MHeap.write (m : MHeap K w nm μ h H) {n : Nat} {a : Addr} {ho : HO} {o : GO} (e : μ[n]? = some a) (ob : ObjM K w nm μ (upd H a ho) a o) : MHeap K w nm μ (h.set n o) (upd H a ho) where
  len := by simp [m.len]
  nd := m.nd
  obj := fun k b u e1 e2 => by
    by_cases hk : k = n
    · subst hk
      have hlt : k < h.length := by rw [← m.len]; exact (List.getElem?_eq_some_iff.mp e).1
      rw [List.getElem?_set_self hlt] at e2
      rw [e] at e1
      cases e1
      cases e2
      exact ob
    · rw [List.getElem?_set_ne (Ne.symm hk)] at e2
      refine ObjM.grow m (Grow.write m e) (upd_ne fun z => hk ?_) (m.obj k b u e1 e2)
      obtain ⟨l1, q1⟩ := List.getElem?_eq_some_iff.mp e1
      obtain ⟨l2, q2⟩ := List.getElem?_eq_some_iff.mp e
      exact (List.getElem_inj m.nd).mp (q1.trans (z.trans q2.symm))

/-! ### what comes out -/
def Out (K : PySem.W.Frag) (w : World) (nm : Nm) {α β : Type} (R : List Addr → Hp → α → β → Prop) (r : Res α) (μ : List Addr) (H : Hp) (E : XK) (Q : β → Hp → Prop) : Prop := match r with
  | .ok v h' => ∀ μ' H' x, Grow μ H μ' H' → MHeap K w nm μ' h' H' → R μ' H' v x → Q x H'
  | .exc c fs h' => ∀ μ' H' d fs', Grow μ H μ' H' → MHeap K w nm μ' h' H' → H' d = some (.xd fs') → Paired (FldM K nm μ' H') fs fs' → E (.ref (He.ga K (nm c))) (some d) H'
  | .bad => False
variable {α β γ δ : Type} {R : List Addr → Hp → α → β → Prop} {S : List Addr → Hp → γ → δ → Prop} {E : XK}
theorem Out.grow {r : Res α} {Q : β → Hp → Prop} (o : Out K w nm R r μ H E Q) (g : Grow μ H μ' H') : Out K w nm R r μ' H' E Q := by
  cases r with
  | ok v h1 => exact fun μ1 H1 x g1 => o μ1 H1 x (g.trans g1)
  | exc c fs h1 => exact fun μ1 H1 d fs' g1 => o μ1 H1 d fs' (g.trans g1)
  | bad => exact o
theorem Out.mono {r : Res α} {Q Q' : β → Hp → Prop} (o : Out K w nm R r μ H E Q) (f : ∀ x H, Q x H → Q' x H) : Out K w nm R r μ H E Q' := by
  cases r with
  | ok v h1 => exact fun μ1 H1 x g1 m1 r1 => f _ _ (o μ1 H1 x g1 m1 r1)
  | exc c fs h1 => exact o
  | bad => exact o
/-- what is known at a place behind -/
structure At (K : PySem.W.Frag) (w : World) (nm : Nm) {α β : Type} (R : List Addr → Hp → α → β → Prop) (μ : List Addr) (H : Hp) (x : β) (H' : Hp) (P : List Addr → GH → α → Prop) : Prop where
  ex : ∃ μ' h' v, Grow μ H μ' H' ∧ MHeap K w nm μ' h' H' ∧ R μ' H' v x ∧ P μ' h' v
theorem Out.bind {r : Res α} {f : α → GH → Res γ} {Q : δ → Hp → Prop} (o : Out K w nm S (r.bind f) μ H E Q) :
    Out K w nm R r μ H E fun x H' => ∃ μ' h' v, Grow μ H μ' H' ∧ MHeap K w nm μ' h' H' ∧ R μ' H' v x ∧ Out K w nm S (f v h') μ' H' E Q := by
  cases r with
  | ok v h1 => exact fun μ1 H1 x g1 m1 r1 => ⟨μ1, h1, v, g1, m1, r1, Out.grow (r := f v h1) o g1⟩
  | exc c fs h1 => exact o
  | bad => exact o
theorem Out.bindM {r : Res α} {f : α → GH → Res γ} {Q : δ → Hp → Prop} {Q' : β → Hp → Prop} (o : Out K w nm S (r.bind f) μ H E Q)
    (k : ∀ μ' H' h' v x, Grow μ H μ' H' → MHeap K w nm μ' h' H' → R μ' H' v x → Out K w nm S (f v h') μ' H' E Q → Q' x H') : Out K w nm R r μ H E Q' :=
  (Out.bind o).mono fun x H' ⟨μ', h', v, g, m, r1, o'⟩ => k μ' H' h' v x g m r1 o'
theorem Out.pure {v : α} {h1 : GH} {x : β} {Q : β → Hp → Prop} (o : Out K w nm R (.ok v h1) μ H E Q) (m : MHeap K w nm μ h1 H) (r : R μ H v x) : Q x H := o μ H x .refl m r
theorem Out.at {v : α} {h1 : GH} {x : β} {Q : β → Hp → Prop} (o : Out K w nm R (.ok v h1) μ H E Q) (g : Grow μ H μ' H') (m : MHeap K w nm μ' h1 H') (r : R μ' H' v x) : Q x H' := o μ' H' x g m r

/-! ### the names -/
structure MEnv (K : PySem.W.Frag) (μ : List Addr) (H : Hp) (env : Env) (σ : L2.St) : Prop where
  len : env.length = σ.length
  at_ : ∀ (i : Nat) (g : GV), env[i]? = some (some g) → ∃ x, σ[i]? = some (some x) ∧ VM K μ H g x
theorem MEnv.grow {env : Env} {σ : L2.St} (e : MEnv K μ H env σ) (m : MHeap K w nm μ h H) (g : Grow μ H μ' H') : MEnv K μ' H' env σ :=
  ⟨e.len, fun i v q => let ⟨x, q1, r⟩ := e.at_ i v q; ⟨x, q1, r.grow m g⟩⟩
theorem MEnv.set {env : Env} {σ : L2.St} (e : MEnv K μ H env σ) {i : Nat} {v : GV} {x : V} (r : VM K μ H v x) : MEnv K μ H (env.set i (some v)) (σ.set i (some x)) := by
  refine ⟨by simp [e.len], fun j u q => ?_⟩
  by_cases hj : i = j
  · subst hj
    have hl : i < env.length := by
      have := (List.getElem?_eq_some_iff.mp q).1
      simpa using this
    rw [List.getElem?_set_self hl] at q
    cases q
    exact ⟨x, List.getElem?_set_self (by rw [← e.len]; exact hl), r⟩
  · rw [List.getElem?_set_ne hj] at q ⊢
    exact e.at_ j u q
theorem MEnv.unset {env : Env} {σ : L2.St} (e : MEnv K μ H env σ) (i : Nat) : MEnv K μ H (env.set i none) (σ.set i none) := by
  refine ⟨by simp [e.len], fun j u q => ?_⟩
  by_cases hj : i = j
  · subst hj
    by_cases hl : i < env.length
    · rw [List.getElem?_set_self hl] at q
      cases q
    · rw [List.getElem?_eq_none (by simpa using hl)] at q
      cases q
  · rw [List.getElem?_set_ne hj] at q ⊢
    exact e.at_ j u q
theorem MEnv.wipe {env : Env} {σ : L2.St} (e : MEnv K μ H env σ) : ∀ ws : List Nat, MEnv K μ H (wipeE env ws) (L2.wipe σ ws)
  | [] => e
  | i :: r => (MEnv.wipe e r).unset i
end

/-! ### readings -/
section
variable (K : PySem.W.Frag) (w : World) (nm : Nm) (E : XK) (cl : Calls)
def rdE (e : Ex) : TE := fun σ H Q => ∃ env h μ, MEnv K μ H env σ ∧ MHeap K w nm μ h H ∧ Out K w nm (VM K) (evE cl e env h) μ H E Q
def rdT (e : Ex) : TT := fun σ H Q => ∃ env h μ, MEnv K μ H env σ ∧ MHeap K w nm μ h H ∧ Out K w nm (fun _ _ a b => a = b) (evT cl e env h) μ H E Q
def rdEs (es : Exs) : TA := fun σ H Q => ∃ env h μ, MEnv K μ H env σ ∧ MHeap K w nm μ h H ∧ Out K w nm (VMs K) (evEs cl es env h) μ H E Q
/-- items in a row, at an address -/
def SqM (μ : List Addr) (H : Hp) (vs : List GV) (x : V) : Prop := ∃ a xs, x = .ref a ∧ (SqL K H a xs ∨ SqT K H a xs) ∧ VMs K μ H vs xs
def rdS (s : Sq) : TE := fun σ H Q => ∃ env h μ, MEnv K μ H env σ ∧ MHeap K w nm μ h H ∧ Out K w nm (SqM K) (evS cl s env h) μ H E Q
end
end Pv
end Pv_E
section Pv_F
set_option Elab.async false
set_option linter.all false
set_option maxRecDepth 10000
namespace Pv
open PySem PySem.Spec PyProof.Rows
open L2
open GV

/-- what is known of the text: names by number, the parameters of each def, which are methods, classes' fields, classes that are made, calls with keywords, the defs that may be called -/
structure Cb where
  nm : Nm
  inj : ∀ a b, nm a = nm b → a = b
  par : Nat → List Str
  meth : Nat → Option (Nat × Nat)
  attrs : List (Nat × Nat)
  mks : List (Nat × Nat)
  kws : List (Nat × Nat × List Str × List Nat)
  fs : List Nat
  prm : Bool
/-- .. and of a def: its names by slot, its scope, which of its names are its own -/
structure Cc extends Cb where
  N : List Str
  sc : Scope
  own : Str → Bool
/-- the promise of a def -/
def spF (K : PySem.W.Frag) (w : World) (nm : Nm) (cl : Calls) (f : Nat) (np : Nat) : Sp := fun vs H Q E =>
  vs.length = np ∧ ∃ h μ gs, MHeap K w nm μ h H ∧ VMs K μ H gs vs ∧ Out K w nm (VM K) (cl f gs h) μ H E Q
def bltNames : List Str := ["len", "range", "tuple", "list", "int", "str", "max", "min", "sorted", "set", "all", "any", "sum", "abs", "isinstance", "enumerate", "zip", "reversed", "bool", "super"]
/-- the def at a keeps the promise of f; kws: how calls with keywords put the arguments (def, how many are written by place, the keywords, the order) -/
structure FnAt (P : Program) (w : World) (K : PySem.W.Frag) (mg : Str → Option Value) (base : Heap) (C : Cb) (cl : Calls) (d : Nat) (f : Nat) (fn : Fn) (a : Addr) (fd : FuncData) : Prop where
  glo : C.meth f = none → mg (C.nm f) = some (.ref a)
  mth : ∀ c m, C.meth f = some (c, m) → Meth K (He.ga K (C.nm c)) (C.nm m) a
  keep : PySem.W.keepIn K (.ref a) = true
  lk : ∃ oc od osl, K.lookup a = some ⟨oc, od, .func fd, osl⟩
  bnd : ∀ (s : Shared) (us : List Value), us.length = fn.np → BindsTo s fd ⟨us, []⟩ ((C.par f).zip us)
  kw : ∀ q ∈ C.kws, q.1 = f → ∀ (s : Shared) (us ws : List Value), K.In s.heap → us.length = q.2.1 → ws.length = q.2.2.1.length → BindsTo s fd ⟨us, q.2.2.1.zip ws⟩ ((C.par f).zip (q.2.2.2.map fun i => (us ++ ws).getD i .none))
  ok : FnOk P w K mg base (L2.CX P w) (4 * d + 1) a fd (C.par f) (spF K w C.nm cl f fn.np)
structure FnKnown (P : Program) (w : World) (K : PySem.W.Frag) (mg : Str → Option Value) (base : Heap) (C : Cb) (cl : Calls) (d : Nat) (f : Nat) (fn : Fn) : Prop where
  ex : ∃ a fd, FnAt P w K mg base C cl d f fn a fd
  par : (C.par f).length = fn.np
def Fns (P : Program) (w : World) (K : PySem.W.Frag) (mg : Str → Option Value) (base : Heap) (C : Cb) (G : Prg) (d : Nat) : Prop := ∀ f ∈ C.fs, ∃ fn, G f = some fn ∧ FnKnown P w K mg base C (callF G d) d f fn
/-- what stays of the module -/
structure Glob (K : PySem.W.Frag) (mg : Str → Option Value) (C : Cb) : Prop where
  blt : ∀ x ∈ bltNames, mg x = none
  prm : C.prm = true → mg "permutations" = some (.type "itertools.permutations")
  attr : ∀ p ∈ C.attrs, Cls K (He.ga K (C.nm p.1)) ∧ NoAttr K (He.ga K (C.nm p.1)) (C.nm p.2)
  made : ∀ p ∈ C.mks, mg (C.nm p.1) = some (.ref (He.ga K (C.nm p.1))) ∧ PySem.W.makesIn K (He.ga K (C.nm p.1)) = true ∧ PySem.W.keepIn K (.ref (He.ga K (C.nm p.1))) = true ∧
    ∃ m, C.meth p.2 = some (p.1, m) ∧ C.nm m = "__init__"
structure Ok (C : Cc) (G : Prg) (d : Nat) (E : XK) (X : Cx) : Prop where
  hN : X.N = C.N
  sc : X.env.scope = C.sc
  fn : X.fn = C.own
  calm : X.calm = true
  room : Room (4 * d + 4) X.A
  nd : C.N.Nodup
  pass : Passes (L2.CX X.prog X.w) X E
  glob : Glob X.K X.mg C.toCb
  fns : Fns X.prog X.w X.K X.mg X.base C.toCb G d
  po : PassesOwn (model X.prog X.w) X.A X.env X.xe
theorem Ok.blt {C : Cc} {G : Prg} {d : Nat} {E : XK} {X : Cx} (k : Ok C G d E X) : ∀ x ∈ bltNames, X.mg x = none := k.glob.blt
theorem Ok.attr {C : Cc} {G : Prg} {d : Nat} {E : XK} {X : Cx} (k : Ok C G d E X) : ∀ p ∈ C.attrs, Cls X.K (He.ga X.K (C.nm p.1)) ∧ NoAttr X.K (He.ga X.K (C.nm p.1)) (C.nm p.2) := k.glob.attr
theorem Ok.made {C : Cc} {G : Prg} {d : Nat} {E : XK} {X : Cx} (k : Ok C G d E X) : ∀ p ∈ C.mks, X.mg (C.nm p.1) = some (.ref (He.ga X.K (C.nm p.1))) ∧ PySem.W.makesIn X.K (He.ga X.K (C.nm p.1)) = true ∧ PySem.W.keepIn X.K (.ref (He.ga X.K (C.nm p.1))) = true ∧
    ∃ m, C.meth p.2 = some (p.1, m) ∧ C.nm m = "__init__" := k.glob.made

def SndE (C : Cc) (e : Expr) (ie : Ex) : Prop := ∀ G d E X, Ok C G d E X → PE X e (rdE X.K X.w C.nm E (callF G d) ie)
def SndT (C : Cc) (e : Expr) (ie : Ex) : Prop := ∀ G d E X, Ok C G d E X → PT X e (rdT X.K X.w C.nm E (callF G d) ie)
def SndA (C : Cc) (es : List Expr) (ie : Exs) : Prop := ∀ G d E X, Ok C G d E X → PA X es (rdEs X.K X.w C.nm E (callF G d) ie)
def SndS (C : Cc) (e : Expr) (s : Sq) : Prop := ∀ G d E X, Ok C G d E X → PE X e (rdS X.K X.w C.nm E (callF G d) s)

/-! ### weakening of a reading -/
theorem PE.weak {X : Cx} {e : Expr} {t t' : TE} (p : PE X e t) (f : ∀ σ H Q, t' σ H Q → t σ H Q) : PE X e t' := ⟨fun pins s σ H Q I h => p.run pins s σ H Q I (f σ H Q h)⟩
theorem PT.weak {X : Cx} {e : Expr} {t t' : TT} (p : PT X e t) (f : ∀ σ H Q, t' σ H Q → t σ H Q) : PT X e t' := ⟨fun pins s σ H Q I h => p.run pins s σ H Q I (f σ H Q h)⟩
theorem PA.weak {X : Cx} {e : List Expr} {t t' : TA} (p : PA X e t) (f : ∀ σ H Q, t' σ H Q → t σ H Q) : PA X e t' := ⟨fun pos pins s σ H Q I h => p.run pos pins s σ H Q I (f σ H Q h)⟩
theorem pe_false {X : Cx} {e : Expr} {t : TE} (f : ∀ σ H Q, ¬ t σ H Q) : PE X e t := ⟨fun pins s σ H Q I h => (f σ H Q h).elim⟩

section
variable {C : Cc}
theorem snd_bad (e : Expr) : SndE C e .bad := fun G d E X k => pe_false fun σ H Q ⟨env, h, μ, _, _, o⟩ => by rw [evE] at o; exact o

/-! ### names, constants -/
theorem snd_var {i : Nat} {x : Str} {pos : Pos} (hi : C.N[i]? = some x) (hv : Vis C.sc x) (hd : (x == ("__debug__" : Str)) = false) (hcd : (x == ("__classdict__" : Str)) = false) : SndE C (.Name x pos) (.var i) := fun G d E X k => by
  refine PE.weak (pe_var (i := i) (by rw [k.hN]; exact hi) (by rw [k.sc]; exact hv) hd hcd) fun σ H Q ⟨env, h, μ, me, m, o⟩ => ?_
  rw [evE] at o
  split at o
  · rename_i v q
    obtain ⟨x, q1, r⟩ := me.at_ i v q
    exact ⟨x, q1, o.pure m r⟩
  · exact o.elim
theorem snd_cst {c : Const} {v : V} {g : GV} {j : Nat} {pos : Pos} (p : ∀ X, PE X (.Constant c j pos) (tC v)) (r : ∀ K μ H, VM K μ H g v) : SndE C (.Constant c j pos) (.cst g) := fun G d E X k => by
  refine PE.weak (p X) fun σ H Q ⟨env, h, μ, me, m, o⟩ => ?_
  rw [evE] at o
  exact o.pure m (r _ _ _)
theorem snd_int {i : Int} {j : Nat} {pos : Pos} : SndE C (.Constant (.int i) j pos) (.cst (.int i)) := snd_cst (fun X => pe_int) fun _ _ _ => .int i
theorem snd_bl {b : Bool} {j : Nat} {pos : Pos} : SndE C (.Constant (.bool b) j pos) (.cst (.bl b)) := snd_cst (fun X => pe_bl) fun _ _ _ => .bl b
theorem snd_non {j : Nat} {pos : Pos} : SndE C (.Constant .none j pos) (.cst .non) := snd_cst (fun X => pe_non) fun _ _ _ => .non
theorem snd_str {x : Str} {j : Nat} {pos : Pos} : SndE C (.Constant (.str x) j pos) (.cst (.str x)) := snd_cst (fun X => pe_str) fun _ _ _ => .str x

/-! ### argument lists -/
theorem snd_nil : SndA C [] .nil := fun G d E X k => by
  refine PA.weak pa_nil fun σ H Q ⟨env, h, μ, me, m, o⟩ => ?_
  rw [evEs] at o
  exact o.pure m .nil
theorem snd_cons {e : Expr} {es : List Expr} {ie : Ex} {ies : Exs} (a : SndE C e ie) (b : SndA C es ies) (hs : ∀ env, starEach (e :: es) env = (false, eval e env) :: starEach es env) : SndA C (e :: es) (.cons ie ies) := fun G d E X k => by
  refine PA.weak (pa_cons (a G d E X k) (b G d E X k) (hs _)) fun σ H Q ⟨env, h, μ, me, m, o⟩ => ?_
  rw [evEs] at o
  refine ⟨env, h, μ, me, m, Out.bindM o fun μ1 H1 h1 v x g1 m1 r1 o1 => ?_⟩
  refine ⟨env, h1, μ1, me.grow m g1, m1, Out.bindM o1 fun μ2 H2 h2 vs xs g2 m2 r2 o2 => ?_⟩
  exact o2.pure m2 (.cons (r1.grow m1 g2) r2)

/-! ### operators -/
/-- a rule by values -/
def OpS (C : Cc) (o : Op) (r : Cx → R2) : Prop := ∀ G d E X, Ok C G d E X → ∀ (μ : List Addr) (h : GH) (H : Hp) (v u : GV) (x y : V) (Q : VK), MHeap X.K X.w C.nm μ h H → VM X.K μ H v x → VM X.K μ H u y → Out X.K X.w C.nm (VM X.K) (opE o v u h) μ H E Q → r X x y H Q
theorem snd_opT {o : Op} {r : Cx → R2} {a b : Expr} {ia ib : Ex} (rule : OpS C o r) (sa : SndE C a ia) (sb : SndE C b ib) {G : Prg} {d : Nat} {E : XK} {X : Cx} (k : Ok C G d E X) {σ : L2.St} {H : Hp} {Q : VK}
    (h : rdE X.K X.w C.nm E (callF G d) (.op o ia ib) σ H Q) : tOp (r X) (rdE X.K X.w C.nm E (callF G d) ia) (rdE X.K X.w C.nm E (callF G d) ib) σ H Q := by
  obtain ⟨env, h, μ, me, m, q⟩ := h
  rw [evE] at q
  refine ⟨env, h, μ, me, m, Out.bindM q fun μ1 H1 h1 v x g1 m1 r1 o1 => ?_⟩
  refine ⟨env, h1, μ1, me.grow m g1, m1, Out.bindM o1 fun μ2 H2 h2 u y g2 m2 r2 o2 => ?_⟩
  exact rule G d E X k μ2 h2 H2 v u x y Q m2 (r1.grow m1 g2) r2 o2
theorem snd_bin {o : Op} {op : Operator} {r : Cx → R2} {a b : Expr} {ia ib : Ex} {pos : Pos} (ho : ∀ G d E X, Ok C G d E X → OpR X (binaryOp op) (r X)) (rule : OpS C o r) (sa : SndE C a ia) (sb : SndE C b ib) : SndE C (.BinOp a op b pos) (.op o ia ib) := fun G d E X k =>
  PE.weak (pe_op (ho G d E X k) (sa G d E X k) (sb G d E X k)) fun σ H Q h => snd_opT rule sa sb k h
theorem snd_cmp {o : Op} {op : CmpOp} {r : Cx → R2} {a b : Expr} {ia ib : Ex} {pos : Pos} (ho : ∀ G d E X, Ok C G d E X → OpR X (compareOp op) (r X)) (rule : OpS C o r) (sa : SndE C a ia) (sb : SndE C b ib) (hm : behindInMarks op b = false) : SndE C (.Compare a [op] [b] pos) (.op o ia ib) := fun G d E X k =>
  PE.weak (pe_cmpR (ho G d E X k) (sa G d E X k) (sb G d E X k) hm) fun σ H Q h => snd_opT rule sa sb k h

theorem szL_eq : szL = sizeLine := by rw [sizeLine_eq]
/-! add -/
def rAddS (X : Cx) : R2 := fun x y H Q => ((((∃ i j, x = .int i ∧ y = .int j ∧ Q (.int (i + j)) H) ∨ (∃ i j, x = .str i ∧ y = .str j ∧ i.length + j.length ≤ sizeLine ∧ Q (.str (i ++ j)) H)) ∨ rCatA X.K x y H Q) ∨ rCat x y H Q)
theorem op_addS (C : Cc) : ∀ G d E X, Ok C G d E X → OpR X (binaryOp .Add) (rAddS X) := fun G d E X k => ((op_add.or op_add_str).or op_catA).or op_cat
theorem add_rule : OpS C .add rAddS := fun G d E X k μ h H v u x y Q m r1 r2 o => by
  change Out X.K X.w C.nm (VM X.K) (opAdd v u h) μ H E Q at o
  unfold opAdd at o
  split at o
  · cases r1
    cases r2
    exact .inl (.inl (.inl ⟨_, _, rfl, rfl, o.pure m (.int _)⟩))
  · cases r1
    cases r2
    split at o
    · rename_i hl
      exact .inl (.inl (.inr ⟨_, _, rfl, rfl, by rw [← szL_eq]; exact hl, o.pure m (.str _)⟩))
    · exact o.elim
  · split at o
    · rename_i hl
      cases r1 with
      | @tup a1 gs1 zs1 q1 s1 =>
        cases r2 with
        | @tup a2 gs2 zs2 q2 s2 =>
          refine .inl (.inr ⟨_, _, _, _, rfl, rfl, q1, q2, by rw [← szL_eq, ← s1.length, ← s2.length]; exact hl, fun e => ?_, fun e1 e2 => ?_, fun e1 e2 p hp => ?_⟩)
          · subst e
            cases s1
            exact o.pure m (.tup q2 (by simpa using s2))
          · subst e2
            cases s2
            exact o.pure m (.tup q1 (by simpa using s1))
          · have g := Grow.side (ho := .tup (zs1 ++ zs2)) m hp
            exact o.at g (MHeap.side m hp) (.tup (SqT.of upd_same) ((s1.grow m g).app (s2.grow m g)))
    · exact o.elim
  · split at o
    · rename_i n1 n2 xs ys e1 e2
      split at o
      · rename_i hl
        cases r1 with
        | ref q1 =>
          cases r2 with
          | ref q2 =>
            obtain ⟨zs, z1, z2⟩ := m.obj _ _ _ q1 e1
            obtain ⟨zs', z1', z2'⟩ := m.obj _ _ _ q2 e2
            refine .inr ⟨_, _, _, _, rfl, rfl, z1, z1', by rw [← szL_eq, ← z2.length, ← z2'.length]; exact hl, fun p hp => ?_⟩
            have g := Grow.alloc (ho := .lst (zs ++ zs')) m hp
            exact o.at g (MHeap.alloc m hp ⟨_, upd_same, (z2.grow m g).app (z2'.grow m g)⟩) (.ref (alloc_ref m))
      · exact o.elim
    · exact o.elim
  · exact o.elim
end
end Pv
end Pv_F
section Pv_G
set_option Elab.async false
set_option linter.all false
set_option maxRecDepth 10000
namespace Pv
open PySem PySem.Spec PyProof.Rows
open L2
open GV

/-! ### data -/
mutual
theorem dp_of {K : PySem.W.Frag} {μ : List Addr} {H : Hp} : ∀ (n : Nat) (v : GV) (x : V), okN n v = true → VM K μ H v x → Dp K H x (dat v)
  | _, .non, _, _, .non => .non
  | _, .bl _, _, _, .bl b => .bl b
  | _, .int _, _, _, .int i => .int i
  | _, .str _, _, _, .str x => .str x
  | n + 1, .tup gs, _, h, .tup q r => .tup q (dps_of n gs _ (by rw [okN] at h; exact h) r)
  | 0, .tup gs, _, h, .tup q r => by simp [okN] at h
  | n, .ref _, _, h, _ => by simp [okN] at h
  | n, .rng _ _, _, h, _ => by simp [okN] at h
  | n, .frl _, _, h, _ => by simp [okN] at h
theorem dps_of {K : PySem.W.Frag} {μ : List Addr} {H : Hp} : ∀ (n : Nat) (vs : List GV) (xs : List V), oksN n vs = true → VMs K μ H vs xs → DpAll K H xs (dats vs)
  | _, [], _, _, .nil => .nil
  | n, v :: vs, _, h, .cons r t => by
    rw [oksN, Bool.and_eq_true] at h
    exact .cons (dp_of n v _ h.1 r) (dps_of n vs _ h.2 t)
end
mutual
theorem lay_of : ∀ (n : Nat) (v : GV), okN n v = true → (dat v).canLay0 = true ∧ (dat v).depth ≤ n
  | _, .non, _ => ⟨rfl, Nat.zero_le _⟩
  | _, .bl _, _ => ⟨rfl, Nat.zero_le _⟩
  | _, .int _, _ => ⟨rfl, Nat.zero_le _⟩
  | n, .str x, h => by
    rw [okN] at h
    exact ⟨by rw [dat, PyData.canLay0]; exact h, by rw [dat, PyData.depth]; exact Nat.zero_le _⟩
  | n + 1, .tup gs, h => by
    rw [okN] at h
    obtain ⟨h1, h2⟩ := lays_of n gs h
    exact ⟨by rw [dat, PyData.canLay0]; exact h1, by rw [dat, PyData.depth]; exact Nat.succ_le_succ h2⟩
  | 0, .tup gs, h => by simp [okN] at h
  | n, .ref _, h => by simp [okN] at h
  | n, .rng _ _, h => by simp [okN] at h
  | n, .frl _, h => by simp [okN] at h
theorem lays_of : ∀ (n : Nat) (vs : List GV), oksN n vs = true → PyData.canLayAll0 (dats vs) = true ∧ PyData.depthAll (dats vs) ≤ n
  | _, [], _ => ⟨rfl, Nat.zero_le _⟩
  | n, v :: vs, h => by
    rw [oksN, Bool.and_eq_true] at h
    obtain ⟨h1, h2⟩ := lay_of n v h.1
    obtain ⟨h3, h4⟩ := lays_of n vs h.2
    exact ⟨by rw [dats, PyData.canLayAll0, h1, h3]; rfl, by rw [dats, PyData.depthAll]; exact Nat.max_le.mpr ⟨h2, h4⟩⟩
end
theorem shaped_of {n : Nat} {v : GV} (hn : n ≤ 64) (h : okN n v = true) : SeqAt.shaped (dat v) = true := by
  obtain ⟨h1, h2⟩ := lay_of n v h
  unfold SeqAt.shaped
  rw [h1, decide_eq_true (Nat.le_trans h2 hn)]
  rfl
mutual
theorem eqv_num : ∀ (n : Nat) (a b : GV), okN n a = true → okN n b = true → PyData.eqv (dat a) (dat b) = decide (num a = num b)
  | n, .non, b, _, hb => by cases b <;> simp [dat, num, PyData.eqv, okN] at *
  | n, .bl a, b, _, hb => by
    cases b with
    | bl b => cases a <;> cases b <;> simp [dat, num, PyData.eqv]
    | int j => cases a <;> simp [dat, num, PyData.eqv, eq_comm, Bool.beq_eq_decide_eq]
    | _ => simp [dat, num, PyData.eqv, okN] at *
  | n, .int i, b, _, hb => by
    cases b with
    | bl b => cases b <;> simp [dat, num, PyData.eqv, Bool.beq_eq_decide_eq]
    | int j => simp [dat, num, PyData.eqv, Bool.beq_eq_decide_eq]
    | _ => simp [dat, num, PyData.eqv, okN] at *
  | n, .str x, b, _, hb => by
    cases b with
    | str y => simp [dat, num, PyData.eqv, Bool.beq_eq_decide_eq]
    | _ => simp [dat, num, PyData.eqv, okN] at *
  | n + 1, .tup xs, b, ha, hb => by
    cases b with
    | tup ys =>
      rw [okN] at ha hb
      rw [dat, dat, PyData.eqv, num, num, eqvs_num n xs ys ha hb]
      simp
    | _ => simp [dat, num, PyData.eqv, okN] at *
  | 0, .tup xs, b, ha, hb => by simp [okN] at ha
  | n, .ref _, b, ha, _ => by simp [okN] at ha
  | n, .rng _ _, b, ha, _ => by simp [okN] at ha
  | n, .frl _, b, ha, _ => by simp [okN] at ha
theorem eqvs_num : ∀ (n : Nat) (a b : List GV), oksN n a = true → oksN n b = true → PyData.eqvAll (dats a) (dats b) = decide (nums a = nums b)
  | n, [], [], _, _ => by simp [dats, nums, PyData.eqvAll]
  | n, [], _ :: _, _, _ => by simp [dats, nums, PyData.eqvAll]
  | n, _ :: _, [], _, _ => by simp [dats, nums, PyData.eqvAll]
  | n, a :: as, b :: bs, ha, hb => by
    rw [oksN, Bool.and_eq_true] at ha hb
    rw [dats, dats, PyData.eqvAll, nums, nums, eqv_num n a b ha.1 hb.1, eqvs_num n as bs ha.2 hb.2]
    simp
end

section
variable {C : Cc}
theorem Room.u64 {d : Nat} {A : Around} (r : Room d A) : A.units + 65 < cLine := by
  have := r.un
  omega
/-! == and != -/
theorem eq_dp {X : Cx} {μ : List Addr} {h : GH} {H : Hp} {v u : GV} {x y : V} {b : Bool} {nm : Nm} (m : MHeap X.K X.w nm μ h H) (r1 : VM X.K μ H v x) (r2 : VM X.K μ H u y) (e : eqV v u h = some b) :
    ∃ d e, Dp X.K H x d ∧ Dp X.K H y e ∧ SeqAt.shaped d = true ∧ SeqAt.shaped e = true ∧ PyData.eqv d e = b := by
  unfold eqV at e
  split at e
  · rename_i hk
    exact ⟨_, _, dp_of 40 v x hk.1 r1, dp_of 40 u y hk.2 r2, shaped_of (by decide) hk.1, shaped_of (by decide) hk.2, by rw [eqv_num 40 v u hk.1 hk.2]; exact Option.some.inj e⟩
  · split at e
    · split at e
      · rename_i n1 n2 xs ys e1 e2
        split at e
        · rename_i hk
          cases r1 with
          | ref q1 =>
            cases r2 with
            | ref q2 =>
              obtain ⟨zs, z1, z2⟩ := m.obj _ _ _ q1 e1
              obtain ⟨zs', z1', z2'⟩ := m.obj _ _ _ q2 e2
              have l1 := lays_of 40 xs hk.1
              have l2 := lays_of 40 ys hk.2
              have sh : ∀ {vs : List GV}, PyData.canLayAll0 (dats vs) = true ∧ PyData.depthAll (dats vs) ≤ 40 → SeqAt.shaped (.list (dats vs)) = true := fun {vs} hl => by
                unfold SeqAt.shaped
                rw [PyData.canLay0, PyData.depth, hl.1, decide_eq_true (show PyData.depthAll (dats vs) + 1 ≤ 64 by have := hl.2; omega)]
                rfl
              exact ⟨_, _, .lst (SqL.of z1) (dps_of 40 xs zs hk.1 z2), .lst (SqL.of z1') (dps_of 40 ys zs' hk.2 z2'), sh l1, sh l2, by rw [PyData.eqv, eqvs_num 40 xs ys hk.1 hk.2]; exact Option.some.inj e⟩
        · cases e
      · cases e
    · cases e
theorem eq_rule : OpS C .eq (fun X => rEqD X.K) := fun G d E X k μ h H v u x y Q m r1 r2 o => by
  change Out X.K X.w C.nm (VM X.K) (opEq v u h) μ H E Q at o
  unfold opEq at o
  split at o
  · rename_i b e
    obtain ⟨d1, d2, a1, a2, a3, a4, a5⟩ := eq_dp m r1 r2 e
    exact ⟨d1, d2, a1, a2, a3, a4, by rw [a5]; exact o.pure m (.bl _)⟩
  · exact o.elim
theorem ne_rule : OpS C .ne (fun X => rNeD X.K) := fun G d E X k μ h H v u x y Q m r1 r2 o => by
  change Out X.K X.w C.nm (VM X.K) (opNe v u h) μ H E Q at o
  unfold opNe at o
  split at o
  · rename_i b e
    obtain ⟨d1, d2, a1, a2, a3, a4, a5⟩ := eq_dp m r1 r2 e
    exact ⟨d1, d2, a1, a2, a3, a4, by rw [a5]; exact o.pure m (.bl _)⟩
  · exact o.elim
theorem snd_eq {a b : Expr} {ia ib : Ex} {pos : Pos} (sa : SndE C a ia) (sb : SndE C b ib) : SndE C (.Compare a [.Eq] [b] pos) (.op .eq ia ib) :=
  snd_cmp (fun G d E X k => op_eqD (by have := Room.u64 k.room; omega)) eq_rule sa sb (nomark b)
theorem snd_ne {a b : Expr} {ia ib : Ex} {pos : Pos} (sa : SndE C a ia) (sb : SndE C b ib) : SndE C (.Compare a [.NotEq] [b] pos) (.op .ne ia ib) :=
  snd_cmp (fun G d E X k => op_neD (by have := Room.u64 k.room; omega)) ne_rule sa sb (nomark b)

/-! arithmetic -/
theorem snd_add {a b : Expr} {ia ib : Ex} {pos : Pos} (sa : SndE C a ia) (sb : SndE C b ib) : SndE C (.BinOp a .Add b pos) (.op .add ia ib) := snd_bin (op_addS C) add_rule sa sb
theorem sub_rule : OpS C .sub (fun X => rI0 fun i j => .int (i - j)) := fun G d E X k μ h H v u x y Q m r1 r2 o => by
  change Out X.K X.w C.nm (VM X.K) (opSub v u h) μ H E Q at o
  unfold opSub at o
  split at o
  · cases r1
    cases r2
    exact ⟨_, _, rfl, rfl, o.pure m (.int _)⟩
  · exact o.elim
theorem snd_sub {a b : Expr} {ia ib : Ex} {pos : Pos} (sa : SndE C a ia) (sb : SndE C b ib) : SndE C (.BinOp a .Sub b pos) (.op .sub ia ib) := snd_bin (fun _ _ _ X _ => op_sub) sub_rule sa sb
theorem mul_rule : OpS C .mul (fun X x y H Q => (∃ i j, x = .int i ∧ y = .int j ∧ CMul i j ∧ Q (.int (i * j)) H) ∨ rRep x y H Q) := fun G d E X k μ h H v u x y Q m r1 r2 o => by
  change Out X.K X.w C.nm (VM X.K) (opMul v u h) μ H E Q at o
  unfold opMul at o
  split at o
  · cases r1
    cases r2
    split at o
    · rename_i hl
      exact .inl ⟨_, _, rfl, rfl, hl, o.pure m (.int _)⟩
    · exact o.elim
  · split at o
    · rename_i n k2 o2 xs e1
      split at o
      · rename_i hl
        cases r1 with
        | ref q1 =>
          cases r2 with
          | int i =>
            obtain ⟨zs, z1, z2⟩ := m.obj _ _ _ q1 e1
            refine .inr ⟨_, _, _, rfl, rfl, z1, by omega, by omega, by rw [← szL_eq, ← z2.length]; exact hl.2.2, fun p hp => ?_⟩
            have g := Grow.alloc (ho := .lst (List.replicate k2.toNat zs).flatten) m hp
            have z3 := z2.grow m g
            have z4 : ∀ k : Nat, VMs X.K (μ ++ [p]) (upd H p (.lst (List.replicate k2.toNat zs).flatten)) (List.replicate k xs).flatten (List.replicate k zs).flatten := fun k => by
              induction k with
              | zero => exact .nil
              | succ k ih => rw [List.replicate_succ, List.replicate_succ, List.flatten_cons, List.flatten_cons]; exact z3.app ih
            exact o.at g (MHeap.alloc m hp ⟨_, upd_same, z4 _⟩) (.ref (alloc_ref m))
      · exact o.elim
    · exact o.elim
  · exact o.elim
theorem snd_mul {a b : Expr} {ia ib : Ex} {pos : Pos} (sa : SndE C a ia) (sb : SndE C b ib) : SndE C (.BinOp a .Mult b pos) (.op .mul ia ib) := snd_bin (fun _ _ _ X _ => op_mul.or op_rep) mul_rule sa sb
theorem fdiv_rule : OpS C .fdiv (fun X => rI CDivN fun i j => .int (i.fdiv j)) := fun G d E X k μ h H v u x y Q m r1 r2 o => by
  change Out X.K X.w C.nm (VM X.K) (opFdiv v u h) μ H E Q at o
  unfold opFdiv at o
  split at o
  · cases r1
    cases r2
    split at o
    · rename_i hl
      exact ⟨_, _, rfl, rfl, hl, o.pure m (.int _)⟩
    · exact o.elim
  · exact o.elim
theorem snd_fdiv {a b : Expr} {ia ib : Ex} {pos : Pos} (sa : SndE C a ia) (sb : SndE C b ib) : SndE C (.BinOp a .FloorDiv b pos) (.op .fdiv ia ib) := snd_bin (fun _ _ _ X _ => op_fdivN) fdiv_rule sa sb
theorem mod_rule : OpS C .mod (fun X => rI (fun _ j => j ≠ 0) fun i j => .int (i.fmod j)) := fun G d E X k μ h H v u x y Q m r1 r2 o => by
  change Out X.K X.w C.nm (VM X.K) (opMod v u h) μ H E Q at o
  unfold opMod at o
  split at o
  · cases r1
    cases r2
    split at o
    · rename_i hl
      exact ⟨_, _, rfl, rfl, hl, o.pure m (.int _)⟩
    · exact o.elim
  · exact o.elim
theorem snd_mod {a b : Expr} {ia ib : Ex} {pos : Pos} (sa : SndE C a ia) (sb : SndE C b ib) : SndE C (.BinOp a .Mod b pos) (.op .mod ia ib) := snd_bin (fun _ _ _ X _ => op_modN) mod_rule sa sb
theorem pow_rule : OpS C .pow (fun X => rI CPow fun i j => .int (i ^ j.toNat)) := fun G d E X k μ h H v u x y Q m r1 r2 o => by
  change Out X.K X.w C.nm (VM X.K) (opPow v u h) μ H E Q at o
  unfold opPow at o
  split at o
  · cases r1
    cases r2
    split at o
    · rename_i hl
      exact ⟨_, _, rfl, rfl, ⟨hl.1, by omega, hl.2.2⟩, o.pure m (.int _)⟩
    · exact o.elim
  · exact o.elim
theorem snd_pow {a b : Expr} {ia ib : Ex} {pos : Pos} (sa : SndE C a ia) (sb : SndE C b ib) : SndE C (.BinOp a .Pow b pos) (.op .pow ia ib) := snd_bin (fun _ _ _ X _ => op_pow) pow_rule sa sb

/-! order -/
theorem vms_ints {K : PySem.W.Frag} {μ : List Addr} {H : Hp} : ∀ {gs : List GV} {xs : List V} {ns : List Int}, VMs K μ H gs xs → intsOf gs = some ns → xs = ns.map V.int
  | [], _, _, .nil, e => by cases e; rfl
  | .int i :: r, _, ns, .cons (.int _) t, e => by
    rw [intsOf] at e
    obtain ⟨ms, e1, e2⟩ := Option.map_eq_some_iff.mp e
    rw [← e2, List.map_cons, vms_ints t e1]
  | .non :: _, _, _, _, e => by cases e
  | .bl _ :: _, _, _, _, e => by cases e
  | .str _ :: _, _, _, _, e => by cases e
  | .tup _ :: _, _, _, _, e => by cases e
  | .ref _ :: _, _, _, _, e => by cases e
  | .rng _ _ :: _, _, _, _, e => by cases e
  | .frl _ :: _, _, _, _, e => by cases e
theorem lt_rule : OpS C .lt (fun X x y H Q => (∃ i j, x = .int i ∧ y = .int j ∧ Q (.bl (decide (i < j))) H) ∨ rLtT X.K x y H Q) := fun G d E X k μ h H v u x y Q m r1 r2 o => by
  change Out X.K X.w C.nm (VM X.K) (opLt v u h) μ H E Q at o
  unfold opLt at o
  split at o
  · cases r1
    cases r2
    exact .inl ⟨_, _, rfl, rfl, o.pure m (.bl _)⟩
  · split at o
    · rename_i ns ms e1 e2
      cases r1 with
      | tup q1 s1 =>
        cases r2 with
        | tup q2 s2 =>
          refine .inr ⟨_, _, ns, ms, rfl, rfl, ?_, ?_, o.pure m (.bl _)⟩
          · rw [← vms_ints s1 e1]; exact q1
          · rw [← vms_ints s2 e2]; exact q2
    · exact o.elim
  · exact o.elim
theorem snd_lt {a b : Expr} {ia ib : Ex} {pos : Pos} (sa : SndE C a ia) (sb : SndE C b ib) : SndE C (.Compare a [.Lt] [b] pos) (.op .lt ia ib) :=
  snd_cmp (fun G d E X k => op_lt.or (op_ltT (by have := Room.u64 k.room; omega))) lt_rule sa sb (nomark b)
theorem le_rule : OpS C .le (fun X => rI0 fun i j => .bl (decide (i ≤ j))) := fun G d E X k μ h H v u x y Q m r1 r2 o => by
  change Out X.K X.w C.nm (VM X.K) (opLe v u h) μ H E Q at o
  unfold opLe at o
  split at o
  · cases r1
    cases r2
    exact ⟨_, _, rfl, rfl, o.pure m (.bl _)⟩
  · exact o.elim
theorem snd_le {a b : Expr} {ia ib : Ex} {pos : Pos} (sa : SndE C a ia) (sb : SndE C b ib) : SndE C (.Compare a [.LtE] [b] pos) (.op .le ia ib) := snd_cmp (fun _ _ _ X _ => op_le) le_rule sa sb (nomark b)
theorem gt_rule : OpS C .gt (fun X => rI0 fun i j => .bl (decide (j < i))) := fun G d E X k μ h H v u x y Q m r1 r2 o => by
  change Out X.K X.w C.nm (VM X.K) (opGt v u h) μ H E Q at o
  unfold opGt at o
  split at o
  · cases r1
    cases r2
    exact ⟨_, _, rfl, rfl, o.pure m (.bl _)⟩
  · exact o.elim
theorem snd_gt {a b : Expr} {ia ib : Ex} {pos : Pos} (sa : SndE C a ia) (sb : SndE C b ib) : SndE C (.Compare a [.Gt] [b] pos) (.op .gt ia ib) := snd_cmp (fun _ _ _ X _ => op_gt) gt_rule sa sb (nomark b)
theorem ge_rule : OpS C .ge (fun X => rI0 fun i j => .bl (decide (j ≤ i))) := fun G d E X k μ h H v u x y Q m r1 r2 o => by
  change Out X.K X.w C.nm (VM X.K) (opGe v u h) μ H E Q at o
  unfold opGe at o
  split at o
  · cases r1
    cases r2
    exact ⟨_, _, rfl, rfl, o.pure m (.bl _)⟩
  · exact o.elim
theorem snd_ge {a b : Expr} {ia ib : Ex} {pos : Pos} (sa : SndE C a ia) (sb : SndE C b ib) : SndE C (.Compare a [.GtE] [b] pos) (.op .ge ia ib) := snd_cmp (fun _ _ _ X _ => op_ge) ge_rule sa sb (nomark b)
end
end Pv
end Pv_G
section Pv_H
set_option Elab.async false
set_option linter.all false
set_option maxRecDepth 10000
namespace Pv
open PySem PySem.Spec PyProof.Rows
open L2
open GV

/-! ### dicts -/
mutual
theorem nkey_num : ∀ (n : Nat) (a b : GV), okN n a = true → okN n b = true → (nkey a = nkey b ↔ num a = num b)
  | n, .non, b, _, hb => by cases b <;> simp [nkey, num, okN] at *
  | n, .bl a, b, _, hb => by cases b <;> simp [nkey, num, okN] at *
  | n, .int i, b, _, hb => by cases b <;> simp [nkey, num, okN] at *
  | n, .str x, b, _, hb => by cases b <;> simp [nkey, num, okN] at *
  | n + 1, .tup xs, b, ha, hb => by
    cases b with
    | tup ys =>
      rw [okN] at ha hb
      rw [nkey, nkey, num, num]
      simp only [NestedKey.tup.injEq, GV.tup.injEq]
      exact nkeys_num n xs ys ha hb
    | _ => simp [nkey, num, okN] at *
  | 0, .tup xs, b, ha, hb => by simp [okN] at ha
  | n, .ref _, b, ha, _ => by simp [okN] at ha
  | n, .rng _ _, b, ha, _ => by simp [okN] at ha
  | n, .frl _, b, ha, _ => by simp [okN] at ha
theorem nkeys_num : ∀ (n : Nat) (a b : List GV), oksN n a = true → oksN n b = true → (nkeys a = nkeys b ↔ nums a = nums b)
  | n, [], [], _, _ => by simp [nkeys, nums]
  | n, [], _ :: _, _, _ => by simp [nkeys, nums]
  | n, _ :: _, [], _, _ => by simp [nkeys, nums]
  | n, a :: as, b :: bs, ha, hb => by
    rw [oksN, Bool.and_eq_true] at ha hb
    rw [nkeys, nkeys, nums, nums]
    simp only [List.cons.injEq]
    rw [nkey_num n a b ha.1 hb.1, nkeys_num n as bs ha.2 hb.2]
end
mutual
theorem nkey_depth : ∀ (n : Nat) (a : GV), okN n a = true → (nkey a).depth ≤ n
  | n, .non, _ => Nat.zero_le _
  | n, .bl a, _ => Nat.zero_le _
  | n, .int i, _ => Nat.zero_le _
  | n, .str x, _ => by rw [nkey, NestedKey.depth]; exact Nat.zero_le _
  | n + 1, .tup xs, ha => by
    rw [okN] at ha
    rw [nkey, NestedKey.depth]
    exact Nat.succ_le_succ (nkeys_depth n xs ha)
  | 0, .tup xs, ha => by simp [okN] at ha
  | n, .ref _, ha => by simp [okN] at ha
  | n, .rng _ _, ha => by simp [okN] at ha
  | n, .frl _, ha => by simp [okN] at ha
theorem nkeys_depth : ∀ (n : Nat) (a : List GV), oksN n a = true → NestedKey.depthAll (nkeys a) ≤ n
  | n, [], _ => Nat.zero_le _
  | n, a :: as, ha => by
    rw [oksN, Bool.and_eq_true] at ha
    rw [nkeys, NestedKey.depthAll]
    exact Nat.max_le.mpr ⟨nkey_depth n a ha.1, nkeys_depth n as ha.2⟩
end
section
variable {X : Cx} {pins : List (Addr × Obj)} {σ : L2.St} {H : Hp} {s : Shared} {μ : List Addr}
mutual
theorem nested_is (I : Inv X pins σ H s) : ∀ (n : Nat) (v : GV) (x : V) (u : Value), okN n v = true → VM X.K μ H v x → RelV x u → NestedIs s.heap (nkey v) u
  | _, .non, _, _, _, .non, r => by cases r; exact .none
  | _, .bl b, _, _, _, .bl _, r => by
    cases r
    exact .bool rfl
  | _, .int i, _, _, _, .int _, r => by
    obtain ⟨t, rfl⟩ := r
    exact .int i t
  | _, .str x, _, _, _, .str _, r => by
    obtain ⟨t, rfl⟩ := r
    exact .text x t
  | n + 1, .tup gs, _, _, h, .tup q t, r => by
    cases r
    rw [okN] at h
    obtain ⟨its, rv, ⟨o, ho, hc, k, hd⟩, _⟩ := I.tuple q
    exact .tup ho hc hd (nested_all I n gs _ _ h t (by simpa using rv))
  | 0, .tup gs, _, _, h, .tup q t, r => by simp [okN] at h
  | _, .ref _, _, _, h, _, _ => by simp [okN] at h
  | _, .rng _ _, _, _, h, _, _ => by simp [okN] at h
  | _, .frl _, _, _, h, _, _ => by simp [okN] at h
theorem nested_all (I : Inv X pins σ H s) : ∀ (n : Nat) (vs : List GV) (xs : List V) (us : List Value), oksN n vs = true → VMs X.K μ H vs xs → Vals xs us → NestedAll s.heap (nkeys vs) us
  | _, [], _, _, _, .nil, r => by cases r; exact .nil
  | n, v :: vs, _, _, h, .cons r t, rr => by
    rw [oksN, Bool.and_eq_true] at h
    cases rr with
    | cons r2 t2 => exact .cons (nested_is I n v _ _ h.1 r r2) (nested_all I n vs _ _ h.2 t t2)
end
end
/-- an entry, opened: its key's own tuple, its value -/
def EntT (K : PySem.W.Frag) (μ : List Addr) (H : Hp) (x : NestedKey × Addr × Value) (p : GV × GV) : Prop :=
  x.1 = nkey p.1 ∧ VM K μ H p.1 (.ref x.2.1) ∧ ∃ vx, VM K μ H p.2 vx ∧ RelV vx x.2.2
theorem keyT_ok {k : GV} (h : keyT k = true) : okN 7 k = true := by
  cases k <;> simp [keyT] at h
  rw [okN]
  exact h
theorem keyF_ok {k : GV} (h : keyF k = true) : (∃ i, k = .int i) ∨ ∃ x, k = .str x := by
  cases k <;> simp [keyF] at h
  · exact .inl ⟨_, rfl⟩
  · exact .inr ⟨_, rfl⟩
theorem all_cons {α : Type} {p : α → Bool} {a : α} {l : List α} (h : ((a :: l).all p) = true) : p a = true ∧ l.all p = true := by
  rw [List.all_cons, Bool.and_eq_true] at h
  exact h
section
variable {K : PySem.W.Frag} {w : World} {μ : List Addr} {H : Hp}
theorem entsT {P : Program} : ∀ {es : List DictEntry} {kvs : List (GV × GV)}, Paired (EntM K w μ H) es kvs → (kvs.all fun p => keyT p.1) = true →
    ∃ xs : List (NestedKey × Addr × Value), es = xs.map (entryOfKey (nestedKind P w)) ∧ Paired (EntT K μ H) xs kvs
  | _, _, .nil, _ => ⟨[], rfl, .nil⟩
  | _, _, .cons (a := e) (b := p) ⟨h1, kx, vx, h2, h3, h4, h5⟩ t, h => by
    obtain ⟨hk, ht⟩ := all_cons h
    obtain ⟨xs, e1, r⟩ := entsT (P := P) t ht
    obtain ⟨gk, gv⟩ := p
    cases gk with
    | tup gs =>
      cases h2 with
      | @tup a _ zs q tt =>
        refine ⟨(nkey (.tup gs), a, e.val) :: xs, ?_, .cons ⟨rfl, .tup q tt, vx, h4, h5⟩ r⟩
        rw [List.map_cons, ← e1]
        have : e = entryOfKey (nestedKind P w) (nkey (.tup gs), a, e.val) := by
          obtain ⟨eh, ek, ev⟩ := e
          have h1' : eh = NestedKey.hash w (nkey (.tup gs)) := h1
          have h3' : ek = Value.ref a := h3
          subst h1' h3'
          rfl
        rw [← this]
    | _ => simp [keyT] at hk
theorem entT_keys : ∀ {xs : List (NestedKey × Addr × Value)} {kvs : List (GV × GV)}, Paired (EntT K μ H) xs kvs → xs.map (·.1) = kvs.map fun p => nkey p.1
  | _, _, .nil => rfl
  | _, _, .cons h t => by rw [List.map_cons, List.map_cons, entT_keys t, h.1]
theorem nodup_keysT : ∀ {kvs : List (GV × GV)}, (kvs.all fun p => keyT p.1) = true → (kvs.map fun p => num p.1).Nodup → (kvs.map fun p => nkey p.1).Nodup
  | [], _, _ => .nil
  | p :: r, h, nd => by
    obtain ⟨h1, h2⟩ := all_cons h
    rw [List.map_cons, List.nodup_cons] at nd ⊢
    refine ⟨fun hm => nd.1 ?_, nodup_keysT h2 nd.2⟩
    obtain ⟨q, hq, e⟩ := List.mem_map.mp hm
    exact List.mem_map.mpr ⟨q, hq, (nkey_num 7 q.1 p.1 (keyT_ok (List.all_eq_true.mp h2 q hq)) (keyT_ok h1)).mp e⟩
theorem look_cons (p : GV × GV) (r : List (GV × GV)) (k : GV) : look (p :: r) k = if num p.1 = num k then some p.2 else look r k := by
  unfold look
  rw [List.find?_cons]
  by_cases h : num p.1 = num k
  · rw [decide_eq_true h, if_pos h] <;> rfl
  · rw [decide_eq_false h, if_neg h]
theorem atKey_cons (p : NestedKey × Addr × Value) (r : List (NestedKey × Addr × Value)) (k : NestedKey) : atKey (p :: r) k = if p.1 = k then some p.2 else atKey r k := by
  unfold atKey
  rw [List.find?_cons]
  by_cases h : p.1 = k
  · rw [decide_eq_true h, if_pos h] <;> rfl
  · rw [decide_eq_false h, if_neg h]
/-- what is found -/
theorem lookT {k : GV} (hk : keyT k = true) : ∀ {xs : List (NestedKey × Addr × Value)} {kvs : List (GV × GV)}, Paired (EntT K μ H) xs kvs → (kvs.all fun p => keyT p.1) = true →
    (look kvs k = none ∧ atKey xs (nkey k) = none) ∨ ∃ v a u vx, look kvs k = some v ∧ atKey xs (nkey k) = some (a, u) ∧ VM K μ H v vx ∧ RelV vx u
  | _, _, .nil, _ => .inl ⟨rfl, rfl⟩
  | _, _, .cons (a := x) (b := p) (l₁ := xs) (l₂ := kvs) ⟨h1, h2, vx, h3, h4⟩ t, h => by
    obtain ⟨g1, g2⟩ := all_cons h
    have e := nkey_num 7 p.1 k (keyT_ok g1) (keyT_ok hk)
    rw [look_cons, atKey_cons, h1]
    by_cases hn : num p.1 = num k
    · rw [if_pos hn, if_pos (e.mpr hn)]
      exact .inr ⟨_, x.2.1, x.2.2, vx, rfl, rfl, h3, h4⟩
    · rw [if_neg hn, if_neg fun z => hn (e.mp z)]
      exact lookT hk t g2
theorem paired_app {α β : Type} {F : α → β → Prop} : ∀ {l l' : List α} {m m' : List β}, Paired F l m → Paired F l' m' → Paired F (l ++ l') (m ++ m')
  | _, _, _, _, .nil, t => t
  | _, _, _, _, .cons r s, t => .cons r (paired_app s t)
theorem paired_map {α β γ δ : Type} {F : α → β → Prop} {G : γ → δ → Prop} {f : α → γ} {g : β → δ} : ∀ {l : List α} {m : List β}, Paired F l m → (∀ a b, a ∈ l → b ∈ m → F a b → G (f a) (g b)) → Paired G (l.map f) (m.map g)
  | _, _, .nil, _ => .nil
  | _, _, .cons r t, k => .cons (k _ _ (List.mem_cons_self ..) (List.mem_cons_self ..) r) (paired_map t fun a b ha hb => k a b (List.mem_cons_of_mem _ ha) (List.mem_cons_of_mem _ hb))
theorem Paired.len {α β : Type} {F : α → β → Prop} : ∀ {l : List α} {m : List β}, Paired F l m → l.length = m.length
  | _, _, .nil => rfl
  | _, _, .cons _ t => congrArg Nat.succ (Paired.len t)
/-- what is stored -/
theorem putT {k v : GV} {a : Addr} {vx : V} {u : Value} (hk : keyT k = true) (rk : VM K μ H k (.ref a)) (rv : VM K μ H v vx) (ru : RelV vx u) {xs : List (NestedKey × Addr × Value)} {kvs : List (GV × GV)} (t : Paired (EntT K μ H) xs kvs) (h : (kvs.all fun p => keyT p.1) = true) :
    Paired (EntT K μ H) (storedH xs (nkey k) a u) (put kvs k v) := by
  unfold storedH put
  have same : (atKey xs (nkey k)).isSome = (look kvs k).isSome := by
    rcases lookT hk t h with ⟨e1, e2⟩ | ⟨_, _, _, _, e1, e2, _⟩ <;> rw [e1, e2] <;> rfl
  rw [same]
  split
  · refine paired_map t fun x p hx hp ⟨h1, h2, wx, h3, h4⟩ => ?_
    have e := nkey_num 7 p.1 k (keyT_ok (List.all_eq_true.mp h p hp)) (keyT_ok hk)
    unfold putAt
    by_cases hn : num p.1 = num k
    · rw [if_pos hn, if_pos (by rw [h1]; exact e.mpr hn)]
      exact ⟨h1, h2, vx, rv, ru⟩
    · rw [if_neg hn, if_neg fun z => hn (e.mp (by rw [← h1]; exact z))]
      exact ⟨h1, h2, wx, h3, h4⟩
  · exact paired_app t (.cons ⟨rfl, rk, vx, rv, ru⟩ .nil)
theorem put_keys {kvs : List (GV × GV)} {k v : GV} : (put kvs k v).map (fun p => num p.1) = if (look kvs k).isSome then kvs.map (fun p => num p.1) else kvs.map (fun p => num p.1) ++ [num k] := by
  unfold put
  split
  · rw [List.map_map]
    refine List.map_congr_left fun p hp => ?_
    show num (if num p.1 = num k then (p.1, v) else p).1 = num p.1
    split <;> rfl
  · rw [List.map_append] <;> rfl
theorem look_none {k : GV} : ∀ {kvs : List (GV × GV)}, look kvs k = none ↔ num k ∉ kvs.map fun p => num p.1
  | [] => by simp [look]
  | p :: r => by
    rw [look_cons, List.map_cons, List.mem_cons, not_or]
    by_cases hn : num p.1 = num k
    · rw [if_pos hn]
      simp [hn]
    · rw [if_neg hn, look_none (kvs := r)]
      exact ⟨fun h => ⟨fun e => hn e.symm, h⟩, fun h => h.2⟩
theorem put_nodup {kvs : List (GV × GV)} {k v : GV} (nd : (kvs.map fun p => num p.1).Nodup) : ((put kvs k v).map fun p => num p.1).Nodup := by
  rw [put_keys]
  split
  · exact nd
  · rename_i h
    have hn : look kvs k = none := by
      cases e : look kvs k with
      | none => rfl
      | some z => rw [e] at h; exact absurd rfl h
    exact List.nodup_append.mpr ⟨nd, by simp, fun a ha b hb e => look_none.mp hn (by rw [← List.mem_singleton.mp hb, ← e]; exact ha)⟩
theorem put_len {kvs : List (GV × GV)} {k v : GV} : (put kvs k v).length ≤ kvs.length + 1 := by
  unfold put
  split
  · rw [List.length_map]; exact Nat.le_succ _
  · rw [List.length_append]; exact Nat.le_refl _
theorem put_all {p : GV → Bool} {kvs : List (GV × GV)} {k v : GV} (h : (kvs.all fun q => p q.1) = true) (hk : p k = true) : ((put kvs k v).all fun q => p q.1) = true := by
  unfold put
  split
  · rw [List.all_map]
    refine List.all_eq_true.mpr fun q hq => ?_
    show p (if num q.1 = num k then (q.1, v) else q).1 = true
    split <;> exact List.all_eq_true.mp h q hq
  · rw [List.all_append, h]
    simp [hk]
end
/-! flat keys -/
def fkey : GV → Key
  | .int i => .inl i
  | .str x => .inr x
  | _ => .inl 0
def EntF (K : PySem.W.Frag) (μ : List Addr) (H : Hp) (x : Key × Value) (p : GV × GV) : Prop := x.1 = fkey p.1 ∧ ∃ vx, VM K μ H p.2 vx ∧ RelV vx x.2
theorem fkey_num {a b : GV} (ha : keyF a = true) (hb : keyF b = true) : fkey a = fkey b ↔ num a = num b := by
  rcases keyF_ok ha with ⟨i, rfl⟩ | ⟨x, rfl⟩ <;> rcases keyF_ok hb with ⟨j, rfl⟩ | ⟨y, rfl⟩ <;> simp [fkey, num]
section
variable {K : PySem.W.Frag} {w : World} {μ : List Addr} {H : Hp}
theorem fkey_is {P : Program} {k : GV} {x : V} {u : Value} (hk : keyF k = true) (r : VM K μ H k x) (ru : RelV x u) : (mixKind P w).is (fkey k) u = true := by
  rcases keyF_ok hk with ⟨i, rfl⟩ | ⟨x, rfl⟩
  · cases r
    exact kV_is (k := .inl i) ru
  · cases r
    exact kV_is (k := .inr x) ru
theorem fkey_hash {P : Program} {k : GV} (hk : keyF k = true) : NestedKey.hash w (nkey k) = (mixKind P w).hash (fkey k) := by
  rcases keyF_ok hk with ⟨i, rfl⟩ | ⟨x, rfl⟩ <;> rfl
theorem entsF {P : Program} : ∀ {es : List DictEntry} {kvs : List (GV × GV)}, Paired (EntM K w μ H) es kvs → (kvs.all fun p => keyF p.1) = true →
    ∃ vs : List (Key × Value), Pairs (mixKind P w) es vs ∧ (∀ e ∈ es, ∃ k, (mixKind P w).is k e.key = true ∧ e.hash = (mixKind P w).hash k) ∧ Paired (EntF K μ H) vs kvs
  | _, _, .nil, _ => ⟨[], .nil, (fun e he => nomatch he), .nil⟩
  | _, _, .cons (a := e) (b := p) ⟨h1, kx, vx, h2, h3, h4, h5⟩ t, h => by
    obtain ⟨hk, ht⟩ := all_cons h
    obtain ⟨vs, p1, p2, r⟩ := entsF (P := P) t ht
    have hi : (mixKind P w).is (fkey p.1) e.key = true := fkey_is hk h2 h3
    refine ⟨(fkey p.1, e.val) :: vs, .cons hi rfl p1, fun e' he => ?_, .cons ⟨rfl, vx, h4, h5⟩ r⟩
    rcases List.mem_cons.mp he with rfl | he
    · exact ⟨_, hi, h1.trans (fkey_hash hk)⟩
    · exact p2 e' he
theorem entF_keys : ∀ {xs : List (Key × Value)} {kvs : List (GV × GV)}, Paired (EntF K μ H) xs kvs → xs.map (·.1) = kvs.map fun p => fkey p.1
  | _, _, .nil => rfl
  | _, _, .cons h t => by rw [List.map_cons, List.map_cons, entF_keys t, h.1]
theorem nodup_keysF : ∀ {kvs : List (GV × GV)}, (kvs.all fun p => keyF p.1) = true → (kvs.map fun p => num p.1).Nodup → (kvs.map fun p => fkey p.1).Nodup
  | [], _, _ => .nil
  | p :: r, h, nd => by
    obtain ⟨h1, h2⟩ := all_cons h
    rw [List.map_cons, List.nodup_cons] at nd ⊢
    refine ⟨fun hm => nd.1 ?_, nodup_keysF h2 nd.2⟩
    obtain ⟨q, hq, e⟩ := List.mem_map.mp hm
    exact List.mem_map.mpr ⟨q, hq, (fkey_num (List.all_eq_true.mp h2 q hq) h1).mp e⟩
theorem valueAt_cons' (p : Key × Value) (r : List (Key × Value)) (k : Key) : valueAt (p :: r) k = if p.1 = k then some p.2 else valueAt r k := by
  unfold valueAt
  rw [List.find?_cons]
  by_cases h : p.1 = k
  · rw [decide_eq_true h, if_pos h] <;> rfl
  · rw [decide_eq_false h, if_neg h]
theorem lookF {k : GV} (hk : keyF k = true) : ∀ {xs : List (Key × Value)} {kvs : List (GV × GV)}, Paired (EntF K μ H) xs kvs → (kvs.all fun p => keyF p.1) = true →
    (look kvs k = none ∧ valueAt xs (fkey k) = none) ∨ ∃ v u vx, look kvs k = some v ∧ valueAt xs (fkey k) = some u ∧ VM K μ H v vx ∧ RelV vx u
  | _, _, .nil, _ => .inl ⟨rfl, rfl⟩
  | _, _, .cons (a := x) (b := p) (l₁ := xs) (l₂ := kvs) ⟨h1, vx, h3, h4⟩ t, h => by
    obtain ⟨g1, g2⟩ := all_cons h
    have e := fkey_num g1 hk
    rw [look_cons, valueAt_cons', h1]
    by_cases hn : num p.1 = num k
    · rw [if_pos hn, if_pos (e.mpr hn)]
      exact .inr ⟨_, x.2, vx, rfl, rfl, h3, h4⟩
    · rw [if_neg hn, if_neg fun z => hn (e.mp z)]
      exact lookF hk t g2
theorem any_valueAt (xs : List (Key × Value)) (k : Key) : (xs.any fun kv => decide (kv.1 = k)) = (valueAt xs k).isSome := by
  induction xs with
  | nil => rfl
  | cons x xs ih =>
    rw [List.any_cons, valueAt_cons', ih]
    by_cases h : x.1 = k
    · rw [decide_eq_true h, if_pos h] <;> rfl
    · rw [decide_eq_false h, if_neg h, Bool.false_or]
theorem putF {k v : GV} {vx : V} {u : Value} (hk : keyF k = true) (rv : VM K μ H v vx) (ru : RelV vx u) {xs : List (Key × Value)} {kvs : List (GV × GV)} (t : Paired (EntF K μ H) xs kvs) (h : (kvs.all fun p => keyF p.1) = true) :
    Paired (EntF K μ H) (stored xs (fkey k) u) (put kvs k v) := by
  unfold stored put
  have same : (valueAt xs (fkey k)).isSome = (look kvs k).isSome := by
    rcases lookF hk t h with ⟨e1, e2⟩ | ⟨_, _, _, e1, e2, _⟩ <;> rw [e1, e2] <;> rfl
  rw [any_valueAt, same]
  split
  · refine paired_map t fun x p hx hp ⟨h1, wx, h3, h4⟩ => ?_
    have e := fkey_num (List.all_eq_true.mp h p hp) hk
    by_cases hn : num p.1 = num k
    · rw [if_pos hn, if_pos (by rw [h1]; exact e.mpr hn)]
      exact ⟨h1, vx, rv, ru⟩
    · rw [if_neg hn, if_neg fun z => hn (e.mp (by rw [← h1]; exact z))]
      exact ⟨h1, wx, h3, h4⟩
  · exact paired_app t (.cons ⟨rfl, vx, rv, ru⟩ .nil)
/-- back to entries -/
theorem entsM_T {P : Program} : ∀ {xs : List (NestedKey × Addr × Value)} {kvs : List (GV × GV)}, Paired (EntT K μ H) xs kvs → Paired (EntM K w μ H) (xs.map (entryOfKey (nestedKind P w))) kvs
  | _, _, .nil => .nil
  | _, _, .cons ⟨h1, h2, vx, h3, h4⟩ t => by
    rw [List.map_cons]
    exact .cons ⟨congrArg (NestedKey.hash w) h1, _, vx, h2, rfl, h3, h4⟩ (entsM_T t)
theorem keyIs_relV {k : GV} {u : Value} {P : Program} (hk : keyF k = true) (h : (mixKind P w).is (fkey k) u = true) : ∃ x, VM K μ H k x ∧ RelV x u := by
  rcases keyF_ok hk with ⟨i, rfl⟩ | ⟨x, rfl⟩
  · rcases keyIs_shape (k := .inl i) (v := u) h with ⟨j, t, e, rfl⟩ | ⟨_, _, e, _⟩
    · cases e
      exact ⟨_, .int _, t, rfl⟩
    · cases e
  · rcases keyIs_shape (k := .inr x) (v := u) h with ⟨_, _, e, _⟩ | ⟨y, t, e, rfl⟩
    · cases e
    · cases e
      exact ⟨_, .str _, t, rfl⟩
theorem entsM_F {P : Program} : ∀ {es : List DictEntry} {xs : List (Key × Value)} {kvs : List (GV × GV)}, Pairs (mixKind P w) es xs → (∀ e ∈ es, ∃ k, (mixKind P w).is k e.key = true ∧ e.hash = (mixKind P w).hash k) → Paired (EntF K μ H) xs kvs → (kvs.all fun p => keyF p.1) = true → Paired (EntM K w μ H) es kvs
  | _, _, _, .nil, _, t, _ => by cases t; exact .nil
  | _, _, _, .cons (e := e) h1 h2 p, q, t, h => by
    cases t with
    | cons r t =>
      obtain ⟨r1, vx, r2, r3⟩ := r
      obtain ⟨hk, ht⟩ := all_cons h
      refine .cons ?_ (entsM_F p (fun e' he => q e' (List.mem_cons_of_mem _ he)) t ht)
      obtain ⟨k, k1, k2⟩ := q e (List.mem_cons_self ..)
      have ek := (mixKind P w).inj _ _ _ k1 h1
      rw [r1] at h1 ek
      obtain ⟨x, x1, x2⟩ := keyIs_relV (K := K) (μ := μ) (H := H) hk h1
      exact ⟨by rw [k2, ek, fkey_hash hk], x, vx, x1, x2, r2, by rw [h2]; exact r3⟩
end
end Pv
end Pv_H
section Pv_I
set_option Elab.async false
set_option linter.all false
set_option maxRecDepth 10000
namespace Pv
open PySem PySem.Spec PyProof.Rows
open L2
open GV

section
variable {X : Cx} {pins : List (Addr × Obj)} {σ : L2.St} {H : Hp} {s : Shared} {μ : List Addr} {a : Addr} {kvs : List (GV × GV)} {nm : Nm} {h : GH}
theorem paired_mem {α β : Type} {F : α → β → Prop} : ∀ {l : List α} {m : List β}, Paired F l m → ∀ a ∈ l, ∃ b ∈ m, F a b
  | _, _, .nil, a, h => nomatch h
  | _, _, .cons r t, a, h => by
    rcases List.mem_cons.mp h with rfl | h
    · exact ⟨_, List.mem_cons_self .., r⟩
    · obtain ⟨b, hb, f⟩ := paired_mem t a h
      exact ⟨b, List.mem_cons_of_mem _ hb, f⟩
theorem dct_obj (I : Inv X pins σ H s) {o : Obj} (e : H a = some (dctO a o)) : s.heap.get? a = some o := (I.hok a _ e).1
theorem dctT (I : Inv X pins σ H s) (D : DctM X.K X.w μ H a kvs) (k : (kvs.all fun p => keyT p.1) = true) : ∃ xs, s.heap.DictOfH (nestedKind X.prog X.w) a xs ∧ Paired (EntT X.K μ H) xs kvs := by
  obtain ⟨o, es, ep, e1, e2, e3, r⟩ := D.obj
  obtain ⟨xs, ex, t⟩ := entsT (P := X.prog) r k
  refine ⟨xs, ⟨o, es, ep, dct_obj I e1, e2, e3, ex, fun x hx => ?_, ?_⟩, t⟩
  · obtain ⟨p, hp, f1, f2, _⟩ := paired_mem t x hx
    have ok := keyT_ok (List.all_eq_true.mp k p hp)
    rw [f1]
    exact ⟨nested_is I 7 p.1 _ _ ok f2 rfl, Nat.le_trans (nkey_depth 7 p.1 ok) (by decide)⟩
  · rw [entT_keys t]
    exact nodup_keysT k D.nd
theorem dctF (I : Inv X pins σ H s) (D : DctM X.K X.w μ H a kvs) (k : (kvs.all fun p => keyF p.1) = true) : ∃ xs, s.heap.DictOf (mixKind X.prog X.w) a xs ∧ Paired (EntF X.K μ H) xs kvs := by
  obtain ⟨o, es, ep, e1, e2, e3, r⟩ := D.obj
  obtain ⟨xs, p1, p2, t⟩ := entsF (P := X.prog) r k
  refine ⟨xs, ⟨o, es, ep, dct_obj I e1, e2, e3, fun e he => p2 e (by simpa using he), p1, ?_⟩, t⟩
  rw [entF_keys t]
  exact nodup_keysF k D.nd
theorem keyOk_or {k : GV} (h : keyOk kvs k = true) : (keyT k = true ∧ (kvs.all fun p => keyT p.1) = true) ∨ (keyF k = true ∧ (kvs.all fun p => keyF p.1) = true) := by
  unfold keyOk at h
  rw [Bool.or_eq_true, Bool.and_eq_true, Bool.and_eq_true] at h
  exact h
theorem key_ref {k : GV} {x : V} (hk : keyT k = true) (r : VM X.K μ H k x) : ∃ b, x = .ref b := by
  cases k <;> simp [keyT] at hk
  cases r
  exact ⟨_, rfl⟩
theorem key_is (I : Inv X pins σ H s) {k : GV} {b : Addr} (hk : keyT k = true) (r : VM X.K μ H k (.ref b)) : (nestedKind X.prog X.w).is s.heap (nkey k) b :=
  ⟨nested_is I 7 k _ _ (keyT_ok hk) r rfl, Nat.le_trans (nkey_depth 7 k (keyT_ok hk)) (by decide)⟩
/-- a dict that is asked -/
structure Asked (K : PySem.W.Frag) (w : World) (nm : Nm) (x y : V) (H : Hp) (kvs : List (GV × GV)) (k : GV) : Prop where
  ex : ∃ μ a, y = .ref a ∧ DctM K w μ H a kvs ∧ VM K μ H k x
  ok : keyOk kvs k = true
def rDIn (K : PySem.W.Frag) (w : World) (nm : Nm) (neg : Bool) : R2 := fun x y H Q => ∃ kvs k, Asked K w nm x y H kvs k ∧ Q (.bl (if neg then !(look kvs k).isSome else (look kvs k).isSome)) H
theorem op_dIn (hu : X.A.units + 65 < cLine) : OpR X (compareOp .In) (rDIn X.K X.w nm false) := by
  intro pins s σ H x y v u Q I rx ry q
  obtain ⟨kvs, k, ⟨⟨μ, a, rfl, D, r⟩, hk⟩, q⟩ := q
  cases ry
  rcases keyOk_or hk with ⟨k1, k2⟩ | ⟨k1, k2⟩
  · obtain ⟨b, rfl⟩ := key_ref k1 r
    cases rx
    obtain ⟨xs, dd, t⟩ := dctT I D k2
    refine wpAny_in_heap (show X.A.units + 1 + 8 < cLine by omega) (key_is I k1 r) D.sys dd ?_
    refine ⟨.bl (look kvs k).isSome, H, I.tok _, ?_, q⟩
    rcases lookT k1 t k2 with ⟨e1, e2⟩ | ⟨_, _, _, _, e1, e2, _⟩ <;> rw [e1, e2] <;> rfl
  · obtain ⟨xs, dd, t⟩ := dctF I D k2
    refine wpAny_in_of (fkey_is k1 r rx) D.sys dd.mapOf ?_
    refine ⟨.bl (look kvs k).isSome, H, I.tok _, ?_, q⟩
    rcases lookF k1 t k2 with ⟨e1, e2⟩ | ⟨_, _, _, e1, e2, _⟩ <;> rw [e1, e2] <;> rfl
theorem op_dNotIn (hu : X.A.units + 65 < cLine) : OpR X (compareOp .NotIn) (rDIn X.K X.w nm true) := by
  intro pins s σ H x y v u Q I rx ry q
  obtain ⟨kvs, k, ⟨⟨μ, a, rfl, D, r⟩, hk⟩, q⟩ := q
  cases ry
  rcases keyOk_or hk with ⟨k1, k2⟩ | ⟨k1, k2⟩
  · obtain ⟨b, rfl⟩ := key_ref k1 r
    cases rx
    obtain ⟨xs, dd, t⟩ := dctT I D k2
    refine wpAny_notIn_heap (show X.A.units + 1 + 8 < cLine by omega) (key_is I k1 r) D.sys dd ?_
    refine ⟨.bl (!(look kvs k).isSome), H, I.tok _, ?_, q⟩
    rcases lookT k1 t k2 with ⟨e1, e2⟩ | ⟨_, _, _, _, e1, e2, _⟩ <;> rw [e1, e2] <;> rfl
  · obtain ⟨xs, dd, t⟩ := dctF I D k2
    refine wpAny_notIn_of (fkey_is k1 r rx) D.sys dd.mapOf ?_
    refine ⟨.bl (!(look kvs k).isSome), H, I.tok _, ?_, q⟩
    rcases lookF k1 t k2 with ⟨e1, e2⟩ | ⟨_, _, _, e1, e2, _⟩ <;> rw [e1, e2] <;> rfl
theorem dct_type (I : Inv X pins σ H s) (D : DctM X.K X.w μ H a kvs) : s.TypeIs (.ref a) "dict" := by
  obtain ⟨o, es, ep, e1, e2, e3, r⟩ := D.obj
  exact ⟨o, dct_obj I e1, e2.1⟩
/-- d[k] -/
def rDIx (K : PySem.W.Frag) (w : World) (nm : Nm) : R2 := fun x y H Q => ∃ kvs k g, Asked K w nm y x H kvs k ∧ look kvs k = some g ∧ ∀ μ z, (∃ a, x = .ref a ∧ DctM K w μ H a kvs) → VM K μ H g z → Q z H
theorem d_get (hu : X.A.units + 65 < cLine) (I : Inv X pins σ H s) (D : DctM X.K X.w μ H a kvs) {k g : GV} {y : V} {u : Value} {Q : Value → Shared → Prop} (hk : keyOk kvs k = true) (r : VM X.K μ H k y) (ry : RelV y u) (hg : look kvs k = some g)
    (q : ∀ z w' s', Inv X pins σ H s' → VM X.K μ H g z → RelV z w' → Q w' s') : wpAny (model X.prog X.w) X.A (getItem (.ref a) u) Q X.xe s := by
  rcases keyOk_or hk with ⟨k1, k2⟩ | ⟨k1, k2⟩
  · obtain ⟨b, rfl⟩ := key_ref k1 r
    cases ry
    obtain ⟨xs, dd, t⟩ := dctT I D k2
    rcases lookT k1 t k2 with ⟨e1, e2⟩ | ⟨g', b', u', vx, e1, e2, e3, e4⟩
    · rw [hg] at e1
      cases e1
    · rw [hg] at e1
      cases e1
      exact wpAny_getItem_heap (show X.A.units + 1 + 8 < cLine by omega) (key_is I k1 r) dd e2 (q vx u' _ (I.tok _) e3 e4)
  · obtain ⟨xs, dd, t⟩ := dctF I D k2
    rcases lookF k1 t k2 with ⟨e1, e2⟩ | ⟨g', u', vx, e1, e2, e3, e4⟩
    · rw [hg] at e1
      cases e1
    · rw [hg] at e1
      cases e1
      exact wpAny_getItem_of (fkey_is k1 r ry) dd.mapOf e2 (q vx u' _ (I.tok _) e3 e4)
/-- d[k] = v -/
theorem d_set (hu : X.A.units + 65 < cLine) (I : Inv X pins σ H s) (D : DctM X.K X.w μ H a kvs) {k g : GV} {y z : V} {u r' : Value} {Q : Unit → Shared → Prop} (hk : keyOk kvs k = true) (hl : kvs.length < sizeLine) (r : VM X.K μ H k y) (ry : RelV y u) (rg : VM X.K μ H g z) (rz : RelV z r')
    (q : ∀ o s', Inv X pins σ (upd H a (dctO a o)) s' → (∃ es ep, o.ExactDict ∧ o.data = .dict es ep ∧ Paired (EntM X.K X.w μ H) es.toList (put kvs k g)) → Q () s') : wpAny (model X.prog X.w) X.A (setItem (.ref a) u r') Q X.xe s := by
  obtain ⟨o0, es0, ep0, e01, e02, e03, r0⟩ := D.obj
  have mu : Mut (H a) := by rw [e01]; exact trivial
  have wr : ∀ {h' : Heap} {o : Obj} {t : Nat}, Heap.SameBut a s.heap h' → h'.get? a = some o → Inv X pins σ (upd H a (dctO a o)) { s with heap := h', toks := t } := fun {h' o t} sb ho =>
    d_write (ob := dctO a o) I mu sb ⟨o, ho⟩ ⟨ho, ⟨o, ho⟩, fun h1 h2 p1 p2 => p2 o p1⟩
  rcases keyOk_or hk with ⟨k1, k2⟩ | ⟨k1, k2⟩
  · obtain ⟨b, rfl⟩ := key_ref k1 r
    cases ry
    obtain ⟨xs, dd, t⟩ := dctT I D k2
    have hz : xs.length ≤ sizeLine := by rw [Paired.len t]; omega
    refine wpAny_setItem_heap (hsz := hz) (show X.A.units + 1 + 8 < cLine by omega) (key_is I k1 r) dd fun h' dd' hs => ?_
    obtain ⟨o, es, ep, h1, h2, h3, h4, _⟩ := dd'
    refine q o _ (wr hs h1) ⟨es, ep, h2, h3, ?_⟩
    rw [h4]
    exact entsM_T (putT k1 r rg rz t k2)
  · obtain ⟨xs, dd, t⟩ := dctF I D k2
    have hz : xs.length ≤ sizeLine := by rw [Paired.len t]; omega
    refine wpAny_setItem_pairs (hsz := hz) (fkey_is k1 r ry) dd fun h' dd' hs => ?_
    obtain ⟨o, es, ep, h1, h2, h3, h4, h5, _⟩ := dd'
    refine q o _ (wr hs h1) ⟨es, ep, h2, h3, ?_⟩
    exact entsM_F h5 (fun e he => h4 e (by simpa using he)) (putF k1 rg rz t k2) (put_all k2 k1)
theorem put_kind {k v : GV} (h : keyOk kvs k = true) : ((put kvs k v).all fun p => keyT p.1) = true ∨ ((put kvs k v).all fun p => keyF p.1) = true := by
  rcases keyOk_or h with ⟨k1, k2⟩ | ⟨k1, k2⟩
  · exact .inl (put_all k2 k1)
  · exact .inr (put_all k2 k1)
end

section
variable {C : Cc}
theorem flat_V {K : PySem.W.Frag} {μ : List Addr} {H : Hp} {v : GV} {x : V} (r : VM K μ H v x) (h : flatG v = true) : flatV x = true := by
  cases r <;> first | rfl | simp [flatG] at h
theorem flat_Vs {K : PySem.W.Frag} {μ : List Addr} {H : Hp} : ∀ {vs : List GV} {xs : List V}, VMs K μ H vs xs → (vs.all flatG) = true → (xs.all flatV) = true
  | _, _, .nil, _ => rfl
  | _, _, .cons r t, h => by
    rw [List.all_cons, Bool.and_eq_true] at h ⊢
    exact ⟨flat_V r h.1, flat_Vs t h.2⟩
theorem eq_flat {K : PySem.W.Frag} {μ : List Addr} {H : Hp} {v u : GV} {x y : V} (r : VM K μ H v x) (r' : VM K μ H u y) (h : flatG v = true) (h' : flatG u = true) : L2.eqV x y = decide (num v = num u) := by
  cases r <;> simp [flatG] at h <;> cases r' <;> simp [flatG] at h' <;> simp [L2.eqV, num, Bool.beq_eq_decide_eq]
  case bl.bl b1 b2 => cases b1 <;> cases b2 <;> simp
theorem any_flat {K : PySem.W.Frag} {μ : List Addr} {H : Hp} {u : GV} {y : V} (r' : VM K μ H u y) (h' : flatG u = true) : ∀ {vs : List GV} {xs : List V}, VMs K μ H vs xs → (vs.all flatG) = true → inV y xs = vs.any fun v => decide (num v = num u)
  | _, _, .nil, _ => rfl
  | _, _, .cons r t, h => by
    rw [List.all_cons, Bool.and_eq_true] at h
    have e := any_flat r' h' t h.2
    unfold inV at e ⊢
    rw [List.any_cons, List.any_cons, e, eq_flat r r' h.1 h']
theorem any_deep (n : Nat) {u : GV} (hu : okN n u = true) : ∀ {vs : List GV}, oksN n vs = true → ((dats vs).any fun z => PyData.eqv z (dat u)) = vs.any fun v => decide (num v = num u)
  | [], _ => rfl
  | v :: vs, h => by
    rw [oksN, Bool.and_eq_true] at h
    rw [dats, List.any_cons, List.any_cons, any_deep n hu h.2, eqv_num n v u h.1 hu]
def rInS (nm : Nm) (X : Cx) : R2 := fun x y H Q => (rIn X.K false x y H Q ∨ rInD X.K x y H Q) ∨ rDIn X.K X.w nm false x y H Q
def rNinS (nm : Nm) (X : Cx) : R2 := fun x y H Q => (rIn X.K true x y H Q ∨ rNotInD X.K x y H Q) ∨ rDIn X.K X.w nm true x y H Q
theorem in_all {X : Cx} {μ : List Addr} {h : GH} {H : Hp} {v u : GV} {x y : V} {b : Bool} {nm : Nm} (m : MHeap X.K X.w nm μ h H) (r1 : VM X.K μ H v x) (r2 : VM X.K μ H u y) (e : opIn v u h = some b) :
    ((∃ p xs, y = .ref p ∧ (SqL X.K H p xs ∨ SqT X.K H p xs) ∧ flatV x = true ∧ xs.all flatV = true ∧ inV x xs = b) ∨ (∃ d ds, Dp X.K H x d ∧ Dp X.K H y (.list ds) ∧ SeqAt.shaped d = true ∧ SeqAt.shaped (.list ds) = true ∧ (ds.any fun z => PyData.eqv z d) = b)) ∨
      ∃ kvs k, Asked X.K X.w nm x y H kvs k ∧ (look kvs k).isSome = b := by
  unfold opIn at e
  split at e
  · split at e
    · rename_i hk
      cases r2 with
      | tup q t => exact .inl (.inl ⟨_, _, rfl, .inr q, flat_V r1 hk.1, flat_Vs t hk.2, by rw [any_flat r1 hk.1 t hk.2]; exact Option.some.inj e⟩)
    · cases e
  · split at e
    · rename_i n _ xs e1
      split at e
      · rename_i hk
        cases r2 with
        | ref q =>
          obtain ⟨zs, z1, z2⟩ := m.obj _ _ _ q e1
          have l1 := lays_of 40 xs hk.2
          refine .inl (.inr ⟨_, _, dp_of 40 v x hk.1 r1, .lst (SqL.of z1) (dps_of 40 xs zs hk.2 z2), shaped_of (by decide) hk.1, ?_, by rw [any_deep 40 hk.1 hk.2]; exact Option.some.inj e⟩)
          unfold SeqAt.shaped
          rw [PyData.canLay0, PyData.depth, l1.1, decide_eq_true (show PyData.depthAll (dats xs) + 1 ≤ 64 by have := l1.2; omega)]
          rfl
      · cases e
    · rename_i n _ kvs e1
      split at e
      · rename_i hk
        cases r2 with
        | ref q => exact .inr ⟨kvs, v, ⟨⟨μ, _, rfl, m.obj _ _ _ q e1, r1⟩, hk⟩, Option.some.inj e⟩
      · cases e
    · cases e
  · cases e
theorem in_rule : OpS C .inn (rInS C.nm) := fun G d E X k μ h H v u x y Q m r1 r2 o => by
  change Out X.K X.w C.nm (VM X.K) (match opIn v u h with | some k => .ok (.bl k) h | none => .bad) μ H E Q at o
  split at o
  · rename_i b e
    have q := o.pure m (.bl b)
    rcases in_all m r1 r2 e with (⟨p, xs, h1, h2, h3, h4, h5⟩ | ⟨d1, ds, h1, h2, h3, h4, h5⟩) | ⟨kvs, gk, h1, h2⟩
    · exact .inl (.inl ⟨p, xs, h1, h2, h3, h4, by rw [h5]; exact q⟩)
    · exact .inl (.inr ⟨d1, ds, h1, h2, h3, h4, by rw [h5]; exact q⟩)
    · exact .inr ⟨kvs, gk, h1, by rw [h2]; exact q⟩
  · exact o.elim
theorem nin_rule : OpS C .nin (rNinS C.nm) := fun G d E X k μ h H v u x y Q m r1 r2 o => by
  change Out X.K X.w C.nm (VM X.K) (match opIn v u h with | some k => .ok (.bl (!k)) h | none => .bad) μ H E Q at o
  split at o
  · rename_i b e
    have q := o.pure m (.bl (!b))
    rcases in_all m r1 r2 e with (⟨p, xs, h1, h2, h3, h4, h5⟩ | ⟨d1, ds, h1, h2, h3, h4, h5⟩) | ⟨kvs, gk, h1, h2⟩
    · exact .inl (.inl ⟨p, xs, h1, h2, h3, h4, by rw [h5]; exact q⟩)
    · exact .inl (.inr ⟨d1, ds, h1, h2, h3, h4, by rw [h5]; exact q⟩)
    · exact .inr ⟨kvs, gk, h1, by rw [h2]; exact q⟩
  · exact o.elim
theorem snd_in {a b : Expr} {ia ib : Ex} {pos : Pos} (sa : SndE C a ia) (sb : SndE C b ib) (hm : behindInMarks .In b = false) : SndE C (.Compare a [.In] [b] pos) (.op .inn ia ib) :=
  snd_cmp (fun G d E X k => (op_in_seq.or (op_inD (Room.u64 k.room))).or (op_dIn (Room.u64 k.room))) in_rule sa sb hm
theorem snd_nin {a b : Expr} {ia ib : Ex} {pos : Pos} (sa : SndE C a ia) (sb : SndE C b ib) (hm : behindInMarks .NotIn b = false) : SndE C (.Compare a [.NotIn] [b] pos) (.op .nin ia ib) :=
  snd_cmp (fun G d E X k => (op_notIn_seq.or (op_notInD (Room.u64 k.room))).or (op_dNotIn (Room.u64 k.room))) nin_rule sa sb hm
end
end Pv
end Pv_I
section Pv_J
set_option Elab.async false
set_option linter.all false
set_option maxRecDepth 10000
namespace Pv
open PySem PySem.Spec PyProof.Rows
open L2
open GV

def notStar : Expr → Bool
  | .Starred _ _ => false
  | _ => true
theorem star_of {e : Expr} (h : notStar e = true) (es : List Expr) (env : PySem.Env) : starEach (e :: es) env = (false, eval e env) :: starEach es env := by
  cases e <;> first | rfl | cases h
def plainBase : Expr → Bool
  | .Call _ _ _ _ => false
  | _ => true
theorem base_of {e : Expr} (h : plainBase e = true) (f : Str) (env : PySem.Env) : attributeBase e f env (eval e env) = eval e env := by
  cases e <;> first | rfl | cases h
def notSlice : Expr → Bool
  | .Slice _ _ _ _ => false
  | _ => true
theorem plainIx_of {e : Expr} (h : notSlice e = true) : PlainIx e := fun o i => by
  cases e <;> first | rfl | cases h
/-- the truth of an expression's value is its test -/
def plainTest : Expr → Bool
  | .BoolOp _ _ _ => false
  | .UnaryOp .Not _ _ => false
  | .Compare _ _ _ _ => false
  | .IfExp _ _ _ _ => false
  | .NamedExpr _ _ _ => false
  | .Constant _ _ _ => false
  | .Tuple _ _ _ => false
  | .Await _ _ => false
  | _ => true

section
variable {C : Cc}
/-! ### items -/
section
variable {X : Cx} {nm : Nm}
def rDix (K : PySem.W.Frag) (w : World) : R2 := fun x y H Q => ∃ μ a kvs k g, x = .ref a ∧ DctM K w μ H a kvs ∧ VM K μ H k y ∧ keyOk kvs k = true ∧ look kvs k = some g ∧ ∀ z, VM K μ H g z → Q z H
theorem ix_dct (hu : X.A.units + 65 < cLine) : IxR X (rDix X.K X.w) := by
  intro value slice pins s σ H x y v u Q I rx ry q hs
  obtain ⟨μ, a, kvs, k, g, rfl, D, r, hk, hg, q⟩ := q
  cases rx
  have ty := dct_type I D
  have run : wpAny (model X.prog X.w) X.A (getItem (.ref a) u) (EP X pins σ Q) X.xe s := d_get hu I D hk r ry hg fun z w' s' I' rz rz' => ⟨z, H, I', rz', q z rz⟩
  unfold subscriptTail
  refine wpAny_bind ?_
  rw [getitemInPython_of_ne ty.not_modules]
  refine wpAny_bind (wpAny_specialOf ty PySem.F.slot_dict_getitem.lookup ?_)
  have last : wpAny (model X.prog X.w) X.A (subscripted slice false (.ref a) u) (fun r3 s3 => wpAny (model X.prog X.w) X.A (letTemporaryGo value (.ref a) r3 >>= fun _ => pure r3) (EP X pins σ Q) X.xe s3) X.xe s := by
    rw [hs]
    exact wpAny_operating (thn run fun r3 s3 h3 => wpAny_bind (wpAny_letTemporaryGo (wpAny_pure h3)))
  first
    | exact wpAny_pure (wpAny_bind last)
    | exact wpAny_bind (wpAny_pure (wpAny_bind last))
    | exact wpAny_bind last
end
theorem idx_rule : OpS C .idx (fun X x y H Q => rIx X.K x y H Q ∨ rDix X.K X.w x y H Q) := fun G d E X k μ h H v u x y Q m r1 r2 o => by
  change Out X.K X.w C.nm (VM X.K) (opIdx v u h) μ H E Q at o
  unfold opIdx at o
  split at o
  · rename_i xs
    split at o
    · rename_i i
      split at o
      · rename_i g e
        cases r1 with
        | @tup a _ zs q t =>
          cases r2
          obtain ⟨j, h1, h2, h3, h4, h5⟩ := atI_get e
          obtain ⟨z, z1, z2⟩ := t.get h2
          have l := t.length
          exact .inl (.inr (.inl ⟨a, zs, i, z, rfl, rfl, q, by
            unfold atI at e ⊢
            rw [← l]
            obtain ⟨j', f1, f2⟩ := Option.bind_eq_some_iff.mp e
            obtain ⟨z', z1', z2'⟩ := t.get f2
            have : j' = j := by
              have a1 := (ixN_seq f1).1
              rw [h1] at a1
              exact (Option.some.inj a1).symm
            subst this
            rw [f1]
            exact z1, o.pure m z2⟩))
      · exact o.elim
    · exact o.elim
  · rename_i s0
    split at o
    · rename_i i
      split at o
      · rename_i g e
        split at o
        · rename_i hl
          cases r1
          cases r2
          exact .inl (.inr (.inr ⟨s0, i, g, rfl, rfl, by rw [← szL_eq]; exact hl, e, o.pure m (.str _)⟩))
        · exact o.elim
      · exact o.elim
    · exact o.elim
  · rename_i n
    split at o
    · rename_i xs e1
      split at o
      · rename_i i
        split at o
        · rename_i g e
          cases r1 with
          | @ref _ a q =>
            cases r2
            obtain ⟨zs, y1, t⟩ := m.obj _ _ _ q e1
            obtain ⟨j, h1, h2, h3, h4, h5⟩ := atI_get e
            obtain ⟨z, z1, z2⟩ := t.get h2
            have l := t.length
            exact .inl (.inl ⟨a, zs, i, z, rfl, rfl, SqL.of y1, by
              unfold atI at e ⊢
              rw [← l]
              obtain ⟨j', f1, f2⟩ := Option.bind_eq_some_iff.mp e
              have : j' = j := by
                have a1 := (ixN_seq f1).1
                rw [h1] at a1
                exact (Option.some.inj a1).symm
              subst this
              rw [f1]
              exact z1, o.pure m z2⟩)
        · exact o.elim
      · exact o.elim
    · rename_i kvs e1
      split at o
      · rename_i hk
        split at o
        · rename_i g e
          cases r1 with
          | @ref _ a q => exact .inr ⟨μ, a, kvs, u, g, rfl, m.obj _ _ _ q e1, r2, hk, e, fun z rz => o.pure m rz⟩
        · exact o.elim
      · exact o.elim
    · exact o.elim
  · exact o.elim
theorem snd_idx {a b : Expr} {ia ib : Ex} {pos : Pos} (sa : SndE C a ia) (sb : SndE C b ib) (hs : notSlice b = true) : SndE C (.Subscript a b pos) (.op .idx ia ib) := fun G d E X k =>
  PE.weak (pe_ix (ix_seq.or (ix_dct (Room.u64 k.room))) (sa G d E X k) (sb G d E X k) (plainIx_of hs)) fun σ H Q h => snd_opT (idx_rule (C := C)) sa sb k h

/-! ### slices -/
def SndO (C : Cc) (e : Option Expr) (io : OEx) : Prop := ∀ G d E X, Ok C G d E X → PO X e (fun σ H Q => ∃ env h μ, MEnv X.K μ H env σ ∧ MHeap X.K X.w C.nm μ h H ∧ Out X.K X.w C.nm (fun _ _ a b => a = b) (evO (callF G d) io env h) μ H E Q)
theorem PO.weak {X : Cx} {e : Option Expr} {t t' : TO} (p : PO X e t) (f : ∀ σ H Q, t' σ H Q → t σ H Q) : PO X e t' := ⟨fun pins s σ H Q I h => p.run pins s σ H Q I (f σ H Q h)⟩
theorem snd_ono : SndO C none .non := fun G d E X k => PO.weak po_none fun σ H Q ⟨env, h, μ, me, m, o⟩ => by
  rw [evO] at o
  exact o.pure m rfl
theorem snd_osome {e : Expr} {ie : Ex} (a : SndE C e ie) : SndO C (some e) (.som ie) := fun G d E X k => PO.weak (po_some (a G d E X k)) fun σ H Q ⟨env, h, μ, me, m, o⟩ => by
  rw [evO] at o
  refine ⟨env, h, μ, me, m, Out.bindM o fun μ1 H1 h1 v x g1 m1 r1 o1 => ?_⟩
  split at o1
  · cases r1
    exact ⟨_, rfl, o1.pure m1 rfl⟩
  · exact o1.elim
theorem cut_vms {K : PySem.W.Frag} {μ : List Addr} {H : Hp} {gs : List GV} {xs : List V} (t : VMs K μ H gs xs) (lo hi : Option Int) : VMs K μ H (cutG gs lo hi) (cutV xs lo hi) := by
  unfold cutG cutV
  rw [t.length]
  exact (t.drop _).take _
theorem snd_slc {e : Expr} {lo hi : Option Expr} {ie : Ex} {il ih : OEx} {pos p2 : Pos} (a : SndE C e ie) (bl : SndO C lo il) (bh : SndO C hi ih) : SndE C (.Subscript e (.Slice lo hi none p2) pos) (.slc ie il ih) := fun G d E X k => by
  refine PE.weak (pe_slice (sl_tupA.or sl_list) (a G d E X k) (bl G d E X k) (bh G d E X k)) fun σ H Q ⟨env, h, μ, me, m, o⟩ => ?_
  rw [evE] at o
  refine ⟨env, h, μ, me, m, Out.bindM o fun μ1 H1 h1 v x g1 m1 r1 o1 => ?_⟩
  refine ⟨env, h1, μ1, me.grow m g1, m1, Out.bindM (R := fun _ _ a b => a = b) o1 fun μ2 H2 h2 l l' g2 m2 e2 o2 => ?_⟩
  subst e2
  refine ⟨env, h2, μ2, (me.grow m g1).grow m1 g2, m2, Out.bindM (R := fun _ _ a b => a = b) o2 fun μ3 H3 h3 u u' g3 m3 e3 o3 => ?_⟩
  subst e3
  have r3 := (r1.grow m1 g2).grow m2 g3
  unfold opSlc at o3
  split at o3
  · cases r3 with
    | @frl a0 _ zs q t =>
      refine .inr ⟨a0, zs, rfl, q.sql, fun p hp => ?_⟩
      have g := Grow.alloc (ho := .lst (cutV zs l u)) m3 hp
      exact o3.at g (MHeap.alloc m3 hp ⟨_, upd_same, cut_vms (t.grow m3 g) l u⟩) (.ref (alloc_ref m3))
  · rename_i gs
    cases r3 with
    | @tup a0 _ zs q t =>
      refine .inl ⟨a0, zs, rfl, q, fun hw => ?_, fun hw p hp => ?_⟩
      · refine o3.pure m3 (.tup q ?_)
        have e1 : cutG gs l u = gs := by
          unfold cutG
          rw [t.length, hw.1, hw.2, ← t.length]
          simp
        rw [e1]
        exact t
      · have g := Grow.side (ho := .tup (cutV zs l u)) m3 hp
        exact o3.at g (MHeap.side m3 hp) (.tup (SqT.of upd_same) (cut_vms (t.grow m3 g) l u))
  · split at o3
    · rename_i n _ xs e1
      cases r3 with
      | @ref _ a0 q =>
        obtain ⟨zs, y1, t⟩ := m3.obj _ _ _ q e1
        refine .inr ⟨a0, zs, rfl, SqL.of y1, fun p hp => ?_⟩
        have g := Grow.alloc (ho := .lst (cutV zs l u)) m3 hp
        exact o3.at g (MHeap.alloc m3 hp ⟨_, upd_same, cut_vms (t.grow m3 g) l u⟩) (.ref (alloc_ref m3))
    · exact o3.elim
  · exact o3.elim

/-! ### fields -/
theorem lookup_flds {K : PySem.W.Frag} {nm : Nm} {μ : List Addr} {H : Hp} (inj : ∀ a b, nm a = nm b → a = b) {f : Nat} {v : GV} : ∀ {fs : List (Nat × GV)} {fs' : List (Str × V)}, Paired (FldM K nm μ H) fs fs' → fs.lookup f = some v → ∃ x, fs'.lookup (nm f) = some x ∧ VM K μ H v x
  | _, _, .nil, e => by cases e
  | _, _, .cons (a := p) (b := q) (l₁ := fs) ⟨r1, r2⟩ t, e => by
    obtain ⟨i, g⟩ := p
    obtain ⟨n, x⟩ := q
    have r1 : nm i = n := r1
    subst r1
    by_cases hf : f = i
    · subst hf
      rw [List.lookup_cons, beq_self_eq_true] at e
      cases e
      exact ⟨x, by rw [List.lookup_cons, beq_self_eq_true], r2⟩
    · rw [List.lookup_cons, beq_eq_false_iff_ne.mpr hf] at e
      obtain ⟨y, y1, y2⟩ := lookup_flds inj t e
      exact ⟨y, by rw [List.lookup_cons, beq_eq_false_iff_ne.mpr fun z => hf (inj _ _ z)]; exact y1, y2⟩
theorem snd_fld {e : Expr} {ie : Ex} {f : Str} {cs : List Nat} {j : Nat} {pos : Pos} (a : SndE C e ie) (hb : plainBase e = true) (hn : C.nm j = f) (hc : ∀ c ∈ cs, (c, j) ∈ C.attrs) : SndE C (.Attribute e f pos) (.fld ie cs j) := fun G d E X k => by
  refine PE.weak (pe_fld (a G d E X k) (base_of hb f X.env)) fun σ H Q ⟨env, h, μ, me, m, o⟩ => ?_
  rw [evE] at o
  refine ⟨env, h, μ, me, m, Out.bindM o fun μ1 H1 h1 v x g1 m1 r1 o1 => ?_⟩
  unfold opFld at o1
  split at o1
  · split at o1
    · rename_i n _ c fs e1
      split at o1
      · rename_i hin
        split at o1
        · rename_i g e2
          cases r1 with
          | @ref _ a0 q =>
            obtain ⟨dx, fs', y1, t⟩ := m1.obj _ _ _ q e1
            obtain ⟨y, y2, y3⟩ := lookup_flds C.inj t e2
            obtain ⟨k1, k2⟩ := k.attr _ (hc c hin)
            rw [hn] at k2 y2
            exact ⟨a0, _, dx, fs', y, rfl, y1, k1, k2, y2, o1.pure m1 y3⟩
        · exact o1.elim
      · exact o1.elim
    · exact o1.elim
  · exact o1.elim

/-! ### truth -/
theorem tru_of {K : PySem.W.Frag} {w : World} {nm : Nm} {μ : List Addr} {H : Hp} {h : GH} {v : GV} {x : V} {b : Bool} (m : MHeap K w nm μ h H) (r : VM K μ H v x) (e : truth v h = some b) : TruV K x H b := by
  unfold truth at e
  split at e
  · cases r
    exact (Option.some.inj e).symm
  · cases r
    exact (Option.some.inj e).symm
  · cases r
    exact (Option.some.inj e).symm
  · split at e
    · rename_i hl
      cases r
      refine ⟨by rw [← szL_eq]; exact hl, (Option.some.inj e).symm.trans ?_⟩
      rename_i y
      cases hz : y.length <;> simp
      omega
    · cases e
  · cases r with
    | tup q t => exact .inr (.inl ⟨_, q, by rw [t.empty]; exact (Option.some.inj e).symm⟩)
  · split at e
    · rename_i n _ xs e1
      cases r with
      | ref q =>
        obtain ⟨zs, y1, t⟩ := m.obj _ _ _ q e1
        exact .inl ⟨zs, SqL.of y1, by rw [t.empty]; exact (Option.some.inj e).symm⟩
    · cases e
  · cases e
  · cases e
theorem rdT_out {X : Cx} {E : XK} {cl : Calls} {ie : Ex} {σ : L2.St} {H : Hp} {Q : Bool → Hp → Prop} (h : rdT X.K X.w C.nm E cl ie σ H Q) : rdE X.K X.w C.nm E cl ie σ H fun x H' => ∃ b, TruV X.K x H' b ∧ Q b H' := by
  obtain ⟨env, h, μ, me, m, o⟩ := h
  unfold evT at o
  refine ⟨env, h, μ, me, m, Out.bindM o fun μ1 H1 h1 v x g1 m1 r1 o1 => ?_⟩
  split at o1
  · rename_i b e
    exact ⟨b, tru_of m1 r1 e, o1.pure m1 rfl⟩
  · exact o1.elim
theorem sndT_of {e : Expr} {ie : Ex} (a : SndE C e ie) (hp : ∀ env whole, isTrue e env whole = (do let v ← whole; standAt e.pos; holding [v] (truthy v))) : SndT C e ie := fun G d E X k =>
  PT.weak (pt_truth (a G d E X k) (hp X.env)) fun σ H Q h => rdT_out h
/-- a test whose value is True or False, by a rule of its own -/
theorem truth_bl (b : Bool) (h : GH) : truth (.bl b) h = some b := rfl
theorem snd_not {a : Expr} {ia : Ex} {pos : Pos} (sa : SndE C a ia) : SndE C (.UnaryOp .Not a pos) (.not ia) := fun G d E X k => by
  refine PE.weak (pe_notT (sa G d E X k)) fun σ H Q ⟨env, h, μ, me, m, o⟩ => ?_
  rw [evE] at o
  refine ⟨env, h, μ, me, m, Out.bindM o fun μ1 H1 h1 v x g1 m1 r1 o1 => ?_⟩
  split at o1
  · rename_i b e
    exact ⟨b, tru_of m1 r1 e, o1.pure m1 (.bl _)⟩
  · exact o1.elim
theorem sndT_not {a : Expr} {ia : Ex} {pos : Pos} (sa : SndT C a ia) : SndT C (.UnaryOp .Not a pos) (.not ia) := fun G d E X k => by
  refine PT.weak (pt_not (sa G d E X k)) fun σ H Q ⟨env, h, μ, me, m, o⟩ => ?_
  have e1 : evT (callF G d) (.not ia) env h = (evT (callF G d) ia env h).bind fun b h1 => .ok (!b) h1 := by
    unfold evT
    rw [evE]
    cases evE (callF G d) ia env h with
    | ok v h1 =>
      show (match truth v h1 with | some k => Res.ok (GV.bl (!k)) h1 | none => .bad).bind _ = (match truth v h1 with | some k => Res.ok k h1 | none => .bad).bind _
      cases truth v h1 <;> rfl
    | exc c fs h1 => rfl
    | bad => rfl
  rw [e1] at o
  refine ⟨env, h, μ, me, m, Out.bindM (R := fun _ _ a b => a = b) o fun μ1 H1 h1 v x g1 m1 r1 o1 => ?_⟩
  subst r1
  exact o1.pure m1 rfl
theorem snd_and {a b : Expr} {rest : List Expr} {ia ib : Ex} {pos : Pos} (sa : SndE C a ia) (sb : SndE C (.BoolOp .And (b :: rest) pos) ib) : SndE C (.BoolOp .And (a :: b :: rest) pos) (.and ia ib) := fun G d E X k => by
  refine PE.weak (pe_andT (sa G d E X k) (sb G d E X k)) fun σ H Q ⟨env, h, μ, me, m, o⟩ => ?_
  rw [evE] at o
  refine ⟨env, h, μ, me, m, Out.bindM o fun μ1 H1 h1 v x g1 m1 r1 o1 => ?_⟩
  split at o1
  · rename_i b e
    refine ⟨b, tru_of m1 r1 e, ?_⟩
    cases b with
    | true =>
      rw [if_pos rfl] at o1 ⊢
      exact ⟨env, h1, μ1, me.grow m g1, m1, o1⟩
    | false =>
      rw [if_neg Bool.false_ne_true] at o1 ⊢
      exact o1.pure m1 r1
  · exact o1.elim
theorem snd_or {a b : Expr} {rest : List Expr} {ia ib : Ex} {pos : Pos} (sa : SndE C a ia) (sb : SndE C (.BoolOp .Or (b :: rest) pos) ib) : SndE C (.BoolOp .Or (a :: b :: rest) pos) (.or ia ib) := fun G d E X k => by
  refine PE.weak (pe_orT (sa G d E X k) (sb G d E X k)) fun σ H Q ⟨env, h, μ, me, m, o⟩ => ?_
  rw [evE] at o
  refine ⟨env, h, μ, me, m, Out.bindM o fun μ1 H1 h1 v x g1 m1 r1 o1 => ?_⟩
  split at o1
  · rename_i b e
    refine ⟨b, tru_of m1 r1 e, ?_⟩
    cases b with
    | true =>
      rw [if_pos rfl] at o1 ⊢
      exact o1.pure m1 r1
    | false =>
      rw [if_neg Bool.false_ne_true] at o1 ⊢
      exact ⟨env, h1, μ1, me.grow m g1, m1, o1⟩
  · exact o1.elim
theorem snd_one {op : BoolOp} {a : Expr} {ia : Ex} {pos : Pos} (sa : SndE C a ia) : SndE C (.BoolOp op [a] pos) ia := fun G d E X k => pe_one (sa G d E X k)
def SndW (C : Cc) (e : Expr) (ie : Ex) : Prop := ∀ G d E X, Ok C G d E X → PW X e (rdT X.K X.w C.nm E (callF G d) ie)
theorem PW.weak {X : Cx} {e : Expr} {t t' : TT} (p : PW X e t) (f : ∀ σ H Q, t' σ H Q → t σ H Q) : PW X e t' := ⟨fun wh pins s σ H Q I h => p.run wh pins s σ H Q I (f σ H Q h)⟩
theorem sndW_and1 {a : Expr} {ia : Ex} {pos : Pos} (sa : SndT C a ia) : SndW C (.BoolOp .And [a] pos) ia := fun G d E X k => pw_and1 (sa G d E X k)
theorem sndW_or1 {a : Expr} {ia : Ex} {pos : Pos} (sa : SndT C a ia) : SndW C (.BoolOp .Or [a] pos) ia := fun G d E X k => pw_or1 (sa G d E X k)
theorem evT_and (cl : Calls) (ia ib : Ex) (env : Env) (h : GH) : evT cl (.and ia ib) env h = (evT cl ia env h).bind fun b h1 => if b = true then evT cl ib env h1 else .ok false h1 := by
  unfold evT
  rw [evE]
  cases evE cl ia env h with
  | ok v h1 =>
    show (match truth v h1 with | some k => if k = true then evE cl ib env h1 else Res.ok v h1 | none => .bad).bind _ = (match truth v h1 with | some k => Res.ok k h1 | none => .bad).bind _
    cases e : truth v h1 with
    | none => rfl
    | some k =>
      cases k with
      | true => rfl
      | false =>
        show (match truth v h1 with | some k => Res.ok k h1 | none => .bad) = Res.ok false h1
        rw [e]
  | exc c fs h1 => rfl
  | bad => rfl
theorem evT_or (cl : Calls) (ia ib : Ex) (env : Env) (h : GH) : evT cl (.or ia ib) env h = (evT cl ia env h).bind fun b h1 => if b = true then .ok true h1 else evT cl ib env h1 := by
  unfold evT
  rw [evE]
  cases evE cl ia env h with
  | ok v h1 =>
    show (match truth v h1 with | some k => if k = true then Res.ok v h1 else evE cl ib env h1 | none => .bad).bind _ = (match truth v h1 with | some k => Res.ok k h1 | none => .bad).bind _
    cases e : truth v h1 with
    | none => rfl
    | some k =>
      cases k with
      | false => rfl
      | true =>
        show (match truth v h1 with | some k => Res.ok k h1 | none => .bad) = Res.ok true h1
        rw [e]
  | exc c fs h1 => rfl
  | bad => rfl
theorem sndW_and {a b : Expr} {rest : List Expr} {ia ib : Ex} {pos : Pos} (sa : SndT C a ia) (sb : SndW C (.BoolOp .And (b :: rest) pos) ib) : SndW C (.BoolOp .And (a :: b :: rest) pos) (.and ia ib) := fun G d E X k => by
  refine PW.weak (pw_and (sa G d E X k) (sb G d E X k)) fun σ H Q ⟨env, h, μ, me, m, o⟩ => ?_
  rw [evT_and] at o
  refine ⟨env, h, μ, me, m, Out.bindM (R := fun _ _ a b => a = b) o fun μ1 H1 h1 v x g1 m1 r1 o1 => ?_⟩
  subst r1
  cases v with
  | true =>
    rw [if_pos rfl] at o1 ⊢
    exact ⟨env, h1, μ1, me.grow m g1, m1, o1⟩
  | false =>
    rw [if_neg Bool.false_ne_true] at o1 ⊢
    exact o1.pure m1 rfl
theorem sndW_or {a b : Expr} {rest : List Expr} {ia ib : Ex} {pos : Pos} (sa : SndT C a ia) (sb : SndW C (.BoolOp .Or (b :: rest) pos) ib) : SndW C (.BoolOp .Or (a :: b :: rest) pos) (.or ia ib) := fun G d E X k => by
  refine PW.weak (pw_or (sa G d E X k) (sb G d E X k)) fun σ H Q ⟨env, h, μ, me, m, o⟩ => ?_
  rw [evT_or] at o
  refine ⟨env, h, μ, me, m, Out.bindM (R := fun _ _ a b => a = b) o fun μ1 H1 h1 v x g1 m1 r1 o1 => ?_⟩
  subst r1
  cases v with
  | true =>
    rw [if_pos rfl] at o1 ⊢
    exact o1.pure m1 rfl
  | false =>
    rw [if_neg Bool.false_ne_true] at o1 ⊢
    exact ⟨env, h1, μ1, me.grow m g1, m1, o1⟩
theorem sndT_w {e : Expr} {ie : Ex} (a : SndW C e ie) : SndT C e ie := fun G d E X k => (a G d E X k).pt
/-- a comparison as a test -/
theorem sndT_cmp {op : CmpOp} {a b : Expr} {ie : Ex} {pos : Pos} {t : TE} (G : Prg) (d : Nat) (E : XK) (X : Cx) (h : PT X (.Compare a [op] [b] pos) (tTest t)) (w : ∀ σ H Q, rdE X.K X.w C.nm E (callF G d) ie σ H Q → t σ H Q)
    (bl : ∀ env h v h1, evE (callF G d) ie env h = .ok v h1 → ∃ b, v = .bl b) : PT X (.Compare a [op] [b] pos) (rdT X.K X.w C.nm E (callF G d) ie) := by
  refine PT.weak h fun σ H Q ⟨env, h, μ, me, m, o⟩ => w σ H _ ⟨env, h, μ, me, m, ?_⟩
  unfold evT at o
  cases e : evE (callF G d) ie env h with
  | ok v h1 =>
    rw [e] at o
    obtain ⟨b, rfl⟩ := bl env h v h1 e
    have o : Out X.K X.w C.nm (fun _ _ a b => a = b) (.ok b h1) μ H E Q := o
    exact fun μ' H' x g' m' r' => by
      cases r'
      exact ⟨b, rfl, o.at g' m' rfl⟩
  | exc c fs h1 =>
    rw [e] at o
    exact o
  | bad =>
    rw [e] at o
    exact o
theorem snd_ite {c a b : Expr} {ic ia ib : Ex} {pos : Pos} (sc : SndT C c ic) (sa : SndE C a ia) (sb : SndE C b ib) : SndE C (.IfExp c a b pos) (.ite ic ia ib) := fun G d E X k => by
  refine PE.weak (pe_ifExp (sc G d E X k) (sa G d E X k) (sb G d E X k)) fun σ H Q ⟨env, h, μ, me, m, o⟩ => ?_
  have e1 : evE (callF G d) (.ite ic ia ib) env h = (evT (callF G d) ic env h).bind fun k h1 => if k = true then evE (callF G d) ia env h1 else evE (callF G d) ib env h1 := by
    unfold evT
    rw [evE]
    cases evE (callF G d) ic env h with
    | ok v h1 =>
      show (match truth v h1 with | some k => if k = true then evE (callF G d) ia env h1 else evE (callF G d) ib env h1 | none => .bad) = (match truth v h1 with | some k => Res.ok k h1 | none => .bad).bind _
      cases truth v h1 <;> rfl
    | exc c fs h1 => rfl
    | bad => rfl
  rw [e1] at o
  refine ⟨env, h, μ, me, m, Out.bindM (R := fun _ _ a b => a = b) o fun μ1 H1 h1 v x g1 m1 r1 o1 => ?_⟩
  subst r1
  cases v with
  | true =>
    rw [if_pos rfl] at o1 ⊢
    exact ⟨env, h1, μ1, me.grow m g1, m1, o1⟩
  | false =>
    rw [if_neg Bool.false_ne_true] at o1 ⊢
    exact ⟨env, h1, μ1, me.grow m g1, m1, o1⟩
/-! is None -/
theorem non_iff {K : PySem.W.Frag} {μ : List Addr} {H : Hp} {v : GV} {x : V} (r : VM K μ H v x) : decide (x = .non) = decide (v = .non) := by
  cases r <;> simp
theorem snd_isn {a : Expr} {ia : Ex} {j : Nat} {pos p2 : Pos} (sa : SndE C a ia) : SndE C (.Compare a [.Is] [.Constant .none j p2] pos) (.isn ia) := fun G d E X k => by
  refine PE.weak (pe_cmp (pc_isN (sa G d E X k)) (by rfl)) fun σ H Q ⟨env, h, μ, me, m, o⟩ => ?_
  rw [evE] at o
  refine ⟨env, h, μ, me, m, Out.bindM o fun μ1 H1 h1 v x g1 m1 r1 o1 => ?_⟩
  rw [non_iff r1]
  exact o1.pure m1 (.bl _)
theorem snd_ntn {a : Expr} {ia : Ex} {j : Nat} {pos p2 : Pos} (sa : SndE C a ia) : SndE C (.Compare a [.IsNot] [.Constant .none j p2] pos) (.ntn ia) := fun G d E X k => by
  refine PE.weak (pe_cmp (pc_notN (sa G d E X k)) (by rfl)) fun σ H Q ⟨env, h, μ, me, m, o⟩ => ?_
  rw [evE] at o
  refine ⟨env, h, μ, me, m, Out.bindM o fun μ1 H1 h1 v x g1 m1 r1 o1 => ?_⟩
  rw [non_iff r1]
  exact o1.pure m1 (.bl _)
theorem snd_neg {a : Expr} {ia : Ex} {pos : Pos} (sa : SndE C a ia) : SndE C (.UnaryOp .USub a pos) (.neg ia) := fun G d E X k => by
  refine PE.weak (pe_un un_neg (sa G d E X k)) fun σ H Q ⟨env, h, μ, me, m, o⟩ => ?_
  rw [evE] at o
  refine ⟨env, h, μ, me, m, Out.bindM o fun μ1 H1 h1 v x g1 m1 r1 o1 => ?_⟩
  split at o1
  · cases r1
    exact ⟨_, rfl, o1.pure m1 (.int _)⟩
  · exact o1.elim
end
end Pv
end Pv_J
section Pv_K
set_option Elab.async false
set_option linter.all false
set_option maxRecDepth 10000
namespace Pv
open PySem PySem.Spec PyProof.Rows
open L2
open GV

/-! ### a place taken off -/
def del (H : Hp) (D : Addr) : Hp := fun b => if b = D then none else H b
theorem del_ne {H : Hp} {D b : Addr} (h : b ≠ D) : del H D b = H b := if_neg h
theorem del_same {H : Hp} {D : Addr} : del H D D = none := if_pos rfl
theorem upd_del {H : Hp} {D : Addr} {u : HO} (h : H D = some u) : upd (del H D) D u = H := by
  funext b
  by_cases e : b = D
  · subst e
    rw [upd_same, h]
  · rw [upd_ne e, del_ne e]
theorem del_upd {H : Hp} {D : Addr} {u : HO} (h : H D = none) : del (upd H D u) D = H := by
  funext b
  by_cases e : b = D
  · subst e
    rw [del_same, h]
  · rw [del_ne e, upd_ne e]
section
variable {K : PySem.W.Frag} {w : World} {nm : Nm} {μ μ' μ'' : List Addr} {H H' H'' : Hp} {h h' : GH} {D : Addr} {u : HO}
theorem sqT_del (e : H D = some u) (c : Chg u) {a : Addr} {xs : List V} (q : SqT K H a xs) : SqT K (del H D) a xs := by
  have ne : ∀ {o : HO}, H a = some o → ¬ Chg o → a ≠ D := fun e1 n z => by
    subst z
    rw [e] at e1
    cases e1
    exact n c
  rcases q with (e1 | ⟨o, e1⟩) | q
  · exact .inl (.inl (by rw [del_ne (ne e1 fun z => z)]; exact e1))
  · exact .inl (.inr ⟨o, by rw [del_ne (ne e1 fun z => z)]; exact e1⟩)
  · exact .inr q
theorem frl_del (e : H D = some u) (c : Chg u) {a : Addr} {xs : List V} (q : Frl K H a xs) : Frl K (del H D) a xs := by
  rcases q with ⟨o, e1⟩ | q
  · refine .inl ⟨o, ?_⟩
    rw [del_ne]
    · exact e1
    · intro z
      subst z
      rw [e] at e1
      cases e1
      exact c
  · exact .inr q
mutual
theorem VM.del (e : H D = some u) (c : Chg u) : ∀ {v : GV} {x : V}, VM K μ H v x → VM K μ (del H D) v x
  | _, _, .non => .non
  | _, _, .bl b => .bl b
  | _, _, .int i => .int i
  | _, _, .str x => .str x
  | _, _, .tup q r => .tup (sqT_del e c q) (VMs.del e c r)
  | _, _, .ref q => .ref q
  | _, _, @VM.rng _ _ _ lo hi a q => .rng (by
    rw [del_ne]
    · exact q
    · intro z
      subst z
      rw [e] at q
      cases q
      exact c)
  | _, _, .frl q r => .frl (frl_del e c q) (VMs.del e c r)
theorem VMs.del (e : H D = some u) (c : Chg u) : ∀ {vs : List GV} {xs : List V}, VMs K μ H vs xs → VMs K μ (del H D) vs xs
  | _, _, .nil => .nil
  | _, _, .cons r t => .cons (VM.del e c r) (VMs.del e c t)
end
theorem MHeap.del (m : MHeap K w nm μ h H) (e : H D = some u) (c : Chg u) (n : D ∉ μ) : MHeap K w nm μ h (del H D) :=
  ⟨m.len, m.nd, fun k a o e1 e2 => by
    have ne : a ≠ D := fun z => n (z ▸ List.mem_of_getElem? e1)
    have q := m.obj k a o e1 e2
    cases o with
    | lst gs =>
      obtain ⟨xs, q1, r⟩ := q
      exact ⟨xs, (del_ne ne).trans q1, r.del e c⟩
    | dct kvs =>
      obtain ⟨⟨ob, es, ep, q1, q2, q3, r⟩, s1, s2, s3, s4⟩ := q
      exact ⟨⟨ob, es, ep, (del_ne ne).trans q1, q2, q3, Paired.impl r fun en p ⟨r1, kx, vx, r2, r3, r4, r5⟩ => ⟨r1, kx, vx, r2.del e c, r3, r4.del e c, r5⟩⟩, s1, s2, s3, s4⟩
    | ins cc fs =>
      obtain ⟨dx, fs', q1, r⟩ := q
      exact ⟨dx, fs', (del_ne ne).trans q1, Paired.impl r fun p q ⟨r1, r2⟩ => ⟨r1, r2.del e c⟩⟩⟩
theorem Grow.del (g : Grow μ H μ' H') (n : H D = none) : Grow μ H μ' (del H' D) :=
  ⟨g.pre, fun a u e z => by rw [del_ne (ne_of_none e n)]; exact g.keep a u e z, g.new⟩
theorem Grow.outD (m : MHeap K w nm μ h H) (g : Grow μ H μ' H') (e : H D = some u) (n : D ∉ μ) : D ∉ μ' ∧ H' D = some u :=
  ⟨fun z => absurd ((g.new D z n).symm.trans e) nofun, g.keep D u e n⟩
end

/-! ### rows of items -/
section
variable (K : PySem.W.Frag) (w : World) (nm : Nm) (E : XK) (cl : Calls)
/-- a new list -/
def rdN (s : Sq) : TE := fun σ H Q => ∃ env h μ, MEnv K μ H env σ ∧ MHeap K w nm μ h H ∧ Out K w nm (VMs K) (evS cl s env h) μ H E fun xs H' => ∀ p, H' p = none → Q (.ref p) (upd H' p (.lst xs))
end
def SndN (C : Cc) (e : Expr) (s : Sq) : Prop := ∀ G d E X, Ok C G d E X → PE X e (rdN X.K X.w C.nm E (callF G d) s)
section
variable {C : Cc}
theorem snd_lst {e : Expr} {s : Sq} (a : SndN C e s) : SndE C e (.lst s) := fun G d E X k => by
  refine PE.weak (a G d E X k) fun σ H Q ⟨env, h, μ, me, m, o⟩ => ?_
  rw [evE] at o
  refine ⟨env, h, μ, me, m, Out.bindM o fun μ1 H1 h1 vs xs g1 m1 r1 o1 p hp => ?_⟩
  have g := Grow.alloc (ho := .lst xs) m1 hp
  exact o1.at g (MHeap.alloc m1 hp ⟨_, upd_same, r1.grow m1 g⟩) (.ref (alloc_ref m1))
theorem snd_sqN {e : Expr} {s : Sq} (a : SndN C e s) : SndS C e s := fun G d E X k => by
  refine PE.weak (a G d E X k) fun σ H Q ⟨env, h, μ, me, m, o⟩ => ⟨env, h, μ, me, m, ?_⟩
  generalize evS (callF G d) s env h = r at o ⊢
  cases r with
  | ok vs h1 =>
    intro μ1 H1 xs g1 m1 r1 p hp
    have g := Grow.side (ho := .lst xs) m1 hp
    exact o μ1 (upd H1 p (.lst xs)) (.ref p) (g1.trans g) (MHeap.side m1 hp) ⟨p, xs, rfl, .inl (SqL.of upd_same), r1.grow m1 g⟩
  | exc c fs h1 => exact o
  | bad => exact o
theorem seqT_of {K : PySem.W.Frag} {w : World} {nm : Nm} {μ : List Addr} {h : GH} {H : Hp} {v : GV} {x : V} {xs : List GV} (m : MHeap K w nm μ h H) (r : VM K μ H v x) (e : seqT v h = some xs) : SqM K μ H xs x := by
  unfold seqT at e
  split at e
  · cases e
    cases r with
    | tup q t => exact ⟨_, _, rfl, .inr q, t⟩
  · cases e
    cases r with
    | frl q t => exact ⟨_, _, rfl, .inl q.sql, t⟩
  · split at e
    · rename_i n _ ys e1
      cases e
      cases r with
      | ref q =>
        obtain ⟨zs, z1, z2⟩ := m.obj _ _ _ q e1
        exact ⟨_, _, rfl, .inl (SqL.of z1), z2⟩
    · cases e
  · cases e
theorem snd_sval {e : Expr} {ie : Ex} (a : SndE C e ie) : SndS C e (.val ie) := fun G d E X k => by
  refine PE.weak (a G d E X k) fun σ H Q ⟨env, h, μ, me, m, o⟩ => ?_
  rw [evS] at o
  refine ⟨env, h, μ, me, m, Out.bindM o fun μ1 H1 h1 v x g1 m1 r1 o1 => ?_⟩
  split at o1
  · rename_i xs e1
    exact o1.pure m1 (seqT_of m1 r1 e1)
  · exact o1.elim
theorem snd_dsp {es : List Expr} {ies : Exs} {pos : Pos} (a : SndA C es ies) : SndN C (.List es pos) (.dsp ies) := fun G d E X k => by
  refine PE.weak (pe_lst (a G d E X k)) fun σ H Q ⟨env, h, μ, me, m, o⟩ => ?_
  rw [evS] at o
  refine ⟨env, h, μ, me, m, Out.bindM o fun μ1 H1 h1 vs xs g1 m1 r1 o1 => ?_⟩
  split at o1
  · rename_i hl
    exact ⟨by rw [← szL_eq, ← r1.length]; exact hl, o1.pure m1 r1⟩
  · exact o1.elim
theorem snd_tup {es : List Expr} {ies : Exs} {j : Nat} {pos : Pos} (a : SndA C es ies) : SndE C (.Tuple es j pos) (.tup ies) := fun G d E X k => by
  refine PE.weak (pe_tup (a G d E X k)) fun σ H Q ⟨env, h, μ, me, m, o⟩ => ?_
  rw [evE] at o
  refine ⟨env, h, μ, me, m, Out.bindM o fun μ1 H1 h1 vs xs g1 m1 r1 o1 => ?_⟩
  split at o1
  · rename_i hl
    refine ⟨by rw [← szL_eq, ← r1.length]; exact hl, fun p hp => ?_⟩
    have g := Grow.side (ho := .tup xs) m1 hp
    exact o1.at g (MHeap.side m1 hp) (.tup (SqT.of upd_same) (r1.grow m1 g))
  · exact o1.elim

end
end Pv
end Pv_K
section Pv_L
set_option Elab.async false
set_option linter.all false
set_option maxRecDepth 10000
namespace Pv
open PySem PySem.Spec PyProof.Rows
open L2
open GV

/-! ### calls of built-in types and functions -/
def noStars (es : List Expr) : Bool := es.all notStar
theorem stars_off : ∀ {es : List Expr}, noStars es = true → ∀ (pos : Pos) (env : PySem.Env), (backTo pos (starEach es env)).any (·.1) = false
  | [], _, _, _ => rfl
  | e :: es, h, pos, env => by
    unfold noStars at h
    rw [List.all_cons, Bool.and_eq_true] at h
    rw [star_of h.1]
    have ih := stars_off (es := es) h.2 pos env
    unfold backTo at ih ⊢
    rw [List.map_cons, List.any_cons, ih]
    rfl
def glB (C : Cc) (x : Str) : Bool := match C.sc.names.lookup x with
  | some .globalImplicit => true
  | _ => false
section
variable {C : Cc}
theorem gl_of {G : Prg} {d : Nat} {E : XK} {X : Cx} (k : Ok C G d E X) {x : Str} (h : glB C x = true) : Gl X x := by
  unfold glB at h
  split at h
  · rename_i e
    show X.env.scope.names.lookup x = _
    rw [k.sc]
    exact e
  · cases h
theorem pa_1 {X : Cx} {a : Expr} {t : TE} (h : PE X a t) (hs : notStar a = true) : PA X [a] (tCons t tNil) := pa_cons h pa_nil (star_of hs [] X.env)

/-- len(d) -/
theorem call_lenX {X : Cx} : CallR X (.builtin "len") (fun xs H Q => ∃ a μ kvs, xs = [V.ref a] ∧ DctM X.K X.w μ H a kvs ∧ Q (.int (kvs.length : Nat)) H) := by
  intro pins s σ H xs us Q I r h
  obtain ⟨a, μ, kvs, rfl, D, q⟩ := h
  obtain ⟨u, rfl, rx⟩ := r.one
  cases rx
  have hz := D.len
  have hl := line63
  rcases D.kind with k | k
  · obtain ⟨ys, dd, t⟩ := dctT I D k
    have e : ys.length = kvs.length := Paired.len t
    refine call_len_dictH D.sys dd (by omega) ?_
    rw [e]
    exact ⟨.int _, H, I.tok _, ⟨_, rfl⟩, q⟩
  · obtain ⟨ys, dd, t⟩ := dctF I D k
    have e : ys.length = kvs.length := Paired.len t
    refine call_len_dict D.sys dd (by omega) ?_
    rw [e]
    exact ⟨.int _, H, I.tok _, ⟨_, rfl⟩, q⟩
theorem len_of {X : Cx} {μ : List Addr} {h : GH} {H : Hp} {v : GV} {x : V} {n : Nat} {nm : Nm} (m : MHeap X.K X.w nm μ h H) (r : VM X.K μ H v x) (e : lenOf v h = some n) : LenV X.K x H n ∨ ∃ a kvs, x = .ref a ∧ DctM X.K X.w μ H a kvs ∧ kvs.length = n := by
  unfold lenOf at e
  split at e
  · cases e
    cases r with
    | tup q t => exact .inl (.inr ⟨_, q, t.length⟩)
  · split at e
    · rename_i hl
      cases e
      cases r
      exact .inl ⟨by rw [← szL_eq]; exact hl, rfl⟩
    · cases e
  · split at e
    · rename_i n _ ys e1
      cases e
      cases r with
      | ref q =>
        obtain ⟨zs, z1, z2⟩ := m.obj _ _ _ q e1
        exact .inl (.inl ⟨_, SqL.of z1, z2.length⟩)
    · rename_i n _ kvs e1
      cases e
      cases r with
      | ref q => exact .inr ⟨_, kvs, rfl, m.obj _ _ _ q e1, rfl⟩
    · cases e
  · cases e
theorem snd_len {a : Expr} {ia : Ex} {p pos : Pos} (hg : glB C "len" = true) (hs : notStar a = true) (sa : SndE C a ia) : SndE C (.Call (.Name "len" p) [a] [] pos) (.b1 .len ia) := fun G d E X k => by
  refine PE.weak (pe_callB (CallR.or call_len call_lenX) (gl_of k hg) (k.blt _ (by decide)) (by rfl) (pa_1 (sa G d E X k) hs) (he := star_of hs [] X.env)) fun σ H Q ⟨env, h, μ, me, m, o⟩ => ?_
  rw [evE] at o
  refine ⟨env, h, μ, me, m, Out.bindM o fun μ1 H1 h1 v x g1 m1 r1 o1 => ?_⟩
  unfold ev1 at o1
  dsimp only at o1
  split at o1
  · rename_i n e
    rcases len_of m1 r1 e with l | ⟨b, kvs, rfl, D, rfl⟩
    · exact .inl ⟨x, n, rfl, l, o1.pure m1 (.int _)⟩
    · exact .inr ⟨b, μ1, kvs, rfl, D, o1.pure m1 (.int _)⟩
  · exact o1.elim
theorem snd_int1 {a : Expr} {ia : Ex} {p pos : Pos} (hg : glB C "int" = true) (hs : notStar a = true) (sa : SndE C a ia) : SndE C (.Call (.Name "int" p) [a] [] pos) (.b1 .int ia) := fun G d E X k => by
  refine PE.weak (pe_callTy call_int1 (gl_of k hg) (k.blt _ (by decide)) (by rfl) (pa_1 (sa G d E X k) hs) (he := star_of hs [] X.env)) fun σ H Q ⟨env, h, μ, me, m, o⟩ => ?_
  rw [evE] at o
  refine ⟨env, h, μ, me, m, Out.bindM o fun μ1 H1 h1 v x g1 m1 r1 o1 => ?_⟩
  unfold ev1 at o1
  dsimp only at o1
  split at o1
  · cases r1
    exact .inl ⟨_, rfl, o1.pure m1 (.int _)⟩
  · cases r1
    exact .inr ⟨_, rfl, o1.pure m1 (.int _)⟩
  · exact o1.elim
theorem snd_str1 {a : Expr} {ia : Ex} {p pos : Pos} (hg : glB C "str" = true) (hs : notStar a = true) (sa : SndE C a ia) : SndE C (.Call (.Name "str" p) [a] [] pos) (.b1 .str ia) := fun G d E X k => by
  refine PE.weak (pe_callTy call_str_int (gl_of k hg) (k.blt _ (by decide)) (by rfl) (pa_1 (sa G d E X k) hs) (he := star_of hs [] X.env)) fun σ H Q ⟨env, h, μ, me, m, o⟩ => ?_
  rw [evE] at o
  refine ⟨env, h, μ, me, m, Out.bindM o fun μ1 H1 h1 v x g1 m1 r1 o1 => ?_⟩
  unfold ev1 at o1
  dsimp only at o1
  split at o1
  · split at o1
    · rename_i hl
      cases r1
      exact ⟨_, rfl, hl, o1.pure m1 (.str _)⟩
    · exact o1.elim
  · exact o1.elim
/-! two arguments -/
theorem pa_2 {X : Cx} {a b : Expr} {t u : TE} (h1 : PE X a t) (h2 : PE X b u) (hs : notStar a = true) (hs2 : notStar b = true) : PA X [a, b] (tCons t (tCons u tNil)) := pa_cons h1 (pa_1 h2 hs2) (star_of hs [b] X.env)
theorem snd_max {a b : Expr} {ia ib : Ex} {p pos : Pos} (hg : glB C "max" = true) (hs : notStar a = true) (hs2 : notStar b = true) (sa : SndE C a ia) (sb : SndE C b ib) : SndE C (.Call (.Name "max" p) [a, b] [] pos) (.b2 .max ia ib) := fun G d E X k => by
  refine PE.weak (pe_callB (call_max2 k.calm) (gl_of k hg) (k.blt _ (by decide)) (by rfl) (pa_2 (sa G d E X k) (sb G d E X k) hs hs2) (he := star_of hs [b] X.env) (hpl := stars_off (es := [b]) (by unfold noStars; rw [List.all_cons, hs2]; rfl) pos X.env)) fun σ H Q ⟨env, h, μ, me, m, o⟩ => ?_
  rw [evE] at o
  refine ⟨env, h, μ, me, m, Out.bindM o fun μ1 H1 h1 v x g1 m1 r1 o1 => ?_⟩
  refine ⟨env, h1, μ1, me.grow m g1, m1, Out.bindM o1 fun μ2 H2 h2 u y g2 m2 r2 o2 => ?_⟩
  unfold ev2 at o2
  split at o2
  · cases r1
    cases r2
    exact ⟨_, _, rfl, o2.pure m2 (.int _)⟩
  · rename_i e
    exact nomatch e
  · exact o2.elim
theorem snd_min {a b : Expr} {ia ib : Ex} {p pos : Pos} (hg : glB C "min" = true) (hs : notStar a = true) (hs2 : notStar b = true) (sa : SndE C a ia) (sb : SndE C b ib) : SndE C (.Call (.Name "min" p) [a, b] [] pos) (.b2 .min ia ib) := fun G d E X k => by
  refine PE.weak (pe_callB (call_min2 k.calm) (gl_of k hg) (k.blt _ (by decide)) (by rfl) (pa_2 (sa G d E X k) (sb G d E X k) hs hs2) (he := star_of hs [b] X.env) (hpl := stars_off (es := [b]) (by unfold noStars; rw [List.all_cons, hs2]; rfl) pos X.env)) fun σ H Q ⟨env, h, μ, me, m, o⟩ => ?_
  rw [evE] at o
  refine ⟨env, h, μ, me, m, Out.bindM o fun μ1 H1 h1 v x g1 m1 r1 o1 => ?_⟩
  refine ⟨env, h1, μ1, me.grow m g1, m1, Out.bindM o1 fun μ2 H2 h2 u y g2 m2 r2 o2 => ?_⟩
  unfold ev2 at o2
  split at o2
  · rename_i e
    exact nomatch e
  · cases r1
    cases r2
    exact ⟨_, _, rfl, o2.pure m2 (.int _)⟩
  · exact o2.elim
/-! range -/
theorem cr_range1 {X : Cx} : CallR X (.type "range") (fun vs H Q => ∃ j, vs = [V.int j] ∧ ∀ p, H p = none → Q (.ref p) (upd H p (.rng 0 j))) := by
  intro pins s σ H vs us Q I r h
  obtain ⟨j, rfl, q⟩ := h
  obtain ⟨u, rfl, t, rfl⟩ := r.one
  refine call_range_1 ⟨.ref s.heap.objs.size, upd H s.heap.objs.size (.rng 0 j), I.laid (t' := s.toks + 2) (fun b o e => Heap.get?_push_of_some _ e) (Nat.le_refl _) ?_, rfl, q _ (I.hok.fresh (Nat.le_refl _))⟩
  exact ⟨_, _, _, Heap.get?_push_size _ rfl⟩
theorem snd_rng1 {a : Expr} {ia : Ex} {p pos : Pos} (hg : glB C "range" = true) (hs : notStar a = true) (sa : SndE C a ia) : SndE C (.Call (.Name "range" p) [a] [] pos) (.rng (.cst (.int 0)) ia) := fun G d E X k => by
  refine PE.weak (pe_callTy cr_range1 (gl_of k hg) (k.blt _ (by decide)) (by rfl) (pa_1 (sa G d E X k) hs) (he := star_of hs [] X.env)) fun σ H Q ⟨env, h, μ, me, m, o⟩ => ?_
  rw [evE, evE] at o
  refine ⟨env, h, μ, me, m, Out.bindM o fun μ1 H1 h1 v x g1 m1 r1 o1 => ?_⟩
  split at o1
  · rename_i i j e
    cases e
    split at o1
    · cases r1
      refine ⟨_, rfl, fun p hp => ?_⟩
      have g := Grow.side (ho := .rng 0 j) m1 hp
      exact o1.at g (MHeap.side m1 hp) (.rng upd_same)
    · exact o1.elim
  · exact o1.elim
theorem snd_rng2 {a b : Expr} {ia ib : Ex} {p pos : Pos} (hg : glB C "range" = true) (hs : notStar a = true) (hs2 : notStar b = true) (sa : SndE C a ia) (sb : SndE C b ib) : SndE C (.Call (.Name "range" p) [a, b] [] pos) (.rng ia ib) := fun G d E X k => by
  refine PE.weak (pe_callTy cr_range2 (gl_of k hg) (k.blt _ (by decide)) (by rfl) (pa_2 (sa G d E X k) (sb G d E X k) hs hs2) (he := star_of hs [b] X.env) (hpl := stars_off (es := [b]) (by unfold noStars; rw [List.all_cons, hs2]; rfl) pos X.env)) fun σ H Q ⟨env, h, μ, me, m, o⟩ => ?_
  rw [evE] at o
  refine ⟨env, h, μ, me, m, Out.bindM o fun μ1 H1 h1 v x g1 m1 r1 o1 => ?_⟩
  refine ⟨env, h1, μ1, me.grow m g1, m1, Out.bindM o1 fun μ2 H2 h2 u y g2 m2 r2 o2 => ?_⟩
  split at o2
  · rename_i i j
    split at o2
    · cases r1
      cases r2
      refine ⟨_, _, rfl, fun p hp => ?_⟩
      have g := Grow.side (ho := .rng i j) m2 hp
      exact o2.at g (MHeap.side m2 hp) (.rng upd_same)
    · exact o2.elim
  · exact o2.elim
/-! any, all -/
theorem bools_of {K : PySem.W.Frag} {μ : List Addr} {H : Hp} : ∀ {vs : List GV} {xs : List V} {bs : List Bool}, VMs K μ H vs xs → bools vs = some bs → xs = bs.map V.bl
  | [], _, _, .nil, e => by cases e; rfl
  | v :: vs, _, bs, .cons r t, e => by
    cases v <;> simp [bools] at e
    obtain ⟨cs, e1, rfl⟩ := e
    cases r
    rw [bools_of t e1]
    rfl
/-- any([..]): a list -/
theorem snd_any {a : Expr} {s : Sq} {p pos : Pos} (hg : glB C "any" = true) (hs : notStar a = true) (sa : SndN C a s) : SndE C (.Call (.Name "any" p) [a] [] pos) (.any s) := fun G d E X k => by
  refine PE.weak (pe_callB (cr_any k.calm) (gl_of k hg) (k.blt _ (by decide)) (by rfl) (pa_1 (sa G d E X k) hs) (he := star_of hs [] X.env)) fun σ H Q ⟨env, h, μ, me, m, o⟩ => ?_
  rw [evE] at o
  refine ⟨env, h, μ, me, m, Out.bindM o fun μ1 H1 h1 vs xs g1 m1 r1 o1 p hp => ?_⟩
  split at o1
  · rename_i bs e
    have g := Grow.side (ho := .lst xs) m1 hp
    exact ⟨p, bs, rfl, by rw [← bools_of r1 e]; exact SqL.of upd_same, o1.at g (MHeap.side m1 hp) (.bl _)⟩
  · exact o1.elim
theorem snd_all {a : Expr} {s : Sq} {p pos : Pos} (hg : glB C "all" = true) (hs : notStar a = true) (sa : SndN C a s) : SndE C (.Call (.Name "all" p) [a] [] pos) (.all s) := fun G d E X k => by
  refine PE.weak (pe_callB (cr_all k.calm) (gl_of k hg) (k.blt _ (by decide)) (by rfl) (pa_1 (sa G d E X k) hs) (he := star_of hs [] X.env)) fun σ H Q ⟨env, h, μ, me, m, o⟩ => ?_
  rw [evE] at o
  refine ⟨env, h, μ, me, m, Out.bindM o fun μ1 H1 h1 vs xs g1 m1 r1 o1 p hp => ?_⟩
  split at o1
  · rename_i bs e
    have g := Grow.side (ho := .lst xs) m1 hp
    exact ⟨p, bs, rfl, by rw [← bools_of r1 e]; exact SqL.of upd_same, o1.at g (MHeap.side m1 hp) (.bl _)⟩
  · exact o1.elim
end
end Pv
end Pv_L
section Pv_M
set_option Elab.async false
set_option linter.all false
set_option maxRecDepth 10000
namespace Pv
open PySem PySem.Spec PyProof.Rows
open L2
open GV

section
variable {C : Cc}
/-! ### tuple(..), list(..) -/
theorem snd_tpl {a : Expr} {s : Sq} {p pos : Pos} (hg : glB C "tuple" = true) (hs : notStar a = true) (sa : SndS C a s) : SndE C (.Call (.Name "tuple" p) [a] [] pos) (.tpl s) := fun G d E X k => by
  refine PE.weak (pe_callTy call_tuple_of (gl_of k hg) (k.blt _ (by decide)) (by rfl) (pa_1 (sa G d E X k) hs) (he := star_of hs [] X.env)) fun σ H Q ⟨env, h, μ, me, m, o⟩ => ?_
  rw [evE] at o
  refine ⟨env, h, μ, me, m, Out.bindM o fun μ1 H1 h1 vs x g1 m1 ⟨b, xs, e, q, t⟩ o1 => ?_⟩
  subst e
  refine ⟨b, xs, rfl, q.imp (fun q => ⟨q, fun l hl => ?_⟩) fun q => ⟨q, o1.pure m1 (.tup q t)⟩⟩
  have g := Grow.side (ho := .tup xs) m1 hl
  exact o1.at g (MHeap.side m1 hl) (.tup (SqT.of upd_same) (t.grow m1 g))
theorem snd_lis {a : Expr} {s : Sq} {p pos : Pos} (hg : glB C "list" = true) (hs : notStar a = true) (sa : SndS C a s) : SndN C (.Call (.Name "list" p) [a] [] pos) (.lis s) := fun G d E X k => by
  refine PE.weak (pe_callTy call_list_of (gl_of k hg) (k.blt _ (by decide)) (by rfl) (pa_1 (sa G d E X k) hs) (he := star_of hs [] X.env)) fun σ H Q ⟨env, h, μ, me, m, o⟩ => ?_
  rw [evS] at o
  refine ⟨env, h, μ, me, m, ?_⟩
  generalize evS (callF G d) s env h = r at o ⊢
  cases r with
  | ok vs h1 =>
    intro μ1 H1 x g1 m1 ⟨b, xs, e, q, t⟩
    subst e
    exact ⟨b, xs, rfl, q, fun l hl => o μ1 H1 xs g1 m1 t l hl⟩
  | exc c fs h1 => exact o
  | bad => exact o
/-- list(d): its keys -/
theorem call_listX {X : Cx} (hc : X.calm = true) {nm : Nm} : CallR X (.type "list") (fun xs H Q => ∃ a μ kvs, xs = [V.ref a] ∧ DctM X.K X.w μ H a kvs ∧ ∀ p ks, VMs X.K μ H (kvs.map (·.1)) ks → H p = none → Q (.ref p) (upd H p (.lst ks))) := by
  intro pins s σ H xs us Q I r h
  obtain ⟨a, μ, kvs, rfl, D, q⟩ := h
  obtain ⟨u, rfl, rx⟩ := r.one
  cases rx
  obtain ⟨o, es, ep, e1, e2, e3, pr⟩ := D.obj
  have hz := D.len
  have hl : es.size = kvs.length := by
    have := Paired.len pr
    simpa using this
  refine PySem.W.kdl_call (kdl_raw D.sys e2 e3) (I.ok.hd hc) (dct_obj I e1) (by omega) fun h' tk acc c' kp e it => ?_
  have ek : acc.toList = es.toList.map fun z => z.key := by
    apply List.ext_getElem?
    intro j
    rw [List.getElem?_map]
    cases hj : acc.toList[j]? with
    | none =>
      have n1 := List.getElem?_eq_none_iff.mp hj
      have n2 := it.1
      rw [Array.length_toList] at n1
      rw [List.getElem?_eq_none (by rw [Array.length_toList]; omega)]
      rfl
    | some v =>
      obtain ⟨en, hen, hv⟩ := it.2 j v (by rw [← Array.getElem?_toList]; exact hj)
      rw [← Array.getElem?_toList] at hen
      rw [hen, hv]
      rfl
  have vk : ∃ ks, VMs X.K μ H (kvs.map (·.1)) ks ∧ Vals ks (es.toList.map fun z => z.key) := by
    generalize es.toList = l at pr
    clear e3 e1 hz hl ek q D
    induction pr with
    | nil => exact ⟨[], .nil, .nil⟩
    | cons r1 _ ih =>
      obtain ⟨_, kx, vx, q1, q2, _, _⟩ := r1
      obtain ⟨ks, i1, i2⟩ := ih
      exact ⟨kx :: ks, .cons q1 i1, .cons q2 i2⟩
  obtain ⟨ks, k1, k2⟩ := vk
  have hk : ks.length ≤ sizeLine := by
    have := k1.length
    rw [List.length_map] at this
    omega
  refine ⟨.ref s.heap.objs.size, _, I.laid (t' := tk) (o := .lst ks) kp (Nat.le_refl _) ?_, rfl, q _ _ k1 (I.hok.fresh (Nat.le_refl _))⟩
  exact ⟨hk, acc.toList, c', by rw [ek]; exact k2, by rw [Array.toArray_toList]; exact e⟩
theorem snd_lsv {a : Expr} {ia : Ex} {p pos : Pos} (hg : glB C "list" = true) (hs : notStar a = true) (sa : SndE C a ia) : SndN C (.Call (.Name "list" p) [a] [] pos) (.lsv ia) := fun G d E X k => by
  refine PE.weak (pe_callTy (CallR.or call_list_of (call_listX k.calm (nm := C.nm))) (gl_of k hg) (k.blt _ (by decide)) (by rfl) (pa_1 (sa G d E X k) hs) (he := star_of hs [] X.env)) fun σ H Q ⟨env, h, μ, me, m, o⟩ => ?_
  rw [evS] at o
  refine ⟨env, h, μ, me, m, Out.bindM o fun μ1 H1 h1 v x g1 m1 r1 o1 => ?_⟩
  split at o1
  · rename_i xs e
    have sq : seqT v h1 = some xs → ∃ p ys, ([x] : List V) = [.ref p] ∧ (SqL X.K H1 p ys ∨ SqT X.K H1 p ys) ∧ ∀ l, H1 l = none → Q (.ref l) (upd H1 l (.lst ys)) := fun e => by
      obtain ⟨b, zs, rfl, q, t⟩ := seqT_of m1 r1 e
      exact ⟨b, zs, rfl, q, fun l hl => o1 μ1 H1 zs .refl m1 t l hl⟩
    unfold seqD at e
    split at e
    · split at e
      · rename_i n _ kvs e1
        cases e
        cases r1 with
        | ref q => exact .inr ⟨_, μ1, kvs, rfl, m1.obj _ _ _ q e1, fun l ks t hl => o1 μ1 H1 ks .refl m1 t l hl⟩
      · exact .inl (sq e)
    · exact .inl (sq e)
  · exact o1.elim
/-! list(range(..)), tuple(range(..)) -/
theorem rg_vms {K : PySem.W.Frag} {μ : List Addr} {H : Hp} (a : Int) : ∀ l : List Nat, VMs K μ H (l.map fun k => GV.int (a + (k : Nat))) (l.map fun i => V.int (a + (i : Nat)))
  | [] => .nil
  | i :: l => .cons (.int _) (rg_vms a l)
theorem rngL_ok {a b : Int} {xs : List GV} (e : rngL a b = some xs) : RgOk a b ∧ ∀ (K : PySem.W.Frag) (μ : List Addr) (H : Hp), VMs K μ H xs (rgV a b) := by
  change (if -1000000 ≤ a ∧ a ≤ 1000000 ∧ -1000000 ≤ b ∧ b ≤ 1000000 then some ((List.range (b - a).toNat).map fun k => GV.int (a + (k : Nat))) else none) = some xs at e
  split at e
  · rename_i hb
    cases e
    refine ⟨⟨by omega, by omega, by omega, by omega, by omega⟩, fun K μ H => ?_⟩
    unfold rgV
    exact rg_vms a _
  · cases e
theorem snd_rgl1 {a : Expr} {ia : Ex} {p p2 p3 pos : Pos} (hg : glB C "list" = true) (hg2 : glB C "range" = true) (hs : notStar a = true) (sa : SndE C a ia) : SndN C (.Call (.Name "list" p) [.Call (.Name "range" p2) [a] [] p3] [] pos) (.rgl (.cst (.int 0)) ia) := fun G d E X k => by
  refine PE.weak (pe_listRg k.calm (gl_of k hg) (k.blt _ (by decide)) (prg_1 (gl_of k hg2) (k.blt _ (by decide)) (sa G d E X k) (star_of hs [] X.env))) fun σ H Q ⟨env, h, μ, me, m, o⟩ => ?_
  rw [evS, evE] at o
  refine ⟨env, h, μ, me, m, Out.bindM o fun μ1 H1 h1 v x g1 m1 r1 o1 => ?_⟩
  split at o1
  · rename_i i j e
    cases e
    split at o1
    · rename_i xs e
      cases r1
      obtain ⟨q1, q2⟩ := rngL_ok e
      exact ⟨_, rfl, q1, fun q hq => o1 μ1 H1 _ .refl m1 (q2 _ _ _) q hq⟩
    · exact o1.elim
  · exact o1.elim
theorem snd_rgl2 {a b : Expr} {ia ib : Ex} {p p2 p3 pos : Pos} (hg : glB C "list" = true) (hg2 : glB C "range" = true) (hs : notStar a = true) (hs2 : notStar b = true) (sa : SndE C a ia) (sb : SndE C b ib) :
    SndN C (.Call (.Name "list" p) [.Call (.Name "range" p2) [a, b] [] p3] [] pos) (.rgl ia ib) := fun G d E X k => by
  refine PE.weak (pe_listRg k.calm (gl_of k hg) (k.blt _ (by decide)) (prg_2 (gl_of k hg2) (k.blt _ (by decide)) (sa G d E X k) (sb G d E X k) (star_of hs [b] X.env) (star_of hs2 [] X.env) (stars_off (es := [b]) (by unfold noStars; rw [List.all_cons, hs2]; rfl) p3 X.env))) fun σ H Q ⟨env, h, μ, me, m, o⟩ => ?_
  rw [evS] at o
  refine ⟨env, h, μ, me, m, Out.bindM o fun μ1 H1 h1 v x g1 m1 r1 o1 => ?_⟩
  refine ⟨env, h1, μ1, me.grow m g1, m1, Out.bindM o1 fun μ2 H2 h2 u y g2 m2 r2 o2 => ?_⟩
  split at o2
  · split at o2
    · rename_i xs e
      cases r1
      cases r2
      obtain ⟨q1, q2⟩ := rngL_ok e
      exact ⟨_, _, rfl, rfl, q1, fun q hq => o2 μ2 H2 _ .refl m2 (q2 _ _ _) q hq⟩
    · exact o2.elim
  · exact o2.elim
/-! ### {} -/
theorem snd_dic {pos : Pos} : SndE C (.Dict [] [] pos) .dic := fun G d E X k => by
  refine ⟨fun pins s σ H Q I ⟨env, h, μ, me, m, o⟩ => ?_⟩
  rw [evE] at o
  have hp : H s.heap.objs.size = none := I.hok.fresh (Nat.le_refl _)
  have sysN : (s.heap.objs.size == PySem.sysModules) = false := beq_eq_false_iff_ne.mpr (Ne.symm (Nat.ne_of_lt I.big))
  have at_ : (s.heap.push { cls := .type "dict", data := .dict #[] }).get? s.heap.objs.size = some { cls := .type "dict", data := .dict #[] } := Heap.get?_push_size _ rfl
  have g := Grow.alloc (ho := dctO s.heap.objs.size { cls := .type "dict", data := .dict #[] }) m hp
  refine wpAny_Dict_empty ⟨.ref s.heap.objs.size, _, I.laid (a := s.heap.objs.size) (o := dctO s.heap.objs.size { cls := .type "dict", data := .dict #[] }) (t' := s.toks) (fun _ _ q => Heap.get?_push_of_some _ q) (Nat.le_refl _) ⟨at_, ⟨_, at_⟩, fun h1 h2 p1 p2 => p2 _ p1⟩, rfl, ?_⟩
  exact o.at g (MHeap.alloc m hp ⟨⟨_, #[], 0, upd_same, ⟨rfl, rfl, rfl⟩, rfl, .nil⟩, sysN, Nat.zero_le _, List.nodup_nil, .inl rfl⟩) (.ref (alloc_ref m))
end
end Pv
end Pv_M
section Pv_N
set_option Elab.async false
set_option linter.all false
set_option maxRecDepth 10000
namespace Pv
open PySem PySem.Spec PyProof.Rows
open L2
open GV

/-! ### sorted -/
section
variable {prog : Program} {w : World} {A : Around} {E : Value → Shared → Prop} {s : Shared}
/-- sorted(xs, ..): list.sort on a new list, xs a list or a tuple -/
theorem sorted_any {l : Addr} {T : String} {ob : Obj} {items : Array Value} {n : Nat} {kw : List (Str × Value)} {Q : Value → Shared → Prop} (hT : T = "list" ∨ T = "tuple") (ho : s.heap.get? l = some ob) (hc : ob.cls = .type T) (hd : ob.data = .seq items n) (hz : items.size ≤ sizeLine)
    (a1 : argsOk "sorted" ⟨[.ref l], kw⟩) (a2 : ∀ x, argsOk "list.sort" ⟨[.ref x], kw⟩)
    (body : ∀ (h' : Heap), (∀ b o, s.heap.get? b = some o → h'.get? b = some o) → ∀ E' : Value → Shared → Prop, wpAny (model prog w) A.in1.in1 (Builtin.«list.sort» ⟨[.ref h'.objs.size], kw⟩) (fun f s' => f = .done (.ret .none) ∧ Q (.ref h'.objs.size) s') E' { s with heap := h'.push { cls := .type "list", data := .seq items } }) :
    wpAny (model prog w) A (call (.builtin "sorted") [.ref l] kw) Q E s := by
  refine call_function_entry_kw kind_sorted plain_sorted entry_sorted a1 ?_
  unfold Builtin.«sorted»
  refine wpAny_bind (m := checkCount "sorted" 1 1 _) (wpAny_pure ?_)
  refine wpAny_bind (wpAny_collect_seq l hT ho hc hd (fun h' kp => ?_) hz)
  have hz' : items.toList.length ≤ sizeLine := by rw [Array.length_toList]; exact hz
  refine wpAny_bind (wpAny_newList ?_ hz')
  have at_ : (h'.push { cls := .type "list", data := .seq items.toList.toArray }).get? h'.objs.size = some { cls := .type "list", data := .seq items.toList.toArray } := Heap.get?_push_size _ rfl
  have ty : ({ s with heap := h'.push { cls := .type "list", data := .seq items.toList.toArray } } : Shared).TypeIs (.ref h'.objs.size) "list" := ⟨_, at_, rfl⟩
  refine wpAny_bind (wpAny_holding (wpAny_call_entry_kw slot_list_sort ty entry_list_sort ?_ (a2 _)))
  refine wpAny_mono (Q := fun f s' => f = .done (.ret .none) ∧ Q (.ref h'.objs.size) s') (by simpa using body h' kp _) (fun f s' ⟨hf, hq⟩ => ?_) fun _ _ e => e
  subst hf
  exact ⟨_, rfl, wpAny_pure ⟨_, rfl, hq⟩⟩
end
section
variable {K : PySem.W.Frag} {μ : List Addr} {H : Hp}
/-- the value g, as the machine has it -/
def VR (K : PySem.W.Frag) (μ : List Addr) (H : Hp) (u : Value) (g : GV) : Prop := ∃ x, VM K μ H g x ∧ RelV x u
theorem each_of : ∀ {gs : List GV} {xs : List V} {us : List Value}, VMs K μ H gs xs → Vals xs us → PySem.W.EachIs (VR K μ H) us gs
  | _, _, _, .nil, .nil => .nil
  | _, _, _, .cons r t, .cons q z => .cons ⟨_, r, q⟩ (each_of t z)
theorem of_each : ∀ {us : List Value} {gs : List GV}, PySem.W.EachIs (VR K μ H) us gs → ∃ xs, VMs K μ H gs xs ∧ Vals xs us
  | _, _, .nil => ⟨[], .nil, .nil⟩
  | _, _, .cons ⟨x, r, q⟩ t =>
    let ⟨xs, h1, h2⟩ := of_each t
    ⟨x :: xs, .cons r h1, .cons q h2⟩
theorem each_len {R : α → β → Prop} : ∀ {as : List α} {bs : List β}, PySem.W.EachIs R as bs → as.length = bs.length
  | _, _, .nil => rfl
  | _, _, .cons _ t => congrArg Nat.succ (each_len t)
theorem oks_mem {n : Nat} : ∀ {gs : List GV}, oksN n gs = true → ∀ g ∈ gs, okN n g = true
  | [], _, _, h => nomatch h
  | v :: vs, h, g, hg => by
    rw [oksN, Bool.and_eq_true] at h
    rcases List.mem_cons.mp hg with rfl | hg
    · exact h.1
    · exact oks_mem h.2 g hg
theorem each_reads {X : Cx} {pins : List (Addr × Obj)} {σ : L2.St} {H : Hp} {s : Shared} (I : Inv X pins σ H s) {n : Nat} : ∀ {us : List Value} {gs : List GV}, oksN n gs = true → PySem.W.EachIs (VR X.K μ H) us gs → PySem.W.EachIs (fun v b => ∃ as, Reads s.heap v (dat b) as) us gs
  | _, _, _, .nil => .nil
  | _, _, h, .cons ⟨x, r, q⟩ t => by
    rw [oksN, Bool.and_eq_true] at h
    exact .cons (Dp.reads I _ x _ (dp_of n _ _ h.1 r) q) (each_reads I h.2 t)
theorem srt_facts {gs : List GV} (h : srtOk gs = true) : oksN 30 gs = true ∧ PySem.W.AllAlike (gs.map dat) ∧ PySem.W.Sortable (gs.map dat) := by
  unfold srtOk at h
  rw [Bool.and_eq_true, Bool.and_eq_true] at h
  obtain ⟨⟨h1, h2⟩, h3⟩ := h
  refine ⟨h1, fun d hd d' hd' => ?_, ?_⟩
  · obtain ⟨a, ha, rfl⟩ := List.mem_map.mp hd
    obtain ⟨b, hb, rfl⟩ := List.mem_map.mp hd'
    exact List.all_eq_true.mp (List.all_eq_true.mp h2 a ha) b hb
  · rw [Bool.or_eq_true] at h3
    rcases h3 with h3 | h3
    · refine .inl fun d hd => ?_
      obtain ⟨a, ha, rfl⟩ := List.mem_map.mp hd
      have q := List.all_eq_true.mp h3 a ha
      split at q
      · exact ⟨_, _, rfl⟩
      · cases q
    · refine .inr fun d hd => ?_
      obtain ⟨a, ha, rfl⟩ := List.mem_map.mp hd
      have q := List.all_eq_true.mp h3 a ha
      have o := oks_mem h1 a ha
      cases a with
      | non => cases q
      | tup xs => cases q
      | bl b => exact ⟨nofun, nofun⟩
      | int b => exact ⟨nofun, nofun⟩
      | str b => exact ⟨nofun, nofun⟩
      | ref b => simp [okN] at o
      | rng b c => simp [okN] at o
      | frl b => simp [okN] at o
theorem leD_eq : PySem.W.dataLe false dat = leD := by
  funext a b
  rfl
end
def rSrt (K : PySem.W.Frag) : List V → Hp → VK → Prop := fun vs H Q => ∃ μ p gs xs, vs = [V.ref p] ∧ (SqL K H p xs ∨ SqT K H p xs) ∧ VMs K μ H gs xs ∧ srtOk gs = true ∧ ∀ q ys, H q = none → VMs K μ H (gs.mergeSort leD) ys → Q (.ref q) (upd H q (.lst ys))
theorem cr_srt {X : Cx} (hu : X.A.units + 65 < cLine) : CallR X (.builtin "sorted") (rSrt X.K) := by
  intro pins s σ H vs us Q I r h
  obtain ⟨μ, p, gs, xs, rfl, hq, t, ok, q⟩ := h
  obtain ⟨u, rfl, rx⟩ := r.one
  cases rx
  obtain ⟨f1, f2, f3⟩ := srt_facts ok
  have go : ∀ (T : String) (ob : Obj) (its : List Value) (n : Nat), T = "list" ∨ T = "tuple" → s.heap.get? p = some ob → ob.cls = .type T → ob.data = .seq its.toArray n → Vals xs its → xs.length ≤ sizeLine →
      wpAny (model X.prog X.w) X.A (call (.builtin "sorted") [.ref p]) (EP X pins σ Q) X.xe s := fun T ob its n hT ho hc hd rv hz => by
    have e0 : PySem.W.EachIs (VR X.K μ H) its gs := each_of t rv
    have hl : its.length = gs.length := each_len e0
    refine sorted_any hT ho hc hd (by simp only [List.size_toArray]; have := rv.length; omega) (args_sorted1 _) (fun _ => args_list_sort _) fun h' kp E' => ?_
    generalize hs1 : h'.push { cls := .type "list", data := .seq its.toArray } = h1
    have at_ : h1.get? h'.objs.size = some (seqObj "list" its.toArray 0) := by
      subst hs1
      exact Heap.get?_push_size _ rfl
    have k1 : ∀ b o, s.heap.get? b = some o → h1.get? b = some o := fun b o e => by
      subst hs1
      exact Heap.get?_push_of_some _ (kp b o e)
    have I1 : Inv X pins σ H { s with heap := h1 } := I.kept (t' := s.toks) k1
    have old : ∀ b o, s.heap.get? b = some o → b ≠ h'.objs.size := fun b o e z => absurd (Heap.lt_size (kp b o e)) (by rw [z]; exact Nat.lt_irrefl _)
    have k2 : ∀ b o, s.heap.get? b = some o → (PySem.W.sortingHeap h1 h'.objs.size its).get? b = some o := fun b o e => PySem.W.sortingHeap_old (old b o e) (k1 b o e)
    have I2 : Inv X pins σ H { s with heap := PySem.W.sortingHeap h1 h'.objs.size its } := I.kept (t' := s.toks) k2
    have rd := each_reads I2 f1 e0
    have S := PySem.W.SortsAt.data (prog := X.prog) (w := X.w) (A := X.A.in1.in1) (s := { s with heap := PySem.W.sortingHeap h1 h'.objs.size its }) (ds := gs.map dat)
      (PySem.W.each_map (R := fun v d => ∃ as, Reads (PySem.W.sortingHeap h1 h'.objs.size its) v d as) dat rd) f2 f3 fun d hd => by
        obtain ⟨a, ha, rfl⟩ := List.mem_map.mp hd
        have l1 := (lay_of 30 a (oks_mem f1 a ha)).2
        show X.A.units + 1 + 1 + (dat a).depth < cLine
        omega
    have hz2 : its.length ≤ sizeLine := by have := rv.length; omega
    refine PySem.W.list_sort_vals (s := { s with heap := h1 }) at_ S hz2 ⟨rfl, ?_⟩
    have eo := PySem.W.sortVals_data false e0 rd f2
    rw [leD_eq] at eo
    obtain ⟨ys, y1, y2⟩ := of_each eo
    generalize PySem.W.sortVals (PySem.W.dataKind (PySem.W.sortingHeap h1 h'.objs.size its) (gs.map dat)) false its its = out at eo y2 ⊢
    obtain ⟨c, hc'⟩ := sortedHeap_at (out := out.toArray) at_
    have I0 : Inv X pins σ H { s with heap := h' } := I.kept (t' := s.toks) kp
    have hk : ∀ b o, h'.get? b = some o → (sortedHeap h1 h'.objs.size its out.toArray).get? b = some o := fun b o e => by
      have e1 : h1.get? b = some o := by
        subst hs1
        exact Heap.get?_push_of_some _ e
      rw [sortedHeap_old (Nat.ne_of_lt (Heap.lt_size e)) (Heap.lt_size e1)]
      exact e1
    have hy : ys.length ≤ sizeLine := by
      have l1 := y1.length
      rw [List.length_mergeSort] at l1
      omega
    exact ⟨.ref h'.objs.size, _, I0.laid (t' := s.toks) (o := .lst ys) hk (Nat.le_refl _) ⟨hy, out, c, y2, hc'⟩, rfl, q _ ys (I0.hok.fresh (Nat.le_refl _)) y1⟩
  rcases hq with hq | hq
  · obtain ⟨its, rv, ⟨ob, n, e1, e2, _, e3⟩, hz⟩ := I.list hq
    exact go "list" ob its n (.inl rfl) e1 e2 e3 rv hz
  · obtain ⟨its, rv, ⟨ob, e1, e2, n, e3⟩, hz⟩ := I.tuple hq
    exact go "tuple" ob its n (.inr rfl) e1 e2 e3 rv hz
section
variable {C : Cc}
theorem snd_srt {a : Expr} {s : Sq} {p pos : Pos} (hg : glB C "sorted" = true) (hs : notStar a = true) (sa : SndS C a s) : SndN C (.Call (.Name "sorted" p) [a] [] pos) (.srt s) := fun G d E X k => by
  refine PE.weak (pe_callB (cr_srt (Room.u64 k.room)) (gl_of k hg) (k.blt _ (by decide)) (by rfl) (pa_1 (sa G d E X k) hs) (he := star_of hs [] X.env)) fun σ H Q ⟨env, h, μ, me, m, o⟩ => ?_
  rw [evS] at o
  refine ⟨env, h, μ, me, m, Out.bindM o fun μ1 H1 h1 vs x g1 m1 ⟨b, xs, e, q, t⟩ o1 => ?_⟩
  subst e
  split at o1
  · rename_i ok
    exact ⟨μ1, b, vs, xs, rfl, q, t, ok, fun q ys hq y1 => o1 μ1 H1 ys .refl m1 y1 q hq⟩
  · exact o1.elim
end
end Pv
end Pv_N
section Pv_O
set_option Elab.async false
set_option linter.all false
set_option maxRecDepth 10000
namespace Pv
open PySem PySem.Spec PyProof.Rows
open L2
open GV

/-! ### len(set(t)), t a tuple of ints -/
theorem ints_vms {K : PySem.W.Frag} {μ : List Addr} {H : Hp} : ∀ {vs : List GV} {ns : List Int} {xs : List V}, intsOf vs = some ns → VMs K μ H vs xs → xs = ns.map V.int
  | [], _, _, e, .nil => by cases e; rfl
  | v :: vs, ns, _, e, .cons r t => by
    cases v <;> simp [intsOf] at e
    obtain ⟨ms, e1, rfl⟩ := e
    cases r
    rw [ints_vms e1 t]
    rfl
theorem of_ints : ∀ {vs : List GV} {ns : List Int}, intsOf vs = some ns → vs = ns.map GV.int
  | [], _, e => by cases e; rfl
  | v :: vs, ns, e => by
    cases v <;> simp [intsOf] at e
    obtain ⟨ms, e1, rfl⟩ := e
    rw [of_ints e1]
    rfl
theorem ints_at : ∀ {ns : List Int} {us : List Value}, Vals (ns.map V.int) us → PyProof.Rows.IntsAre us ns
  | [], _, .nil => .nil
  | n :: ns, _, .cons r t => by
    obtain ⟨k, rfl⟩ := r
    exact .cons n k (ints_at t)
def tLset (K : PySem.W.Frag) (ta : TE) : TE := fun σ H Q => ta σ H fun x H1 => ∃ (l : Addr) (ns : List Int), x = .ref l ∧ SqT K H1 l (ns.map V.int) ∧ ns.length ≤ 3000 ∧ Q (.int ((ddp ns).length : Nat)) H1
theorem pe_lset {X : Cx} {a : Expr} {ta : TE} {p p2 q pos : Pos} (hc : X.calm = true) (hg : Gl X "len") (hm : X.mg "len" = none) (hg2 : Gl X "set") (hm2 : X.mg "set" = none) (ha : PE X a ta)
    (na : starEach [a] X.env = (false, eval a X.env) :: starEach [] X.env) : PE X (.Call (.Name "len" p) [.Call (.Name "set" p2) [a] [] q] [] pos) (tLset X.K ta) := by
  refine ⟨fun pins s σ H Q I h => Call_ (ld_blt I hg hm boot_len ?_)⟩
  refine PyProof.Rows.callWith_builtin1 (PyProof.Rows.args_cons (Call_ (ld_blt I hg2 hm2 boot_set ?_)) rfl) rfl rfl
  refine PyProof.Rows.callWith_type1 (PyProof.Rows.args_cons (thn (ha.run pins s σ H _ I h) fun v s1 ⟨x, H1, I1, r1, z⟩ => PyProof.Rows.args_nil ?_) na) na rfl
  obtain ⟨l, ns, rfl, hq, hl, z⟩ := z
  cases r1
  obtain ⟨its, rv, tu, hz⟩ := I1.tuple hq
  refine L2.call_set_tupI ns (I1.ok.hd hc) tu (by simpa using ints_at rv) (by unfold scanBound; omega) fun h' tk c hS hc' hk => PyProof.Rows.args_nil ?_
  obtain ⟨o, es, ep, t, ho, hex, hd, _, nd, mm, _, hf, hn, _⟩ := hS
  have I2 : Inv X pins σ H1 { s1 with heap := h', toks := tk } := I1.kept hk
  have hlen : es.size = (ddp ns).length := by
    have pm := (List.perm_ext_iff_of_nodup nd (nodup_ddp ns)).mpr fun k => by
      rw [← mm k, mem_ddp, decide_eq_true_iff]
    have := pm.length_eq
    simpa using this
  exact call_len_set ho hex hd hf (by rw [hn]; omega) ⟨.int ((ddp ns).length : Nat), H1, I2.tok _, ⟨_, by rw [hlen]⟩, z⟩
section
variable {C : Cc}
theorem snd_lset {a : Expr} {ia : Ex} {p p2 p3 pos : Pos} (hg : glB C "len" = true) (hg2 : glB C "set" = true) (hs : notStar a = true) (sa : SndE C a ia) : SndE C (.Call (.Name "len" p) [.Call (.Name "set" p2) [a] [] p3] [] pos) (.lset ia) := fun G d E X k => by
  refine PE.weak (pe_lset k.calm (gl_of k hg) (k.blt _ (by decide)) (gl_of k hg2) (k.blt _ (by decide)) (sa G d E X k) (star_of hs [] X.env)) fun σ H Q ⟨env, h, μ, me, m, o⟩ => ?_
  rw [evE] at o
  refine ⟨env, h, μ, me, m, Out.bindM o fun μ1 H1 h1 v x g1 m1 r1 o1 => ?_⟩
  split at o1
  · split at o1
    · rename_i ns e
      split at o1
      · rename_i hl
        cases r1 with
        | @tup b _ xs q t =>
          exact ⟨b, ns, rfl, by rw [← ints_vms e t]; exact q, hl, o1.pure m1 (.int _)⟩
      · exact o1.elim
    · exact o1.elim
  · exact o1.elim

/-! ### isinstance -/
def tyN : Ty → String
  | .int => "int"
  | .bool => "bool"
  | .str => "str"
  | .list => "list"
  | .tuple => "tuple"
def tyOf1 (x : Str) : Option Ty :=
  if x = "int" then some .int else if x = "bool" then some .bool else if x = "str" then some .str else if x = "list" then some .list else if x = "tuple" then some .tuple else none
theorem tyOf1_eq {x : Str} {t : Ty} (h : tyOf1 x = some t) : x = Str.ofString (tyN t) ∧ x ∈ bltNames ∧ bootBuiltins x = some (.type (tyN t)) := by
  unfold tyOf1 at h
  split at h
  · rename_i e; cases h; subst e; exact ⟨rfl, by decide, by rfl⟩
  split at h
  · rename_i e; cases h; subst e; exact ⟨rfl, by decide, by rfl⟩
  split at h
  · rename_i e; cases h; subst e; exact ⟨rfl, by decide, by rfl⟩
  split at h
  · rename_i e; cases h; subst e; exact ⟨rfl, by decide, by rfl⟩
  split at h
  · rename_i e; cases h; subst e; exact ⟨rfl, by decide, by rfl⟩
  · cases h
theorem pe_ty {G : Prg} {d : Nat} {E : XK} {X : Cx} (k : Ok C G d E X) {x : Str} {t : Ty} {p : Pos} (h : tyOf1 x = some t) (hg : glB C x = true) : PE X (.Name x p) (tC (.ty (tyN t))) := by
  obtain ⟨e1, e2, e3⟩ := tyOf1_eq h
  refine pe_bltn (gl_of k hg) (k.blt x e2) e3 rfl ?_ ?_
  · subst e1; cases t <;> decide
  · subst e1; cases t <;> decide
def tysOf (C : Cc) : List Expr → Option (List Ty)
  | [] => some []
  | .Name x _ :: r => if glB C x = true then match tyOf1 x, tysOf C r with
    | some t, some ts => some (t :: ts)
    | _, _ => none
    else none
  | _ :: _ => none
theorem pa_tys {G : Prg} {d : Nat} {E : XK} {X : Cx} (k : Ok C G d E X) : ∀ {es : List Expr} {ts : List Ty}, tysOf C es = some ts → PA X es (fun σ H Q => Q (ts.map fun t => V.ty (tyN t)) H)
  | [], ts, h => by
    cases h
    exact pa_nil
  | e :: r, ts, h => by
    unfold tysOf at h
    split at h
    · rename_i e0
      cases e0
    · rename_i e1
      cases e1
      split at h
      · rename_i hg
        split at h
        · rename_i t us h1 h2
          cases h
          exact pa_cons (pe_ty k h1 hg) (pa_tys k h2) rfl
        · cases h
      · cases h
    · cases h
/-- what a value's type is -/
theorem ty_of {X : Cx} {nm : Nm} {μ : List Addr} {h : GH} {H : Hp} {v : GV} {x : V} {t : Ty} {b : Bool} (m : MHeap X.K X.w nm μ h H) (r : VM X.K μ H v x) (e : isT t v h = some b) : ∃ T, TyX X.K H x (.type T) ∧ kitB T (tyN t) = some b := by
  unfold isT at e
  split at e
  · cases r
    cases e
    exact ⟨_, .base .non, by cases t <;> decide +kernel⟩
  · cases r
    cases e
    exact ⟨_, .base (.bl _), by cases t <;> decide +kernel⟩
  · cases r
    cases e
    exact ⟨_, .base (.int _), by cases t <;> decide +kernel⟩
  · cases r
    cases e
    exact ⟨_, .base (.str _), by cases t <;> decide +kernel⟩
  · cases e
    cases r with
    | tup q _ =>
      refine ⟨"tuple", ?_, by cases t <;> decide +kernel⟩
      rcases q with (q | ⟨o, q⟩) | ⟨o, its, n, q1, q2, _⟩
      · exact .base (.tup q)
      · exact .fTuple q
      · exact .kTuple q1 q2
  · split at e
    · rename_i n _ xs e1
      cases e
      cases r with
      | ref q =>
        obtain ⟨zs, z1, _⟩ := m.obj _ _ _ q e1
        exact ⟨"list", .base (.lst z1), by cases t <;> decide +kernel⟩
    · cases e
  · cases e
  · cases e
theorem tys_of {X : Cx} {nm : Nm} {μ : List Addr} {h : GH} {H : Hp} {v : GV} {x : V} (m : MHeap X.K X.w nm μ h H) (r : VM X.K μ H v x) {T : String} (ty : TyX X.K H x (.type T)) (all : ∀ t b, isT t v h = some b → kitB T (tyN t) = some b) :
    ∀ {ts : List Ty} {b : Bool}, isTs ts v h = some b → PySem.W.kitAny X.K (.type T) (ts.map fun t => Value.type (tyN t)) = some b
  | [], b, e => by
    cases e
    exact kitAny_nil
  | t :: ts, b, e => by
    unfold isTs at e
    split at e
    · rename_i e1
      cases e
      exact kitAny_cons (kit_ty (all t true e1)) (fun z => by cases z) fun _ => rfl
    · rename_i e1
      exact kitAny_cons (kit_ty (all t false e1)) (fun _ => tys_of m r ty all e) fun z => by cases z
    · cases e
theorem ty_all {X : Cx} {nm : Nm} {μ : List Addr} {h : GH} {H : Hp} {v : GV} {x : V} {ts : List Ty} {b : Bool} (m : MHeap X.K X.w nm μ h H) (r : VM X.K μ H v x) (ne : ts ≠ []) (e : isTs ts v h = some b) : ∃ T, TyX X.K H x (.type T) ∧ ∀ t b, isT t v h = some b → kitB T (tyN t) = some b := by
  have some_ : ∃ t b, isT t v h = some b := by
    cases ts with
    | nil => exact absurd rfl ne
    | cons t ts =>
      unfold isTs at e
      split at e
      · exact ⟨t, _, by assumption⟩
      · exact ⟨t, _, by assumption⟩
      · cases e
  obtain ⟨t0, b0, e0⟩ := some_
  obtain ⟨T0, q0, _⟩ := ty_of m r e0
  cases v with
  | non => exact ⟨"NoneType", by cases r; exact .base .non, fun t b e => by cases e; cases t <;> decide +kernel⟩
  | bl c => exact ⟨"bool", by cases r; exact .base (.bl _), fun t b e => by cases e; cases t <;> decide +kernel⟩
  | int c => exact ⟨"int", by cases r; exact .base (.int _), fun t b e => by cases e; cases t <;> decide +kernel⟩
  | str c => exact ⟨"str", by cases r; exact .base (.str _), fun t b e => by cases e; cases t <;> decide +kernel⟩
  | tup c =>
    refine ⟨"tuple", ?_, fun t b e => by cases e; cases t <;> decide +kernel⟩
    cases r with
    | tup q _ =>
      rcases q with (q | ⟨o, q⟩) | ⟨o, its, n, q1, q2, _⟩
      · exact .base (.tup q)
      · exact .fTuple q
      · exact .kTuple q1 q2
  | ref n =>
    cases r with
    | ref q =>
      unfold isT at e0
      dsimp only at e0
      split at e0
      · rename_i xs e1
        obtain ⟨zs, z1, _⟩ := m.obj _ _ _ q e1
        refine ⟨"list", .base (.lst z1), fun t b e => ?_⟩
        unfold isT at e
        dsimp only at e
        rw [e1] at e
        cases e
        cases t <;> decide +kernel
      · cases e0
  | rng a c => cases e0
  | frl c => cases e0
theorem cls_tys : ∀ ts : List Ty, Paired ClsV (ts.map fun t => V.ty (tyN t)) (ts.map fun t => Value.type (tyN t))
  | [] => .nil
  | _ :: ts => .cons (.ty _) (cls_tys ts)
theorem snd_isi1 {a : Expr} {ia : Ex} {x : Str} {t : Ty} {p p2 pos : Pos} (hg : glB C "isinstance" = true) (hg2 : glB C x = true) (ht : tyOf1 x = some t) (hs : notStar a = true) (sa : SndE C a ia) : SndE C (.Call (.Name "isinstance" p) [a, .Name x p2] [] pos) (.isi ia [t]) := fun G d E X k => by
  refine PE.weak (pe_callB call_isi (gl_of k hg) (k.blt _ (by decide)) (by rfl) (pa_2 (sa G d E X k) (pe_ty k ht hg2) hs rfl) (he := star_of hs _ X.env)) fun σ H Q ⟨env, h, μ, me, m, o⟩ => ?_
  rw [evE] at o
  refine ⟨env, h, μ, me, m, Out.bindM o fun μ1 H1 h1 v y g1 m1 r1 o1 => ?_⟩
  split at o1
  · rename_i b e
    have e1 : isT t v h1 = some b := by
      unfold isTs at e
      split at e
      · rename_i e1; rw [e1]; exact e
      · rename_i e1; rw [e1]; exact e
      · cases e
    obtain ⟨T, q1, q2⟩ := ty_of m1 r1 e1
    exact ⟨y, .ty (tyN t), .type T, .type (tyN t), b, rfl, .ty _, q1, kit_ty q2, o1.pure m1 (.bl b)⟩
  · exact o1.elim
theorem snd_isiT {a : Expr} {ia : Ex} {es : List Expr} {t : Ty} {ts : List Ty} {j : Nat} {p p2 pos : Pos} (hg : glB C "isinstance" = true) (ht : tysOf C es = some (t :: ts)) (hl : ts.length ≤ 10) (hs : notStar a = true) (sa : SndE C a ia) : SndE C (.Call (.Name "isinstance" p) [a, .Tuple es j p2] [] pos) (.isi ia (t :: ts)) := fun G d E X k => by
  refine PE.weak (pe_callB call_isiT (gl_of k hg) (k.blt _ (by decide)) (by rfl) (pa_2 (sa G d E X k) (pe_tup (pa_tys k ht)) hs rfl) (he := star_of hs _ X.env)) fun σ H Q ⟨env, h, μ, me, m, o⟩ => ?_
  rw [evE] at o
  refine ⟨env, h, μ, me, m, Out.bindM o fun μ1 H1 h1 v y g1 m1 r1 o1 => ?_⟩
  refine ⟨?_, fun q hq => ?_⟩
  · rw [List.length_map, List.length_cons, sizeLine_eq]
    omega
  split at o1
  · rename_i b e
    obtain ⟨T, q1, q2⟩ := ty_all m1 r1 (by simp) e
    have g := Grow.side (ho := .tup ((t :: ts).map fun t => V.ty (tyN t))) m1 hq
    have m2 := MHeap.side (ho := .tup ((t :: ts).map fun t => V.ty (tyN t))) m1 hq
    obtain ⟨T', q1', q2'⟩ := ty_all m2 (r1.grow m1 g) (by simp) e
    exact ⟨y, q, _, .type T', _, b, rfl, upd_same, cls_tys (t :: ts), q1', tys_of m2 (r1.grow m1 g) q1' q2' e, o1.at g m2 (.bl b)⟩
  · exact o1.elim
end
end Pv
end Pv_O
section Pv_P
set_option Elab.async false
set_option linter.all false
set_option maxRecDepth 10000
namespace Pv
open PySem PySem.Spec PyProof.Rows
open L2
open GV

section
variable {C : Cc}
/-! ### own calls -/
theorem callF_len {K : PySem.W.Frag} {w : World} {nm : Nm} {β : Type} {R : List Addr → Hp → GV → β → Prop} {G : Prg} {d f : Nat} {fn : Fn} {gs : List GV} {h : GH} {μ : List Addr} {H : Hp} {E : XK} {Q : β → Hp → Prop} (hG : G f = some fn) (o : Out K w nm R (callF G d f gs h) μ H E Q) : gs.length = fn.np := by
  cases d with
  | zero => exact o.elim
  | succ d =>
    unfold callF at o
    rw [hG] at o
    dsimp only at o
    split at o
    · rename_i hl
      exact hl
    · exact o.elim
theorem FnAt.binds {P : Program} {w : World} {K : PySem.W.Frag} {mg : Str → Option Value} {base : Heap} {C : Cb} {cl : Calls} {d f : Nat} {fn : Fn} {a : Addr} {fd : FuncData} (F : FnAt P w K mg base C cl d f fn a fd) (hp : (C.par f).length = fn.np) : Binds K fd (C.par f) [] := fun s us hK hl => by
  rw [List.append_nil] at hl ⊢
  exact F.bnd s us (hl.trans hp)
theorem call_run {K : PySem.W.Frag} {w : World} {nm : Nm} {G : Prg} {d f : Nat} {fn : Fn} {gs : List GV} {xs : List V} {h : GH} {μ : List Addr} {H : Hp} {E : XK} {Q : VK} (hG : G f = some fn) (m : MHeap K w nm μ h H) (r : VMs K μ H gs xs) (o : Out K w nm (VM K) (callF G d f gs h) μ H E Q) : spF K w nm (callF G d) f fn.np xs H Q E :=
  ⟨by rw [← r.length]; exact callF_len hG o, h, μ, gs, m, r, o⟩
theorem stars_cons {e : Expr} {es : List Expr} (hs : noStars (e :: es) = true) : notStar e = true ∧ noStars es = true := by
  unfold noStars at hs
  rw [List.all_cons, Bool.and_eq_true] at hs
  exact hs
theorem snd_call {x : Str} {e : Expr} {es : List Expr} {ies : Exs} {f : Nat} {p pos : Pos} (hn : C.nm f = x) (hm : C.meth f = none) (hf : f ∈ C.fs) (hg : glB C x = true) (hdb : (x == ("__debug__" : Str)) = false) (hs : noStars (e :: es) = true) (sa : SndA C (e :: es) ies) : SndE C (.Call (.Name x p) (e :: es) [] pos) (.call f ies) := fun G d E X k => by
  obtain ⟨fn, hG, ⟨⟨a, fd, F⟩, hp⟩⟩ := k.fns f hf
  have st := stars_cons hs
  refine PE.weak (pe_call F.ok (k.room.mono (by omega)) (gl_of k hg) (by rw [← hn]; exact F.glo hm) F.keep (F.binds hp) .nil k.pass (sa G d E X k) hdb (star_of st.1 es X.env) (stars_off st.2 pos X.env)) fun σ H Q ⟨env, h, μ, me, m, o⟩ => ?_
  rw [evE] at o
  refine ⟨env, h, μ, me, m, Out.bindM o fun μ1 H1 h1 vs xs g1 m1 r1 o1 => ?_⟩
  rw [List.append_nil]
  exact call_run hG m1 r1 o1
theorem snd_call0 {x : Str} {f : Nat} {p pos : Pos} (hn : C.nm f = x) (hm : C.meth f = none) (hf : f ∈ C.fs) (hg : glB C x = true) (hdb : (x == ("__debug__" : Str)) = false) : SndE C (.Call (.Name x p) [] [] pos) (.call f .nil) := fun G d E X k => by
  obtain ⟨fn, hG, ⟨⟨a, fd, F⟩, hp⟩⟩ := k.fns f hf
  refine PE.weak (pe_call0 F.ok (k.room.mono (by omega)) (gl_of k hg) (by rw [← hn]; exact F.glo hm) F.keep (F.binds hp) .nil k.pass hdb) fun σ H Q ⟨env, h, μ, me, m, o⟩ => ?_
  rw [evE, evEs] at o
  exact call_run hG m .nil o
/-! with keywords -/
def SndK (C : Cc) (es : List Keyword) (ie : Exs) : Prop := ∀ G d E X, Ok C G d E X → PK X es (rdEs X.K X.w C.nm E (callF G d) ie)
theorem PK.weak {X : Cx} {e : List Keyword} {t t' : TA} (p : PK X e t) (f : ∀ σ H Q, t' σ H Q → t σ H Q) : PK X e t' := ⟨fun pos pins s σ H Q I h => p.run pos pins s σ H Q I (f σ H Q h)⟩
theorem sndK_nil : SndK C [] .nil := fun G d E X k => by
  refine PK.weak pk_nil fun σ H Q ⟨env, h, μ, me, m, o⟩ => ?_
  rw [evEs] at o
  exact o.pure m .nil
theorem sndK_cons {n : Option Str} {e : Expr} {kp : Pos} {es : List Keyword} {ie : Ex} {ies : Exs} (a : SndE C e ie) (b : SndK C es ies) : SndK C (⟨n, e, kp⟩ :: es) (.cons ie ies) := fun G d E X k => by
  refine PK.weak (pk_cons (a G d E X k) (b G d E X k)) fun σ H Q ⟨env, h, μ, me, m, o⟩ => ?_
  rw [evEs] at o
  refine ⟨env, h, μ, me, m, Out.bindM o fun μ1 H1 h1 v x g1 m1 r1 o1 => ?_⟩
  refine ⟨env, h1, μ1, me.grow m g1, m1, Out.bindM o1 fun μ2 H2 h2 vs xs g2 m2 r2 o2 => ?_⟩
  exact o2.pure m2 (.cons (r1.grow m1 g2) r2)
def kwAll (kws : List Keyword) : Bool := kws.all fun k => k.arg.isSome
def kwNames (kws : List Keyword) : List Str := kws.filterMap fun k => k.arg
theorem kw_all : ∀ {kws : List Keyword}, kwAll kws = true → ∀ (pos : Pos) (env : PySem.Env), (backToKw pos (keywordEach kws env)).all (·.1.isSome) = true ∧ (backToKw pos (keywordEach kws env)).any (·.1.isNone) = false ∧ (backToKw pos (keywordEach kws env)).filterMap (·.1) = kwNames kws
  | [], _, _, _ => ⟨rfl, rfl, rfl⟩
  | ⟨n, v, kp⟩ :: kws, h, pos, env => by
    unfold kwAll at h
    rw [List.all_cons, Bool.and_eq_true] at h
    obtain ⟨i1, i2, i3⟩ := kw_all (kws := kws) h.2 pos env
    unfold backToKw at i1 i2 i3 ⊢
    unfold kwNames at i3 ⊢
    cases n with
    | none => cases h.1
    | some n =>
      rw [keywordEach, List.map_cons, List.all_cons, List.any_cons, i1, i2, List.filterMap_cons, List.filterMap_cons, i3]
      exact ⟨rfl, rfl, rfl⟩
theorem vals_get : ∀ {xs : List V} {us : List Value} (i : Nat), Vals xs us → RelV (xs.getD i .non) (us.getD i .none)
  | _, _, _, .nil => by simp; rfl
  | _, _, 0, .cons r _ => r
  | _, _, i + 1, .cons _ t => by
    have := vals_get i t
    simpa using this
theorem vals_perm {xs : List V} {us : List Value} (r : Vals xs us) : ∀ p : List Nat, Vals (p.map fun i => xs.getD i .non) (p.map fun i => us.getD i .none)
  | [] => .nil
  | i :: p => .cons (vals_get i r) (vals_perm r p)
theorem vm_get {K : PySem.W.Frag} {μ : List Addr} {H : Hp} : ∀ {gs : List GV} {xs : List V} (i : Nat), VMs K μ H gs xs → VM K μ H (gs.getD i .non) (xs.getD i .non)
  | _, _, _, .nil => by simp; exact .non
  | _, _, 0, .cons r _ => r
  | _, _, i + 1, .cons _ t => by
    have := vm_get i t
    simpa using this
theorem vm_perm {K : PySem.W.Frag} {μ : List Addr} {H : Hp} {gs : List GV} {xs : List V} (r : VMs K μ H gs xs) : ∀ p : List Nat, VMs K μ H (p.map fun i => gs.getD i .non) (p.map fun i => xs.getD i .non)
  | [] => .nil
  | i :: p => .cons (vm_get i r) (vm_perm r p)
theorem FnAt.kbn {P : Program} {w : World} {K : PySem.W.Frag} {mg : Str → Option Value} {base : Heap} {C : Cb} {cl : Calls} {d f : Nat} {fn : Fn} {a : Addr} {fd : FuncData} (F : FnAt P w K mg base C cl d f fn a fd) {n : Nat} {ks : List Str} {p : List Nat} (hk : (f, n, ks, p) ∈ C.kws) :
    KBn K fd (C.par f) n ks (fun us ws => p.map fun i => (us ++ ws).getD i .none) (fun vs zs => p.map fun i => (vs ++ zs).getD i .non) :=
  ⟨fun s us ws hK h1 h2 => F.kw _ hk rfl s us ws hK h1 h2, fun r z => vals_perm (r.append z) p⟩
theorem snd_callK {x : Str} {e : Expr} {es : List Expr} {kws : List Keyword} {ies iks : Exs} {f n : Nat} {ord : List Nat} {p pos : Pos} (hn : C.nm f = x) (hm : C.meth f = none) (hf : f ∈ C.fs) (hg : glB C x = true) (hdb : (x == ("__debug__" : Str)) = false) (hs : noStars (e :: es) = true)
    (ha : kwAll kws = true) (hk : (f, n, kwNames kws, ord) ∈ C.kws) (sa : SndA C (e :: es) ies) (sk : SndK C kws iks) : SndE C (.Call (.Name x p) (e :: es) kws pos) (.perm f n (kwNames kws).length ies iks ord) := fun G d E X k => by
  obtain ⟨fn, hG, ⟨⟨a, fd, F⟩, hp⟩⟩ := k.fns f hf
  have st := stars_cons hs
  obtain ⟨k1, k2, k3⟩ := kw_all ha pos X.env
  refine PE.weak (pe_callN F.ok (k.room.mono (by omega)) (gl_of k hg) (by rw [← hn]; exact F.glo hm) F.keep (F.kbn hk) k.pass (sa G d E X k) (sk G d E X k) k1 k3 hdb (star_of st.1 es X.env) (by rw [stars_off hs pos X.env, k2]; rfl)) fun σ H Q ⟨env, h, μ, me, m, o⟩ => ?_
  rw [evE] at o
  refine ⟨env, h, μ, me, m, Out.bindM o fun μ1 H1 h1 vs xs g1 m1 r1 o1 => ?_⟩
  refine ⟨env, h1, μ1, me.grow m g1, m1, Out.bindM o1 fun μ2 H2 h2 us ys g2 m2 r2 o2 => ?_⟩
  split at o2
  · rename_i hl
    have r1' := r1.grow m1 g2
    exact ⟨by rw [← r1'.length]; exact hl.1, by rw [← r2.length]; exact hl.2, call_run hG m2 (vm_perm (r1'.app r2) ord) o2⟩
  · exact o2.elim
/-- f(k = v, ..) -/
theorem pe_callN0 {X : Cx} {CX : CXT} {k : Nat} {f : Addr} {fd : FuncData} {ps ks : List Str} {sp : Sp} {E : XK} {x : Str} {p pos : Pos} {kws : List Keyword} {tk : TA} {g : List Value → List Value → List Value} {gV : List V → List V → List V}
    (F : FnOk X.prog X.w X.K X.mg X.base CX k f fd ps sp) (hr : Room k X.A) (hg : Gl X x) (hm : X.mg x = some (.ref f)) (hk : PySem.W.keepIn X.K (.ref f) = true) (hb : KBn X.K fd ps 0 ks g gV) (hx : Passes CX X E) (hkw : PK X kws tk)
    (hall : (backToKw pos (keywordEach kws X.env)).all (·.1.isSome) = true) (hks : (backToKw pos (keywordEach kws X.env)).filterMap (·.1) = ks) (hdb : (x == ("__debug__" : Str)) = false)
    (hpl : ((backTo pos (starEach [] X.env)).any (·.1) || (backToKw pos (keywordEach kws X.env)).any (·.1.isNone)) = false) : PE X (.Call (.Name x p) [] kws pos) (tCallN 0 ks.length sp gV E tNil tk) := by
  refine ⟨fun pins s σ H Q I h => wpAny_Call_Name_kw (ld_glob I hg hm ?_ hdb)⟩
  refine PySem.W.callWith_KW0 (h₀ := X.base) I.ok.mod.kin hk hall (thn (hkw.run pos pins s σ H _ I h) fun ws s2 ⟨zs, H2, I2, rz, l1, l2, q2⟩ => ⟨I2.kIn, ?_⟩) hpl
  rw [hks]
  exact run_fnN (us := []) (vs := []) F hr hb hx I2 .nil rz rfl l2 q2
theorem snd_callK0 {x : Str} {kws : List Keyword} {iks : Exs} {f : Nat} {ord : List Nat} {p pos : Pos} (hn : C.nm f = x) (hm : C.meth f = none) (hf : f ∈ C.fs) (hg : glB C x = true) (hdb : (x == ("__debug__" : Str)) = false)
    (ha : kwAll kws = true) (hk : (f, 0, kwNames kws, ord) ∈ C.kws) (sk : SndK C kws iks) : SndE C (.Call (.Name x p) [] kws pos) (.perm f 0 (kwNames kws).length .nil iks ord) := fun G d E X k => by
  obtain ⟨fn, hG, ⟨⟨a, fd, F⟩, hp⟩⟩ := k.fns f hf
  obtain ⟨k1, k2, k3⟩ := kw_all ha pos X.env
  refine PE.weak (pe_callN0 F.ok (k.room.mono (by omega)) (gl_of k hg) (by rw [← hn]; exact F.glo hm) F.keep (F.kbn hk) k.pass (sk G d E X k) k1 k3 hdb (by rw [k2]; rfl)) fun σ H Q ⟨env, h, μ, me, m, o⟩ => ?_
  rw [evE, evEs] at o
  refine ⟨env, h, μ, me, m, Out.bindM (f := fun us h2 => if ([] : List GV).length = 0 ∧ us.length = (kwNames kws).length then callF G d f (ord.map fun i => ([] ++ us).getD i .non) h2 else .bad) o fun μ2 H2 h2 us ys g2 m2 r2 o2 => ?_⟩
  split at o2
  · rename_i hl
    exact ⟨rfl, by rw [← r2.length]; exact hl.2, call_run hG m2 (vm_perm (gs := [] ++ us) (xs := [] ++ ys) r2 ord) o2⟩
  · exact o2.elim

/-! ### a new instance -/
theorem snd_mk {x : Str} {e : Expr} {es : List Expr} {ies : Exs} {c f : Nat} {p pos : Pos} (hn : C.nm c = x) (hf : f ∈ C.fs) (hc : (c, f) ∈ C.mks) (hg : glB C x = true) (hdb : (x == ("__debug__" : Str)) = false) (hs : noStars (e :: es) = true) (sa : SndA C (e :: es) ies) : SndE C (.Call (.Name x p) (e :: es) [] pos) (.mk c f ies) := fun G d E X k => by
  obtain ⟨fn, hG, ⟨⟨a, fd, F⟩, hp⟩⟩ := k.fns f hf
  have st := stars_cons hs
  obtain ⟨h1, h2, h3, mm, h4, h5⟩ := k.made _ hc
  have me := F.mth c mm h4
  have M : Mk X.K (He.ga X.K (C.nm c)) a := ⟨h2, by rw [← h5]; exact me.at_, me.fn, h3⟩
  refine PE.weak (pe_make M F.ok (k.room.mono (by omega)) (gl_of k hg) (by rw [← hn]; exact h1) (F.binds hp) .nil k.pass (sa G d E X k) hdb (star_of st.1 es X.env) (stars_off st.2 pos X.env)) fun σ H Q ⟨env, h, μ, me, m, o⟩ => ?_
  rw [evE] at o
  refine ⟨env, h, μ, me, m, Out.bindM o fun μ1 H1 h1 vs xs g1 m1 r1 o1 y dx hy hdx ne => ?_⟩
  rw [List.append_nil]
  have ga := Grow.side (ho := .own y) m1 hdx
  have ma := MHeap.side (ho := .own y) m1 hdx
  have hy2 : upd H1 dx (.own y) y = none := by rw [upd_ne (Ne.symm ne)]; exact hy
  have gb := Grow.alloc (ho := .ins (He.ga X.K (C.nm c)) dx []) ma hy2
  have mb := MHeap.alloc (ho := .ins (He.ga X.K (C.nm c)) dx []) (o := .ins c []) ma hy2 ⟨dx, [], upd_same, .nil⟩
  have rs : VMs X.K (μ1 ++ [y]) (upd (upd H1 dx (.own y)) y (.ins (He.ga X.K (C.nm c)) dx [])) (.ref h1.length :: vs) (.ref y :: xs) := .cons (.ref (alloc_ref m1)) ((r1.grow m1 ga).grow ma gb)
  refine call_run hG mb rs (Out.bindM (Out.grow o1 (ga.trans gb)) fun μ3 H3 h3 v z g3 m3 r3 o3 => ?_)
  split at o3
  · rename_i e
    subst e
    cases r3
    exact ⟨rfl, o3.pure m3 (.ref (pre_get g3.pre (alloc_ref m1)))⟩
  · exact o3.elim
end
end Pv
end Pv_P
section Pv_Q
set_option Elab.async false
set_option linter.all false
set_option maxRecDepth 10000
namespace Pv
open PySem PySem.Spec PyProof.Rows
open L2
open GV

section
variable {C : Cc}
/-! ### methods of lists -/
theorem few_of {e : Expr} (h : notStar e = true) (cpos : Pos) (env : PySem.Env) : ((backTo cpos (starEach [e] env)).all (fun x => !x.1) && (backToKw cpos (keywordEach [] env)).all (fun x => x.1.isSome) && decide (([e] : List Expr).length + ([] : List Keyword).length + (if ([] : List Keyword).isEmpty then 0 else 1) < 30)) = true := by
  rw [star_of h]
  rfl
theorem idx_erase : ∀ {ns : List Int} {k : Int}, k ∈ ns → ∃ j, ns[j]? = some k ∧ (∀ m : Nat, m < j → ns[m]? ≠ some k) ∧ ns.eraseIdx j = ns.erase k
  | n :: ns, k, h => by
    by_cases e : n = k
    · subst e
      exact ⟨0, rfl, fun m hm => absurd hm (Nat.not_lt_zero _), by simp⟩
    · have h' : k ∈ ns := (List.mem_cons.mp h).resolve_left fun z => e z.symm
      obtain ⟨j, h1, h2, h3⟩ := idx_erase h'
      refine ⟨j + 1, h1, fun m hm => ?_, ?_⟩
      · cases m with
        | zero =>
          intro z
          exact e (Option.some.inj z)
        | succ m => exact h2 m (Nat.lt_of_succ_lt_succ hm)
      · rw [List.erase_cons_tail (by simpa using e)]
        show n :: ns.eraseIdx j = _
        rw [h3]
theorem ints_back {K : PySem.W.Frag} {μ : List Addr} {H : Hp} : ∀ ns : List Int, VMs K μ H (ns.map GV.int) (ns.map V.int)
  | [] => .nil
  | n :: ns => .cons (.int n) (ints_back ns)
theorem ty_lst {X : Cx} {nm : Nm} {μ : List Addr} {h : GH} {H : Hp} {n : Nat} {x : V} {xs : List GV} (m : MHeap X.K X.w nm μ h H) (r : VM X.K μ H (.ref n) x) (e : h[n]? = some (.lst xs)) : ∃ a zs, x = .ref a ∧ μ[n]? = some a ∧ H a = some (.lst zs) ∧ VMs X.K μ H xs zs ∧ tyV X.K "list" x H := by
  cases r with
  | ref q =>
    obtain ⟨zs, z1, z2⟩ := m.obj _ _ _ q e
    exact ⟨_, zs, rfl, q, z1, z2, .inl ⟨rfl, zs, SqL.of z1⟩⟩
/-- o.m(e): evM1 tells -/
def M1S (C : Cc) (k : M1) (r : V → List V → Hp → VK → Prop) : Prop := ∀ G d E X, Ok C G d E X → ∀ (μ : List Addr) (h : GH) (H : Hp) (v u : GV) (x y : V) (Q : VK), MHeap X.K X.w C.nm μ h H → VM X.K μ H v x → VM X.K μ H u y → Out X.K X.w C.nm (VM X.K) (evM1 k v u h) μ H E Q → r x [y] H Q
theorem app_rule : M1S C .append rAppend := fun G d E X k μ h H v u x y Q m r1 r2 o => by
  unfold evM1 at o
  split at o
  · split at o
    · rename_i n _ xs e
      dsimp only at o
      split at o
      · rename_i hl
        obtain ⟨a, zs, rfl, q, z1, z2, _⟩ := ty_lst m r1 e
        have g := Grow.write (ho := .lst (zs ++ [y])) (K := X.K) (w := X.w) (nm := C.nm) (h := h) m q
        exact ⟨a, zs, y, rfl, rfl, z1, by rw [← z2.length, ← szL_eq]; exact hl, o.at g (MHeap.write m q ⟨_, upd_same, (z2.snoc r2).grow m g⟩) .non⟩
      · exact o.elim
    · exact o.elim
  · exact o.elim
theorem ext_rule : M1S C .extend rExtend := fun G d E X k μ h H v u x y Q m r1 r2 o => by
  unfold evM1 at o
  split at o
  · split at o
    · rename_i n _ xs e
      dsimp only at o
      split at o
      · rename_i n2
        split at o
        · rename_i ys e2
          split at o
          · rename_i hl
            obtain ⟨a, zs, rfl, q, z1, z2, _⟩ := ty_lst m r1 e
            obtain ⟨a2, zs2, rfl, q2, z12, z22, _⟩ := ty_lst m r2 e2
            have g := Grow.write (ho := .lst (zs ++ zs2)) (K := X.K) (w := X.w) (nm := C.nm) (h := h) m q
            exact ⟨a, a2, zs, zs2, rfl, rfl, z1, z12, by rw [← z2.length, ← z22.length, ← szL_eq]; exact hl, o.at g (MHeap.write m q ⟨_, upd_same, (z2.app z22).grow m g⟩) .non⟩
          · exact o.elim
        · exact o.elim
      · exact o.elim
    · exact o.elim
  · exact o.elim
theorem rem_rule : M1S C .remove rRemI := fun G d E X k μ h H v u x y Q m r1 r2 o => by
  unfold evM1 at o
  split at o
  · split at o
    · rename_i n _ xs e
      dsimp only at o
      split at o
      · rename_i i ns ei
        split at o
        · rename_i hi
          obtain ⟨a, zs, rfl, q, z1, z2, _⟩ := ty_lst m r1 e
          cases r2
          obtain ⟨j, j1, j2, j3⟩ := idx_erase hi
          have ez := ints_vms ei z2
          have g := Grow.write (ho := .lst ((ns.eraseIdx j).map V.int)) (K := X.K) (w := X.w) (nm := C.nm) (h := h) m q
          exact ⟨a, ns, i, j, rfl, rfl, by rw [← ez]; exact z1, j1, j2, o.at g (MHeap.write m q ⟨_, upd_same, by rw [j3]; exact ints_back _⟩) .non⟩
        · exact o.elim
      · exact o.elim
    · exact o.elim
  · exact o.elim
theorem snd_m1 {nm : Str} {id : String} {r : V → List V → Hp → VK → Prop} {kk : M1} {ob e : Expr} {io ie : Ex} {apos cpos : Pos} (slot : Slot "list" nm id) (hty : typeOf (.builtin id) = pure (.type "method_descriptor")) (hm : ∀ X, MtR X id r) (rule : M1S C kk r)
    (hb : plainBase ob = true) (hs : notStar e = true) (hl : (apos.endLine == cpos.line) = true) (so : SndE C ob io) (se : SndE C e ie) : SndE C (.Call (.Attribute ob nm apos) [e] [] cpos) (.m1 kk io ie) := fun G d E X k => by
  refine PE.weak (pe_bm PySem.F.plainAttrs_list slot hty (hm X) (so G d E X k) (pa_1 (se G d E X k) hs) (base_of hb nm X.env) (few_of hs cpos X.env) hl (star_of hs [] X.env) (by rfl)) fun σ H Q ⟨env, h, μ, me, m, o⟩ => ?_
  rw [evE] at o
  refine ⟨env, h, μ, me, m, Out.bindM o fun μ1 H1 h1 v x g1 m1 r1 o1 => ?_⟩
  split at o1
  · rename_i hl
    refine ⟨?_, ?_⟩
    · unfold isLst at hl
      split at hl
      · split at hl
        · rename_i xs e
          obtain ⟨a, zs, rfl, q, z1, z2, ty⟩ := ty_lst m1 r1 e
          exact ty
        · cases hl
      · cases hl
    · refine ⟨env, h1, μ1, me.grow m g1, m1, Out.bindM o1 fun μ2 H2 h2 u y g2 m2 r2 o2 => ?_⟩
      exact rule G d E X k μ2 h2 H2 v u x y Q m2 (r1.grow m1 g2) r2 o2
  · exact o1.elim
theorem snd_app {ob e : Expr} {io ie : Ex} {apos cpos : Pos} (hb : plainBase ob = true) (hs : notStar e = true) (hl : (apos.endLine == cpos.line) = true) (so : SndE C ob io) (se : SndE C e ie) : SndE C (.Call (.Attribute ob "append" apos) [e] [] cpos) (.m1 .append io ie) :=
  snd_m1 PySem.F.slot_list_append PySem.F.type_list_append (fun X => mt_append) app_rule hb hs hl so se
theorem snd_ext {ob e : Expr} {io ie : Ex} {apos cpos : Pos} (hb : plainBase ob = true) (hs : notStar e = true) (hl : (apos.endLine == cpos.line) = true) (so : SndE C ob io) (se : SndE C e ie) : SndE C (.Call (.Attribute ob "extend" apos) [e] [] cpos) (.m1 .extend io ie) :=
  snd_m1 PySem.F.slot_list_extend PySem.F.type_list_extend (fun X => mt_extend) ext_rule hb hs hl so se
theorem snd_rem {ob e : Expr} {io ie : Ex} {apos cpos : Pos} (hb : plainBase ob = true) (hs : notStar e = true) (hl : (apos.endLine == cpos.line) = true) (so : SndE C ob io) (se : SndE C e ie) : SndE C (.Call (.Attribute ob "remove" apos) [e] [] cpos) (.m1 .remove io ie) :=
  snd_m1 PySem.F.slot_list_remove PySem.F.type_list_remove (fun X => mt_remove) rem_rule hb hs hl so se
end
end Pv
end Pv_Q
section Pv_R
set_option Elab.async false
set_option linter.all false
set_option maxRecDepth 10000
namespace Pv
open PySem PySem.Spec PyProof.Rows
open L2
open GV

/-! ### what is walked -/
/-- J walks vs; P: what stays -/
structure Wk (K : PySem.W.Frag) (w : World) (nm : Nm) (J : It) (P : List Addr → Hp → Prop) (vs : List GV) (g : Gd) : Prop where
  keep : ∀ {μ : List Addr} {h : GH} {H : Hp} {μ' : List Addr} {H' : Hp}, MHeap K w nm μ h H → Grow μ H μ' H' → P μ H → P μ' H'
  go : ∀ {i : Nat} {v : GV} {μ : List Addr} {h : GH} {H : Hp}, vs[i]? = some v → MHeap K w nm μ h H → chk g h = true → P μ H → J.go i H ∧ ∀ x H', J.yld i H x H' → Grow μ H μ H' ∧ MHeap K w nm μ h H' ∧ VM K μ H' v x
  stop : ∀ {μ : List Addr} {h : GH} {H : Hp}, MHeap K w nm μ h H → chk g h = true → P μ H → J.stop vs.length H
/-- a place taken off does no harm -/
def Dl (P : List Addr → Hp → Prop) : Prop := ∀ {μ : List Addr} {H : Hp} {D : Addr} {u : HO}, H D = some u → Chg u → D ∉ μ → P μ H → P μ (del H D)
def iyD : Iy → Bool
  | .sq _ => false
  | _ => true
/-- an iterator -/
def ItM (K : PySem.W.Frag) (w : World) (nm : Nm) (dl : Bool) (μ : List Addr) (H : Hp) (p : List GV × Gd) (J : It) : Prop := ∃ P : List Addr → Hp → Prop, P μ H ∧ Wk K w nm J P p.1 p.2 ∧ (dl = true → Dl P)
def rdI (K : PySem.W.Frag) (w : World) (nm : Nm) (E : XK) (cl : Calls) (i : Iy) : TI := fun σ H R => ∃ env h μ, MEnv K μ H env σ ∧ MHeap K w nm μ h H ∧ Out K w nm (ItM K w nm (iyD i)) (evI cl i env h) μ H E R
def SndI (C : Cc) (tg e : Expr) (i : Iy) : Prop := ∀ G d E X, Ok C G d E X → PI X tg e (rdI X.K X.w C.nm E (callF G d) i)
theorem PI.weak {X : Cx} {tg e : Expr} {t t' : TI} (p : PI X tg e t) (f : ∀ σ H Q, t' σ H Q → t σ H Q) : PI X tg e t' := ⟨fun pins s σ H Q I h => p.run pins s σ H Q I (f σ H Q h)⟩
section
variable {K : PySem.W.Frag} {w : World} {nm : Nm} {a : Addr} {xs : List V} {vs : List GV}
theorem wk_tup (xs : List V) : Wk K w nm (Itt K a) (fun μ H => SqT K H a xs ∧ VMs K μ H vs xs) vs none where
  keep := fun m g ⟨q, t⟩ => ⟨sqT_grow m g q, t.grow m g⟩
  go := fun {i v μ h H} e m _ ⟨q, t⟩ => by
    obtain ⟨x, h1, r⟩ := t.get e
    refine ⟨⟨xs, x, q, h1⟩, fun y H' ⟨e1, e2⟩ => ?_⟩
    subst e1
    have := e2 xs q
    rw [h1] at this
    cases this
    exact ⟨.refl, m, r⟩
  stop := fun m _ ⟨q, t⟩ => ⟨xs, q, by rw [t.length]; exact Nat.le_refl _⟩
theorem wk_frl (xs : List V) : Wk K w nm (Itl K a) (fun μ H => Frl K H a xs ∧ VMs K μ H vs xs) vs none where
  keep := fun m g ⟨q, t⟩ => ⟨frl_grow m g q, t.grow m g⟩
  go := fun {i v μ h H} e m _ ⟨q, t⟩ => by
    obtain ⟨x, h1, r⟩ := t.get e
    refine ⟨⟨xs, x, q.sql, h1⟩, fun y H' ⟨e1, e2⟩ => ?_⟩
    subst e1
    have := e2 xs q.sql
    rw [h1] at this
    cases this
    exact ⟨.refl, m, r⟩
  stop := fun m _ ⟨q, t⟩ => ⟨xs, q.sql, by rw [t.length]; exact Nat.le_refl _⟩
theorem wk_new (xs : List V) : Wk K w nm (Itl K a) (fun μ H => a ∉ μ ∧ H a = some (.lst xs) ∧ VMs K μ H vs xs) vs none where
  keep := fun m g ⟨n, q, t⟩ => ⟨(g.outD m q n).1, (g.outD m q n).2, t.grow m g⟩
  go := fun {i v μ h H} e m _ ⟨n, q, t⟩ => by
    obtain ⟨x, h1, r⟩ := t.get e
    refine ⟨⟨xs, x, SqL.of q, h1⟩, fun y H' ⟨e1, e2⟩ => ?_⟩
    subst e1
    have := e2 xs (SqL.of q)
    rw [h1] at this
    cases this
    exact ⟨.refl, m, r⟩
  stop := fun m _ ⟨n, q, t⟩ => ⟨xs, SqL.of q, by rw [t.length]; exact Nat.le_refl _⟩
theorem dl_tup : Dl (fun μ H => SqT K H a xs ∧ VMs K μ H vs xs) := fun e c _ ⟨q, t⟩ => ⟨sqT_del e c q, t.del e c⟩
theorem dl_frl : Dl (fun μ H => Frl K H a xs ∧ VMs K μ H vs xs) := fun e c _ ⟨q, t⟩ => ⟨frl_del e c q, t.del e c⟩
theorem chk_at {n : Nat} {h : GH} (c : chk (some (n, vs)) h = true) : h[n]? = some (.lst vs) := by
  unfold chk at c
  dsimp only at c
  split at c
  · rename_i ys e
    rw [e, of_decide_eq_true c]
  · cases c
theorem wk_lst (n : Nat) : Wk K w nm (Itl K a) (fun μ H => μ[n]? = some a) vs (some (n, vs)) where
  keep := fun m g q => pre_get g.pre q
  go := fun {i v μ h H} e m c q => by
    obtain ⟨xs, q1, t⟩ := m.obj _ _ _ q (chk_at c)
    obtain ⟨x, h1, r⟩ := t.get e
    refine ⟨⟨xs, x, SqL.of q1, h1⟩, fun y H' ⟨e1, e2⟩ => ?_⟩
    subst e1
    have := e2 xs (SqL.of q1)
    rw [h1] at this
    cases this
    exact ⟨.refl, m, r⟩
  stop := fun {μ h H} m c q => by
    obtain ⟨xs, q1, t⟩ := m.obj _ _ _ q (chk_at c)
    exact ⟨xs, SqL.of q1, by rw [t.length]; exact Nat.le_refl _⟩
theorem wk_rng (lo : Int) (n : Nat) : Wk K w nm (Itr lo n) (fun _ _ => True) ((List.range n).map fun k => GV.int (lo + (k : Nat))) none where
  keep := fun _ _ _ => trivial
  go := fun {i v μ h H} e m _ _ => by
    rw [List.getElem?_map] at e
    cases hi : (List.range n)[i]? with
    | none => rw [hi] at e; cases e
    | some k =>
      rw [hi] at e
      cases e
      obtain ⟨h1, h2⟩ := List.getElem?_eq_some_iff.mp hi
      rw [List.getElem_range] at h2
      subst h2
      rw [List.length_range] at h1
      refine ⟨h1, fun y H' ⟨e1, e2⟩ => ?_⟩
      subst e1 e2
      exact ⟨.refl, m, .int _⟩
  stop := fun _ _ _ => by
    rw [List.length_map, List.length_range]
    exact Nat.le_refl n
theorem wk_rngC (lo : Int) (n : Nat) : Wk K w nm (Itc lo (-1) n) (fun _ _ => True) ((List.range n).map fun k => GV.int (lo - (k : Nat))) none where
  keep := fun _ _ _ => trivial
  go := fun {i v μ h H} e m _ _ => by
    rw [List.getElem?_map] at e
    cases hi : (List.range n)[i]? with
    | none => rw [hi] at e; cases e
    | some k =>
      rw [hi] at e
      cases e
      obtain ⟨h1, h2⟩ := List.getElem?_eq_some_iff.mp hi
      rw [List.getElem_range] at h2
      subst h2
      rw [List.length_range] at h1
      refine ⟨h1, fun y H' ⟨e1, e2⟩ => ?_⟩
      subst e1 e2
      refine ⟨.refl, m, ?_⟩
      have : lo + (i : Nat) * (-1) = lo - (i : Nat) := by omega
      rw [this]
      exact .int _
  stop := fun _ _ _ => by
    rw [List.length_map, List.length_range]
    exact Nat.le_refl n
end
/-! a value that is walked -/
def iVal (K : PySem.W.Frag) (t : TE) : TI := fun σ H R => t σ H fun x H1 => ∃ a, x = .ref a ∧ ((((∃ xs, SqL K H1 a xs) ∧ R (Itl K a) H1) ∨ ((∃ xs, SqT K H1 a xs) ∧ R (Itt K a) H1)) ∨
  ∃ lo hi, H1 a = some (.rng lo hi) ∧ (-(2 ^ 62) ≤ lo ∧ lo < 2 ^ 62 ∧ -(2 ^ 62) ≤ hi ∧ hi < 2 ^ 62) ∧ R (Itr lo (hi - lo).toNat) H1)
theorem pi_val {X : Cx} {tg e : Expr} {t : TE} (he : PE X e t) : PI X tg e (iVal X.K t) := by
  refine ⟨fun pins s σ H R I h => thn (he.run pins s σ H _ I h) fun v s1 ⟨x, H1, I1, r1, a, ex, q1⟩ => ?_⟩
  subst ex
  cases r1
  have mk : ∀ (o : Obj) (b : Addr), b ∈ [s1.heap.objs.size] → FpOk X pins H1 b := fun o b hb => by
    rw [List.mem_singleton.mp hb]
    exact I1.fpOk (Nat.le_refl _) (I1.hok.fresh (Nat.le_refl _))
  rcases q1 with (⟨⟨xs, hq⟩, q⟩ | ⟨⟨xs, hq⟩, q⟩) | ⟨lo, hi, hq, ⟨b1, b2, b3, b4⟩, q⟩
  · obtain ⟨its, rv, p, hz⟩ := I1.list hq
    exact wpAny_pyIter_list p.isList ⟨s1.heap.objs.size, [s1.heap.objs.size], _, _, H1, rfl, I1.kept (t' := s1.toks) fun b o e => Heap.get?_push_of_some _ e, turn_list a _, ⟨_, Heap.get?_push_size _ rfl, rfl, rfl⟩, mk default, q⟩
  · obtain ⟨its, rv, p, hz⟩ := I1.tuple hq
    exact wpAny_pyIter_tuple (show s1.heap.IsTuple a its.toArray from p) ⟨s1.heap.objs.size, [s1.heap.objs.size], _, _, H1, rfl, I1.kept (t' := s1.toks) fun b o e => Heap.get?_push_of_some _ e, turn_tuple a _, ⟨_, Heap.get?_push_size _ rfl, rfl, rfl⟩, mk default, q⟩
  · obtain ⟨t1, t2, t3, hr⟩ := I1.hok a _ hq
    refine wpAny_pyIter_range hr (small_one b1 b2 b3 b4) ⟨s1.heap.objs.size, [s1.heap.objs.size], _, _, H1, rfl, I1.kept (t' := s1.toks) fun b o e => Heap.get?_push_of_some _ e, turn_range _ lo (hi - lo).toNat, ?_, mk default, q⟩
    have e1 : lo + ((0 : Nat) : Int) * 1 = lo := by simp
    have e2 : (((hi - lo).toNat : Nat) : Int) - ((0 : Nat) : Int) = Builtin.Range.rangeSize lo hi 1 := by rw [rangeSize_one]; split <;> omega
    show IsRangeIter _ _ (lo + ((0 : Nat) : Int) * 1) ((((hi - lo).toNat : Nat) : Int) - ((0 : Nat) : Int)) 1
    rw [e1, e2]
    exact Heap.get?_push_size _ rfl
section
variable {C : Cc} {tg : Expr}
theorem sndI_val {e : Expr} {ie : Ex} (a : SndE C e ie) : SndI C tg e (.val ie) := fun G d E X k => by
  refine PI.weak (pi_val (a G d E X k)) fun σ H R ⟨env, h, μ, me, m, o⟩ => ?_
  rw [evI] at o
  refine ⟨env, h, μ, me, m, Out.bindM o fun μ1 H1 h1 v x g1 m1 r1 o1 => ?_⟩
  split at o1
  · rename_i xs e
    unfold seqOf at e
    split at e
    · cases e
      cases r1 with
      | tup q t => exact ⟨_, rfl, .inl (.inr ⟨⟨_, q⟩, o1.pure m1 ⟨_, ⟨q, t⟩, wk_tup _, fun _ => dl_tup⟩⟩)⟩
    · cases e
      cases r1 with
      | frl q t => exact ⟨_, rfl, .inl (.inl ⟨⟨_, q.sql⟩, o1.pure m1 ⟨_, ⟨q, t⟩, wk_frl _, fun _ => dl_frl⟩⟩)⟩
    · split at e
      · rename_i n _ ys e1
        cases e
        cases r1 with
        | ref q =>
          obtain ⟨zs, z1, z2⟩ := m1.obj _ _ _ q e1
          exact ⟨_, rfl, .inl (.inl ⟨⟨_, SqL.of z1⟩, o1.pure m1 ⟨_, q, wk_lst n, fun _ _ _ _ _ _ _ _ z => z⟩⟩)⟩
      · cases e
    · rename_i lo hi
      split at e
      · rename_i hb
        cases e
        cases r1 with
        | rng q => exact ⟨_, rfl, .inr ⟨lo, hi, q, ⟨by omega, by omega, by omega, by omega⟩, o1.pure m1 ⟨_, trivial, wk_rng lo _, fun _ _ _ _ _ _ _ _ _ => trivial⟩⟩⟩
      · cases e
    · cases e
  · exact o1.elim
theorem sndI_sq {e : Expr} {s : Sq} (a : SndN C e s) : SndI C tg e (.sq s) := fun G d E X k => by
  refine PI.weak (pi_list (a G d E X k)) fun σ H R ⟨env, h, μ, me, m, o⟩ => ?_
  rw [evI] at o
  refine ⟨env, h, μ, me, m, Out.bindM o fun μ1 H1 h1 vs xs g1 m1 r1 o1 p hp => ?_⟩
  have g := Grow.side (ho := .lst xs) m1 hp
  exact ⟨p, rfl, ⟨xs, SqL.of upd_same⟩, o1.at g (MHeap.side m1 hp) ⟨_, ⟨m1.outN hp, upd_same, r1.grow m1 g⟩, wk_new xs, fun z => nomatch z⟩⟩
theorem sndI_rng1 {a : Expr} {ia : Ex} {p pos : Pos} (hg : glB C "range" = true) (hs : notStar a = true) (sa : SndE C a ia) : SndI C tg (.Call (.Name "range" p) [a] [] pos) (.rng (.cst (.int 0)) ia) := fun G d E X k => by
  refine PI.weak (pi_range1 (gl_of k hg) (k.blt _ (by decide)) (pa_1 (sa G d E X k) hs) (star_of hs [] X.env)) fun σ H R ⟨env, h, μ, me, m, o⟩ => ?_
  rw [evI, evE] at o
  refine ⟨env, h, μ, me, m, Out.bindM o fun μ1 H1 h1 v x g1 m1 r1 o1 => ?_⟩
  split at o1
  · rename_i i j e
    cases e
    split at o1
    · rename_i xs e
      cases r1
      change (if -1000000 ≤ (0 : Int) ∧ (0 : Int) ≤ 1000000 ∧ -1000000 ≤ j ∧ j ≤ 1000000 then some ((List.range (j - 0).toNat).map fun k => GV.int (0 + (k : Nat))) else none) = some xs at e
      split at e
      · rename_i hb
        cases e
        refine ⟨j, rfl, by omega, by omega, o1.pure m1 ⟨fun _ _ => True, trivial, ?_, fun _ _ _ _ _ _ _ _ _ => trivial⟩⟩
        rw [Int.sub_zero]
        exact wk_rng 0 _
      · cases e
    · exact o1.elim
  · exact o1.elim
theorem sndI_rng2 {a b : Expr} {ia ib : Ex} {p pos : Pos} (hg : glB C "range" = true) (hs : notStar a = true) (hs2 : notStar b = true) (sa : SndE C a ia) (sb : SndE C b ib) : SndI C tg (.Call (.Name "range" p) [a, b] [] pos) (.rng ia ib) := fun G d E X k => by
  refine PI.weak (pi_range2 (gl_of k hg) (k.blt _ (by decide)) (pa_2 (sa G d E X k) (sb G d E X k) hs hs2) (by rw [star_of hs, star_of hs2]; rfl) (by rw [star_of hs2]; rfl)) fun σ H R ⟨env, h, μ, me, m, o⟩ => ?_
  rw [evI] at o
  refine ⟨env, h, μ, me, m, Out.bindM o fun μ1 H1 h1 v x g1 m1 r1 o1 => ?_⟩
  refine ⟨env, h1, μ1, me.grow m g1, m1, Out.bindM o1 fun μ2 H2 h2 u y g2 m2 r2 o2 => ?_⟩
  split at o2
  · rename_i i j
    split at o2
    · rename_i xs e
      cases r1
      cases r2
      change (if -1000000 ≤ i ∧ i ≤ 1000000 ∧ -1000000 ≤ j ∧ j ≤ 1000000 then some ((List.range (j - i).toNat).map fun k => GV.int (i + (k : Nat))) else none) = some xs at e
      split at e
      · rename_i hb
        cases e
        exact ⟨i, j, rfl, ⟨by omega, by omega, by omega, by omega⟩, o2.pure m2 ⟨_, trivial, wk_rng i _, fun _ _ _ _ _ _ _ _ _ => trivial⟩⟩
      · cases e
    · exact o2.elim
  · exact o2.elim
theorem sndI_rng3 {a b c : Expr} {ia ib ic : Ex} {p pos : Pos} (hg : glB C "range" = true) (hs : notStar a = true) (hs2 : notStar b = true) (hs3 : notStar c = true) (sa : SndE C a ia) (sb : SndE C b ib) (sc : SndE C c ic) : SndI C tg (.Call (.Name "range" p) [a, b, c] [] pos) (.rngS ia ib ic) := fun G d E X k => by
  refine PI.weak (pi_range3 (gl_of k hg) (k.blt _ (by decide)) (pa_cons (sa G d E X k) (pa_2 (sb G d E X k) (sc G d E X k) hs2 hs3) (star_of hs _ X.env)) (star_of hs _ X.env) (stars_off (es := [b, c]) (by unfold noStars; rw [List.all_cons, List.all_cons, hs2, hs3]; rfl) pos X.env)) fun σ H R ⟨env, h, μ, me, m, o⟩ => ?_
  rw [evI] at o
  refine ⟨env, h, μ, me, m, Out.bindM o fun μ1 H1 h1 v x g1 m1 r1 o1 => ?_⟩
  refine ⟨env, h1, μ1, me.grow m g1, m1, Out.bindM o1 fun μ2 H2 h2 u y g2 m2 r2 o2 => ?_⟩
  refine ⟨env, h2, μ2, (me.grow m g1).grow m1 g2, m2, Out.bindM o2 fun μ3 H3 h3 t z g3 m3 r3 o3 => ?_⟩
  split at o3
  · rename_i i j l
    split at o3
    · rename_i xs e
      cases r1
      cases r2
      cases r3
      unfold rngS at e
      split at e
      · rename_i hb
        cases e
        obtain ⟨rfl, b1, b2, b3, b4⟩ := hb
        exact ⟨i, j, -1, _, rfl, RgC.neg (by omega) (by omega) (by omega) (by omega), o3.pure m3 ⟨_, trivial, wk_rngC i _, fun _ _ _ _ _ _ _ _ _ => trivial⟩⟩
      · cases e
    · exact o3.elim
  · exact o3.elim
end
end Pv
end Pv_R
section Pv_S
set_option Elab.async false
set_option linter.all false
set_option maxRecDepth 10000
namespace Pv
open PySem PySem.Spec PyProof.Rows
open L2
open GV

/-! ### targets -/
def tgL : Tg → List Nat
  | .nm i => [i]
  | .tup is => is
def rdG (K : PySem.W.Frag) (w : World) (nm : Nm) (t : Tg) : TG := fun v σ H Q => ∃ env h μ gv env1, MEnv K μ H env σ ∧ MHeap K w nm μ h H ∧ VM K μ H gv v ∧ setTg t gv env = some env1 ∧
  ∀ σ', MEnv K μ H env1 σ' → σ'.length = σ.length → (∀ j, j ∉ tgL t → σ'[j]? = σ[j]?) → Q σ' H
def SndG (C : Cc) (tg : Expr) (t : Tg) : Prop := ∀ G d E X, Ok C G d E X → PG X tg (rdG X.K X.w C.nm t)
theorem PG.weak {X : Cx} {e : Expr} {t t' : TG} (p : PG X e t) (f : ∀ v σ H Q, t' v σ H Q → t v σ H Q) : PG X e t' := ⟨fun pins s σ H v u Q I r h => p.run pins s σ H v u Q I r (f v σ H Q h)⟩
/-- a name that the block stores -/
def locB (C : Cc) (x : Str) : Bool := match C.sc.names.lookup x with
  | some .local => true
  | some .cell => C.own x
  | _ => false
def visB (C : Cc) (x : Str) : Bool := match C.sc.names.lookup x with
  | some .local => true
  | some .cell => true
  | some .free => true
  | _ => false
theorem vis_of {C : Cc} {x : Str} (h : visB C x = true) : Vis C.sc x := by
  unfold visB at h
  split at h
  · exact .inl (by assumption)
  · exact .inr (.inl (by assumption))
  · exact .inr (.inr (by assumption))
  · cases h
section
variable {C : Cc}
theorem loc_of {G : Prg} {d : Nat} {E : XK} {X : Cx} (k : Ok C G d E X) {x : Str} (h : locB C x = true) : Loc X.env.scope x ∧ (X.fn x = true ∨ X.env.scope.names.lookup x = some .local) := by
  unfold locB at h
  rw [k.sc, k.fn]
  split at h
  · rename_i e
    exact ⟨.inl e, .inr e⟩
  · rename_i e
    exact ⟨.inr e, .inl h⟩
  · cases h
theorem sndG_nm {x : Str} {i : Nat} {pos : Pos} (hi : C.N[i]? = some x) (hl : locB C x = true) : SndG C (.Name x pos) (.nm i) := fun G d E X k => by
  obtain ⟨l1, l2⟩ := loc_of k hl
  refine PG.weak (pg_name (by rw [k.hN]; exact k.nd) (by rw [k.hN]; exact hi) l1 l2) fun v σ H Q ⟨env, h, μ, gv, env1, me, m, r, e, q⟩ => ?_
  cases e
  exact q _ (me.set r) (by simp) fun j hj => List.getElem?_set_ne fun z => hj (by rw [← z]; exact List.mem_singleton.mpr rfl)
/-- names in a row -/
def nmsOf (C : Cc) : List Expr → List Nat → Bool
  | [], [] => true
  | .Name x _ :: r, i :: is => decide (C.N[i]? = some x) && locB C x && nmsOf C r is
  | _, _ => false
def gNms : List Nat → TGs
  | [] => gNil
  | i :: is => gCons (gName i) (gNms is)
theorem pgs_nms {G : Prg} {d : Nat} {E : XK} {X : Cx} (k : Ok C G d E X) : ∀ {es : List Expr} {is : List Nat}, nmsOf C es is = true → PGs X es (gNms is) ∧ (assignEach es X.env).length = is.length ∧ (assignEach es X.env).findIdx? (·.1) = none
  | [], [], _ => ⟨pgs_nil, rfl, rfl⟩
  | [], _ :: _, h => by cases h
  | .Name x p :: r, i :: is, h => by
    unfold nmsOf at h
    rw [Bool.and_eq_true, Bool.and_eq_true, decide_eq_true_iff] at h
    obtain ⟨⟨h1, h2⟩, h3⟩ := h
    obtain ⟨l1, l2⟩ := loc_of k h2
    obtain ⟨i1, i2, i3⟩ := pgs_nms k h3
    refine ⟨pgs_cons (pg_name (by rw [k.hN]; exact k.nd) (by rw [k.hN]; exact h1) l1 l2) i1 rfl, congrArg Nat.succ i2, ?_⟩
    show ((false, assign (.Name x p) X.env) :: assignEach r X.env).findIdx? (·.1) = none
    rw [List.findIdx?_cons, i3]
    rfl
  | e :: r, [], h => by cases e <;> cases h
  | e :: r, i :: is, h => by
    unfold nmsOf at h
    split at h
    · rename_i e1 e2
      cases e1
    · rename_i e1 e2
      cases e1
      cases e2
      rw [Bool.and_eq_true, Bool.and_eq_true, decide_eq_true_iff] at h
      obtain ⟨⟨h1, h2⟩, h3⟩ := h
      obtain ⟨l1, l2⟩ := loc_of k h2
      obtain ⟨i1, i2, i3⟩ := pgs_nms k h3
      rename_i x p
      refine ⟨pgs_cons (pg_name (by rw [k.hN]; exact k.nd) (by rw [k.hN]; exact h1) l1 l2) i1 rfl, congrArg Nat.succ i2, ?_⟩
      show ((false, assign (.Name x p) X.env) :: assignEach r X.env).findIdx? (·.1) = none
      rw [List.findIdx?_cons, i3]
      rfl
    · cases h
def setNms (env : Env) (is : List Nat) (xs : List GV) : Env := (is.zip xs).foldl (fun e p => e.set p.1 (some p.2)) env
theorem gNms_ok {K : PySem.W.Frag} {μ : List Addr} {H : Hp} {Q : L2.St → Hp → Prop} : ∀ {is : List Nat} {gs : List GV} {xs : List V} {env : Env} {σ : L2.St}, gs.length = is.length → VMs K μ H gs xs → MEnv K μ H env σ →
    (∀ σ', MEnv K μ H (setNms env is gs) σ' → σ'.length = σ.length → (∀ j, j ∉ is → σ'[j]? = σ[j]?) → Q σ' H) → gNms is xs σ H Q
  | [], [], _, env, σ, _, .nil, me, q => ⟨rfl, q σ me rfl fun _ _ => rfl⟩
  | i :: is, g :: gs, _, env, σ, hl, .cons r t, me, q => by
    refine ⟨_, _, rfl, ?_⟩
    show gNms is _ _ H Q
    refine gNms_ok (by simpa using hl) t (me.set r) fun σ' m' l' o' => q σ' m' (by rw [l']; simp) fun j hj => ?_
    rw [List.mem_cons, not_or] at hj
    rw [o' j hj.2, List.getElem?_set_ne (Ne.symm hj.1)]
  | _ :: _, [], _, _, _, hl, _, _, _ => by simp at hl
  | [], _ :: _, _, _, _, hl, _, _, _ => by simp at hl
theorem sndG_tup {es : List Expr} {is : List Nat} {j : Nat} {pos : Pos} (h : nmsOf C es is = true) : SndG C (.Tuple es j pos) (.tup is) := fun G d E X k => by
  obtain ⟨p1, p2, p3⟩ := pgs_nms k h
  refine PG.weak (pg_tup k.calm p1 p2 p3) fun v σ H Q ⟨env, h, μ, gv, env1, me, m, r, e, q⟩ => ?_
  unfold setTg at e
  dsimp only at e
  split at e
  · rename_i xs
    split at e
    · rename_i hl
      cases e
      cases r with
      | tup q1 t => exact ⟨_, _, rfl, q1, by rw [← t.length]; exact hl, gNms_ok hl t me q⟩
    · cases e
  · cases e
end

/-! ### blocks -/
abbrev nev : XK := fun _ _ _ => False
def Cc.blk (C : Cc) (scope : Scope) : Cc := { C with sc := relS scope C.sc, own := fun x => scope.names.lookup x == some .cell }
theorem Ok.blk {C : Cc} {G : Prg} {d : Nat} {E : XK} {X : Cx} (k : Ok C G d E X) (scope : Scope) (s : Shared) (H : Hp) (A : Addr) (cl : List (Str × Addr)) (fp : List Addr) : Ok (C.blk scope) G d nev (X.blk s H scope (compEnvC scope cl A X.env) fp) where
  hN := k.hN
  sc := by
    show relabel scope X.env = relS scope C.sc
    rw [← k.sc]
    rfl
  fn := rfl
  calm := k.calm
  room := k.room
  nd := k.nd
  pass := fun pins σ H s e s' I ⟨_, _, _, _, _, _, _, _, _, _, _, _, z⟩ => z
  glob := k.glob
  fns := k.fns
  po := PassesOwn.never

/-! ### loops of comprehensions -/
theorem bind_ok {α β : Type} {r : Res α} {f : α → GH → Res β} {b : β} {h : GH} (e : r.bind f = .ok b h) : ∃ a h1, r = .ok a h1 ∧ f a h1 = .ok b h := by
  cases r with
  | ok a h1 => exact ⟨a, h1, rfl, e⟩
  | exc c fs h1 => cases e
  | bad => cases e
theorem wipe_len (σ : L2.St) : ∀ ws : List Nat, (L2.wipe σ ws).length = σ.length
  | [] => rfl
  | i :: r => by unfold L2.wipe; rw [List.length_set, wipe_len σ r]
theorem wipe_at (σ : L2.St) (j : Nat) : ∀ ws : List Nat, (L2.wipe σ ws)[j]? = if j ∈ ws ∧ j < σ.length then some none else σ[j]?
  | [] => by simp [L2.wipe]
  | i :: r => by
    unfold L2.wipe
    by_cases e : i = j
    · subst e
      by_cases hl : i < σ.length
      · rw [List.getElem?_set_self (by rw [wipe_len]; exact hl), if_pos ⟨List.mem_cons_self .., hl⟩]
      · rw [List.getElem?_eq_none (by rw [List.length_set, wipe_len]; omega), if_neg fun z => hl z.2, List.getElem?_eq_none (by omega)]
    · rw [List.getElem?_set_ne e, wipe_at σ j r]
      have : (j ∈ i :: r ∧ j < σ.length) ↔ (j ∈ r ∧ j < σ.length) := by
        rw [List.mem_cons]
        exact ⟨fun ⟨a, b⟩ => ⟨a.resolve_left fun z => e z.symm, b⟩, fun ⟨a, b⟩ => ⟨.inr a, b⟩⟩
      simp only [this]
theorem wipe_eq {σ σ' : L2.St} {ws : List Nat} (hl : σ'.length = σ.length) (h : ∀ j, j ∉ ws → σ'[j]? = σ[j]?) : L2.wipe σ' ws = L2.wipe σ ws := by
  apply List.ext_getElem?
  intro j
  rw [wipe_at, wipe_at, hl]
  by_cases hj : j ∈ ws ∧ j < σ.length
  · rw [if_pos hj, if_pos hj]
  · rw [if_neg hj, if_neg hj]
    by_cases hm : j ∈ ws
    · have : ¬ j < σ.length := fun z => hj ⟨hm, z⟩
      rw [List.getElem?_eq_none (by omega), List.getElem?_eq_none (by omega)]
    · exact h j hm
theorem wipe_out' {σ : L2.St} {ws : List Nat} {j : Nat} (h : j ∉ ws) : (L2.wipe σ ws)[j]? = σ[j]? := by
  rw [wipe_at, if_neg fun z => h z.1]
def tgIn (t : Tg) (ws : List Nat) : Bool := (tgL t).all fun i => decide (i ∈ ws)
theorem tgIn_of {t : Tg} {ws : List Nat} (h : tgIn t ws = true) {j : Nat} (hj : j ∉ ws) : j ∉ tgL t := fun z => hj (of_decide_eq_true (List.all_eq_true.mp h j z))
theorem MEnv.del {K : PySem.W.Frag} {μ : List Addr} {H : Hp} {env : Env} {σ : L2.St} {D : Addr} {u : HO} (m : MEnv K μ H env σ) (e : H D = some u) (c : Chg u) : MEnv K μ (Pv.del H D) env σ :=
  ⟨m.len, fun i g q => let ⟨x, q1, r⟩ := m.at_ i g q; ⟨x, q1, r.del e c⟩⟩
theorem del_upd2 {H : Hp} {D : Addr} {u : HO} : del (upd H D u) D = del H D := by
  funext b
  by_cases e : b = D
  · subst e
    rw [del_same, del_same]
  · rw [del_ne e, del_ne e, upd_ne e]
/-- the heap of a comprehension: D is what it makes -/
structure LB (K : PySem.W.Frag) (w : World) (nm : Nm) (D : Addr) (μ1 : List Addr) (H1 : Hp) (μ : List Addr) (h : GH) (H : Hp) (u : HO) : Prop where
  grow : Grow μ1 H1 μ (del H D)
  mh : MHeap K w nm μ h (del H D)
  at_ : H D = some u
  chg : Chg u
section
variable {K : PySem.W.Frag} {w : World} {nm : Nm} {D : Addr} {μ1 μ μ' : List Addr} {H1 H H' : Hp} {h h' : GH} {u u' : HO}
theorem LB.out (b : LB K w nm D μ1 H1 μ h H u) : D ∉ μ := b.mh.outN del_same
theorem LB.full (b : LB K w nm D μ1 H1 μ h H u) : MHeap K w nm μ h H := by
  have := MHeap.side (ho := u) b.mh (p := D) del_same
  rw [upd_del b.at_] at this
  exact this
theorem LB.side (b : LB K w nm D μ1 H1 μ h H u) : Grow μ (del H D) μ H := by
  have := Grow.side (ho := u) b.mh (p := D) del_same
  rw [upd_del b.at_] at this
  exact this
theorem LB.step (b : LB K w nm D μ1 H1 μ h H u) (g : Grow μ H μ' H') : Grow μ (del H D) μ' (del H' D) := (b.side.trans g).del del_same
theorem LB.next (b : LB K w nm D μ1 H1 μ h H u) (g : Grow μ H μ' H') (m : MHeap K w nm μ' h' H') : LB K w nm D μ1 H1 μ' h' H' u := by
  obtain ⟨o1, o2⟩ := g.outD b.full b.at_ b.out
  exact ⟨b.grow.trans (b.step g), m.del o2 b.chg o1, o2, b.chg⟩
theorem LB.put (b : LB K w nm D μ1 H1 μ h H u) (c : Chg u') : LB K w nm D μ1 H1 μ h (upd H D u') u' :=
  ⟨by rw [del_upd2]; exact b.grow, by rw [del_upd2]; exact b.mh, upd_same, c⟩
end
def rdQ (K : PySem.W.Frag) (w : World) (nm : Nm) (E : XK) (cl : Calls) (q : OEx) : TT := fun σ H Q => ∃ env h μ, MEnv K μ H env σ ∧ MHeap K w nm μ h H ∧ Out K w nm (fun _ _ a b => a = b) (evQ cl q env h) μ H E Q
def SndQ (C : Cc) (ifs : List Expr) (q : OEx) : Prop := ∀ G d E X, Ok C G d E X → PTs X ifs (rdQ X.K X.w C.nm E (callF G d) q)
theorem PTs.weak {X : Cx} {e : List Expr} {t t' : TT} (p : PTs X e t) (f : ∀ σ H Q, t' σ H Q → t σ H Q) : PTs X e t' := ⟨fun pins s σ H Q I h => p.run pins s σ H Q I (f σ H Q h)⟩
theorem sndQ_nil {C : Cc} : SndQ C [] .non := fun G d E X k => by
  refine PTs.weak pts_nil fun σ H Q ⟨env, h, μ, me, m, o⟩ => ?_
  rw [evQ] at o
  exact o.pure m rfl
theorem sndQ_one {C : Cc} {e : Expr} {ie : Ex} (a : SndT C e ie) : SndQ C [e] (.som ie) := fun G d E X k => by
  refine PTs.weak (pts_one (a G d E X k)) fun σ H Q ⟨env, h, μ, me, m, o⟩ => ?_
  rw [evQ] at o
  exact ⟨env, h, μ, me, m, o⟩
/-- the shape of a comprehension's loop -/
def L1 (J : It) (g : TG) (tt : TT) (leaf : L2.St → Hp → (Hp → Prop) → Prop) (vs : List Nat) (σ : L2.St) (H0 : Hp) (Fin : Hp → Prop) : Prop :=
  ∃ W : Nat → Nat → Hp → Prop, (∃ m, W 0 m H0) ∧ ∀ i m H, W i m H → (J.stop i H ∧ Fin H) ∨ (J.go i H ∧ ∃ Nx : Hp → Prop, (∀ H', Nx H' → ∃ m', m' < m ∧ W (i + 1) m' H') ∧
    ∀ x H', J.yld i H x H' → g x (L2.wipe σ vs) H' fun σ2 H2 => L2.wipe σ2 vs = L2.wipe σ vs ∧ tt σ2 H2 fun b H3 => if b = true then leaf σ2 H3 Nx else Nx H3)
section
variable {K : PySem.W.Frag} {w : World} {nm : Nm} {D : Addr} {μ1 : List Addr} {H1 : Hp} {cl : Calls}
def bodyC (cl : Calls) (t : Tg) (c : OEx) (ws : List Nat) (env : Env) (f : Env → Acc → GH → Res Acc) : GV → Acc → GH → Res Acc := fun x acc h2 => match setTg t x (wipeE env ws) with
  | some env1 => (evQ cl c env1 h2).bind fun b h3 => if b = true then f env1 acc h3 else .ok acc h3
  | none => .bad
theorem loop_ok {J : It} {P : List Addr → Hp → Prop} {vs : List GV} {g : Gd} {t : Tg} {c : OEx} {ws : List Nat} {env : Env} {σ : L2.St} {f : Env → Acc → GH → Res Acc} {Pay : List Addr → Hp → HO → Acc → Prop}
    {leaf : L2.St → Hp → (Hp → Prop) → Prop} {Fin : Hp → Prop} {μ0 : List Addr} {h0 hR : GH} {H0 : Hp} {u0 : HO} {acc0 accR : Acc}
    (wk : Wk K w nm J P vs g) (ht : tgIn t ws = true) (pay : ∀ {μ : List Addr} {h : GH} {H : Hp} {μ' : List Addr} {H' : Hp} {u : HO} {acc : Acc}, MHeap K w nm μ h H → Grow μ H μ' H' → Pay μ H u acc → Pay μ' H' u acc)
    (lb : LB K w nm D μ1 H1 μ0 h0 H0 u0) (p0 : P μ0 (del H0 D)) (me : MEnv K μ0 (del H0 D) env σ) (y0 : Pay μ0 (del H0 D) u0 acc0) (run : cmpL g (bodyC cl t c ws env f) vs acc0 h0 = .ok accR hR)
    (hleaf : ∀ (env1 : Env) (acc acc' : Acc) (h3 h' : GH) (σ2 : L2.St) (μ3 : List Addr) (H3 : Hp) (u : HO) (Nx : Hp → Prop), f env1 acc h3 = .ok acc' h' → MEnv K μ3 H3 env1 σ2 → LB K w nm D μ1 H1 μ3 h3 H3 u → Pay μ3 (del H3 D) u acc →
      (∀ μ' H' u', LB K w nm D μ1 H1 μ' h' H' u' → Grow μ3 (del H3 D) μ' (del H' D) → Pay μ' (del H' D) u' acc' → Nx H') → leaf σ2 H3 Nx)
    (fin : ∀ μ' H' u', LB K w nm D μ1 H1 μ' hR H' u' → Grow μ0 (del H0 D) μ' (del H' D) → Pay μ' (del H' D) u' accR → Fin H') :
    L1 J (rdG K w nm t) (rdQ K w nm nev cl c) leaf ws σ H0 Fin := by
  refine ⟨fun i m H => m = vs.length - i ∧ i ≤ vs.length ∧ ∃ μ h acc u, LB K w nm D μ1 H1 μ h H u ∧ Grow μ0 (del H0 D) μ (del H D) ∧ Pay μ (del H D) u acc ∧ cmpL g (bodyC cl t c ws env f) (vs.drop i) acc h = .ok accR hR,
    ⟨_, rfl, Nat.zero_le _, μ0, h0, acc0, u0, lb, .refl, y0, run⟩, ?_⟩
  rintro i m H ⟨rfl, hi, μ, h, acc, u, b, gr, y, e⟩
  have pb : P μ (del H D) := wk.keep lb.mh gr p0
  have pf : P μ H := wk.keep b.mh b.side pb
  by_cases hlt : i < vs.length
  · rw [List.drop_eq_getElem_cons hlt] at e
    unfold cmpL at e
    split at e
    · rename_i hc
      obtain ⟨a1, h1, e1, e2⟩ := bind_ok e
      obtain ⟨k1, k2⟩ := wk.go (List.getElem?_eq_getElem hlt) b.full hc pf
      refine .inr ⟨k1, fun H' => vs.length - (i + 1) = vs.length - (i + 1) ∧ i + 1 ≤ vs.length ∧ ∃ μ h acc u, LB K w nm D μ1 H1 μ h H' u ∧ Grow μ0 (del H0 D) μ (del H' D) ∧ Pay μ (del H' D) u acc ∧ cmpL g (bodyC cl t c ws env f) (vs.drop (i + 1)) acc h = .ok accR hR,
        fun H' q => ⟨vs.length - (i + 1), by omega, q⟩, fun x H' yl => ?_⟩
      obtain ⟨gx, mx, rx⟩ := k2 x H' yl
      unfold bodyC at e1
      split at e1
      · rename_i env1 et
        obtain ⟨bq, h3, e3, e4⟩ := bind_ok e1
        have bx := b.next gx mx
        have me' : MEnv K μ H' (wipeE env ws) (L2.wipe σ ws) := (((me.grow lb.mh gr).grow b.mh b.side).grow b.full gx).wipe ws
        refine ⟨wipeE env ws, h, μ, vs[i], env1, me', mx, rx, et, fun σ2 me2 l2 o2 => ⟨?_, ?_⟩⟩
        · refine wipe_eq (by rw [l2, wipe_len]) fun j hj => ?_
          rw [o2 j (tgIn_of ht hj), wipe_out' hj]
        refine ⟨env1, h, μ, me2, mx, ?_⟩
        rw [e3]
        intro μ3 H3 bb g3 m3 eb
        subst eb
        have b3 := bx.next g3 m3
        have gs := b.step (gx.trans g3)
        have y3 := pay b.mh gs y
        cases bq with
        | false =>
          rw [if_neg Bool.false_ne_true] at e4 ⊢
          cases e4
          exact ⟨rfl, hlt, μ3, _, _, u, b3, gr.trans gs, y3, e2⟩
        | true =>
          rw [if_pos rfl] at e4 ⊢
          exact hleaf env1 acc a1 h3 h1 σ2 μ3 H3 u _ e4 (me2.grow mx g3) b3 y3 fun μ' H'' u' b' g' y' => ⟨rfl, hlt, μ', h1, a1, u', b', (gr.trans gs).trans g', y', e2⟩
      · cases e1
    · cases e
  · have ei : i = vs.length := by omega
    subst ei
    rw [List.drop_length] at e
    unfold cmpL at e
    split at e
    · rename_i hc
      cases e
      exact .inl ⟨wk.stop b.full hc pf, fin μ H u b gr y⟩
    · cases e
end
end Pv
end Pv_S
section Pv_T
set_option Elab.async false
set_option linter.all false
set_option maxRecDepth 10000
namespace Pv
open PySem PySem.Spec PyProof.Rows
open L2
open GV

/-! ### list comprehensions -/
section
variable {K : PySem.W.Frag} {w : World} {nm : Nm} {E : XK} {cl : Calls} {σ : L2.St} {H : Hp} {Q : VK}
/-- what the new list holds -/
def PayL (K : PySem.W.Frag) (μ : List Addr) (H : Hp) (u : HO) (acc : Acc) : Prop := ∃ xs, u = .lst xs ∧ VMs K μ H (acc.map (·.1)) xs
theorem payL_grow {μ : List Addr} {h : GH} {H : Hp} {μ' : List Addr} {H' : Hp} {u : HO} {acc : Acc} (m : MHeap K w nm μ h H) (g : Grow μ H μ' H') (p : PayL K μ H u acc) : PayL K μ' H' u acc :=
  let ⟨xs, e, t⟩ := p; ⟨xs, e, t.grow m g⟩
def fL (cl : Calls) (e : Ex) : Env → Acc → GH → Res Acc := fun env1 acc h1 => (evE cl e env1 h1).bind fun x h2 => if acc.length < szL then .ok (acc ++ [(x, .non)]) h2 else .bad
def leafL (te : TE) (D : Addr) : L2.St → Hp → (Hp → Prop) → Prop := fun σ2 H3 Nx => te σ2 H3 fun y H4 => ∃ acc, H4 D = some (.lst acc) ∧ acc.length < sizeLine ∧ Nx (upd H4 D (.lst (acc ++ [y])))
theorem leafL_ok {D : Addr} {μ1 : List Addr} {H1 : Hp} {e : Ex} (env1 : Env) (acc acc' : Acc) (h3 h' : GH) (σ2 : L2.St) (μ3 : List Addr) (H3 : Hp) (u : HO) (Nx : Hp → Prop) (run : fL cl e env1 acc h3 = .ok acc' h') (me : MEnv K μ3 H3 env1 σ2) (lb : LB K w nm D μ1 H1 μ3 h3 H3 u) (y : PayL K μ3 (del H3 D) u acc)
    (nx : ∀ μ' H' u', LB K w nm D μ1 H1 μ' h' H' u' → Grow μ3 (del H3 D) μ' (del H' D) → PayL K μ' (del H' D) u' acc' → Nx H') : leafL (rdE K w nm nev cl e) D σ2 H3 Nx := by
  unfold fL at run
  obtain ⟨x, h4, e1, e2⟩ := bind_ok run
  split at e2
  · rename_i hl
    cases e2
    refine ⟨env1, h3, μ3, me, lb.full, ?_⟩
    rw [e1]
    intro μ4 H4 z g4 m4 r4
    obtain ⟨xs, rfl, t⟩ := y
    have b4 := lb.next g4 m4
    have gs := lb.step g4
    have bp := b4.put (u' := .lst (xs ++ [z])) trivial
    refine ⟨xs, b4.at_, by rw [← t.length, List.length_map, ← szL_eq]; exact hl, nx μ4 _ _ bp (by rw [del_upd2]; exact gs) ⟨_, rfl, ?_⟩⟩
    rw [del_upd2, List.map_append]
    exact (t.grow lb.mh gs).snoc (r4.del b4.at_ trivial)
  · cases e2
theorem lb0 {D : Addr} {μ1 : List Addr} {H1 : Hp} {h1 : GH} {u : HO} (m : MHeap K w nm μ1 h1 H1) (hD : H1 D = none) (c : Chg u) : LB K w nm D μ1 H1 μ1 h1 (upd H1 D u) u :=
  ⟨by rw [del_upd hD]; exact .refl, by rw [del_upd hD]; exact m, upd_same, c⟩
theorem lc_one {ws : List Nat} {t : Tg} {i : Iy} {c : OEx} {e : Ex} (ht : tgIn t ws = true) (rd : rdN K w nm E cl (.cmp ws (.one t i c) e) σ H Q) : tLc (rdI K w nm E cl i) (rdG K w nm t) (rdQ K w nm nev cl c) (rdE K w nm nev cl e) ws σ H Q := by
  obtain ⟨env, h, μ, me, m, o⟩ := rd
  rw [evS, evC] at o
  refine ⟨env, h, μ, me, m, ?_⟩
  generalize evI cl i env h = r at o ⊢
  cases r with
  | exc a b d => exact o.elim
  | bad => exact o.elim
  | ok p h1 =>
    intro μ1 H1 J g1 m1 ⟨P, p1, wk, dl⟩ D hD
    change Out K w nm (VMs K) ((cmpL p.2 (bodyC cl t c ws env (fL cl e)) p.1 [] h1).quiet.bind fun ps h1 => .ok (ps.map (·.1)) h1) μ H E _ at o
    cases run : cmpL p.2 (bodyC cl t c ws env (fL cl e)) p.1 [] h1 with
    | exc a b d => rw [run] at o; exact o.elim
    | bad => rw [run] at o; exact o.elim
    | ok ps hR =>
      rw [run] at o
      refine loop_ok (leaf := leafL (rdE K w nm nev cl e) D) (Fin := fun H' => Q (.ref D) H') (Pay := PayL K) wk ht payL_grow (lb0 m1 hD trivial) (by rw [del_upd hD]; exact p1) (by rw [del_upd hD]; exact me.grow m g1) ⟨[], rfl, .nil⟩ run leafL_ok ?_
      intro μ' H' u' b gr ⟨xs, ex, tt⟩
      subst ex
      rw [del_upd hD] at gr
      have := o μ' (del H' D) xs (g1.trans gr) b.mh tt D del_same
      rw [upd_del b.at_] at this
      exact this
theorem lc_two {ws us : List Nat} {t u : Tg} {i j : Iy} {c d : OEx} {e : Ex} (ht : tgIn t ws = true) (hu : tgIn u us = true) (hj : iyD j = true) (rd : rdN K w nm E cl (.cmp ws (.two t i c us u j d) e) σ H Q) :
    tLc2 (rdI K w nm E cl i) (rdG K w nm t) (rdQ K w nm nev cl c) (rdI K w nm nev cl j) (rdG K w nm u) (rdQ K w nm nev cl d) (rdE K w nm nev cl e) ws us σ H Q := by
  obtain ⟨env, h, μ, me, m, o⟩ := rd
  rw [evS, evC] at o
  refine ⟨env, h, μ, me, m, ?_⟩
  generalize evI cl i env h = r at o ⊢
  cases r with
  | exc a b d => exact o.elim
  | bad => exact o.elim
  | ok p h1 =>
    intro μ1 H1 J g1 m1 ⟨P, p1, wk, dl⟩ D hD
    change Out K w nm (VMs K) ((cmpL p.2 (bodyC cl t c ws env fun env1 acc h3 => (evI cl j env1 h3).bind fun q h4 => cmpL q.2 (bodyC cl u d us env1 (fL cl e)) q.1 acc h4) p.1 [] h1).quiet.bind fun ps h1 => .ok (ps.map (·.1)) h1) μ H E _ at o
    cases run : cmpL p.2 (bodyC cl t c ws env fun env1 acc h3 => (evI cl j env1 h3).bind fun q h4 => cmpL q.2 (bodyC cl u d us env1 (fL cl e)) q.1 acc h4) p.1 [] h1 with
    | exc a b d => rw [run] at o; exact o.elim
    | bad => rw [run] at o; exact o.elim
    | ok ps hR =>
      rw [run] at o
      refine loop_ok (leaf := fun σ2 H3 Nx => rdI K w nm nev cl j σ2 H3 fun J1 H4 => L1 J1 (rdG K w nm u) (rdQ K w nm nev cl d) (leafL (rdE K w nm nev cl e) D) us σ2 H4 Nx) (Fin := fun H' => Q (.ref D) H') (Pay := PayL K) wk ht payL_grow (lb0 m1 hD trivial) (by rw [del_upd hD]; exact p1) (by rw [del_upd hD]; exact me.grow m g1) ⟨[], rfl, .nil⟩ run ?_ ?_
      · intro env1 acc acc' h3 h' σ2 μ3 H3 uu Nx e1 me3 b3 y3 nx
        obtain ⟨q, h4, e2, e3⟩ := bind_ok e1
        refine ⟨env1, h3, μ3, me3, b3.full, ?_⟩
        rw [e2]
        intro μ4 H4 J1 g4 m4 ⟨P1, p4, wk1, dl1⟩
        have b4 := b3.next g4 m4
        have gs := b3.step g4
        refine loop_ok (leaf := leafL (rdE K w nm nev cl e) D) (Fin := Nx) (Pay := PayL K) wk1 hu payL_grow b4 (dl1 hj b4.at_ b4.chg (g4.outD b3.full b3.at_ b3.out).1 p4) ((me3.grow b3.full g4).del b4.at_ b4.chg) (payL_grow b3.mh gs y3) e3 leafL_ok ?_
        intro μ' H' u' b gr y'
        exact nx μ' H' u' b (gs.trans gr) y'
      · intro μ' H' u' b gr ⟨xs, ex, tt⟩
        subst ex
        rw [del_upd hD] at gr
        have := o μ' (del H' D) xs (g1.trans gr) b.mh tt D del_same
        rw [upd_del b.at_] at this
        exact this
end
def notSet : Expr → Bool
  | .Set _ _ _ => false
  | _ => true
theorem folded_of {e : Expr} (h : notSet e = true) (env : PySem.Env) (x : Value) : foldedSetIterable e env x = pure x := by
  cases e <;> first | rfl | cases h
section
variable {C : Cc}
def usIn (us : List Nat) (own : List (Str × Nat)) : Bool := us.all fun i => decide (i ∈ own.map (·.2))
theorem usIn_of {us : List Nat} {own : List (Str × Nat)} (h : usIn us own = true) : ∀ i ∈ us, i ∈ own.map (·.2) := fun i hi => of_decide_eq_true (List.all_eq_true.mp h i hi)
theorem snd_lc {elt tg iter : Expr} {ifs : List Expr} {scope : Scope} {own : List (Str × Nat)} {pos : Pos} {t : Tg} {i : Iy} {c : OEx} {e : Ex} (hb : blkC C.N C.sc scope own = true) (ht : tgIn t (own.map (·.2)) = true) (hf : notSet iter = true)
    (si : SndI C tg iter i) (sg : SndG (C.blk scope) tg t) (sq : SndQ (C.blk scope) ifs c) (se : SndE (C.blk scope) elt e) : SndN C (.ListComp elt [⟨tg, iter, ifs, 0⟩] scope pos) (.cmp (own.map (·.2)) (.one t i c) e) := fun G d E X k =>
  PE.weak (pe_lc k.calm (by rw [k.hN]; exact k.nd) (si G d E X k) (by rw [k.hN, k.sc]; exact blkOk_by hb) (fun s H A cl fp => sg G d nev _ (k.blk scope s H A cl fp)) (fun s H A cl fp => sq G d nev _ (k.blk scope s H A cl fp)) (fun s H A cl fp => se G d nev _ (k.blk scope s H A cl fp)) (folded_of hf X.env))
    fun σ H Q h => lc_one ht h
theorem snd_lc2 {elt tg iter tg1 iter1 : Expr} {ifs ifs1 : List Expr} {scope : Scope} {own : List (Str × Nat)} {us : List Nat} {pos : Pos} {t u : Tg} {i j : Iy} {c d : OEx} {e : Ex} (hb : blkC C.N C.sc scope own = true) (ht : tgIn t (own.map (·.2)) = true) (hu : tgIn u us = true) (hus : usIn us own = true) (hj : iyD j = true) (hf : notSet iter = true) (hf1 : notSet iter1 = true)
    (si : SndI C tg iter i) (sg : SndG (C.blk scope) tg t) (sq : SndQ (C.blk scope) ifs c) (sj : SndI (C.blk scope) tg1 iter1 j) (sg1 : SndG (C.blk scope) tg1 u) (sq1 : SndQ (C.blk scope) ifs1 d) (se : SndE (C.blk scope) elt e) :
    SndN C (.ListComp elt [⟨tg, iter, ifs, 0⟩, ⟨tg1, iter1, ifs1, 0⟩] scope pos) (.cmp (own.map (·.2)) (.two t i c us u j d) e) := fun G dd E X k =>
  PE.weak (pe_lc2 k.calm (by rw [k.hN]; exact k.nd) (si G dd E X k) (by rw [k.hN, k.sc]; exact blkOk_by hb) (usIn_of hus) (fun s H A cl fp => sg G dd nev _ (k.blk scope s H A cl fp)) (fun s H A cl fp => sq G dd nev _ (k.blk scope s H A cl fp))
    (fun s H A cl fp => sj G dd nev _ (k.blk scope s H A cl fp)) (fun s H A cl fp => sg1 G dd nev _ (k.blk scope s H A cl fp)) (fun s H A cl fp => sq1 G dd nev _ (k.blk scope s H A cl fp)) (fun s H A cl fp => se G dd nev _ (k.blk scope s H A cl fp)) (folded_of hf X.env) (fun env x => folded_of hf1 env x))
    fun σ H Q h => lc_two ht hu hj h
end
end Pv
end Pv_T
section Pv_U
set_option Elab.async false
set_option linter.all false
set_option maxRecDepth 10000
namespace Pv
open PySem PySem.Spec PyProof.Rows
open L2
open GV

/-! ### statements -/
def EndM (K : PySem.W.Frag) (D : Ends) (μ : List Addr) (H : Hp) (env : Env) : Fl → Prop
  | .nxt => ∀ σ, MEnv K μ H env σ → D.nx σ H
  | .brk => ∀ σ, MEnv K μ H env σ → D.bk σ H
  | .cnt => ∀ σ, MEnv K μ H env σ → D.ct σ H
  | .ret v => ∀ x, VM K μ H v x → D.rt x H
def OutS (K : PySem.W.Frag) (w : World) (nm : Nm) (r : RS) (μ : List Addr) (H : Hp) (E : XK) (D : Ends) : Prop := match r with
  | .ok p h' => ∀ μ' H', Grow μ H μ' H' → MHeap K w nm μ' h' H' → EndM K D μ' H' p.2 p.1
  | .exc c fs h' => ∀ μ' H' d fs', Grow μ H μ' H' → MHeap K w nm μ' h' H' → H' d = some (.xd fs') → Paired (FldM K nm μ' H') fs fs' → E (.ref (He.ga K (nm c))) (some d) H'
  | .bad => False
section
variable {K : PySem.W.Frag} {w : World} {nm : Nm} {μ μ' : List Addr} {H H' : Hp} {E : XK} {D D' : Ends}
theorem OutS.grow {r : RS} (o : OutS K w nm r μ H E D) (g : Grow μ H μ' H') : OutS K w nm r μ' H' E D := by
  cases r with
  | ok p h1 => exact fun μ1 H1 g1 m1 => o μ1 H1 (g.trans g1) m1
  | exc c fs h1 => exact fun μ1 H1 d fs' g1 => o μ1 H1 d fs' (g.trans g1)
  | bad => exact o
/-- first an expression, then what is said behind it -/
theorem OutS.bind {α β : Type} {R : List Addr → Hp → α → β → Prop} {r : Res α} {f : α → GH → RS} {Q : β → Hp → Prop} (o : OutS K w nm (r.bind f) μ H E D)
    (k : ∀ μ' H' h' v x, Grow μ H μ' H' → MHeap K w nm μ' h' H' → R μ' H' v x → OutS K w nm (f v h') μ' H' E D → Q x H') : Out K w nm R r μ H E Q := by
  cases r with
  | ok v h1 => exact fun μ1 H1 x g1 m1 r1 => k μ1 H1 h1 v x g1 m1 r1 (OutS.grow (r := f v h1) o g1)
  | exc c fs h1 => exact o
  | bad => exact o
/-- first statements -/
theorem OutS.seq {r : RS} {f : Fl × Env → GH → RS} (o : OutS K w nm (r.bind f) μ H E D) (k : ∀ μ' H' h' p, Grow μ H μ' H' → MHeap K w nm μ' h' H' → OutS K w nm (f p h') μ' H' E D → EndM K D' μ' H' p.2 p.1) : OutS K w nm r μ H E D' := by
  cases r with
  | ok v h1 => exact fun μ1 H1 g1 m1 => k μ1 H1 h1 v g1 m1 (OutS.grow (r := f v h1) o g1)
  | exc c fs h1 => exact o
  | bad => exact o
theorem OutS.pure {p : Fl × Env} {h : GH} (o : OutS K w nm (.ok p h) μ H E D) (m : MHeap K w nm μ h H) : EndM K D μ H p.2 p.1 := o μ H .refl m
theorem OutS.at {p : Fl × Env} {h : GH} (o : OutS K w nm (.ok p h) μ H E D) (g : Grow μ H μ' H') (m : MHeap K w nm μ' h H') : EndM K D μ' H' p.2 p.1 := o μ' H' g m
end
def rdM (K : PySem.W.Frag) (w : World) (nm : Nm) (E : XK) (cl : Calls) (s : Sm) : TS := fun D σ H => ∃ env h μ, MEnv K μ H env σ ∧ MHeap K w nm μ h H ∧ OutS K w nm (exS cl s env h) μ H E D
def rdMs (K : PySem.W.Frag) (w : World) (nm : Nm) (E : XK) (cl : Calls) (s : Sms) : TS := fun D σ H => ∃ env h μ, MEnv K μ H env σ ∧ MHeap K w nm μ h H ∧ OutS K w nm (exSs cl s env h) μ H E D
def SndM (C : Cc) (st : Stmt) (s : Sm) : Prop := ∀ G d E X, Ok C G d E X → PS X st (rdM X.K X.w C.nm E (callF G d) s)
def SndMs (C : Cc) (st : List Stmt) (s : Sms) : Prop := ∀ G d E X, Ok C G d E X → PSs X st (rdMs X.K X.w C.nm E (callF G d) s)
theorem PS.weak {X : Cx} {e : Stmt} {t t' : TS} (p : PS X e t) (f : ∀ D σ H, t' D σ H → t D σ H) : PS X e t' := ⟨fun pins s σ H D I h => p.run pins s σ H D I (f D σ H h)⟩
theorem PSs.weak {X : Cx} {e : List Stmt} {t t' : TS} (p : PSs X e t) (f : ∀ D σ H, t' D σ H → t D σ H) : PSs X e t' := ⟨fun pins s σ H D I h => p.run pins s σ H D I (f D σ H h)⟩
def notComp : Expr → Bool
  | .ListComp _ _ _ _ => false
  | .SetComp _ _ _ _ => false
  | .DictComp _ _ _ _ _ => false
  | _ => true
theorem sw_no {e : Expr} (h : notComp e = true) (t : Option Expr) (l : Nat) (env : PySem.Env) : swapsWith e t l env = pure false := by
  cases e <;> first | rfl | cases h
def notTup : Expr → Bool
  | .Tuple _ _ _ => false
  | _ => true
section
variable {C : Cc}
theorem sndM_bad (st : Stmt) : SndM C st .bad := fun G d E X k => PS.weak ps_never fun D σ H ⟨env, h, μ, _, _, o⟩ => by rw [exS] at o; exact o
theorem sndM_pass {pos : Pos} : SndM C (.Pass pos) .pass := fun G d E X k => PS.weak ps_pass fun D σ H ⟨env, h, μ, me, m, o⟩ => by
  rw [exS] at o
  exact o.pure m σ me
theorem sndM_brk {pos : Pos} : SndM C (.Break pos) .brk := fun G d E X k => PS.weak ps_break fun D σ H ⟨env, h, μ, me, m, o⟩ => by
  rw [exS] at o
  exact o.pure m σ me
theorem sndM_cnt {pos : Pos} : SndM C (.Continue pos) .cnt := fun G d E X k => PS.weak ps_continue fun D σ H ⟨env, h, μ, me, m, o⟩ => by
  rw [exS] at o
  exact o.pure m σ me
theorem sndM_ret {e : Expr} {ie : Ex} {pos : Pos} (a : SndE C e ie) : SndM C (.Return (some e) pos) (.ret ie) := fun G d E X k => by
  refine PS.weak (ps_ret (a G d E X k)) fun D σ H ⟨env, h, μ, me, m, o⟩ => ?_
  rw [exS] at o
  exact ⟨env, h, μ, me, m, OutS.bind o fun μ1 H1 h1 v x g1 m1 r1 o1 => o1.pure m1 x r1⟩
theorem sndM_retN {pos : Pos} : SndM C (.Return none pos) (.ret (.cst .non)) := fun G d E X k => by
  refine PS.weak ps_retN fun D σ H ⟨env, h, μ, me, m, o⟩ => ?_
  rw [exS, evE] at o
  exact OutS.pure o m .non .non
theorem sndM_exp {e : Expr} {ie : Ex} {pos : Pos} (hc : notComp e = true) (a : SndE C e ie) : SndM C (.Expr e pos) (.exp ie) := fun G d E X k => by
  refine PS.weak (ps_expr (a G d E X k) (sw_no hc _ _ _)) fun D σ H ⟨env, h, μ, me, m, o⟩ => ?_
  rw [exS] at o
  exact ⟨env, h, μ, me, m, OutS.bind o fun μ1 H1 h1 v x g1 m1 r1 o1 => o1.pure m1 σ (me.grow m g1)⟩
theorem sndM_doc {x : Str} {j : Nat} {p pos : Pos} : SndM C (.Expr (.Constant (.str x) j p) pos) .pass := fun G d E X k => PS.weak ps_doc fun D σ H ⟨env, h, μ, me, m, o⟩ => by
  rw [exS] at o
  exact o.pure m σ me
/-! assignments -/
theorem sndM_set {x : Str} {i : Nat} {e : Expr} {ie : Ex} {pos p : Pos} (hi : C.N[i]? = some x) (hl : locB C x = true) (hs : ∀ X : Cx, X.env.scope = C.sc → swapsWith e (some (.Name x p)) pos.line X.env = pure false) (a : SndE C e ie) : SndM C (.Assign [.Name x p] e pos) (.asg (.nm i) ie) := fun G d E X k => by
  obtain ⟨l1, l2⟩ := loc_of k hl
  refine PS.weak (ps_set (by rw [k.hN]; exact k.nd) (by rw [k.hN]; exact hi) l1 (a G d E X k) (hs X k.sc) l2) fun D σ H ⟨env, h, μ, me, m, o⟩ => ?_
  rw [exS] at o
  exact ⟨env, h, μ, me, m, OutS.bind o fun μ1 H1 h1 v x g1 m1 r1 o1 => OutS.pure (p := (.nxt, env.set i (some v))) o1 m1 _ ((me.grow m g1).set r1)⟩
theorem asg_pg {t : Tg} {it : Tt} {ie : Ex} {K : PySem.W.Frag} {w : World} {nm : Nm} {E : XK} {cl : Calls} {D : Ends} {σ : L2.St} {H : Hp} (hs : ∀ v env h, setTt cl it v env h = match setTg t v env with | some e => .ok e h | none => .bad) (h : rdM K w nm E cl (.asg it ie) D σ H) : tAsg (rdE K w nm E cl ie) (rdG K w nm t) D σ H := by
  obtain ⟨env, h, μ, me, m, o⟩ := h
  rw [exS] at o
  refine ⟨env, h, μ, me, m, OutS.bind o fun μ1 H1 h1 v x g1 m1 r1 o1 => ?_⟩
  rw [hs] at o1
  cases e : setTg t v env with
  | none => rw [e] at o1; exact o1.elim
  | some env1 =>
    rw [e] at o1
    exact ⟨env, h1, μ1, v, env1, me.grow m g1, m1, r1, e, fun σ' m' _ _ => OutS.pure (p := (.nxt, env1)) o1 m1 σ' m'⟩
theorem sndM_tup {es : List Expr} {is : List Nat} {j : Nat} {e : Expr} {ie : Ex} {pos p : Pos} (h : nmsOf C es is = true) (hc : notComp e = true) (ht : notTup e = true) (a : SndE C e ie) : SndM C (.Assign [.Tuple es j p] e pos) (.asg (.tup is) ie) := fun G d E X k =>
  PS.weak (ps_asg (a G d E X k) (sndG_tup h G d E X k) (sw_no hc (some (.Tuple es j p)) pos.line X.env) (by cases e <;> first | rfl | cases ht) rfl) fun D σ H h => asg_pg (t := .tup is) (fun _ _ _ => rfl) h
/-- x = [.. for ..], at once -/
theorem sndM_lc {x : Str} {n : Nat} {elt tg iter : Expr} {ifs : List Expr} {scope : Scope} {own : List (Str × Nat)} {pos p spos : Pos} {t : Tg} {i : Iy} {c : OEx} {e : Ex} (hi : C.N[n]? = some x) (hl : C.sc.names.lookup x = some .local) (hk : C.sc.kind = .function) (hline : (p.line == pos.line) = true)
    (ha : (scope.names.any fun (n, k) => n == x && (k == .local || k == .cell)) = false) (hb : blkC C.N C.sc scope own = true) (ht : tgIn t (own.map (·.2)) = true) (hf : notSet iter = true)
    (si : SndI C tg iter i) (sg : SndG (C.blk scope) tg t) (sq : SndQ (C.blk scope) ifs c) (se : SndE (C.blk scope) elt e) : SndM C (.Assign [.Name x p] (.ListComp elt [⟨tg, iter, ifs, 0⟩] scope pos) spos) (.asg (.nm n) (.lst (.cmp (own.map (·.2)) (.one t i c) e))) := fun G d E X k => by
  refine PS.weak (ps_setLc (g := rdG X.K X.w C.nm t) (tt := rdQ X.K X.w C.nm nev (callF G d) c) (te := rdE X.K X.w C.nm nev (callF G d) e) k.calm (by rw [k.hN]; exact k.nd) (by rw [k.hN]; exact hi) (by rw [k.sc]; exact hl) (sw_true (by rw [k.sc]; exact hk) (by rw [k.sc]; exact hl) hline ha) (si G d E X k) (by rw [k.hN, k.sc]; exact blkOk_by hb) (fun s H A cl fp => sg G d nev _ (k.blk scope s H A cl fp)) (fun s H A cl fp => sq G d nev _ (k.blk scope s H A cl fp)) (fun s H A cl fp => se G d nev _ (k.blk scope s H A cl fp)) (folded_of hf X.env))
    fun D σ H ⟨env, h, μ, me, m, o⟩ => ?_
  rw [exS, evE] at o
  refine lc_one ht ⟨env, h, μ, me, m, ?_⟩
  generalize evS (callF G d) (.cmp (own.map (·.2)) (.one t i c) e) env h = r at o ⊢
  cases r with
  | exc a b d => exact o
  | bad => exact o.elim
  | ok vs h1 =>
    intro μ1 H1 xs g1 m1 r1 q hq
    have g := Grow.alloc (ho := .lst xs) m1 hq
    exact OutS.at (p := (.nxt, env.set n (some (.ref h1.length)))) o (g1.trans g) (MHeap.alloc m1 hq ⟨_, upd_same, r1.grow m1 g⟩) _ (((me.grow m g1).grow m1 g).set (.ref (alloc_ref m1)))
theorem sndM_lc2 {x : Str} {n : Nat} {elt tg iter tg1 iter1 : Expr} {ifs ifs1 : List Expr} {scope : Scope} {own : List (Str × Nat)} {us : List Nat} {pos p spos : Pos} {t u : Tg} {i j : Iy} {c d : OEx} {e : Ex} (hi : C.N[n]? = some x) (hl : C.sc.names.lookup x = some .local) (hk : C.sc.kind = .function) (hline : (p.line == pos.line) = true)
    (ha : (scope.names.any fun (n, k) => n == x && (k == .local || k == .cell)) = false) (hb : blkC C.N C.sc scope own = true) (ht : tgIn t (own.map (·.2)) = true) (hu : tgIn u us = true) (hus : usIn us own = true) (hj : iyD j = true) (hf : notSet iter = true) (hf1 : notSet iter1 = true)
    (si : SndI C tg iter i) (sg : SndG (C.blk scope) tg t) (sq : SndQ (C.blk scope) ifs c) (sj : SndI (C.blk scope) tg1 iter1 j) (sg1 : SndG (C.blk scope) tg1 u) (sq1 : SndQ (C.blk scope) ifs1 d) (se : SndE (C.blk scope) elt e) :
    SndM C (.Assign [.Name x p] (.ListComp elt [⟨tg, iter, ifs, 0⟩, ⟨tg1, iter1, ifs1, 0⟩] scope pos) spos) (.asg (.nm n) (.lst (.cmp (own.map (·.2)) (.two t i c us u j d) e))) := fun G dd E X k => by
  refine PS.weak (ps_setLc2 (g := rdG X.K X.w C.nm t) (tt := rdQ X.K X.w C.nm nev (callF G dd) c) (wi1 := rdI X.K X.w C.nm nev (callF G dd) j) (g1 := rdG X.K X.w C.nm u) (tt1 := rdQ X.K X.w C.nm nev (callF G dd) d) (te := rdE X.K X.w C.nm nev (callF G dd) e) k.calm (by rw [k.hN]; exact k.nd) (by rw [k.hN]; exact hi) (by rw [k.sc]; exact hl) (sw_true (by rw [k.sc]; exact hk) (by rw [k.sc]; exact hl) hline ha) (si G dd E X k) (by rw [k.hN, k.sc]; exact blkOk_by hb) (usIn_of hus) (fun s H A cl fp => sg G dd nev _ (k.blk scope s H A cl fp)) (fun s H A cl fp => sq G dd nev _ (k.blk scope s H A cl fp))
    (fun s H A cl fp => sj G dd nev _ (k.blk scope s H A cl fp)) (fun s H A cl fp => sg1 G dd nev _ (k.blk scope s H A cl fp)) (fun s H A cl fp => sq1 G dd nev _ (k.blk scope s H A cl fp)) (fun s H A cl fp => se G dd nev _ (k.blk scope s H A cl fp)) (folded_of hf X.env) (fun env x => folded_of hf1 env x))
    fun D σ H ⟨env, h, μ, me, m, o⟩ => ?_
  rw [exS, evE] at o
  refine lc_two ht hu hj ⟨env, h, μ, me, m, ?_⟩
  generalize evS (callF G dd) (.cmp (own.map (·.2)) (.two t i c us u j d) e) env h = r at o ⊢
  cases r with
  | exc a b d => exact o
  | bad => exact o.elim
  | ok vs h1 =>
    intro μ1 H1 xs g1 m1 r1 q hq
    have g := Grow.alloc (ho := .lst xs) m1 hq
    exact OutS.at (p := (.nxt, env.set n (some (.ref h1.length)))) o (g1.trans g) (MHeap.alloc m1 hq ⟨_, upd_same, r1.grow m1 g⟩) _ (((me.grow m g1).grow m1 g).set (.ref (alloc_ref m1)))
/-! o.f = e -/
theorem bind_assoc {α β γ : Type} (r : Res α) (f : α → GH → Res β) (g : β → GH → Res γ) : (r.bind f).bind g = r.bind fun a h => (f a h).bind g := by cases r <;> rfl
theorem putF_m {K : PySem.W.Frag} {nm : Nm} {μ : List Addr} {H : Hp} (inj : ∀ a b, nm a = nm b → a = b) {f : Nat} {v : GV} {x : V} (r : VM K μ H v x) : ∀ {fs : List (Nat × GV)} {fs' : List (Str × V)}, Paired (FldM K nm μ H) fs fs' → Paired (FldM K nm μ H) (putFld fs f v) (L2.putF (nm f) x fs')
  | _, _, .nil => .cons ⟨rfl, r⟩ .nil
  | _, _, .cons (a := p) (b := q) (l₁ := l1) (l₂ := l2) ⟨r1, r2⟩ t => by
    obtain ⟨i, g⟩ := p
    obtain ⟨n, y⟩ := q
    have r1 : nm i = n := r1
    subst r1
    unfold putFld L2.putF
    by_cases hf : i = f
    · subst hf
      rw [if_pos rfl, if_pos rfl]
      exact .cons ⟨rfl, r⟩ t
    · rw [if_neg hf, if_neg fun z => hf (inj _ _ z)]
      exact .cons ⟨rfl, r2⟩ (putF_m inj r t)
theorem sndM_fld {o e : Expr} {io ie : Ex} {f : Str} {cs : List Nat} {j : Nat} {pos p : Pos} (so : SndE C o io) (se : SndE C e ie) (hn : C.nm j = f) (hc : ∀ c ∈ cs, (c, j) ∈ C.attrs) (hcp : notComp e = true) : SndM C (.Assign [.Attribute o f p] e pos) (.asg (.fld io cs j) ie) := fun G d E X k => by
  subst hn
  refine PS.weak (ps_fld (so G d E X k) (se G d E X k) (sw_no hcp _ _ _)) fun D σ H ⟨env, h, μ, me, m, o⟩ => ?_
  rw [exS] at o
  refine ⟨env, h, μ, me, m, OutS.bind o fun μ1 H1 h1 v x g1 m1 r1 o1 => ?_⟩
  unfold setTt at o1
  dsimp only at o1
  rw [bind_assoc] at o1
  refine ⟨env, h1, μ1, me.grow m g1, m1, OutS.bind o1 fun μ2 H2 h2 u y g2 m2 r2 o2 => ?_⟩
  have mx := (me.grow m g1).grow m1 g2
  cases es : setFld u cs j v h2 with
  | none => rw [es] at o2; exact o2.elim
  | some h3 =>
    rw [es] at o2
    unfold setFld at es
    split at es
    · split at es
      · rename_i n _ c fs e1
        split at es
        · rename_i hh
          cases es
          cases r2 with
          | @ref _ a0 q =>
            obtain ⟨dx, fs', y1, t⟩ := m2.obj _ _ _ q e1
            obtain ⟨k1, k2⟩ := k.attr _ (hc c hh.1)
            have g := Grow.write (ho := .ins (He.ga X.K (C.nm c)) dx (L2.putF (C.nm j) x fs')) (K := X.K) (w := X.w) (nm := C.nm) (h := h2) m2 q
            have hl : fs'.length < 1000 := by
              have := Paired.len t
              omega
            refine ⟨a0, _, dx, fs', rfl, y1, k1, k2, hl, ?_⟩
            exact OutS.at (p := (.nxt, env)) o2 g (MHeap.write m2 q ⟨dx, _, upd_same, by
              exact putF_m C.inj ((r1.grow m1 g2).grow m2 g) (Paired.impl t fun p q ⟨z1, z2⟩ => ⟨z1, z2.grow m2 g⟩)⟩) σ (mx.grow m2 g)
        · cases es
      · cases es
    · cases es
/-! o[i] = e -/
def rSet (K : PySem.W.Frag) (w : World) (nm : Nm) : TSet := fun o i v H Q => ∃ μ h go gi gv h', MHeap K w nm μ h H ∧ VM K μ H go o ∧ VM K μ H gi i ∧ VM K μ H gv v ∧ setIx go gi gv h = some h' ∧ ∀ H', Grow μ H μ H' → MHeap K w nm μ h' H' → Q H'
theorem vals_setG {K : PySem.W.Frag} {μ : List Addr} {H : Hp} {gs : List GV} {xs : List V} (t : VMs K μ H gs xs) (j : Nat) {g : GV} {x : V} (r : VM K μ H g x) : VMs K μ H (gs.set j g) (xs.set j x) := t.set j r
theorem set_any {X : Cx} (hu : X.A.units + 65 < cLine) {nm : Nm} : PSet X (rSet X.K X.w nm) := by
  intro pins s σ H o i v ov iv u Q I ro ri rv q
  obtain ⟨μ, h, go, gi, gv, h', m, ho, hi, hv, e, q⟩ := q
  unfold setIx at e
  split at e
  · split at e
    · rename_i n _ xs e1
      split at e
      · rename_i k
        split at e
        · rename_i j ej
          cases e
          cases ho with
          | @ref _ a qa =>
            cases hi
            obtain ⟨zs, z1, t⟩ := m.obj _ _ _ qa e1
            have g := Grow.write (ho := .lst (zs.set j v)) (K := X.K) (w := X.w) (nm := nm) (h := h) m qa
            exact set_list pins s σ H _ _ _ ov iv u Q I ro ri rv ⟨a, zs, k, j, rfl, rfl, z1, by rw [← t.length]; exact ej, q _ g (MHeap.write m qa ⟨_, upd_same, (t.grow m g).set j (hv.grow m g)⟩)⟩
        · cases e
      · cases e
    · rename_i n _ kvs e1
      split at e
      · rename_i hk
        cases e
        cases ho with
        | @ref _ a qa =>
          cases ro
          have D := m.obj _ _ _ qa e1
          refine d_set hu I D hk.1 (by rw [← szL_eq]; exact hk.2) hi ri hv rv fun o1 s' I' ⟨es, ep, x1, x2, x3⟩ => ?_
          have g := Grow.write (ho := dctO a o1) (K := X.K) (w := X.w) (nm := nm) (h := h) m qa
          refine ⟨_, I', q _ g (MHeap.write m qa ⟨⟨o1, es, ep, upd_same, x1, x2, Paired.impl x3 fun en p ⟨r1, kx, vx, r2, r3, r4, r5⟩ => ⟨r1, kx, vx, r2.grow m g, r3, r4.grow m g, r5⟩⟩, D.sys, ?_, put_nodup D.nd, put_kind hk.1⟩)⟩
          have := put_len (kvs := kvs) (k := gi) (v := gv)
          have h2 := hk.2
          rw [szL_eq] at h2
          omega
      · cases e
    · cases e
  · cases e
/-- no slice, no tuple with a star -/
theorem sndM_sub {o i e : Expr} {io ii ie : Ex} {pos p : Pos} (so : SndE C o io) (si : SndE C i ii) (se : SndE C e ie) (hs : notSlice i = true) (hcp : notComp e = true) : SndM C (.Assign [.Subscript o i p] e pos) (.asg (.sub io ii) ie) := fun G d E X k => by
  have st : ∀ v, assign (.Subscript o i p) X.env v = (do
      let ov ← holding [v] (eval o X.env)
      let iv ← holding [v, ov] (eval i X.env)
      standAt p
      holding [v, ov, iv] (setItem ov iv v)
      release [v, ov, iv] []) := fun v => by cases i <;> first | rfl | cases hs
  refine PS.weak (ps_asg (se G d E X k) (pg_sub (so G d E X k) (si G d E X k) (set_any (Room.u64 k.room) (nm := C.nm)) st) (sw_no hcp (some (.Subscript o i p)) pos.line X.env) rfl rfl) fun D σ H ⟨env, h, μ, me, m, q⟩ => ?_
  rw [exS] at q
  refine ⟨env, h, μ, me, m, OutS.bind q fun μ1 H1 h1 v x g1 m1 r1 q1 => ?_⟩
  unfold setTt at q1
  dsimp only at q1
  rw [bind_assoc] at q1
  refine ⟨env, h1, μ1, me.grow m g1, m1, OutS.bind q1 fun μ2 H2 h2 u y g2 m2 r2 q2 => ?_⟩
  rw [bind_assoc] at q2
  refine ⟨env, h2, μ2, (me.grow m g1).grow m1 g2, m2, OutS.bind q2 fun μ3 H3 h3 t z g3 m3 r3 q3 => ?_⟩
  cases es : setIx u t v h3 with
  | none => rw [es] at q3; exact q3.elim
  | some h4 =>
    rw [es] at q3
    exact ⟨μ3, h3, u, t, v, h4, m3, r2.grow m2 g3, r3, (r1.grow m1 g2).grow m2 g3, es, fun H' g m' => OutS.at (p := (.nxt, env)) q3 g m' σ ((((me.grow m g1).grow m1 g2).grow m2 g3).grow m3 g)⟩
/-! ### if, for, while, rows of statements -/
theorem sndM_if {c : Expr} {a b : List Stmt} {ic : Ex} {ia ib : Sms} {pos : Pos} (sc : SndT C c ic) (sa : SndMs C a ia) (sb : SndMs C b ib) : SndM C (.If c a b pos) (.iff ic ia ib) := fun G d E X k => by
  refine PS.weak (ps_if (sc G d E X k) (sa G d E X k) (sb G d E X k)) fun D σ H ⟨env, h, μ, me, m, o⟩ => ?_
  rw [exS] at o
  refine ⟨env, h, μ, me, m, OutS.bind o fun μ1 H1 h1 v x g1 m1 r1 o1 => ?_⟩
  have r1 : v = x := r1
  subst r1
  cases v with
  | true =>
    rw [if_pos rfl] at o1 ⊢
    exact ⟨env, h1, μ1, me.grow m g1, m1, o1⟩
  | false =>
    rw [if_neg Bool.false_ne_true] at o1 ⊢
    exact ⟨env, h1, μ1, me.grow m g1, m1, o1⟩
theorem sndMs_nil : SndMs C [] .nil := fun G d E X k => by
  refine PSs.weak pss_nil fun D σ H ⟨env, h, μ, me, m, o⟩ => ?_
  rw [exSs] at o
  exact OutS.pure (E := E) (D := D) (p := (.nxt, env)) o m σ me
theorem sndMs_cons {st : Stmt} {rest : List Stmt} {i : Sm} {ir : Sms} (a : SndM C st i) (b : SndMs C rest ir) : SndMs C (st :: rest) (.cons i ir) := fun G d E X k => by
  refine PSs.weak (pss_cons (a G d E X k) (b G d E X k)) fun D σ H ⟨env, h, μ, me, m, o⟩ => ?_
  rw [exSs] at o
  refine ⟨env, h, μ, me, m, OutS.seq o fun μ1 H1 h1 p g1 m1 o1 => ?_⟩
  obtain ⟨f, e⟩ := p
  cases f with
  | nxt => exact fun σ' me' => ⟨e, h1, μ1, me', m1, o1⟩
  | brk => exact OutS.pure (E := E) (D := D) (p := (.brk, e)) o1 m1
  | cnt => exact OutS.pure (E := E) (D := D) (p := (.cnt, e)) o1 m1
  | ret v => exact OutS.pure (E := E) (D := D) (p := (.ret v, e)) o1 m1
theorem sndM_for {tg iter : Expr} {body : List Stmt} {t : Tg} {i : Iy} {b : Sms} {pos : Pos} (hf : notSet iter = true) (si : SndI C tg iter i) (sg : SndG C tg t) (sb : SndMs C body b) : SndM C (.For tg iter body [] pos) (.for t i b) := fun G d E X k => by
  refine PS.weak (ps_for k.po k.calm (si G d E X k) (sg G d E X k) (sb G d E X k) (folded_of hf X.env)) fun D σ H ⟨env, h, μ, me, m, o⟩ => ?_
  rw [exS] at o
  refine ⟨env, h, μ, me, m, OutS.bind o fun μ1 H1 h1 p J g1 m1 ⟨P, p1, wk, _⟩ o1 => ?_⟩
  obtain ⟨vs, gd⟩ := p
  refine ⟨fun i m σ H => m = vs.length - i ∧ i ≤ vs.length ∧ ∃ env h μ, MEnv X.K μ H env σ ∧ MHeap X.K X.w C.nm μ h H ∧ Grow μ1 H1 μ H ∧ OutS X.K X.w C.nm (forL gd (fun x e h2 => match setTg t x e with | some e1 => exSs (callF G d) b e1 h2 | none => .bad) (vs.drop i) env h) μ H E D,
    ⟨_, rfl, Nat.zero_le _, env, h1, μ1, me.grow m g1, m1, .refl, o1⟩, ?_⟩
  rintro i n σ2 H2 ⟨rfl, hi, env2, h2, μ2, me2, m2, g2, o2⟩
  have pf : P μ2 H2 := wk.keep m1 g2 p1
  by_cases hlt : i < vs.length
  · rw [List.drop_eq_getElem_cons hlt] at o2
    unfold forL at o2
    split at o2
    · rename_i hc
      obtain ⟨k1, k2⟩ := wk.go (List.getElem?_eq_getElem hlt) m2 hc pf
      refine .inr ⟨k1, fun σ' H' => vs.length - (i + 1) = vs.length - (i + 1) ∧ i + 1 ≤ vs.length ∧ ∃ env h μ, MEnv X.K μ H' env σ' ∧ MHeap X.K X.w C.nm μ h H' ∧ Grow μ1 H1 μ H' ∧ OutS X.K X.w C.nm (forL gd (fun x e h2 => match setTg t x e with | some e1 => exSs (callF G d) b e1 h2 | none => .bad) (vs.drop (i + 1)) env h) μ H' E D,
        fun σ' H' q => ⟨vs.length - (i + 1), by omega, q⟩, fun x H' yl => ?_⟩
      obtain ⟨gx, mx, rx⟩ := k2 x H' yl
      have o3 := OutS.grow o2 gx
      cases et : setTg t vs[i] env2 with
      | none => rw [et] at o3; exact o3.elim
      | some env3 =>
        rw [et] at o3
        refine ⟨env2, h2, μ2, vs[i], env3, me2.grow m2 gx, mx, rx, et, fun σ3 me3 _ _ => ⟨env3, h2, μ2, me3, mx, OutS.seq o3 fun μ4 H4 h4 p g4 m4 o4 => ?_⟩⟩
        obtain ⟨f, e⟩ := p
        have gg := (g2.trans gx).trans g4
        cases f with
        | nxt => exact fun σ' me' => ⟨rfl, hlt, e, h4, μ4, me', m4, gg, o4⟩
        | cnt => exact fun σ' me' => ⟨rfl, hlt, e, h4, μ4, me', m4, gg, o4⟩
        | brk => exact OutS.pure (E := E) (D := D) (p := (.nxt, e)) o4 m4
        | ret v => exact OutS.pure (E := E) (D := D) (p := (.ret v, e)) o4 m4
    · exact o2.elim
  · have ei : i = vs.length := by omega
    subst ei
    rw [List.drop_length] at o2
    unfold forL at o2
    split at o2
    · rename_i hc
      exact .inl ⟨wk.stop m2 hc pf, OutS.pure (E := E) (D := D) (p := (.nxt, env2)) o2 m2 σ2 me2⟩
    · exact o2.elim
theorem sndM_whl {c : Expr} {body : List Stmt} {ic : Ex} {b : Sms} {pos : Pos} (sc : SndT C c ic) (sb : SndMs C body b) : SndM C (.While c body [] pos) (.whl ic b) := fun G d E X k => by
  refine PS.weak (ps_while k.po (sc G d E X k) (sb G d E X k)) fun D σ H ⟨env, h, μ, me, m, o⟩ => ?_
  rw [exS] at o
  refine ⟨fun n σ H => ∃ env h μ, MEnv X.K μ H env σ ∧ MHeap X.K X.w C.nm μ h H ∧ OutS X.K X.w C.nm (whlL (fun e h1 => evT (callF G d) ic e h1) (fun e h1 => exSs (callF G d) b e h1) n env h) μ H E D, ⟨whF, env, h, μ, me, m, o⟩, ?_⟩
  rintro n σ1 H1 ⟨env1, h1, μ1, me1, m1, o1⟩
  cases n with
  | zero => exact o1.elim
  | succ n =>
    unfold whlL at o1
    refine ⟨env1, h1, μ1, me1, m1, OutS.bind o1 fun μ2 H2 h2 v x g2 m2 r2 o2 => ?_⟩
    have r2 : v = x := r2
    subst r2
    have me2 := me1.grow m1 g2
    cases v with
    | false =>
      rw [if_neg Bool.false_ne_true] at o2 ⊢
      exact OutS.pure (E := E) (D := D) (p := (.nxt, env1)) o2 m2 σ1 me2
    | true =>
      rw [if_pos rfl] at o2 ⊢
      refine ⟨fun σ' H' => ∃ env h μ, MEnv X.K μ H' env σ' ∧ MHeap X.K X.w C.nm μ h H' ∧ OutS X.K X.w C.nm (whlL (fun e h1 => evT (callF G d) ic e h1) (fun e h1 => exSs (callF G d) b e h1) n env h) μ H' E D, fun σ' H' q => ⟨n, Nat.lt_succ_self n, q⟩, env1, h2, μ2, me2, m2, OutS.seq o2 fun μ3 H3 h3 p g3 m3 o3 => ?_⟩
      obtain ⟨f, e⟩ := p
      cases f with
      | nxt => exact fun σ' me' => ⟨e, h3, μ3, me', m3, o3⟩
      | cnt => exact fun σ' me' => ⟨e, h3, μ3, me', m3, o3⟩
      | brk => exact OutS.pure (E := E) (D := D) (p := (.nxt, e)) o3 m3
      | ret v => exact OutS.pure (E := E) (D := D) (p := (.ret v, e)) o3 m3
end
end Pv
end Pv_U
section Pv_V
set_option Elab.async false
set_option linter.all false
set_option maxRecDepth 10000
namespace Pv
open PySem PySem.Spec PyProof.Rows
open L2
open GV

/-! ### binding -/
/-- plain parameters -/
def plainP (p : Arguments) : Bool := match p with
  | ⟨[], _, none, [], _, none, _⟩ => true
  | _ => false
def parOf (p : Arguments) : List Str := p.args.map (·.arg)
theorem zip_look : ∀ {ns : List Str} {us : List Value}, us.length = ns.length → (ns.filterMap fun n => ((ns.zip us).lookup n).map (n, ·)) = ns.zip us ∨ ¬ ns.Nodup := by
  intro ns us h
  by_cases nd : ns.Nodup
  · refine .inl ?_
    have gen : ∀ (ms : List Str) (ws : List Value), ws.length = ms.length → ms.Nodup → ∀ l : List (Str × Value), (∀ n ∈ ms, l.lookup n = (ms.zip ws).lookup n) → (ms.filterMap fun n => (l.lookup n).map (n, ·)) = ms.zip ws := by
      intro ms
      induction ms with
      | nil => intro ws hl _ l _; cases ws <;> rfl
      | cons m ms ih =>
        intro ws hl nd l hh
        cases ws with
        | nil => simp at hl
        | cons u ws =>
          have h1 := hh m (List.mem_cons_self ..)
          rw [List.zip_cons_cons, List.lookup_cons, beq_self_eq_true] at h1
          rw [List.filterMap_cons, h1, List.zip_cons_cons]
          have nd' := List.nodup_cons.mp nd
          have := ih ws (by simpa using hl) nd'.2 l fun n hn => by
            have h2 := hh n (List.mem_cons_of_mem _ hn)
            rw [List.zip_cons_cons, List.lookup_cons, beq_eq_false_iff_ne.mpr fun z => nd'.1 (by rw [← z]; exact hn)] at h2
            exact h2
          show (m, u) :: _ = _
          rw [this]
    exact gen ns us h nd _ fun _ _ => rfl
  · exact .inr nd
theorem look_some : ∀ {ns : List Str} {us : List Value}, us.length = ns.length → ∀ n ∈ ns, ((ns.zip us).lookup n).isSome = true
  | m :: ms, u :: us, h, n, hn => by
    rw [List.zip_cons_cons, List.lookup_cons]
    by_cases e : n = m
    · rw [e, beq_self_eq_true]
      rfl
    · rw [beq_eq_false_iff_ne.mpr e]
      exact look_some (by simpa using h) n ((List.mem_cons.mp hn).resolve_left e)
  | _ :: _, [], h, _, _ => by simp at h
  | [], _, _, _, hn => nomatch hn
theorem bind_pos {x qual : Str} {params : Arguments} {body : List Stmt} {scope : Scope} {kV doc pm cdv ct : Value} {an : Option Addr} (hp : plainP params = true) (nd : (parOf params).Nodup) {us : List Value} (hl : us.length = (parOf params).length) :
    bindArgs (PySem.W.fnOf x qual params body scope .none kV doc pm an cdv ct) ⟨us, []⟩ = pure ((parOf params).zip us) := by
  obtain ⟨po, as, va, ko, kd, ka, df⟩ := params
  unfold plainP at hp
  split at hp
  · rename_i as' kd' df' e
    cases e
    have zl := (zip_look hl).resolve_right fun z => z nd
    unfold parOf at zl hl nd ⊢
    dsimp only at zl hl nd ⊢
    unfold bindArgs
    simp only [PySem.W.fnOf, List.map_nil, List.nil_append, List.append_nil, List.forIn_nil, pure_bind, hl, gt_iff_lt, Nat.lt_irrefl, decide_false, Bool.false_and, Bool.false_eq_true, if_false]
    have e0 : seqItems? Value.none = pure none := by rfl
    rw [e0, pure_bind]
    have fl : (as.map (·.arg)).filter (fun n => (((as.map (·.arg)).zip us).lookup n).isNone) = [] := by
      rw [List.filter_eq_nil_iff]
      intro n hn
      have := look_some hl n hn
      cases q : ((as.map (·.arg)).zip us).lookup n with
      | none => rw [q] at this; cases this
      | some v => simp
    simp only [Option.getD_none, List.drop_nil, List.length_nil, Nat.sub_zero, List.take_length, fl, List.isEmpty_nil, Bool.not_true, Bool.false_eq_true, if_false, List.zip_nil_right, List.forIn_nil, pure_bind]
    rw [zl]
  · cases hp
/-- how a call with keywords is put in order: i-th parameter: the p[i]-th of what is written -/
def kwOk (names : List Str) (n : Nat) (ks : List Str) (p : List Nat) : Bool :=
  decide (names.Nodup) && decide (ks.Nodup) && (ks.all fun k => decide (k ∈ names) && decide (k ∉ names.take n)) && decide (n ≤ names.length) && decide (p.map (fun i => (names.take n ++ ks)[i]?) = names.map some)
theorem forIn_kw {names : List Str} {f : Str × Value → List (Str × Value) × List (Str × Value) → Sem (ForInStep (List (Str × Value) × List (Str × Value)))}
    (hf : ∀ k v s e, k ∈ names → s.lookup k = none → f (k, v) (s, e) = pure (.yield (s ++ [(k, v)], e))) : ∀ (ks : List Str) (ws : List Value) (s e : List (Str × Value)), ks.Nodup → (∀ k ∈ ks, k ∈ names ∧ s.lookup k = none) → forIn (ks.zip ws) (s, e) f = pure (s ++ ks.zip ws, e)
  | [], ws, s, e, _, _ => by
    rw [List.zip_nil_left, List.forIn_nil, List.append_nil]
  | _ :: _, [], s, e, _, _ => by
    rw [List.zip_nil_right, List.forIn_nil, List.append_nil]
  | k :: ks, v :: ws, s, e, nd, h => by
    obtain ⟨a1, a2⟩ := h k (List.mem_cons_self ..)
    have nd' := List.nodup_cons.mp nd
    rw [List.zip_cons_cons, List.forIn_cons, hf k v s e a1 a2, pure_bind]
    have ih := forIn_kw hf ks ws (s ++ [(k, v)]) e nd'.2 fun k' hk' => by
      obtain ⟨b1, b2⟩ := h k' (List.mem_cons_of_mem _ hk')
      refine ⟨b1, ?_⟩
      rw [List.lookup_append, b2]
      have ne : k' ≠ k := fun z => nd'.1 (by rw [← z]; exact hk')
      simp [List.lookup_cons, beq_eq_false_iff_ne.mpr ne]
    show forIn (ks.zip ws) (s ++ [(k, v)], e) f = _
    rw [ih, List.append_assoc]
    rfl
theorem zip_append' : ∀ {A B : List Str} {us ws : List Value}, us.length = A.length → (A ++ B).zip (us ++ ws) = A.zip us ++ B.zip ws
  | [], _, us, _, h => by
    cases us with
    | nil => rfl
    | cons _ _ => simp at h
  | a :: A, B, u :: us, ws, h => by
    rw [List.cons_append, List.cons_append, List.zip_cons_cons, List.zip_cons_cons, List.cons_append, zip_append' (by simpa using h)]
  | _ :: _, _, [], _, h => by simp at h
theorem look_at {L : List Str} : ∀ {vs : List Value} {j : Nat} {x : Str}, L.Nodup → vs.length = L.length → L[j]? = some x → (L.zip vs).lookup x = some (vs.getD j .none) := by
  induction L with
  | nil => intro vs j x _ _ e; simp at e
  | cons a L ih =>
    intro vs j x nd hl e
    cases vs with
    | nil => simp at hl
    | cons u vs =>
      have nd' := List.nodup_cons.mp nd
      rw [List.zip_cons_cons, List.lookup_cons]
      cases j with
      | zero =>
        cases e
        rw [beq_self_eq_true]
        rfl
      | succ j =>
        have e : L[j]? = some x := e
        have ne : x ≠ a := fun z => nd'.1 (by rw [← z]; exact List.mem_of_getElem? e)
        rw [beq_eq_false_iff_ne.mpr ne]
        have := ih nd'.2 (by simpa using hl) e
        simpa using this
theorem maps_zip {S : List (Str × Value)} {g : Nat → Value} {L : List Str} (h : ∀ (j : Nat) (x : Str), L[j]? = some x → S.lookup x = some (g j)) : ∀ {names : List Str} {p : List Nat}, p.map (fun i => L[i]?) = names.map some → (names.filterMap fun n => (S.lookup n).map (n, ·)) = names.zip (p.map g) ∧ ∀ n ∈ names, (S.lookup n).isSome = true
  | [], [], _ => ⟨rfl, fun _ z => nomatch z⟩
  | [], _ :: _, e => by simp at e
  | _ :: _, [], e => by simp at e
  | n :: names, i :: p, e => by
    rw [List.map_cons, List.map_cons, List.cons.injEq] at e
    obtain ⟨i1, i2⟩ := maps_zip h (names := names) (p := p) e.2
    have q := h i n e.1
    refine ⟨?_, fun m hm => ?_⟩
    · rw [List.filterMap_cons, q, List.map_cons, List.zip_cons_cons, ← i1]
      rfl
    · rcases List.mem_cons.mp hm with rfl | hm
      · rw [q]; rfl
      · exact i2 m hm
theorem bind_kw {x qual : Str} {params : Arguments} {body : List Stmt} {scope : Scope} {kV doc pm cdv ct : Value} {an : Option Addr} (hp : plainP params = true) {n : Nat} {ks : List Str} {p : List Nat} (ok : kwOk (parOf params) n ks p = true) {us ws : List Value} (h1 : us.length = n) (h2 : ws.length = ks.length) :
    bindArgs (PySem.W.fnOf x qual params body scope .none kV doc pm an cdv ct) ⟨us, ks.zip ws⟩ = pure ((parOf params).zip (p.map fun i => (us ++ ws).getD i .none)) := by
  obtain ⟨po, as, va, ko, kd, ka, df⟩ := params
  unfold plainP at hp
  split at hp
  · rename_i as' kd' df' e
    cases e
    unfold parOf at ok ⊢
    dsimp only at ok ⊢
    generalize hn : as.map (·.arg) = names at ok ⊢
    unfold kwOk at ok
    simp only [Bool.and_eq_true, decide_eq_true_eq, List.all_eq_true] at ok
    obtain ⟨⟨⟨⟨nd, ndk⟩, hk⟩, hle⟩, hm⟩ := ok
    have hz : names.zip us = (names.take n).zip us := by
      have : us.length = (names.take n).length := by rw [List.length_take]; omega
      conv => lhs; rw [← List.take_append_drop n names]
      have z := zip_append' (A := names.take n) (B := names.drop n) (us := us) (ws := []) this
      rw [List.append_nil, List.zip_nil_right, List.append_nil] at z
      exact z
    have noL : ∀ k, k ∉ names.take n → ((names.take n).zip us).lookup k = none := fun k hk' => by
      cases q : ((names.take n).zip us).lookup k with
      | none => rfl
      | some v =>
        have := PySem.mem_of_lookup q
        exact absurd (List.of_mem_zip this).1 hk'
    have ndL : (names.take n ++ ks).Nodup := List.nodup_append.mpr ⟨nd.sublist (List.take_sublist _ _), ndk, fun a ha b hb e => (hk b hb).2 (by rw [← e]; exact ha)⟩
    have lt : us.length = (names.take n).length := by rw [List.length_take]; omega
    have hS : ∀ (j : Nat) (y : Str), (names.take n ++ ks)[j]? = some y → ((names.take n).zip us ++ ks.zip ws).lookup y = some ((us ++ ws).getD j .none) := fun j y e => by
      rw [← zip_append' lt]
      exact look_at ndL (by rw [List.length_append, List.length_append]; omega) e
    obtain ⟨m1, m2⟩ := maps_zip hS hm
    have fl : names.filter (fun n' => (((names.take n).zip us ++ ks.zip ws).lookup n').isNone) = [] := by
      rw [List.filter_eq_nil_iff]
      intro y hy
      have := m2 y hy
      cases q : ((names.take n).zip us ++ ks.zip ws).lookup y with
      | none => rw [q] at this; cases this
      | some v => simp
    unfold bindArgs
    simp only [PySem.W.fnOf, List.map_nil, List.nil_append, List.append_nil, hn, hz]
    rw [forIn_kw (names := names) ?_ ks ws _ _ ndk fun k hk' => ⟨(hk k hk').1, noL k (hk k hk').2⟩]
    · rw [pure_bind]
      have e0 : seqItems? Value.none = pure none := by rfl
      rw [e0, pure_bind]
      have nlt : ¬ us.length > names.length := by omega
      simp only [nlt, decide_false, Bool.false_and, Bool.false_eq_true, if_false, Option.getD_none, List.drop_nil, List.length_nil, Nat.sub_zero, List.take_length, fl, List.isEmpty_nil, Bool.not_true, List.zip_nil_right, List.forIn_nil, pure_bind, m1]
    · intro k v s e hk' hs
      simp only [hs, Option.isSome_none, Bool.false_eq_true, if_false, List.contains_nil, Bool.or_false]
      rw [if_pos (by simpa using hk')]
  · cases hp

/-! ### a def -/
mutual
theorem VM.refs {K : PySem.W.Frag} {μ : List Addr} {H : Hp} : ∀ {v : GV} {x : V}, VM K μ H v x → refsLt μ.length v = true
  | _, _, .non => rfl
  | _, _, .bl b => rfl
  | _, _, .int i => rfl
  | _, _, .str x => rfl
  | _, _, .tup q r => by rw [refsLt]; exact VMs.refs r
  | _, _, .ref e => by rw [refsLt]; exact decide_eq_true (List.getElem?_eq_some_iff.mp e).1
  | _, _, .rng e => rfl
  | _, _, .frl q r => by rw [refsLt]; exact VMs.refs r
theorem VMs.refs {K : PySem.W.Frag} {μ : List Addr} {H : Hp} : ∀ {vs : List GV} {xs : List V}, VMs K μ H vs xs → refsLts μ.length vs = true
  | _, _, .nil => rfl
  | _, _, .cons r t => by rw [refsLts, VM.refs r, VMs.refs t]; rfl
end
mutual
theorem VM.cut {K : PySem.W.Frag} {μ μ' : List Addr} {H : Hp} (p : μ <+: μ') : ∀ {v : GV} {x : V}, VM K μ' H v x → refsLt μ.length v = true → VM K μ H v x
  | _, _, .non, _ => .non
  | _, _, .bl b, _ => .bl b
  | _, _, .int i, _ => .int i
  | _, _, .str x, _ => .str x
  | _, _, .tup q r, h => by rw [refsLt] at h; exact .tup q (VMs.cut p r h)
  | _, _, @VM.ref _ _ _ n a e, h => by
    rw [refsLt] at h
    have h := of_decide_eq_true h
    obtain ⟨t, rfl⟩ := p
    rw [List.getElem?_append_left h] at e
    exact .ref e
  | _, _, .rng e, _ => .rng e
  | _, _, .frl q r, h => by rw [refsLt] at h; exact .frl q (VMs.cut p r h)
theorem VMs.cut {K : PySem.W.Frag} {μ μ' : List Addr} {H : Hp} (p : μ <+: μ') : ∀ {vs : List GV} {xs : List V}, VMs K μ' H vs xs → refsLts μ.length vs = true → VMs K μ H vs xs
  | _, _, .nil, _ => .nil
  | _, _, .cons r t, h => by
    rw [refsLts, Bool.and_eq_true] at h
    exact .cons (VM.cut p r h.1) (VMs.cut p t h.2)
end
section
variable {K : PySem.W.Frag} {w : World} {nm : Nm} {μ μ' : List Addr} {H H' : Hp} {h h1 : GH}
/-- what only values of the old heap name -/
def objLt (n : Nat) : GO → Prop
  | .lst gs => refsLts n gs = true
  | .dct kvs => ∀ p ∈ kvs, refsLt n p.1 = true ∧ refsLt n p.2 = true
  | .ins c fs => ∀ p ∈ fs, refsLt n p.2 = true
theorem paired_right {α β : Type} {F : α → β → Prop} : ∀ {l : List α} {m : List β}, Paired F l m → ∀ b ∈ m, ∃ a, F a b
  | _, _, .nil, a, h => nomatch h
  | _, _, .cons r t, a, h => by
    rcases List.mem_cons.mp h with rfl | h
    · exact ⟨_, r⟩
    · exact paired_right t a h
theorem paired_left {α β : Type} {F : α → β → Prop} : ∀ {l : List α} {m : List β}, Paired F l m → ∀ a ∈ l, ∃ b, F a b
  | _, _, .nil, a, h => nomatch h
  | _, _, .cons r t, a, h => by
    rcases List.mem_cons.mp h with rfl | h
    · exact ⟨_, r⟩
    · exact paired_left t a h
theorem ObjM.lt {a : Addr} : ∀ {o : GO}, ObjM K w nm μ H a o → objLt μ.length o
  | .lst gs, ⟨xs, _, r⟩ => r.refs
  | .dct kvs, D => by
    obtain ⟨o, es, ep, _, _, _, r⟩ := D.obj
    intro p hp
    obtain ⟨e, _, kx, vx, r2, _, r4, _⟩ := paired_right r p hp
    exact ⟨r2.refs, r4.refs⟩
  | .ins c fs, ⟨dx, fs', _, r⟩ => fun p hp => by
    obtain ⟨q, _, r2⟩ := paired_left r p hp
    exact r2.refs
theorem paired_implR {α β : Type} {F G : α → β → Prop} : ∀ {l : List α} {m : List β}, Paired F l m → (∀ a b, b ∈ m → F a b → G a b) → Paired G l m
  | _, _, .nil, _ => .nil
  | _, _, .cons r t, f => .cons (f _ _ (List.mem_cons_self ..) r) (paired_implR t fun a b hb => f a b (List.mem_cons_of_mem _ hb))
theorem paired_implL {α β : Type} {F G : α → β → Prop} : ∀ {l : List α} {m : List β}, Paired F l m → (∀ a b, a ∈ l → F a b → G a b) → Paired G l m
  | _, _, .nil, _ => .nil
  | _, _, .cons r t, f => .cons (f _ _ (List.mem_cons_self ..) r) (paired_implL t fun a b hb => f a b (List.mem_cons_of_mem _ hb))
theorem ObjM.cut {a : Addr} (p : μ <+: μ') : ∀ {o : GO}, ObjM K w nm μ' H a o → objLt μ.length o → ObjM K w nm μ H a o
  | .lst gs, ⟨xs, e, r⟩, l => ⟨xs, e, r.cut p l⟩
  | .dct kvs, D, l => by
    obtain ⟨⟨o, es, ep, e1, e2, e3, r⟩, s1, s2, s3, s4⟩ := D
    exact ⟨⟨o, es, ep, e1, e2, e3, paired_implR r fun en q hq ⟨r1, kx, vx, r2, r3, r4, r5⟩ => ⟨r1, kx, vx, r2.cut p (l q hq).1, r3, r4.cut p (l q hq).2, r5⟩⟩, s1, s2, s3, s4⟩
  | .ins c fs, ⟨dx, fs', e, r⟩, l => ⟨dx, fs', e, paired_implL r fun q z hq ⟨r1, r2⟩ => ⟨r1, r2.cut p (l q hq)⟩⟩
/-- a call that left the heap as it was -/
theorem pure_back (m : MHeap K w nm μ h H) (g : Grow μ H μ' H') (m1 : MHeap K w nm μ' h1 H') (e : h1.take h.length = h) : Grow μ H μ H' ∧ MHeap K w nm μ h H' := by
  refine ⟨⟨List.prefix_refl _, g.keep, fun a ma n => absurd ma n⟩, m.len, m.nd, fun n a o e1 e2 => ?_⟩
  have e3 : h1[n]? = some o := by
    have hl := (List.getElem?_eq_some_iff.mp e2).1
    have z : (h1.take h.length)[n]? = h1[n]? := List.getElem?_take_of_lt hl
    rw [e] at z
    rw [← z]
    exact e2
  exact ObjM.cut g.pre (m1.obj n a o (pre_get g.pre e1) e3) (m.obj n a o e1 e2).lt
end
/-- what is known of a def of the text, and its form here -/
structure DefOk (K : PySem.W.Frag) (mg : Str → Option Value) (B : Cb) (G : Prg) (f : Nat) : Prop where
  ex : ∃ (fn : Fn) (C : Cc) (name qual : Str) (params : Arguments) (body : List Stmt) (scope : Scope) (a : Addr) (fd : FuncData), G f = some fn ∧ FunD K name qual params body scope [] [] a fd ∧
    (B.meth f = none → mg (B.nm f) = some (.ref a)) ∧ (∀ c m, B.meth f = some (c, m) → Meth K (He.ga K (B.nm c)) (B.nm m) a) ∧ plainP params = true ∧ parOf params = B.par f ∧ (B.par f).Nodup ∧
    C.toCb = B ∧ C.sc = scope ∧ C.own = (fun _ => true) ∧ FnScope C.N (B.par f) scope ∧ fn.np = (B.par f).length ∧ fn.nn = C.N.length ∧ SndMs C body fn.body ∧ (∀ q ∈ B.kws, q.1 = f → kwOk (B.par f) q.2.1 q.2.2.1 q.2.2.2 = true)
theorem menv_start {K : PySem.W.Frag} {μ : List Addr} {H : Hp} {gs : List GV} {vs : List V} {N : List Str} (r : VMs K μ H gs vs) : MEnv K μ H (gs.map some ++ List.replicate (N.length - gs.length) none) (L2.start N vs) := by
  have l := r.length
  unfold L2.start
  refine ⟨by simp [l], fun i g e => ?_⟩
  by_cases hi : i < gs.length
  · rw [List.getElem?_append_left (by simpa using hi), List.getElem?_map] at e
    cases q : gs[i]? with
    | none => rw [q] at e; cases e
    | some g' =>
      rw [q] at e
      cases e
      obtain ⟨x, h1, h2⟩ := r.get q
      refine ⟨x, ?_, h2⟩
      rw [List.getElem?_append_left (by simp [← l]; exact hi), List.getElem?_map, h1]
      rfl
  · rw [List.getElem?_append_right (by simpa using hi), List.getElem?_replicate] at e
    split at e <;> cases e
theorem fns_all {P : Program} {w : World} {K : PySem.W.Frag} {mg : Str → Option Value} {base : Heap} {B : Cb} {G : Prg} (gl : Glob K mg B) (df : ∀ f ∈ B.fs, DefOk K mg B G f) : ∀ d, Fns P w K mg base B G d
  | 0 => fun f hf => by
    obtain ⟨fn, C, name, qual, params, body, scope, a, fd, h1, h2, h3, h4, h5, h6, h7, h8, h9, h10, h11, h12, h13, h14, h15⟩ := (df f hf).ex
    obtain ⟨oc, od, dV, kV, doc, pm, an, cdv, ct, osl, e1, lk, hcd, dfl, kwd⟩ := id h2.ex
    have edV : dV = .none := by
      rcases dfl with ⟨_, e⟩ | ⟨e, _⟩
      · exact e
      · exact absurd rfl e
    subst edV
    have bp : ∀ us : List Value, us.length = fn.np → bindArgs fd ⟨us, []⟩ = pure ((B.par f).zip us) := fun us hl => by
      subst e1
      rw [← h6]
      exact bind_pos h5 (by rw [h6]; exact h7) (by rw [hl, h12, h6])
    have bk : ∀ q ∈ B.kws, q.1 = f → ∀ us ws : List Value, us.length = q.2.1 → ws.length = q.2.2.1.length → bindArgs fd ⟨us, q.2.2.1.zip ws⟩ = pure ((B.par f).zip (q.2.2.2.map fun i => (us ++ ws).getD i .none)) := fun q hq hqf us ws l1 l2 => by
      subst e1
      rw [← h6]
      exact bind_kw h5 (by rw [h6]; exact h15 q hq hqf) l1 l2
    refine ⟨fn, h1, ⟨a, fd, h3, h4, h2.kp, ⟨oc, od, osl, lk⟩, fun s us hl => .of_eq (bp us hl), fun q hq hqf s us ws _ l1 l2 => .of_eq (bk q hq hqf us ws l1 l2), ⟨fun vs H Q E z => by rw [← h12]; exact z.1, fun A outer s H args us vs Q E _ _ _ _ z => ?_⟩⟩, h12.symm⟩
    obtain ⟨_, h, μ, gs, _, _, o⟩ := z
    exact o.elim
  | d + 1 => fun f hf => by
    have ih := fns_all (P := P) (w := w) (base := base) gl df d
    obtain ⟨fn, C, name, qual, params, body, scope, a, fd, h1, h2, h3, h4, h5, h6, h7, h8, h9, h10, h11, h12, h13, h14, h15⟩ := (df f hf).ex
    obtain ⟨oc, od, dV, kV, doc, pm, an, cdv, ct, osl, e1, lk, hcd, dfl, kwd⟩ := id h2.ex
    have edV : dV = .none := by
      rcases dfl with ⟨_, e⟩ | ⟨e, _⟩
      · exact e
      · exact absurd rfl e
    subst edV
    have bp : ∀ us : List Value, us.length = fn.np → bindArgs fd ⟨us, []⟩ = pure ((B.par f).zip us) := fun us hl => by
      subst e1
      rw [← h6]
      exact bind_pos h5 (by rw [h6]; exact h7) (by rw [hl, h12, h6])
    have bk : ∀ q ∈ B.kws, q.1 = f → ∀ us ws : List Value, us.length = q.2.1 → ws.length = q.2.2.1.length → bindArgs fd ⟨us, q.2.2.1.zip ws⟩ = pure ((B.par f).zip (q.2.2.2.map fun i => (us ++ ws).getD i .none)) := fun q hq hqf us ws l1 l2 => by
      subst e1
      rw [← h6]
      exact bind_kw h5 (by rw [h6]; exact h15 q hq hqf) l1 l2
    refine ⟨fn, h1, ⟨a, fd, h3, h4, h2.kp, ⟨oc, od, osl, lk⟩, fun s us hl => .of_eq (bp us hl), fun q hq hqf s us ws _ l1 l2 => .of_eq (bk q hq hqf us ws l1 l2), ?_⟩, h12.symm⟩
    refine (FunD.ok (CX := L2.CX P w) (k := 4 * d + 4) (sp := spF K w B.nm (callF G (d + 1)) f fn.np) h2 h11 (fun vs H Q E z => by rw [← h12]; exact z.1) fun cdv A outer s H vs Q E hr z => ?_ : FnOk P w K mg base (L2.CX P w) (4 * d + 4 + 1) a fd (B.par f) _)
    obtain ⟨hl, h, μ, gs, m, r, o⟩ := z
    have tk : L2.Takes (cxOf (L2.CX P w) P w K mg base C.N qual scope a cdv A outer s H E) (fun cls d _ H => E cls d H) := takes_of rfl rfl rfl rfl
    have ok : Ok C G d E (cxOf (L2.CX P w) P w K mg base C.N qual scope a cdv A outer s H E) := {
      hN := rfl
      sc := h9.symm
      fn := h10.symm
      calm := rfl
      room := hr
      nd := h11.nd
      pass := passes_call tk fun _ _ _ _ z => z
      glob := by rw [h8]; exact gl
      fns := by rw [h8]; exact ih
      po := passes_of rfl }
    refine ⟨_, h14 G d E _ ok, gs.map some ++ List.replicate (C.N.length - gs.length) none, h, μ, menv_start r, by rw [h8]; exact m, ?_⟩
    rw [h8]
    unfold callF at o
    rw [h1] at o
    dsimp only at o
    rw [if_pos (by rw [r.length]; exact hl), h13] at o
    show OutS K w B.nm _ μ H E _
    generalize exSs (callF G d) fn.body (gs.map some ++ List.replicate (C.N.length - gs.length) none) h = res at o ⊢
    cases res with
    | bad => exact o
    | exc c fs h' => exact o
    | ok p h' =>
      obtain ⟨fl, e'⟩ := p
      intro μ' H' g' m'
      have key : ∀ v x, retV fl = some v → VM K μ' H' v x → Q x H' := fun v x ev rv => by
        have o : Out K w B.nm (VM K) (match retV fl with | some v => if fn.pure = true then (if h'.take h.length = h ∧ refsLt h.length v = true then Res.ok v h else .bad) else .ok v h' | none => .bad) μ H E Q := o
        rw [ev] at o
        dsimp only at o
        split at o
        · split at o
          · rename_i hc
            obtain ⟨g2, m2⟩ := pure_back m g' m' hc.1
            exact o μ H' x g2 m2 (rv.cut g'.pre (by rw [m.len]; exact hc.2))
          · exact o.elim
        · exact o μ' H' x g' m' rv
      cases fl with
      | nxt => exact fun σ' _ => key .non .non rfl .non
      | brk => exact (show False from o).elim
      | cnt => exact (show False from o).elim
      | ret v => exact fun x rv => key v x rfl rv
end Pv
end Pv_V
section Pv_W
set_option Elab.async false
set_option linter.all false
set_option maxRecDepth 10000
namespace Pv
open PySem PySem.Spec PyProof.Rows
open L2
open GV

section
variable {C : Cc}
/-! ### comparisons as tests -/
def CmpK (C : Cc) (op : CmpOp) (o : Op) : Prop := ∃ r : Cx → R2, (∀ G d E X, Ok C G d E X → OpR X (compareOp op) (r X)) ∧ OpS C o r
theorem cmpk_eq : CmpK C .Eq .eq := ⟨_, fun G d E X k => op_eqD (by have := Room.u64 k.room; omega), eq_rule⟩
theorem cmpk_ne : CmpK C .NotEq .ne := ⟨_, fun G d E X k => op_neD (by have := Room.u64 k.room; omega), ne_rule⟩
theorem cmpk_lt : CmpK C .Lt .lt := ⟨_, fun G d E X k => op_lt.or (op_ltT (by have := Room.u64 k.room; omega)), lt_rule⟩
theorem cmpk_le : CmpK C .LtE .le := ⟨_, fun _ _ _ X _ => op_le, le_rule⟩
theorem cmpk_gt : CmpK C .Gt .gt := ⟨_, fun _ _ _ X _ => op_gt, gt_rule⟩
theorem cmpk_ge : CmpK C .GtE .ge := ⟨_, fun _ _ _ X _ => op_ge, ge_rule⟩
theorem cmpk_in : CmpK C .In .inn := ⟨_, fun G d E X k => (op_in_seq.or (op_inD (Room.u64 k.room))).or (op_dIn (Room.u64 k.room)), in_rule⟩
theorem cmpk_nin : CmpK C .NotIn .nin := ⟨_, fun G d E X k => (op_notIn_seq.or (op_notInD (Room.u64 k.room))).or (op_dNotIn (Room.u64 k.room)), nin_rule⟩
def cmpOp : Op → Bool
  | .eq => true
  | .ne => true
  | .lt => true
  | .le => true
  | .gt => true
  | .ge => true
  | .inn => true
  | .nin => true
  | _ => false
theorem opE_bl {o : Op} (h : cmpOp o = true) {a b v : GV} {g g1 : GH} (e : opE o a b g = .ok v g1) : ∃ k, v = .bl k := by
  cases o <;> first | (cases h; done) | skip
  case eq => unfold opE opEq at e; dsimp only at e; split at e <;> cases e; exact ⟨_, rfl⟩
  case ne => unfold opE opNe at e; dsimp only at e; split at e <;> cases e; exact ⟨_, rfl⟩
  case lt =>
    unfold opE opLt at e
    dsimp only at e
    split at e
    · cases e; exact ⟨_, rfl⟩
    · split at e <;> cases e
      exact ⟨_, rfl⟩
    · cases e
  case le => unfold opE opLe at e; dsimp only at e; split at e <;> cases e; exact ⟨_, rfl⟩
  case gt => unfold opE opGt at e; dsimp only at e; split at e <;> cases e; exact ⟨_, rfl⟩
  case ge => unfold opE opGe at e; dsimp only at e; split at e <;> cases e; exact ⟨_, rfl⟩
  case inn => unfold opE at e; dsimp only at e; split at e <;> cases e; exact ⟨_, rfl⟩
  case nin => unfold opE at e; dsimp only at e; split at e <;> cases e; exact ⟨_, rfl⟩
theorem snd_cmpK {op : CmpOp} {o : Op} {a b : Expr} {ia ib : Ex} {pos : Pos} (ck : CmpK C op o) (sa : SndE C a ia) (sb : SndE C b ib) (hm : behindInMarks op b = false) : SndE C (.Compare a [op] [b] pos) (.op o ia ib) := by
  obtain ⟨r, h1, h2⟩ := ck
  exact snd_cmp h1 h2 sa sb hm
theorem sndT_cmpK {op : CmpOp} {o : Op} {a b : Expr} {ia ib : Ex} {pos : Pos} (ck : CmpK C op o) (hc : cmpOp o = true) (sa : SndE C a ia) (sb : SndE C b ib) (hm : behindInMarks op b = false) : SndT C (.Compare a [op] [b] pos) (.op o ia ib) := by
  obtain ⟨r, h1, h2⟩ := ck
  intro G d E X k
  refine sndT_cmp G d E X (pt_cmpR (h1 G d E X k) (sa G d E X k) (sb G d E X k) hm) (fun σ H Q h => snd_opT h2 sa sb k h) fun env h v h' e => ?_
  rw [evE] at e
  obtain ⟨x, g1, e1, e2⟩ := bind_ok e
  obtain ⟨y, g2, e3, e4⟩ := bind_ok e2
  exact opE_bl hc e4
theorem sndT_isn {a : Expr} {ia : Ex} {j : Nat} {pos p2 : Pos} (sa : SndE C a ia) : SndT C (.Compare a [.Is] [.Constant .none j p2] pos) (.isn ia) := fun G d E X k => by
  refine PT.weak (pt_cmp (pc_isN (sa G d E X k)) (by rfl)) fun σ H Q ⟨env, h, μ, me, m, o⟩ => ?_
  unfold evT at o
  rw [evE, bind_assoc] at o
  refine ⟨env, h, μ, me, m, Out.bindM o fun μ1 H1 h1 v x g1 m1 r1 o1 => ?_⟩
  exact ⟨_, rfl, o1.pure m1 (non_iff r1).symm⟩
theorem sndT_ntn {a : Expr} {ia : Ex} {j : Nat} {pos p2 : Pos} (sa : SndE C a ia) : SndT C (.Compare a [.IsNot] [.Constant .none j p2] pos) (.ntn ia) := fun G d E X k => by
  refine PT.weak (pt_cmp (pc_notN (sa G d E X k)) (by rfl)) fun σ H Q ⟨env, h, μ, me, m, o⟩ => ?_
  unfold evT at o
  rw [evE, bind_assoc] at o
  refine ⟨env, h, μ, me, m, Out.bindM o fun μ1 H1 h1 v x g1 m1 r1 o1 => ?_⟩
  exact ⟨_, rfl, o1.pure m1 (by rw [non_iff r1])⟩
theorem pt_false {X : Cx} {e : Expr} {t : TT} (f : ∀ σ H Q, ¬ t σ H Q) : PT X e t := ⟨fun pins s σ H Q I h => (f σ H Q h).elim⟩
theorem sndT_bad (e : Expr) : SndT C e .bad := fun G d E X k => pt_false fun σ H Q ⟨env, h, μ, _, _, o⟩ => by
  unfold evT at o
  rw [evE] at o
  exact o
theorem sndI_bad (tg e : Expr) : SndI C tg e (.val .bad) := fun G d E X k => ⟨fun pins s σ H R I ⟨env, h, μ, _, _, o⟩ => by
  rw [evI, evE] at o
  exact o.elim⟩
theorem plain_test {e : Expr} (h : plainTest e = true) (env : PySem.Env) (whole : Sem Value) : isTrue e env whole = (do let v ← whole; standAt e.pos; holding [v] (truthy v)) := by
  cases e <;> first | rfl | cases h | skip
  case UnaryOp op a p => cases op <;> first | rfl | cases h
theorem truth_cst {g : GV} (h : GH) : evT (fun _ _ _ => .bad) (.cst g) [] h = (match truth g h with | some k => .ok k h | none => .bad) := by
  unfold evT
  rw [evE]
  rfl
end
end Pv
end Pv_W
section Pv_WA
set_option Elab.async false
set_option linter.all false
set_option maxRecDepth 10000
namespace Pv
open PySem PySem.Spec PyProof.Rows
open L2
open GV

/-! ### dict comprehensions -/
section
variable {X : Cx} {pins : List (Addr × Obj)} {σ : L2.St} {H : Hp} {s : Shared} {μ : List Addr} {a : Addr} {kvs : List (GV × GV)}
/-- a comprehension's d[k] = v -/
theorem d_put (hu : X.A.units + 65 < cLine) (I : Inv X pins σ H s) (D : DctM X.K X.w μ H a kvs) {k g : GV} {y z : V} {u r' : Value} {E : Value → Shared → Prop} {Q : Unit → Shared → Prop} (hk : keyOk kvs k = true) (hl : kvs.length < sizeLine) (r : VM X.K μ H k y) (ry : RelV y u) (rg : VM X.K μ H g z) (rz : RelV z r')
    (q : ∀ o s', Inv X pins σ (upd H a (dctO a o)) s' → (∃ es ep, o.ExactDict ∧ o.data = .dict es ep ∧ Paired (EntM X.K X.w μ H) es.toList (put kvs k g)) → Q () s') : wpAny (model X.prog X.w) X.A (dictSet a u r') Q E s := by
  obtain ⟨o0, es0, ep0, e01, e02, e03, r0⟩ := D.obj
  have mu : Mut (H a) := by rw [e01]; exact trivial
  have wr : ∀ {h' : Heap} {o : Obj} {t : Nat}, Heap.SameBut a s.heap h' → h'.get? a = some o → Inv X pins σ (upd H a (dctO a o)) { s with heap := h', toks := t } := fun {h' o t} sb ho =>
    d_write (ob := dctO a o) I mu sb ⟨o, ho⟩ ⟨ho, ⟨o, ho⟩, fun h1 h2 p1 p2 => p2 o p1⟩
  rcases keyOk_or hk with ⟨k1, k2⟩ | ⟨k1, k2⟩
  · obtain ⟨b, rfl⟩ := key_ref k1 r
    cases ry
    obtain ⟨xs, dd, t⟩ := dctT I D k2
    have hz : xs.length ≤ sizeLine := by rw [Paired.len t]; omega
    refine wpAny_dictSet_heap (hsz := hz) (show X.A.units + 8 < cLine by omega) (key_is I k1 r) dd fun h' dd' hs => ?_
    obtain ⟨o, es, ep, h1, h2, h3, h4, _⟩ := dd'
    refine q o _ (wr hs h1) ⟨es, ep, h2, h3, ?_⟩
    rw [h4]
    exact entsM_T (putT k1 r rg rz t k2)
  · obtain ⟨xs, dd, t⟩ := dctF I D k2
    have hz : xs.length ≤ sizeLine := by rw [Paired.len t]; omega
    refine wpAny_dictSet_pairs (hsz := hz) (fkey_is k1 r ry) dd fun h' dd' hs => ?_
    obtain ⟨o, es, ep, h1, h2, h3, h4, h5, _⟩ := dd'
    refine q o _ (wr hs h1) ⟨es, ep, h2, h3, ?_⟩
    exact entsM_F h5 (fun e he => h4 e (by simpa using he)) (putF k1 rg rz t k2) (put_all k2 k1)
end
/-- the step of a dict comprehension -/
def leafD (K : PySem.W.Frag) (w : World) (tk tv : TE) (D : Addr) : L2.St → Hp → (Hp → Prop) → Prop := fun σ H Nx => tk σ H fun y H4 => tv σ H4 fun z H5 => ∃ μ kvs k g, DctM K w μ H5 D kvs ∧ keyOk kvs k = true ∧ kvs.length < sizeLine ∧ VM K μ H5 k y ∧ VM K μ H5 g z ∧
  ∀ o, (∃ es ep, o.ExactDict ∧ o.data = .dict es ep ∧ Paired (EntM K w μ H5) es.toList (put kvs k g)) → Nx (upd H5 D (dctO D o))
def dct0 : Obj := { cls := .type "dict", data := .dict #[] }
def tD1 (K : PySem.W.Frag) (w : World) (wi : TI) (g : TG) (tt : TT) (tk tv : TE) (vs : List Nat) : TE := fun σ H Q => wi σ H fun J H1 => ∀ D, H1 D = none → (D == PySem.sysModules) = false → L1 J g tt (leafD K w tk tv D) vs σ (upd H1 D (dctO D dct0)) fun H' => Q (.ref D) H'
def tD2 (K : PySem.W.Frag) (w : World) (wi : TI) (g : TG) (tt : TT) (wj : TI) (g1 : TG) (tt1 : TT) (tk tv : TE) (vs us : List Nat) : TE := fun σ H Q => wi σ H fun J H1 => ∀ D, H1 D = none → (D == PySem.sysModules) = false →
  L1 J g tt (fun σ2 H3 Nx => wj σ2 H3 fun J1 H4 => L1 J1 g1 tt1 (leafD K w tk tv D) us σ2 H4 Nx) vs σ (upd H1 D (dctO D dct0)) fun H' => Q (.ref D) H'
section
variable {K : PySem.W.Frag} {w : World} {nm : Nm} {E : XK} {cl : Calls} {σ : L2.St} {H : Hp} {Q : VK}
/-- what the new dict holds -/
def PayD (K : PySem.W.Frag) (w : World) (D : Addr) (μ : List Addr) (H : Hp) (u : HO) (acc : Acc) : Prop := ∃ o es ep, u = dctO D o ∧ o.ExactDict ∧ o.data = .dict es ep ∧ Paired (EntM K w μ H) es.toList acc ∧ acc.length ≤ sizeLine ∧ (acc.map fun p => num p.1).Nodup ∧ ((acc.all fun p => keyT p.1) = true ∨ (acc.all fun p => keyF p.1) = true)
theorem payD_grow {D : Addr} {μ : List Addr} {h : GH} {H : Hp} {μ' : List Addr} {H' : Hp} {u : HO} {acc : Acc} (m : MHeap K w nm μ h H) (g : Grow μ H μ' H') (p : PayD K w D μ H u acc) : PayD K w D μ' H' u acc :=
  let ⟨o, es, ep, e1, e2, e3, r, z⟩ := p
  ⟨o, es, ep, e1, e2, e3, Paired.impl r fun en q ⟨r1, kx, vx, r2, r3, r4, r5⟩ => ⟨r1, kx, vx, r2.grow m g, r3, r4.grow m g, r5⟩, z⟩
def fD (cl : Calls) (k v : Ex) : Env → Acc → GH → Res Acc := fun env1 acc h1 => (evE cl k env1 h1).bind fun x h2 => (evE cl v env1 h2).bind fun y h3 => if keyOk acc x = true ∧ acc.length < szL then .ok (put acc x y) h3 else .bad
theorem leafD_ok {D : Addr} (hD : (D == PySem.sysModules) = false) {μ1 : List Addr} {H1 : Hp} {k v : Ex} (env1 : Env) (acc acc' : Acc) (h3 h' : GH) (σ2 : L2.St) (μ3 : List Addr) (H3 : Hp) (u : HO) (Nx : Hp → Prop) (run : fD cl k v env1 acc h3 = .ok acc' h') (me : MEnv K μ3 H3 env1 σ2) (lb : LB K w nm D μ1 H1 μ3 h3 H3 u) (y : PayD K w D μ3 (del H3 D) u acc)
    (nx : ∀ μ' H' u', LB K w nm D μ1 H1 μ' h' H' u' → Grow μ3 (del H3 D) μ' (del H' D) → PayD K w D μ' (del H' D) u' acc' → Nx H') : leafD K w (rdE K w nm nev cl k) (rdE K w nm nev cl v) D σ2 H3 Nx := by
  unfold fD at run
  obtain ⟨x, h4, e1, e2⟩ := bind_ok run
  obtain ⟨z, h5, e3, e4⟩ := bind_ok e2
  split at e4
  · rename_i hk
    cases e4
    refine ⟨env1, h3, μ3, me, lb.full, ?_⟩
    rw [e1]
    intro μ4 H4 xv g4 m4 r4
    have b4 := lb.next g4 m4
    refine ⟨env1, h4, μ4, me.grow lb.full g4, m4, ?_⟩
    rw [e3]
    intro μ5 H5 zv g5 m5 r5
    have b5 := b4.next g5 m5
    have gs := lb.step (g4.trans g5)
    have y5 := payD_grow lb.mh gs y
    have yf : PayD K w D μ5 H5 u acc := payD_grow b5.mh b5.side y5
    obtain ⟨o, es, ep, rfl, q1, q2, q3, q4, q5, q6⟩ := yf
    have DM : DctM K w μ5 H5 D acc := ⟨⟨o, es, ep, b5.at_, q1, q2, q3⟩, hD, q4, q5, q6⟩
    refine ⟨μ5, acc, x, z, DM, hk.1, by rw [← szL_eq]; exact hk.2, r4.grow m4 g5, r5, fun o' ⟨es', ep', w1, w2, w3⟩ => ?_⟩
    have bp := b5.put (u' := dctO D o') trivial
    refine nx μ5 _ _ bp (by rw [del_upd2]; exact gs) ⟨o', es', ep', rfl, w1, w2, ?_, ?_, put_nodup q5, put_kind hk.1⟩
    · rw [del_upd2]
      exact Paired.impl w3 fun en p ⟨r1, kx, vx, r2, r3, r4, r5⟩ => ⟨r1, kx, vx, r2.del b5.at_ trivial, r3, r4.del b5.at_ trivial, r5⟩
    · have h1 := put_len (kvs := acc) (k := x) (v := z)
      have h2 := hk.2
      rw [szL_eq] at h2
      omega
  · cases e4
theorem payD0 {D : Addr} {μ : List Addr} {H : Hp} : PayD K w D μ H (dctO D dct0) [] := ⟨dct0, #[], 0, rfl, ⟨rfl, rfl, rfl⟩, rfl, .nil, Nat.zero_le _, List.nodup_nil, .inl rfl⟩
theorem dc_fin {env : Env} {h : GH} {μ μ1 μ' : List Addr} {H1 H' : Hp} {D : Addr} {u : HO} {kvs : Acc} {hR : GH} (hD : (D == PySem.sysModules) = false) (o : Out K w nm (VM K) (.ok (.ref hR.length) (hR ++ [.dct kvs])) μ H E Q) (g1 : Grow μ H μ1 H1) (gr : Grow μ1 H1 μ' (del H' D)) (b : LB K w nm D μ1 H1 μ' hR H' u) (y : PayD K w D μ' (del H' D) u kvs) : Q (.ref D) H' := by
  obtain ⟨ob, es, ep, rfl, q1, q2, q3, q4, q5, q6⟩ := y
  have g := Grow.alloc (ho := dctO D ob) b.mh (p := D) del_same
  have m := MHeap.alloc (ho := dctO D ob) (o := .dct kvs) b.mh (p := D) del_same ⟨⟨ob, es, ep, upd_same, q1, q2, Paired.impl q3 fun en p ⟨r1, kx, vx, r2, r3, r4, r5⟩ => ⟨r1, kx, vx, r2.grow b.mh g, r3, r4.grow b.mh g, r5⟩⟩, hD, q4, q5, q6⟩
  have := o _ _ (.ref D) ((g1.trans gr).trans g) m (.ref (alloc_ref b.mh))
  rw [upd_del b.at_] at this
  exact this
theorem dc_one {ws : List Nat} {t : Tg} {i : Iy} {c : OEx} {k v : Ex} (ht : tgIn t ws = true) (rd : rdE K w nm E cl (.dcp ws (.one t i c) k v) σ H Q) : tD1 K w (rdI K w nm E cl i) (rdG K w nm t) (rdQ K w nm nev cl c) (rdE K w nm nev cl k) (rdE K w nm nev cl v) ws σ H Q := by
  obtain ⟨env, h, μ, me, m, o⟩ := rd
  rw [evE, evC] at o
  refine ⟨env, h, μ, me, m, ?_⟩
  generalize evI cl i env h = r at o ⊢
  cases r with
  | exc a b d => exact o.elim
  | bad => exact o.elim
  | ok p h1 =>
    intro μ1 H1 J g1 m1 ⟨P, p1, wk, dl⟩ D hD hs
    change Out K w nm (VM K) ((cmpL p.2 (bodyC cl t c ws env (fD cl k v)) p.1 [] h1).quiet.bind fun kvs h1 => .ok (.ref h1.length) (h1 ++ [.dct kvs])) μ H E _ at o
    cases run : cmpL p.2 (bodyC cl t c ws env (fD cl k v)) p.1 [] h1 with
    | exc a b d => rw [run] at o; exact o.elim
    | bad => rw [run] at o; exact o.elim
    | ok ps hR =>
      rw [run] at o
      refine loop_ok (leaf := leafD K w (rdE K w nm nev cl k) (rdE K w nm nev cl v) D) (Fin := fun H' => Q (.ref D) H') (Pay := PayD K w D) wk ht payD_grow (lb0 m1 hD trivial) (by rw [del_upd hD]; exact p1) (by rw [del_upd hD]; exact me.grow m g1) payD0 run (leafD_ok hs) ?_
      intro μ' H' u' b gr y
      rw [del_upd hD] at gr
      exact dc_fin (env := env) (h := h) hs o g1 gr b y
theorem dc_two {ws us : List Nat} {t u : Tg} {i j : Iy} {c d : OEx} {k v : Ex} (ht : tgIn t ws = true) (hu : tgIn u us = true) (hj : iyD j = true) (rd : rdE K w nm E cl (.dcp ws (.two t i c us u j d) k v) σ H Q) :
    tD2 K w (rdI K w nm E cl i) (rdG K w nm t) (rdQ K w nm nev cl c) (rdI K w nm nev cl j) (rdG K w nm u) (rdQ K w nm nev cl d) (rdE K w nm nev cl k) (rdE K w nm nev cl v) ws us σ H Q := by
  obtain ⟨env, h, μ, me, m, o⟩ := rd
  rw [evE, evC] at o
  refine ⟨env, h, μ, me, m, ?_⟩
  generalize evI cl i env h = r at o ⊢
  cases r with
  | exc a b d => exact o.elim
  | bad => exact o.elim
  | ok p h1 =>
    intro μ1 H1 J g1 m1 ⟨P, p1, wk, dl⟩ D hD hs
    change Out K w nm (VM K) ((cmpL p.2 (bodyC cl t c ws env fun env1 acc h3 => (evI cl j env1 h3).bind fun q h4 => cmpL q.2 (bodyC cl u d us env1 (fD cl k v)) q.1 acc h4) p.1 [] h1).quiet.bind fun kvs h1 => .ok (.ref h1.length) (h1 ++ [.dct kvs])) μ H E _ at o
    cases run : cmpL p.2 (bodyC cl t c ws env fun env1 acc h3 => (evI cl j env1 h3).bind fun q h4 => cmpL q.2 (bodyC cl u d us env1 (fD cl k v)) q.1 acc h4) p.1 [] h1 with
    | exc a b d => rw [run] at o; exact o.elim
    | bad => rw [run] at o; exact o.elim
    | ok ps hR =>
      rw [run] at o
      refine loop_ok (leaf := fun σ2 H3 Nx => rdI K w nm nev cl j σ2 H3 fun J1 H4 => L1 J1 (rdG K w nm u) (rdQ K w nm nev cl d) (leafD K w (rdE K w nm nev cl k) (rdE K w nm nev cl v) D) us σ2 H4 Nx) (Fin := fun H' => Q (.ref D) H') (Pay := PayD K w D) wk ht payD_grow (lb0 m1 hD trivial) (by rw [del_upd hD]; exact p1) (by rw [del_upd hD]; exact me.grow m g1) payD0 run ?_ ?_
      · intro env1 acc acc' h3 h' σ2 μ3 H3 uu Nx e1 me3 b3 y3 nx
        obtain ⟨q, h4, e2, e3⟩ := bind_ok e1
        refine ⟨env1, h3, μ3, me3, b3.full, ?_⟩
        rw [e2]
        intro μ4 H4 J1 g4 m4 ⟨P1, p4, wk1, dl1⟩
        have b4 := b3.next g4 m4
        have gs := b3.step g4
        refine loop_ok (leaf := leafD K w (rdE K w nm nev cl k) (rdE K w nm nev cl v) D) (Fin := Nx) (Pay := PayD K w D) wk1 hu payD_grow b4 (dl1 hj b4.at_ b4.chg (g4.outD b3.full b3.at_ b3.out).1 p4) ((me3.grow b3.full g4).del b4.at_ b4.chg) (payD_grow b3.mh gs y3) e3 (leafD_ok hs) ?_
        intro μ' H' u' b gr y'
        exact nx μ' H' u' b (gs.trans gr) y'
      · intro μ' H' u' b gr y
        rw [del_upd hD] at gr
        exact dc_fin (env := env) (h := h) hs o g1 gr b y
end
end Pv
end Pv_WA
section Pv_WB
set_option Elab.async false
set_option linter.all false
set_option maxRecDepth 10000
namespace Pv
open PySem PySem.Spec PyProof.Rows
open L2
open GV

/-! ### the machine's loop of a comprehension -/
abbrev nvr : Value → Shared → Prop := fun _ _ => False
abbrev testsM (ifs : List Expr) (env : PySem.Env) : Sem Bool := forIn ifs true fun c r => if r = true then do let ok ← isTrue c env (eval c env); pure (ForInStep.yield ok) else pure (ForInStep.yield r)
/-- one turn; EL: what is done with an item that passes the tests -/
def TurnM (P : Program) (w : World) (A : Around) (R : Result → Shared → Prop) (it : Value) (tg : Expr) (env : PySem.Env) (ifs : List Expr) (EL : (Shared → Prop) → Shared → Prop) (I : Nat → Shared → Prop) : Prop := ∀ n s, I n s →
  wpAny (model P w) A (pyNext it) (fun r s1 => match r with
    | none => R (.ok .next) s1
    | some v => wpAny (model P w) A (letOwnedTupleGo tg it v) (fun _ s2 => wpAny (model P w) A (assign tg env v) (fun _ s3 =>
        wpAny (model P w) A (testsM ifs env) (fun ok s4 => if ok = true then EL (fun s' => ∃ m, m < n ∧ I m s') s4 else ∃ m, m < n ∧ I m s4) nvr s3) nvr s2) nvr s1) nvr s
def elD (P : Program) (w : World) (A : Around) (kx vx : Expr) (D : Addr) (env : PySem.Env) : (Shared → Prop) → Shared → Prop := fun Z s =>
  wpAny (model P w) A (eval kx env) (fun kv s1 => wpAny (model P w) A (eval vx env) (fun vv s2 => wpAny (model P w) A (dictSet D kv vv) (fun _ s3 => Z s3) nvr s2) nvr s1) nvr s
def elO (P : Program) (w : World) (A : Around) (e i1 : Expr) (acc : Value) (env : PySem.Env) : (Shared → Prop) → Shared → Prop := fun Z s =>
  wpAny (model P w) A (eval i1 env) (fun x s1 => wpAny (model P w) A (pyIter x) (fun it1 s2 => codeAny (model P w) A (.compStart e 1 it1 acc env) (fun r s' => match r with
    | .ok _ => Z s'
    | .error _ => False) s2) nvr s1) nvr s
section
variable {P : Program} {w : World} {A : Around} {R : Result → Shared → Prop} {s : Shared} {kx vx t0 i0 t1 i1 : Expr} {ifs0 ifs1 : List Expr} {scope : Scope} {pos : Pos} {it : Value} {D : Addr} {env : PySem.Env}
theorem lft {α : Type} {t : Sem α} {Q Q' : α → Shared → Prop} {E : Value → Shared → Prop} {s : Shared} (h : wpAny (model P w) A t Q nvr s) (f : ∀ a s, Q a s → Q' a s) : wpAny (model P w) A t Q' E s := wpAny_mono h f fun _ _ z => z.elim
theorem loopD1 (I : Nat → Shared → Prop) (turn : TurnM P w A R it t0 env ifs0 (elD P w A kx vx D env) I) (n : Nat) (h : I n s) : codeAny (model P w) A (.compLoop (.DictComp kx vx [⟨t0, i0, ifs0, 0⟩] scope pos) 0 it (.ref D) env) R s := by
  refine compLoop_anyD I (fun n s hI => lft (turn n s hI) fun r s1 h1 => ?_) n h
  cases r with
  | none => exact h1
  | some v =>
    refine lft h1 fun _ s2 h2 => lft h2 fun _ s3 h3 => lft h3 fun ok s4 h4 => ?_
    cases ok with
    | false =>
      rw [if_neg Bool.false_ne_true] at h4 ⊢
      exact h4
    | true =>
      rw [if_pos rfl] at h4 ⊢
      exact lft h4 fun kv s5 h5 => lft h5 fun vv s6 h6 => lft h6 fun _ s7 h7 => h7
theorem turnD_out : compTurn (.DictComp kx vx [⟨t0, i0, ifs0, 0⟩, ⟨t1, i1, ifs1, 0⟩] scope pos) 0 it (.ref D) env = (do
    standAt i0.pos
    match ← pyNext it with
    | none => pure (.done .next)
    | some u =>
      letOwnedTupleGo t0 it u
      assign t0 env u
      let mut fits := true
      for q in ifs0 do
        if fits then fits ← isTrue q env (eval q env)
      if fits then
        let y ← eval i1 env
        standAt i1.pos
        let y ← foldedSetIterable i1 env y
        let _ ← runOwn (.compStart (.DictComp kx vx [⟨t0, i0, ifs0, 0⟩, ⟨t1, i1, ifs1, 0⟩] scope pos) 1 (← holding [y] (pyIter y)) (.ref D) env) env
      again (.compLoop (.DictComp kx vx [⟨t0, i0, ifs0, 0⟩, ⟨t1, i1, ifs1, 0⟩] scope pos) 0 it (.ref D) env)) := by rfl
theorem turnD_in : compTurn (.DictComp kx vx [⟨t0, i0, ifs0, 0⟩, ⟨t1, i1, ifs1, 0⟩] scope pos) 1 it (.ref D) env = (do
    standAt i1.pos
    match ← pyNext it with
    | none => pure (.done .next)
    | some u =>
      letOwnedTupleGo t1 it u
      assign t1 env u
      let mut fits := true
      for q in ifs1 do
        if fits then fits ← isTrue q env (eval q env)
      if fits then
        (do
          let kv ← eval kx env
          let vv ← holding [kv] (eval vx env)
          standAt { kx.pos with endLine := vx.pos.endLine, endCol := vx.pos.endCol }
          holding [kv, vv] (dictSet D kv vv))
      again (.compLoop (.DictComp kx vx [⟨t0, i0, ifs0, 0⟩, ⟨t1, i1, ifs1, 0⟩] scope pos) 1 it (.ref D) env)) := by rfl
theorem loopD2_out (hs : ∀ x, foldedSetIterable i1 env x = pure x) (I : Nat → Shared → Prop) (turn : TurnM P w A R it t0 env ifs0 (elO P w A (.DictComp kx vx [⟨t0, i0, ifs0, 0⟩, ⟨t1, i1, ifs1, 0⟩] scope pos) i1 (.ref D) env) I) (n : Nat) (h : I n s) :
    codeAny (model P w) A (.compLoop (.DictComp kx vx [⟨t0, i0, ifs0, 0⟩, ⟨t1, i1, ifs1, 0⟩] scope pos) 0 it (.ref D) env) R s := by
  refine codeAny_loop rfl I (fun n z hz => ?_) n h
  show wpAny _ A ((compTurn (.DictComp kx vx [⟨t0, i0, ifs0, 0⟩, ⟨t1, i1, ifs1, 0⟩] scope pos) 0 it (.ref D) env).onRaise (fun x => do noteFrame x env; theTreesLotGoes x)) _ _ z
  refine wpAny_noted ?_
  rw [turnD_out]
  refine wpAny_bind (wpAny_standAt (wpAny_bind (lft (turn n z hz) fun r z1 q1 => ?_)))
  cases r with
  | none => exact wpAny_pure q1
  | some v =>
    refine wpAny_bind (lft q1 fun _ z2 q2 => wpAny_bind (lft q2 fun _ z3 q3 => wpAny_bind (lft q3 fun ok z4 q4 => ?_)))
    cases ok with
    | false =>
      rw [if_neg Bool.false_ne_true] at q4
      exact wpAny_pure ⟨rfl, q4⟩
    | true =>
      rw [if_pos rfl] at q4
      refine wpAny_bind (lft q4 fun x z5 q5 => wpAny_bind (wpAny_standAt (wpAny_bind (wpAny_of_eq (hs x) (wpAny_bind (wpAny_holding (lft q5 fun it1 z6 q6 => ?_)))))))
      refine wpAny_bind (wpAny_runOwn ?_)
      rw [Around.mark_none]
      refine codeAny_mono q6 fun r z7 q7 => ?_
      cases r with
      | ok f =>
        first
          | exact wpAny_pure ⟨rfl, q7⟩
          | exact wpAny_bind (wpAny_pure (wpAny_pure ⟨rfl, q7⟩))
      | error e => exact q7.elim
theorem loopD2_in (I : Nat → Shared → Prop) (turn : TurnM P w A R it t1 env ifs1 (elD P w A kx vx D env) I) (n : Nat) (h : I n s) :
    codeAny (model P w) A (.compLoop (.DictComp kx vx [⟨t0, i0, ifs0, 0⟩, ⟨t1, i1, ifs1, 0⟩] scope pos) 1 it (.ref D) env) R s := by
  refine codeAny_loop rfl I (fun n z hz => ?_) n h
  show wpAny _ A ((compTurn (.DictComp kx vx [⟨t0, i0, ifs0, 0⟩, ⟨t1, i1, ifs1, 0⟩] scope pos) 1 it (.ref D) env).onRaise (fun x => do noteFrame x env; theTreesLotGoes x)) _ _ z
  refine wpAny_noted ?_
  rw [turnD_in]
  refine wpAny_bind (wpAny_standAt (wpAny_bind (lft (turn n z hz) fun r z1 q1 => ?_)))
  cases r with
  | none => exact wpAny_pure q1
  | some v =>
    refine wpAny_bind (lft q1 fun _ z2 q2 => wpAny_bind (lft q2 fun _ z3 q3 => wpAny_bind (lft q3 fun ok z4 q4 => ?_)))
    cases ok with
    | false =>
      rw [if_neg Bool.false_ne_true] at q4
      exact wpAny_pure ⟨rfl, q4⟩
    | true =>
      rw [if_pos rfl] at q4
      exact wpAny_bind (wpAny_bind (lft q4 fun kv z5 q5 => wpAny_bind (wpAny_holding (lft q5 fun vv z6 q6 => wpAny_bind (wpAny_standAt (wpAny_holding (lft q6 fun _ z7 q7 => wpAny_pure ⟨rfl, q7⟩)))))))
/-- the start of the second clause -/
theorem startD1 (h0 : codeAny (model P w) A (.compLoop (.DictComp kx vx [⟨t0, i0, ifs0, 0⟩, ⟨t1, i1, ifs1, 0⟩] scope pos) 1 it (.ref D) env) R s)
    (h : wpAny (model P w) A (pyIter it) (fun it' z => codeAny (model P w) A (.compLoop (.DictComp kx vx [⟨t0, i0, ifs0, 0⟩, ⟨t1, i1, ifs1, 0⟩] scope pos) 1 it' (.ref D) env) R z) (notedBy (model P w) A env fun x z => R (.error x) z) s) :
    codeAny (model P w) A (.compStart (.DictComp kx vx [⟨t0, i0, ifs0, 0⟩, ⟨t1, i1, ifs1, 0⟩] scope pos) 1 it (.ref D) env) R s := by
  refine codeAny_of_tree ?_
  show wpAny _ _ ((compStart (.DictComp kx vx [⟨t0, i0, ifs0, 0⟩, ⟨t1, i1, ifs1, 0⟩] scope pos) 1 it (.ref D) env).onRaise (fun x => do noteFrame x env; standAt theWindowsPlace)) _ _ s
  refine wpAny_notedAt ?_
  unfold compStart
  show wpAny _ _ (ask >>= _) _ _ s
  refine wpAny_bind (wpAny_askSetting (wpAny_ite ?_))
  split
  · first
      | exact wpAny_bind (wpAny_pure (wpAny_pure (And.intro rfl h0)))
      | exact wpAny_pure (And.intro rfl h0)
  · first
      | exact wpAny_bind (wpAny_rule (wpAny_bind (wpAny_standAt (wpAny_bind (wpAny_mono h (fun it' z q => wpAny_pure (And.intro rfl q)) fun _ _ x => x)))))
      | (refine wpAny_bind (wpAny_rule ?_); show wpAny _ _ (standAt i1.pos >>= _) _ _ s; exact wpAny_bind (wpAny_standAt (wpAny_bind (wpAny_mono h (fun it' z q => wpAny_pure (And.intro rfl q)) fun _ _ x => x))))
end
/-- a block's loop, one turn: W is what the reading keeps -/
theorem blk_turn {X : Cx} {tg : Expr} {ifs : List Expr} {J : It} {fp : List Addr} {ita : Addr} {tn : Nat → Heap → Prop} {g : TG} {tt : TT} {leaf : L2.St → Hp → (Hp → Prop) → Prop} {vs : List Nat} {σ : L2.St} {Fin : Hp → Prop} {W : Nat → Nat → Hp → Prop} {pl : List (Addr × Obj)} {R : Result → Shared → Prop} {EL : (Shared → Prop) → Shared → Prop}
    (T : Turn X.prog X.w X.K tg J fp ita tn) (hc : X.calm = true) (hx : X.xe = nvr) (stat : ∀ {H' : Hp}, (∀ b ∈ fp, H' b = none) → ∀ (σ' : L2.St) (s' : Shared), Inv X pl σ' H' s' → ∀ b ∈ fp, FpOk X pl H' b) (pg : PG X tg g) (pt : PTs X ifs tt)
    (turn : ∀ i m H, W i m H → (J.stop i H ∧ Fin H) ∨ (J.go i H ∧ ∃ Nx : Hp → Prop, (∀ H', Nx H' → ∃ m', m' < m ∧ W (i + 1) m' H') ∧ ∀ x H', J.yld i H x H' → g x (L2.wipe σ vs) H' fun σ2 H2 => L2.wipe σ2 vs = L2.wipe σ vs ∧ tt σ2 H2 fun b H3 => if b = true then leaf σ2 H3 Nx else Nx H3))
    (el : ∀ (pa : List (Addr × Obj)) (σ8 : L2.St) (H9 : Hp) (s9 : Shared) (Nx : Hp → Prop) (Z : Shared → Prop), Inv X (pl ++ pa) σ8 H9 s9 → L2.wipe σ8 vs = L2.wipe σ vs → leaf σ8 H9 Nx →
      (∀ σ' H' s', Inv X (pl ++ pa) σ' H' s' → (L2.wipe σ vs).length = σ'.length → (∀ (j : Nat) v, (L2.wipe σ vs)[j]? = some (some v) → σ'[j]? = some (some v)) → Nx H' → Z s') → EL Z s9)
    (fin : ∀ H' s', Inv X pl (L2.wipe σ vs) H' s' → (∀ b ∈ fp, H' b = none) → Fin H' → R (.ok .next) s') :
    TurnM X.prog X.w X.A R (.ref ita) tg X.env ifs EL (fun n s' => ∃ i H', Inv X pl (L2.wipe σ vs) H' s' ∧ tn i s'.heap ∧ (∀ b ∈ fp, H' b = none) ∧ W i n H') := by
  rintro n s5 ⟨i, H5, I5, st5, n5, w5⟩
  rcases turn i n H5 w5 with ⟨stop, qq⟩ | ⟨go, Nx, hNx, step⟩
  · refine lft (T.done X rfl rfl rfl hc i pl s5 _ H5 nvr I5 (stat n5 _ _ I5) st5 stop) fun r s6 ⟨hr, I6⟩ => ?_
    subst hr
    exact fin H5 s6 I6 n5 qq
  · refine lft (T.item X rfl rfl rfl hc i pl s5 _ H5 nvr I5 (stat n5 _ _ I5) st5 go) fun r s6 ⟨u, hr, h6⟩ => ?_
    subst hr
    refine lft h6 fun _ s7 ⟨x, H7, I7, r7, y7, st7, n7⟩ => ?_
    have J7 := I7.pinned (stat n7 _ _ I7) (T.obj _ _ st7)
    have r1 := pg.run _ s7 _ H7 x u _ J7 r7 (step x H7 y7)
    rw [hx] at r1
    refine lft r1 fun _ s8 ⟨σ8, H8, I8, hw8, q8⟩ => ?_
    have r2 := pt.run _ s8 σ8 H8 _ I8 q8
    rw [hx] at r2
    refine lft r2 fun b s9 ⟨H9, I9, q9⟩ => ?_
    have again : ∀ σ' H' s', Inv X (pl ++ pinsAt fp s7.heap) σ' H' s' → (L2.wipe σ vs).length = σ'.length → (∀ (j : Nat) v, (L2.wipe σ vs)[j]? = some (some v) → σ'[j]? = some (some v)) → Nx H' →
        ∃ m, m < n ∧ ∃ i H', Inv X pl (L2.wipe σ vs) H' s' ∧ tn i s'.heap ∧ (∀ b ∈ fp, H' b = none) ∧ W i m H' := fun σ' H' s' I' hl hk nx => by
      obtain ⟨m', hm, w'⟩ := hNx H' nx
      have held : ∀ b ∈ fp, ∀ o, s7.heap.get? b = some o → s'.heap.get? b = some o ∧ H' b = none := fun b hb o e => by
        have z := I'.pin (b, o) (List.mem_append_right _ (List.mem_append_right _ (mem_pinsAt hb e)))
        exact ⟨z.1, z.2.1⟩
      refine ⟨m', hm, i + 1, H', I'.unpinned.weak hl hk, T.keep _ _ _ st7 fun b hb o e => (held b hb o e).1, fun b hb => ?_, w'⟩
      obtain ⟨o, e, _⟩ := T.obj _ _ st7 b hb
      exact (held b hb o e).2
    have len8 : (L2.wipe σ vs).length = σ8.length := by rw [← hw8, wipe_len]
    have at8 : ∀ (j : Nat) v, (L2.wipe σ vs)[j]? = some (some v) → σ8[j]? = some (some v) := fun j v e => by
      rw [← hw8, wipe_at] at e
      split at e
      · cases e
      · exact e
    cases b with
    | false =>
      rw [if_neg Bool.false_ne_true] at q9 ⊢
      exact again σ8 H9 s9 I9 len8 at8 q9
    | true =>
      rw [if_pos rfl] at q9 ⊢
      exact el _ σ8 H9 s9 Nx _ I9 hw8 q9 again
end Pv
end Pv_WB
section Pv_WC
set_option Elab.async false
set_option linter.all false
set_option maxRecDepth 10000
namespace Pv
open PySem PySem.Spec PyProof.Rows
open L2
open GV

section
variable {X : Cx}
/-- what a block's place leaves: back in the def -/
def Post (X : Cx) (pins : List (Addr × Obj)) (σ : L2.St) (Q : VK) (use : Option (Value → Sem Unit)) (Qf : Value → Shared → Prop) : Prop :=
  ∀ D A s' m H', Inv X pins σ H' s' → Q (.ref D) H' → s'.heap.Ns A m → FpOk X pins H' A → compPost (model X.prog X.w) X.A X.xe use Qf (.ref D) A (.ok .next) s'
theorem dc_run {pins : List (Addr × Obj)} {s : Shared} {σ : L2.St} {H : Hp} {Q : VK} {kx vx tg iter : Expr} {ifs : List Expr} {rest : List Comprehension} {scope : Scope} {own : List (Str × Nat)} {pos pos' : Pos} {wi : TI} {g : TG} {tt : TT} {leaf : Addr → L2.St → Hp → (Hp → Prop) → Prop}
    {use : Option (Value → Sem Unit)} {Qf : Value → Shared → Prop} {EL : Addr → PySem.Env → (Shared → Prop) → Shared → Prop}
    (hc : X.calm = true) (hN : X.N.Nodup) (I : Inv X pins σ H s) (hi : PI X tg iter wi) (ok : BlkOk X.N X.env.scope scope own)
    (hg : ∀ (s : Shared) (H : Hp) (A : Addr) (cl : List (Str × Addr)) (fp : List Addr), PG (X.blk s H scope (compEnvC scope cl A X.env) fp) tg g) (ht : ∀ (s : Shared) (H : Hp) (A : Addr) (cl : List (Str × Addr)) (fp : List Addr), PTs (X.blk s H scope (compEnvC scope cl A X.env) fp) ifs tt)
    (hs : ∀ x, foldedSetIterable iter X.env x = pure x)
    (rule : ∀ (R : Result → Shared → Prop) (it : Value) (D : Addr) (env : PySem.Env) (I : Nat → Shared → Prop) (n : Nat) (s : Shared), TurnM X.prog X.w X.A R it tg env ifs (EL D env) I → I n s → codeAny (model X.prog X.w) X.A (.compLoop (.DictComp kx vx (⟨tg, iter, ifs, 0⟩ :: rest) scope pos) 0 it (.ref D) env) R s)
    (els : ∀ (D : Addr) (s : Shared) (H : Hp) (A : Addr) (cl : List (Str × Addr)) (fp : List Addr) (pa : List (Addr × Obj)) (σ8 : L2.St) (H9 : Hp) (s9 : Shared) (Nx : Hp → Prop) (Z : Shared → Prop), Inv (X.blk s H scope (compEnvC scope cl A X.env) fp) pa σ8 H9 s9 → L2.wipe σ8 (own.map (·.2)) = L2.wipe σ (own.map (·.2)) → leaf D σ8 H9 Nx →
      (∀ σ' H' s', Inv (X.blk s H scope (compEnvC scope cl A X.env) fp) pa σ' H' s' → (L2.wipe σ (own.map (·.2))).length = σ'.length → (∀ (j : Nat) v, (L2.wipe σ (own.map (·.2)))[j]? = some (some v) → σ'[j]? = some (some v)) → Nx H' → Z s') → EL D (compEnvC scope cl A X.env) Z s9)
    (h : wi σ H fun J H1 => ∀ D, H1 D = none → (D == PySem.sysModules) = false → L1 J g tt (leaf D) (own.map (·.2)) σ (upd H1 D (dctO D dct0)) fun H' => Q (.ref D) H') (post : Post X pins σ Q use Qf) :
    wpAny (model X.prog X.w) X.A (comprehension (.DictComp kx vx (⟨tg, iter, ifs, 0⟩ :: rest) scope pos) scope X.env pos' newDict false (eval iter X.env) use) Qf X.xe s := by
  have free : ∀ y ∈ scope.names, y.2 = .free → ∃ c, X.env.cells.lookup y.1 = some c := fun y hy e => (ok.free y hy e).elim (fun k => I.ok.has _ (.inl k)) fun k => I.ok.has _ (.inr k)
  refine wpAny_comprehension_free (use := use) rfl hs (closure_ok free) ok.kind (fun y hy e => by rw [ok.uniq y hy, e]) (thn (hi.run pins s σ H _ I h) fun xv s1 hx => thn hx fun itv s2 ⟨it, fp, tn, J, H2, e, I2, T, st2, f2, q⟩ => ?_)
  subst e
  refine wpAny_newObj_type (newEnv_comp ?_)
  generalize hD : s2.heap.objs.size = D
  have none2 : H2 D = none := I2.hok.fresh (Nat.le_of_eq hD)
  have notSys : (D == PySem.sysModules) = false := beq_eq_false_iff_ne.mpr fun z => absurd I2.big (by rw [hD, z]; exact Nat.lt_irrefl _)
  obtain ⟨W, ⟨m0, w0⟩, turn⟩ := q D none2 notSys
  generalize hs3 : ({ s2 with heap := s2.heap.push { cls := .type "dict", data := .dict #[] } } : Shared) = s3
  have at3 : s3.heap.get? D = some dct0 := by
    rw [← hs3, ← hD]
    exact Heap.get?_push_size _ rfl
  have I3 : Inv X pins σ (upd H2 D (dctO D dct0)) s3 := by
    have at3' := at3
    rw [← hs3] at at3' ⊢
    exact I2.laid (t' := s2.toks) (fun b o e => Heap.get?_push_of_some _ e) (Nat.le_of_eq hD) ⟨at3', ⟨_, at3'⟩, fun h1 h2 p1 p2 => p2 _ p1⟩
  have h3 : s3.heap = s2.heap.push { cls := .type "dict", data := .dict #[] } := by rw [← hs3]
  have f3 : ∀ b ∈ fp, FpOk X pins (upd H2 D (dctO D dct0)) b ∧ b < s3.heap.objs.size := fun b hb => by
    obtain ⟨o, e, _⟩ := T.obj _ _ st2 b hb
    have hlt := Heap.lt_size e
    refine ⟨⟨?_, (f2 b hb).2⟩, by rw [h3, Heap.size_push]; exact Nat.lt_succ_of_lt hlt⟩
    rw [upd_ne (by rw [← hD]; exact Nat.ne_of_lt hlt)]
    exact (f2 b hb).1
  have st3 : tn 0 s3.heap := T.keep _ _ _ st2 fun b _ o e => by rw [h3]; exact Heap.get?_push_of_some _ e
  have I4 := block_start I3 ok hN f3
  have pg := hg s3 (upd H2 D (dctO D dct0)) s3.heap.objs.size (cellsFrom (s3.heap.objs.size + 1) scope.names (cloFrom X.env.cells scope.names [])) fp
  have pt := ht s3 (upd H2 D (dctO D dct0)) s3.heap.objs.size (cellsFrom (s3.heap.objs.size + 1) scope.names (cloFrom X.env.cells scope.names [])) fp
  have el := els D s3 (upd H2 D (dctO D dct0)) s3.heap.objs.size (cellsFrom (s3.heap.objs.size + 1) scope.names (cloFrom X.env.cells scope.names [])) fp
  show codeAny _ _ (.compStart (.DictComp kx vx (⟨tg, iter, ifs, 0⟩ :: rest) scope pos) 0 (.ref it) (.ref D) (compEnvC scope (cellsFrom (s3.heap.objs.size + 1) scope.names (cloFrom X.env.cells scope.names [])) s3.heap.objs.size X.env)) (compPost (model X.prog X.w) X.A X.xe use Qf (.ref D) s3.heap.objs.size) { s3 with heap := pushCells (s3.heap.push { cls := .type "dict", data := .dict #[] }) scope.names }
  have nfp : ∀ b ∈ fp, (upd H2 D (dctO D dct0)) b = none := fun b hb => (f3 b hb).1.1
  generalize hce : compEnvC scope (cellsFrom (s3.heap.objs.size + 1) scope.names (cloFrom X.env.cells scope.names [])) s3.heap.objs.size X.env = ce at I4 pg pt el ⊢
  have cL : ce.locals = s3.heap.objs.size := by subst hce; rfl
  generalize hH3 : upd H2 D (dctO D dct0) = H3 at I3 I4 pg pt el w0 nfp f3
  generalize hs4 : ({ s3 with heap := pushCells (s3.heap.push { cls := .type "dict", data := .dict #[] }) scope.names } : Shared) = s4 at I4 ⊢
  have st4 : tn 0 s4.heap := T.keep _ _ _ st3 fun b _ o e => by rw [← hs4]; exact pushCells_keeps _ _ _ _ (Heap.get?_push_of_some _ e)
  have stat : ∀ {H' : Hp}, (∀ b ∈ fp, H' b = none) → ∀ (σ' : L2.St) (s' : Shared), Inv (X.blk s3 H3 scope ce fp) [] σ' H' s' → ∀ b ∈ fp, FpOk (X.blk s3 H3 scope ce fp) [] H' b := fun {H'} hn σ' s' I' b hb =>
    ⟨hn b hb, (I'.ok.exf b hb).1, I'.ok.exfs b hb, .inl hb, fun x c e => (I'.ok.exf b hb).2 x c e, fun p hp => absurd (show p ∈ ([] : List (Addr × Obj)) ++ [] from hp) (by simp)⟩
  have loop : codeAny (model X.prog X.w) X.A (.compLoop (.DictComp kx vx (⟨tg, iter, ifs, 0⟩ :: rest) scope pos) 0 (.ref it) (.ref D) ce) (compPost (model X.prog X.w) X.A X.xe use Qf (.ref D) s3.heap.objs.size) s4 := by
    refine rule _ _ D ce _ m0 s4 (blk_turn (X := X.blk s3 H3 scope ce fp) (leaf := leaf D) (pl := []) (EL := EL D ce) T hc rfl stat pg pt turn (fun pa σ8 H9 s9 Nx Z i1 i2 i3 i4 => el pa σ8 H9 s9 Nx Z i1 i2 i3 i4) fun H5 s6 I6 n5 qq => ?_) ⟨0, H3, I4, st4, nfp, w0⟩
    have I7 : Inv X pins σ H5 s6 := I3.call' (ch := fp) I6.os I6.base I6.hok I6.bare fun b hb => ⟨(f3 b hb).1.2.2.2.1, (f3 b hb).1.2.1, (f3 b hb).1.2.2.2.2.1, (f3 b hb).1.2.2.2.2.2⟩
    have nC : H5 s3.heap.objs.size = none := by
      have z : H5 ce.locals = none := I6.free
      rw [cL] at z
      exact z
    obtain ⟨m, hn, _⟩ := I6.loc
    have hn : s6.heap.Ns ce.locals m := hn
    rw [cL] at hn
    exact post D s3.heap.objs.size s6 m H5 I7 qq hn (I3.fpOk (Nat.le_refl _) nC)
  exact codeAny_compStart_dict loop (T.self X.A 0 _ _ _ st4 loop)
/-- an item's key and value, stored -/
theorem elD_ok {XB : Cx} (hx : XB.xe = nvr) (hu : XB.A.units + 65 < cLine) {kx vx : Expr} {tk tv : TE} {D : Addr} {pa : List (Addr × Obj)} {σ8 : L2.St} {H9 : Hp} {s9 : Shared} {Nx : Hp → Prop} {Z : Shared → Prop} (pk : PE XB kx tk) (pv : PE XB vx tv) (I : Inv XB pa σ8 H9 s9) (l : leafD XB.K XB.w tk tv D σ8 H9 Nx)
    (again : ∀ H' s', Inv XB pa σ8 H' s' → Nx H' → Z s') : elD XB.prog XB.w XB.A kx vx D XB.env Z s9 := by
  have r1 := pk.run pa s9 σ8 H9 _ I l
  rw [hx] at r1
  refine lft r1 fun kv s1 ⟨y, H4, I4, ry, l4⟩ => ?_
  have r2 := pv.run pa s1 σ8 H4 _ I4 l4
  rw [hx] at r2
  refine lft r2 fun vv s2 ⟨z, H5, I5, rz, μ, kvs, k, g, DM, hk, hl, rk, rg, nx⟩ => ?_
  exact d_put hu I5 DM hk hl rk ry rg rz fun o s3 I3 w => again _ s3 I3 (nx o w)
theorem pe_post {pins : List (Addr × Obj)} {σ : L2.St} {Q : VK} : Post X pins σ Q none (EP X pins σ Q) := fun D A s' m H' I' q hn ⟨f0, f1, f2, f3, f4, f5⟩ =>
  ⟨m, hn, fun h'' sb => ⟨.ref D, H', I'.turned (t' := s'.toks) (fun b o hb e => (sb.2 b hb).trans e) f0 f1 f3 f4 f5, rfl, q⟩⟩
theorem ps_post {pins : List (Addr × Obj)} {σ : L2.St} {i : Nat} {y : Str} {py : Pos} {D : Ends} (hN : X.N.Nodup) (hy : X.N[i]? = some y) (hyl : X.env.scope.names.lookup y = some .local) :
    Post X pins σ (fun x H1 => gName i x σ H1 D.nx) (some (assign (.Name y py) X.env)) (fun _ s' => SP X pins D .next s') := fun L A s' m H' I' q hn ⟨f0, f1, f2, f3, f4, f5⟩ => by
  show wpAny _ _ (assign (.Name y py) X.env (.ref L)) _ _ _
  refine wpAny_assign_Name (store_ok2 (v := V.ref L) I' hN hy (.inl hyl) rfl (fun s2 I2 ⟨b, sb, hb⟩ => ?_) (.inr hyl))
  have ne : A ≠ b := hb.elim (fun z => by rw [z]; exact f1) fun z e => f4 y b z e.symm
  exact ⟨m, hn.sameBut sb ne, fun h3 sb3 => ⟨_, H', I2.turned (t' := s2.toks) (fun b o hb e => (sb3.2 b hb).trans e) f0 f1 f3 f4 f5, q⟩⟩
end
end Pv
end Pv_WC
section Pv_WD
set_option Elab.async false
set_option linter.all false
set_option maxRecDepth 10000
namespace Pv
open PySem PySem.Spec PyProof.Rows
open L2
open GV

section
variable {X : Cx}
theorem at_wipe {σ : L2.St} {ws : List Nat} {j : Nat} {v : V} (e : (L2.wipe σ ws)[j]? = some (some v)) : σ[j]? = some (some v) ∧ (j ∈ ws → False) := by
  rw [wipe_at] at e
  split at e
  · cases e
  · rename_i n
    exact ⟨e, fun z => n ⟨z, (List.getElem?_eq_some_iff.mp e).1⟩⟩
theorem dc1_run {pins : List (Addr × Obj)} {s : Shared} {σ : L2.St} {H : Hp} {Q : VK} {kx vx tg iter : Expr} {ifs : List Expr} {scope : Scope} {own : List (Str × Nat)} {pos pos' : Pos} {wi : TI} {g : TG} {tt : TT} {tk tv : TE} {use : Option (Value → Sem Unit)} {Qf : Value → Shared → Prop}
    (hc : X.calm = true) (hu : X.A.units + 65 < cLine) (hN : X.N.Nodup) (I : Inv X pins σ H s) (hi : PI X tg iter wi) (ok : BlkOk X.N X.env.scope scope own)
    (hg : ∀ (s : Shared) (H : Hp) (A : Addr) (cl : List (Str × Addr)) (fp : List Addr), PG (X.blk s H scope (compEnvC scope cl A X.env) fp) tg g) (ht : ∀ (s : Shared) (H : Hp) (A : Addr) (cl : List (Str × Addr)) (fp : List Addr), PTs (X.blk s H scope (compEnvC scope cl A X.env) fp) ifs tt)
    (hk : ∀ (s : Shared) (H : Hp) (A : Addr) (cl : List (Str × Addr)) (fp : List Addr), PE (X.blk s H scope (compEnvC scope cl A X.env) fp) kx tk) (hv : ∀ (s : Shared) (H : Hp) (A : Addr) (cl : List (Str × Addr)) (fp : List Addr), PE (X.blk s H scope (compEnvC scope cl A X.env) fp) vx tv)
    (hs : ∀ x, foldedSetIterable iter X.env x = pure x) (h : tD1 X.K X.w wi g tt tk tv (own.map (·.2)) σ H Q) (post : Post X pins σ Q use Qf) :
    wpAny (model X.prog X.w) X.A (comprehension (.DictComp kx vx [⟨tg, iter, ifs, 0⟩] scope pos) scope X.env pos' newDict false (eval iter X.env) use) Qf X.xe s :=
  dc_run (leaf := leafD X.K X.w tk tv) (EL := fun D env => elD X.prog X.w X.A kx vx D env) hc hN I hi ok hg ht hs (fun R it D env I n s t i => loopD1 I t n i)
    (fun D s H A cl fp pa σ8 H9 s9 Nx Z i1 i2 i3 i4 => elD_ok (XB := X.blk s H scope (compEnvC scope cl A X.env) fp) rfl hu (hk s H A cl fp) (hv s H A cl fp) i1 i3 fun H' s' I' nx =>
      i4 σ8 H' s' I' (by rw [← i2, wipe_len]) (fun j v e => by rw [← i2] at e; exact (at_wipe e).1) nx) h post
theorem dc2_run {pins : List (Addr × Obj)} {s : Shared} {σ : L2.St} {H : Hp} {Q : VK} {kx vx tg iter tg1 iter1 : Expr} {ifs ifs1 : List Expr} {scope : Scope} {own : List (Str × Nat)} {us : List Nat} {pos pos' : Pos} {wi wj : TI} {g g1 : TG} {tt tt1 : TT} {tk tv : TE} {use : Option (Value → Sem Unit)} {Qf : Value → Shared → Prop}
    (hc : X.calm = true) (hu : X.A.units + 65 < cLine) (hN : X.N.Nodup) (I : Inv X pins σ H s) (hi : PI X tg iter wi) (ok : BlkOk X.N X.env.scope scope own) (hus : ∀ i ∈ us, i ∈ own.map (·.2))
    (hg : ∀ (s : Shared) (H : Hp) (A : Addr) (cl : List (Str × Addr)) (fp : List Addr), PG (X.blk s H scope (compEnvC scope cl A X.env) fp) tg g) (ht : ∀ (s : Shared) (H : Hp) (A : Addr) (cl : List (Str × Addr)) (fp : List Addr), PTs (X.blk s H scope (compEnvC scope cl A X.env) fp) ifs tt)
    (hj : ∀ (s : Shared) (H : Hp) (A : Addr) (cl : List (Str × Addr)) (fp : List Addr), PI (X.blk s H scope (compEnvC scope cl A X.env) fp) tg1 iter1 wj)
    (hg1 : ∀ (s : Shared) (H : Hp) (A : Addr) (cl : List (Str × Addr)) (fp : List Addr), PG (X.blk s H scope (compEnvC scope cl A X.env) fp) tg1 g1) (ht1 : ∀ (s : Shared) (H : Hp) (A : Addr) (cl : List (Str × Addr)) (fp : List Addr), PTs (X.blk s H scope (compEnvC scope cl A X.env) fp) ifs1 tt1)
    (hk : ∀ (s : Shared) (H : Hp) (A : Addr) (cl : List (Str × Addr)) (fp : List Addr), PE (X.blk s H scope (compEnvC scope cl A X.env) fp) kx tk) (hv : ∀ (s : Shared) (H : Hp) (A : Addr) (cl : List (Str × Addr)) (fp : List Addr), PE (X.blk s H scope (compEnvC scope cl A X.env) fp) vx tv)
    (hs : ∀ x, foldedSetIterable iter X.env x = pure x) (hs1 : ∀ env x, foldedSetIterable iter1 env x = pure x) (h : tD2 X.K X.w wi g tt wj g1 tt1 tk tv (own.map (·.2)) us σ H Q) (post : Post X pins σ Q use Qf) :
    wpAny (model X.prog X.w) X.A (comprehension (.DictComp kx vx [⟨tg, iter, ifs, 0⟩, ⟨tg1, iter1, ifs1, 0⟩] scope pos) scope X.env pos' newDict false (eval iter X.env) use) Qf X.xe s := by
  refine dc_run (leaf := fun D σ2 H3 Nx => wj σ2 H3 fun J1 H4 => L1 J1 g1 tt1 (leafD X.K X.w tk tv D) us σ2 H4 Nx) (EL := fun D env => elO X.prog X.w X.A (.DictComp kx vx [⟨tg, iter, ifs, 0⟩, ⟨tg1, iter1, ifs1, 0⟩] scope pos) iter1 (.ref D) env) hc hN I hi ok hg ht hs
    (fun R it D env I n s t i => loopD2_out (hs1 env) I t n i) (fun D s H A cl fp pa σ8 H9 s9 Nx Z i1 i2 i3 i4 => ?_) h post
  refine lft ((hj s H A cl fp).run pa s9 σ8 H9 _ i1 i3) fun xv s10 hx => lft hx fun itv s11 ⟨it1, fp1, tn1, J1, H11, e1, I11, T1, st11, f11, W1, ⟨m1, w1⟩, turn1⟩ => ?_
  subst e1
  have loop1 : codeAny (model X.prog X.w) X.A (.compLoop (.DictComp kx vx [⟨tg, iter, ifs, 0⟩, ⟨tg1, iter1, ifs1, 0⟩] scope pos) 1 (.ref it1) (.ref D) (compEnvC scope cl A X.env)) (fun r s' => match r with | .ok _ => Z s' | .error _ => False) s11 := by
    refine loopD2_in _ (blk_turn (X := X.blk s H scope (compEnvC scope cl A X.env) fp) (leaf := leafD X.K X.w tk tv D) (pl := pa) (EL := elD X.prog X.w X.A kx vx D (compEnvC scope cl A X.env)) T1 hc rfl (fun {H'} hn σ' s' I' b hb => ⟨hn b hb, (f11 b hb).2⟩) (hg1 s H A cl fp) (ht1 s H A cl fp) turn1
      (fun pa' σ15 H16 s16 Nx1 Z1 j1 j2 j3 j4 => elD_ok (XB := X.blk s H scope (compEnvC scope cl A X.env) fp) rfl hu (hk s H A cl fp) (hv s H A cl fp) j1 j3 fun H' s' I' nx =>
        j4 σ15 H' s' I' (by rw [← j2, wipe_len]) (fun j v e => by rw [← j2] at e; exact (at_wipe e).1) nx)
      fun H' s' I' _ nx => i4 (L2.wipe σ8 us) H' s' I' (by rw [← i2, wipe_len, wipe_len]) (fun j v e => ?_) nx) m1
      ⟨0, H11, I11.weak (wipe_len _ _) (fun j v e => (at_wipe e).1), st11, fun b hb => (f11 b hb).1, w1⟩
    rw [← i2] at e
    obtain ⟨a1, a2⟩ := at_wipe e
    rw [wipe_out' fun z => a2 (hus j z)]
    exact a1
  exact startD1 loop1 (T1.self X.A 0 _ _ _ st11 loop1)
end
section
variable {C : Cc}
theorem snd_dc {kx vx tg iter : Expr} {ifs : List Expr} {scope : Scope} {own : List (Str × Nat)} {pos : Pos} {t : Tg} {i : Iy} {c : OEx} {k v : Ex} (hb : blkC C.N C.sc scope own = true) (ht : tgIn t (own.map (·.2)) = true) (hf : notSet iter = true)
    (si : SndI C tg iter i) (sg : SndG (C.blk scope) tg t) (sq : SndQ (C.blk scope) ifs c) (sk : SndE (C.blk scope) kx k) (sv : SndE (C.blk scope) vx v) : SndE C (.DictComp kx vx [⟨tg, iter, ifs, 0⟩] scope pos) (.dcp (own.map (·.2)) (.one t i c) k v) := fun G d E X kk => ⟨fun pins s σ H Q I h => by
  rw [arm_eval_DictComp]
  exact dc1_run kk.calm (Room.u64 kk.room) (by rw [kk.hN]; exact kk.nd) I (si G d E X kk) (by rw [kk.hN, kk.sc]; exact blkOk_by hb) (fun s H A cl fp => sg G d nev _ (kk.blk scope s H A cl fp)) (fun s H A cl fp => sq G d nev _ (kk.blk scope s H A cl fp)) (fun s H A cl fp => sk G d nev _ (kk.blk scope s H A cl fp)) (fun s H A cl fp => sv G d nev _ (kk.blk scope s H A cl fp))
    (folded_of hf X.env) (dc_one ht h) pe_post⟩
theorem snd_dc2 {kx vx tg iter tg1 iter1 : Expr} {ifs ifs1 : List Expr} {scope : Scope} {own : List (Str × Nat)} {us : List Nat} {pos : Pos} {t u : Tg} {i j : Iy} {c d : OEx} {k v : Ex} (hb : blkC C.N C.sc scope own = true) (ht : tgIn t (own.map (·.2)) = true) (hu : tgIn u us = true) (hus : usIn us own = true) (hj : iyD j = true) (hf : notSet iter = true) (hf1 : notSet iter1 = true)
    (si : SndI C tg iter i) (sg : SndG (C.blk scope) tg t) (sq : SndQ (C.blk scope) ifs c) (sj : SndI (C.blk scope) tg1 iter1 j) (sg1 : SndG (C.blk scope) tg1 u) (sq1 : SndQ (C.blk scope) ifs1 d) (sk : SndE (C.blk scope) kx k) (sv : SndE (C.blk scope) vx v) :
    SndE C (.DictComp kx vx [⟨tg, iter, ifs, 0⟩, ⟨tg1, iter1, ifs1, 0⟩] scope pos) (.dcp (own.map (·.2)) (.two t i c us u j d) k v) := fun G dd E X kk => ⟨fun pins s σ H Q I h => by
  rw [arm_eval_DictComp]
  exact dc2_run kk.calm (Room.u64 kk.room) (by rw [kk.hN]; exact kk.nd) I (si G dd E X kk) (by rw [kk.hN, kk.sc]; exact blkOk_by hb) (usIn_of hus) (fun s H A cl fp => sg G dd nev _ (kk.blk scope s H A cl fp)) (fun s H A cl fp => sq G dd nev _ (kk.blk scope s H A cl fp)) (fun s H A cl fp => sj G dd nev _ (kk.blk scope s H A cl fp))
    (fun s H A cl fp => sg1 G dd nev _ (kk.blk scope s H A cl fp)) (fun s H A cl fp => sq1 G dd nev _ (kk.blk scope s H A cl fp)) (fun s H A cl fp => sk G dd nev _ (kk.blk scope s H A cl fp)) (fun s H A cl fp => sv G dd nev _ (kk.blk scope s H A cl fp))
    (folded_of hf X.env) (fun env x => folded_of hf1 env x) (dc_two ht hu hj h) pe_post⟩
theorem asg_nm {K : PySem.W.Frag} {w : World} {nm : Nm} {E : XK} {cl : Calls} {D : Ends} {σ : L2.St} {H : Hp} {n : Nat} {ie : Ex} (h : rdM K w nm E cl (.asg (.nm n) ie) D σ H) : rdE K w nm E cl ie σ H fun x H1 => gName n x σ H1 D.nx := by
  obtain ⟨env, h, μ, me, m, o⟩ := h
  rw [exS] at o
  exact ⟨env, h, μ, me, m, OutS.bind o fun μ1 H1 h1 v x g1 m1 r1 o1 => OutS.pure (p := (.nxt, env.set n (some v))) o1 m1 _ ((me.grow m g1).set r1)⟩
theorem sw_trueD {kx vx : Expr} {gs : List Comprehension} {scope : Scope} {pos py : Pos} {y : Str} {l : Nat} {env : PySem.Env} (hk : env.scope.kind = .function) (hy : env.scope.names.lookup y = some .local) (hl : (py.line == pos.line) = true)
    (ha : (scope.names.any fun (n, k) => n == y && (k == .local || k == .cell)) = false) : swapsWith (.DictComp kx vx gs scope pos) (some (.Name y py)) l env = pure true := by
  have e1 : env.kindOf y = some .local := hy
  have e2 : env.blockKind = .function := by unfold PySem.Env.blockKind; rw [hk]; rfl
  unfold swapsWith
  simp only [e2, e1, ha, Expr.pos, hl]
  rfl
theorem sndM_dc {x : Str} {n : Nat} {kx vx tg iter : Expr} {ifs : List Expr} {scope : Scope} {own : List (Str × Nat)} {pos p spos : Pos} {t : Tg} {i : Iy} {c : OEx} {k v : Ex} (hi : C.N[n]? = some x) (hl : C.sc.names.lookup x = some .local) (hk : C.sc.kind = .function) (hline : (p.line == pos.line) = true)
    (ha : (scope.names.any fun (n, k) => n == x && (k == .local || k == .cell)) = false) (hb : blkC C.N C.sc scope own = true) (ht : tgIn t (own.map (·.2)) = true) (hf : notSet iter = true)
    (si : SndI C tg iter i) (sg : SndG (C.blk scope) tg t) (sq : SndQ (C.blk scope) ifs c) (sk : SndE (C.blk scope) kx k) (sv : SndE (C.blk scope) vx v) : SndM C (.Assign [.Name x p] (.DictComp kx vx [⟨tg, iter, ifs, 0⟩] scope pos) spos) (.asg (.nm n) (.dcp (own.map (·.2)) (.one t i c) k v)) := fun G d E X kk => ⟨fun pins s σ H D I h => by
  have nd : X.N.Nodup := by rw [kk.hN]; exact kk.nd
  have hy : X.N[n]? = some x := by rw [kk.hN]; exact hi
  have hyl : X.env.scope.names.lookup x = some .local := by rw [kk.sc]; exact hl
  rw [exec_Assign_Name_used _ _ _ _ (sw_trueD (l := spos.line) (by rw [kk.sc]; exact hk) hyl hline ha)]
  refine wpAny_bind (wpAny_standAt (wpAny_bind ?_))
  show wpAny _ X.A (do let _ ← comprehension (.DictComp kx vx [⟨tg, iter, ifs, 0⟩] scope pos) scope X.env (firstIterPos [⟨tg, iter, ifs, 0⟩] pos) newDict false (eval iter X.env) (some (assign (.Name x p) X.env))) _ _ s
  refine wpAny_bind (thn (dc1_run (Qf := fun _ s' => SP X pins D .next s') kk.calm (Room.u64 kk.room) nd I (si G d E X kk) (by rw [kk.hN, kk.sc]; exact blkOk_by hb) (fun s H A cl fp => sg G d nev _ (kk.blk scope s H A cl fp)) (fun s H A cl fp => sq G d nev _ (kk.blk scope s H A cl fp)) (fun s H A cl fp => sk G d nev _ (kk.blk scope s H A cl fp)) (fun s H A cl fp => sv G d nev _ (kk.blk scope s H A cl fp))
    (folded_of hf X.env) (dc_one ht (asg_nm h)) (ps_post nd hy hyl)) fun _ s' hq => wpAny_pure (wpAny_pure hq))⟩
def kD1 (C : Cc) (kx vx tg iter : Expr) (ifs : List Expr) (scope : Scope) (own : List (Str × Nat)) (pos : Pos) (t : {t : Tg // SndG (C.blk scope) tg t}) (q : {q : OEx // SndQ (C.blk scope) ifs q}) (i : {i : Iy // SndI C tg iter i}) (k : {i : Ex // SndE (C.blk scope) kx i}) (v : {i : Ex // SndE (C.blk scope) vx i}) :
    {i : Ex // SndE C (.DictComp kx vx [⟨tg, iter, ifs, 0⟩] scope pos) i} :=
  if h : blkC C.N C.sc scope own = true ∧ tgIn t.1 (own.map (·.2)) = true ∧ notSet iter = true then
    ⟨.dcp (own.map (·.2)) (.one t.1 i.1 q.1) k.1 v.1, by
      obtain ⟨h1, h2, h3⟩ := h
      exact snd_dc h1 h2 h3 i.2 t.2 q.2 k.2 v.2⟩
  else ⟨.bad, snd_bad _⟩
def kD2 (C : Cc) (kx vx tg iter tg1 iter1 : Expr) (ifs ifs1 : List Expr) (scope : Scope) (own : List (Str × Nat)) (pos : Pos) (t : {t : Tg // SndG (C.blk scope) tg t}) (q : {q : OEx // SndQ (C.blk scope) ifs q}) (i : {i : Iy // SndI C tg iter i}) (u : {t : Tg // SndG (C.blk scope) tg1 t}) (d : {q : OEx // SndQ (C.blk scope) ifs1 q})
    (j : {i : Iy // SndI (C.blk scope) tg1 iter1 i}) (k : {i : Ex // SndE (C.blk scope) kx i}) (v : {i : Ex // SndE (C.blk scope) vx i}) : {i : Ex // SndE C (.DictComp kx vx [⟨tg, iter, ifs, 0⟩, ⟨tg1, iter1, ifs1, 0⟩] scope pos) i} :=
  if h : blkC C.N C.sc scope own = true ∧ tgIn t.1 (own.map (·.2)) = true ∧ tgIn u.1 (tgL u.1) = true ∧ usIn (tgL u.1) own = true ∧ iyD j.1 = true ∧ notSet iter = true ∧ notSet iter1 = true then
    ⟨.dcp (own.map (·.2)) (.two t.1 i.1 q.1 (tgL u.1) u.1 j.1 d.1) k.1 v.1, by
      obtain ⟨h1, h2, h3, h4, h5, h6, h7⟩ := h
      exact snd_dc2 h1 h2 h3 h4 h5 h6 h7 i.2 t.2 q.2 j.2 u.2 d.2 k.2 v.2⟩
  else ⟨.bad, snd_bad _⟩
def kMD (C : Cc) (x : Str) (n : Nat) (p : Pos) (kx vx tg iter : Expr) (ifs : List Expr) (scope : Scope) (own : List (Str × Nat)) (pos sp : Pos) (hl : C.sc.names.lookup x = some .local) (t : {t : Tg // SndG (C.blk scope) tg t}) (q : {q : OEx // SndQ (C.blk scope) ifs q}) (i : {i : Iy // SndI C tg iter i}) (k : {i : Ex // SndE (C.blk scope) kx i}) (v : {i : Ex // SndE (C.blk scope) vx i}) :
    {i : Sm // SndM C (.Assign [.Name x p] (.DictComp kx vx [⟨tg, iter, ifs, 0⟩] scope pos) sp) i} :=
  if h : C.N[n]? = some x ∧ C.sc.kind = .function ∧ (p.line == pos.line) = true ∧ (scope.names.any fun (n, k) => n == x && (k == .local || k == .cell)) = false ∧ blkC C.N C.sc scope own = true ∧ tgIn t.1 (own.map (·.2)) = true ∧ notSet iter = true then
    ⟨.asg (.nm n) (.dcp (own.map (·.2)) (.one t.1 i.1 q.1) k.1 v.1), by
      obtain ⟨h1, h2, h3, h4, h5, h6, h7⟩ := h
      exact sndM_dc h1 hl h2 h3 h4 h5 h6 h7 i.2 t.2 q.2 k.2 v.2⟩
  else ⟨.bad, sndM_bad _⟩
theorem sndM_dc2 {x : Str} {n : Nat} {kx vx tg iter tg1 iter1 : Expr} {ifs ifs1 : List Expr} {scope : Scope} {own : List (Str × Nat)} {us : List Nat} {pos p spos : Pos} {t u : Tg} {i j : Iy} {c d : OEx} {k v : Ex} (hi : C.N[n]? = some x) (hl : C.sc.names.lookup x = some .local) (hk : C.sc.kind = .function) (hline : (p.line == pos.line) = true)
    (ha : (scope.names.any fun (n, k) => n == x && (k == .local || k == .cell)) = false) (hb : blkC C.N C.sc scope own = true) (ht : tgIn t (own.map (·.2)) = true) (hu : tgIn u us = true) (hus : usIn us own = true) (hj : iyD j = true) (hf : notSet iter = true) (hf1 : notSet iter1 = true)
    (si : SndI C tg iter i) (sg : SndG (C.blk scope) tg t) (sq : SndQ (C.blk scope) ifs c) (sj : SndI (C.blk scope) tg1 iter1 j) (sg1 : SndG (C.blk scope) tg1 u) (sq1 : SndQ (C.blk scope) ifs1 d) (sk : SndE (C.blk scope) kx k) (sv : SndE (C.blk scope) vx v) :
    SndM C (.Assign [.Name x p] (.DictComp kx vx [⟨tg, iter, ifs, 0⟩, ⟨tg1, iter1, ifs1, 0⟩] scope pos) spos) (.asg (.nm n) (.dcp (own.map (·.2)) (.two t i c us u j d) k v)) := fun G dd E X kk => ⟨fun pins s σ H D I h => by
  have nd : X.N.Nodup := by rw [kk.hN]; exact kk.nd
  have hy : X.N[n]? = some x := by rw [kk.hN]; exact hi
  have hyl : X.env.scope.names.lookup x = some .local := by rw [kk.sc]; exact hl
  rw [exec_Assign_Name_used _ _ _ _ (sw_trueD (l := spos.line) (by rw [kk.sc]; exact hk) hyl hline ha)]
  refine wpAny_bind (wpAny_standAt (wpAny_bind ?_))
  show wpAny _ X.A (do let _ ← comprehension (.DictComp kx vx [⟨tg, iter, ifs, 0⟩, ⟨tg1, iter1, ifs1, 0⟩] scope pos) scope X.env (firstIterPos [⟨tg, iter, ifs, 0⟩, ⟨tg1, iter1, ifs1, 0⟩] pos) newDict false (eval iter X.env) (some (assign (.Name x p) X.env))) _ _ s
  refine wpAny_bind (thn (dc2_run (Qf := fun _ s' => SP X pins D .next s') kk.calm (Room.u64 kk.room) nd I (si G dd E X kk) (by rw [kk.hN, kk.sc]; exact blkOk_by hb) (usIn_of hus) (fun s H A cl fp => sg G dd nev _ (kk.blk scope s H A cl fp)) (fun s H A cl fp => sq G dd nev _ (kk.blk scope s H A cl fp)) (fun s H A cl fp => sj G dd nev _ (kk.blk scope s H A cl fp))
    (fun s H A cl fp => sg1 G dd nev _ (kk.blk scope s H A cl fp)) (fun s H A cl fp => sq1 G dd nev _ (kk.blk scope s H A cl fp)) (fun s H A cl fp => sk G dd nev _ (kk.blk scope s H A cl fp)) (fun s H A cl fp => sv G dd nev _ (kk.blk scope s H A cl fp))
    (folded_of hf X.env) (fun env x => folded_of hf1 env x) (dc_two ht hu hj (asg_nm h)) (ps_post nd hy hyl)) fun _ s' hq => wpAny_pure (wpAny_pure hq))⟩
def kMD2 (C : Cc) (x : Str) (n : Nat) (p : Pos) (kx vx tg iter tg1 iter1 : Expr) (ifs ifs1 : List Expr) (scope : Scope) (own : List (Str × Nat)) (pos sp : Pos) (hl : C.sc.names.lookup x = some .local) (t : {t : Tg // SndG (C.blk scope) tg t}) (q : {q : OEx // SndQ (C.blk scope) ifs q}) (i : {i : Iy // SndI C tg iter i}) (u : {t : Tg // SndG (C.blk scope) tg1 t}) (d : {q : OEx // SndQ (C.blk scope) ifs1 q})
    (j : {i : Iy // SndI (C.blk scope) tg1 iter1 i}) (k : {i : Ex // SndE (C.blk scope) kx i}) (v : {i : Ex // SndE (C.blk scope) vx i}) : {i : Sm // SndM C (.Assign [.Name x p] (.DictComp kx vx [⟨tg, iter, ifs, 0⟩, ⟨tg1, iter1, ifs1, 0⟩] scope pos) sp) i} :=
  if h : C.N[n]? = some x ∧ C.sc.kind = .function ∧ (p.line == pos.line) = true ∧ (scope.names.any fun (n, k) => n == x && (k == .local || k == .cell)) = false ∧ blkC C.N C.sc scope own = true ∧ tgIn t.1 (own.map (·.2)) = true ∧ tgIn u.1 (tgL u.1) = true ∧ usIn (tgL u.1) own = true ∧ iyD j.1 = true ∧ notSet iter = true ∧ notSet iter1 = true then
    ⟨.asg (.nm n) (.dcp (own.map (·.2)) (.two t.1 i.1 q.1 (tgL u.1) u.1 j.1 d.1) k.1 v.1), by
      obtain ⟨h1, h2, h3, h4, h5, h6, h7, h8, h9, h10, h11⟩ := h
      exact sndM_dc2 h1 hl h2 h3 h4 h5 h6 h7 h8 h9 h10 h11 i.2 t.2 q.2 j.2 u.2 d.2 k.2 v.2⟩
  else ⟨.bad, sndM_bad _⟩
end
end Pv
end Pv_WD
section Pv_WE
set_option Elab.async false
set_option linter.all false
set_option maxRecDepth 100000
/-! enumerate over a tuple -/
namespace Pv
open PySem PySem.Spec PyProof.Rows
open L2
open GV
open PySem.AutoSeq1 (wpAny_loadPart')

section
variable {prog : Program} {w : World} {A : Around} {E : Value → Shared → Prop} {s : Shared}
theorem nextOf_tup {it t : Addr} {i : Nat} {its : Array Value} {x : Value} {Q : Value → Shared → Prop} (hit : s.heap.IsTupleIter it t i) (ht : s.heap.IsTuple t its) (hx : its[i]? = some x)
    (hQ : ∀ h', h'.IsTupleIter it t (i + 1) → Heap.SameBut it s.heap h' → Q x { s with heap := h' }) : wpAny (model prog w) A (Builtin.SmallTypes.nextOf (.ref it)) Q E s := by
  obtain ⟨o, ho, hc, hd⟩ := id hit
  obtain ⟨ot, hot, _, nt, hdt⟩ := ht
  unfold Builtin.SmallTypes.nextOf
  refine wpAny_bind (wpAny_callSpecial?_slot (name := Str.ofString "__next__") hit.typeIs slot_tupleiter_next (wpAny_call_entry slot_tupleiter_next hit.typeIs entry_tupleiter_next ?_ (args_tupleiter_next _)))
  show wpAny _ _ (field (.ref it) 0 >>= _) _ _ s
  refine wpAny_bind (wpAny_field ho hd (x := .ref t) rfl ?_)
  show wpAny _ _ (if (Value.ref t == Value.none) = true then _ else _) _ _ s
  rw [if_neg (show ¬ ((Value.ref t == Value.none) = true) from Bool.false_ne_true)]
  show wpAny _ _ (field (.ref it) 1 >>= _) _ _ s
  refine wpAny_bind (wpAny_field ho hd (x := .int i 0) rfl ?_)
  show wpAny _ _ (seqItems? (.ref t) >>= _) _ _ s
  refine wpAny_bind (wpAny_seqItems hot hdt ?_)
  simp only [Int.toNat_natCast, hx]
  refine wpAny_bind (wpAny_setField ho hd (by simp) (wpAny_pure ⟨x, rfl, wpAny_pure (hQ _ ?_ (Heap.SameBut.update ..))⟩))
  refine ⟨_, Heap.get?_update_self _ ho (Obj.isFreed_of_fields (Obj.data_mapFields hd _)), (Obj.cls_mapFields ..).trans hc, ?_⟩
  rw [Obj.data_mapFields hd]
  simp [rawInt]
theorem nextOf_tup_end {it t : Addr} {i : Nat} {its : Array Value} {Q : Value → Shared → Prop} (hh : A.handled = none) (hit : s.heap.IsTupleIter it t i) (ht : s.heap.IsTuple t its) (hx : its[i]? = none)
    (hE : ∀ h' e, Heap.ExtBut it s.heap h' → (∃ o, h'.get? e = some o ∧ o.cls = .type "StopIteration") → E (.ref e) { s with heap := h' }) : wpAny (model prog w) A (Builtin.SmallTypes.nextOf (.ref it)) Q E s := by
  obtain ⟨o, ho, hc, hd⟩ := id hit
  obtain ⟨ot, hot, _, nt, hdt⟩ := ht
  unfold Builtin.SmallTypes.nextOf
  refine wpAny_bind (wpAny_callSpecial?_slot (name := Str.ofString "__next__") hit.typeIs slot_tupleiter_next (wpAny_call_entry slot_tupleiter_next hit.typeIs entry_tupleiter_next ?_ (args_tupleiter_next _)))
  show wpAny _ _ (field (.ref it) 0 >>= _) _ _ s
  refine wpAny_bind (wpAny_field ho hd (x := .ref t) rfl ?_)
  show wpAny _ _ (if (Value.ref t == Value.none) = true then _ else _) _ _ s
  rw [if_neg (show ¬ ((Value.ref t == Value.none) = true) from Bool.false_ne_true)]
  show wpAny _ _ (field (.ref it) 1 >>= _) _ _ s
  refine wpAny_bind (wpAny_field ho hd (x := .int i 0) rfl ?_)
  show wpAny _ _ (seqItems? (.ref t) >>= _) _ _ s
  refine wpAny_bind (wpAny_seqItems hot hdt ?_)
  simp only [Int.toNat_natCast, hx]
  refine wpAny_bind (wpAny_rule (wpAny_bind (wpAny_setField ho hd (by simp) ?_)))
  show wpAny _ _ (newExc (.type "StopIteration") [] >>= _) _ _ _
  refine wpAny_bind ?_
  simp only [newExc, newTuple]
  refine wpAny_bind (wpAny_newObj_type ?_ (by size_fits))
  refine wpAny_bind (m := firstArgMember _ _) (wpAny_of_eq (a := Value.none) (by first | rfl | (simp only [firstArgMember]; rfl)) ?_)
  refine wpAny_newObj_type ?_ (by size_fits)
  simp only [raiseNew]
  refine wpAny_bind (wpAny_handled ?_)
  first | rw [show A.in1.handled = none from hh] | rw [hh]
  exact wpAny_bind (wpAny_pure (wpAny_throw (hE _ _ (((Heap.SameBut.update ..).extBut.push _).push _) ⟨_, Heap.get?_push_size _ rfl, rfl⟩)))
theorem isTuple_keep {h h' : Heap} {t : Addr} {its : Array Value} (x : h.IsTuple t its) (k : ∀ o, h.get? t = some o → h'.get? t = some o) : h'.IsTuple t its :=
  let ⟨o, e, r⟩ := x; ⟨o, k o e, r⟩
theorem isTupIter_keep {h h' : Heap} {it t : Addr} {i : Nat} (x : h.IsTupleIter it t i) (k : ∀ o, h.get? it = some o → h'.get? it = some o) : h'.IsTupleIter it t i :=
  let ⟨o, e, r⟩ := x; ⟨o, k o e, r⟩
theorem drawsT (hh : A.handled = none) (it t : Addr) (hne : t ≠ it) (its : Array Value) : Draws prog w A it [it, t] its.size (fun i v => its[i]? = some v) (fun i h => h.IsTupleIter it t i ∧ h.IsTuple t its) where
  live := fun _ _ st => let ⟨o, ho, _⟩ := st.1; ⟨o, ho⟩
  frame := fun _ _ _ st hk => ⟨isTupIter_keep st.1 fun o e => hk it (by simp) o e, isTuple_keep st.2 fun o e => hk t (by simp) o e⟩
  item := fun i s Q E hi st hQ => nextOf_tup st.1 st.2 (x := its[i]) (by simp [hi]) fun h' hit' hs' => hQ _ h' s.toks (by simp [hi]) ⟨hit', isTuple_keep st.2 fun o e => (hs'.2 t hne).trans e⟩ hs'
  done := fun s Q E st hE => nextOf_tup_end hh st.1 st.2 (by simp) hE
theorem enum_newT (l : Addr) (its : Array Value) (o : Obj) (n : Nat) (hc : o.cls = .type "tuple") (hd : o.data = .seq its n) :
    Meets (Builtin.«enumerate.__new__» ⟨[.type "enumerate", .ref l], []⟩) (fun _ R s => s.heap.get? l = some o ∧
      R (.ok (.ret (.ref (s.heap.push { cls := .type "tuple_iterator", data := .fields #[.ref l, .int 0 0] }).objs.size)))
        { s with heap := (s.heap.push { cls := .type "tuple_iterator", data := .fields #[.ref l, .int 0 0] }).push { cls := .type "enumerate", data := .fields #[.none, .bool false, .ref s.heap.objs.size, rawInt 0, .none, .none] } }) :=
  .of_wp fun prog w A R s h => by
    obtain ⟨hp, g, d, tk, os⟩ := s
    obtain ⟨hl, h⟩ := h
    obtain ⟨oc, od, dt, osl⟩ := o
    have hc : oc = .type "tuple" := hc
    have hd : dt = .seq its n := hd
    subst hc hd
    have hsub := sub_enumerate
    have hL : Heap.IsTuple (Shared.heap ⟨hp, g, d, tk, os⟩) l its := ⟨_, hl, rfl, n, rfl⟩
    wp_walk using wpAny_loadPart' hl
    refine wpAny_stack_any fun st => wpAny_pure ?_
    split
    · rename_i c _ _ _ _ _
      cases (c == Value.type "enumerate")
      · wp_walk using wpAny_loadPart' hl, wpAny_pyIter_tuple hL
        exact ⟨_, rfl, h⟩
      · wp_walk using wpAny_loadPart' hl, wpAny_pyIter_tuple hL
        exact ⟨_, rfl, h⟩
    · wp_walk using wpAny_loadPart' hl, wpAny_pyIter_tuple hL
      exact ⟨_, rfl, h⟩
theorem call_enumT {l : Addr} {its : Array Value} {Q : Value → Shared → Prop} (hL : s.heap.IsTuple l its)
    (h : ∀ h', IsEnum h' (s.heap.objs.size + 1) s.heap.objs.size 0 .none → h'.IsTupleIter s.heap.objs.size l 0 → (∀ b o, s.heap.get? b = some o → h'.get? b = some o) → Q (.ref (s.heap.objs.size + 1)) { s with heap := h' }) :
    wpAny (model prog w) A (call (.type "enumerate") [.ref l]) Q E s := by
  obtain ⟨o, hl, hc, n, hd⟩ := hL
  refine callType_new F.called_enumerate (by decide) (F.typeCall_enumerate_1 _) (F.newCall_enumerate_1 _) (fun obj => F.args_object_init_2 obj _) F.entry_enumerate_new (enum_newT l its o n hc hd) ⟨hl, ?_⟩
  have hz : (s.heap.push { cls := .type "tuple_iterator", data := .fields #[.ref l, .int 0 0] }).objs.size = s.heap.objs.size + 1 := Heap.size_push ..
  show _ ∧ _
  rw [hz]
  have he : IsEnum ((s.heap.push { cls := .type "tuple_iterator", data := .fields #[.ref l, .int 0 0] }).push { cls := .type "enumerate", data := .fields #[.none, .bool false, .ref s.heap.objs.size, rawInt 0, .none, .none] }) (s.heap.objs.size + 1) s.heap.objs.size 0 .none := by
    have q := Heap.get?_push_size (s.heap.push { cls := .type "tuple_iterator", data := .fields #[.ref l, .int 0 0] }) (o := { cls := .type "enumerate", data := .fields #[.none, .bool false, .ref s.heap.objs.size, rawInt 0, .none, .none] }) rfl
    rw [hz] at q
    exact q
  exact ⟨⟨_, he, rfl⟩, h _ he ⟨_, Heap.get?_push_of_some _ (Heap.get?_push_size _ rfl), rfl, rfl⟩ fun b o x => Heap.get?_push_of_some _ (Heap.get?_push_of_some _ x)⟩
theorem enumT_end {e it t : Addr} {i : Nat} {its : Array Value} {old : Value} {Q : Option Value → Shared → Prop} (hh : A.handled = none) (he : IsEnum s.heap e it i old) (hit : s.heap.IsTupleIter it t i) (ht : s.heap.IsTuple t its) (hx : its[i]? = none)
    (hQ : ∀ h', Heap.ExtBut it s.heap h' → Q none { s with heap := h' }) : wpAny (model prog w) A (pyNext (.ref e)) Q E s := by
  have hT : s.TypeIs (.ref e) "enumerate" := ⟨_, he, rfl⟩
  unfold pyNext
  refine wpAny_bind (wpAny_attempt (wpAny_callSpecial?_slot (name := Str.ofString "__next__") hT F.slot_enumerate_next (wpAny_call_entry F.slot_enumerate_next hT F.entry_enumerate_next ?_ (F.args_enumerate_next_1 _))))
  show wpAny _ _ (field (.ref e) 2 >>= _) _ _ _
  refine wpAny_bind (wpAny_field he rfl (x := .ref it) rfl (wpAny_bind (nextOf_tup_end hh hit ht hx fun h' x hb ⟨o, ho, hc⟩ => ?_)))
  exact wpAny_bind (wpAny_isInstance (T := "StopIteration") (b := true) ⟨o, ho, hc⟩ isSubtype_stop (wpAny_pure (hQ _ hb)))
end
/-- the tuple at a, each item in a new pair -/
def IteT (K : PySem.W.Frag) (a : Addr) : It :=
  ⟨fun i H => ∃ (xs : List V) (x : V), SqT K H a xs ∧ xs[i]? = some x, fun i H v H' => ∃ T x, v = .ref T ∧ H T = none ∧ H' = upd H T (.tup [.int (i : Nat), x]) ∧ ∀ xs, SqT K H a xs → xs[i]? = some x, fun i H => ∃ xs : List V, SqT K H a xs ∧ xs.length ≤ i⟩
theorem turn_enumT {P : Program} {w : World} {K : PySem.W.Frag} {elts : List Expr} {kk : Nat} {tpos : Pos} (a e it : Addr) : Turn P w K (.Tuple elts kk tpos) (IteT K a) [e, it] e (fun i h => (∃ old, IsEnum h e it ((i : Nat) : Int) old) ∧ h.IsTupleIter it a i ∧ e ≠ it ∧ a ≠ it ∧ e ≠ a) where
  mem := by simp
  obj := fun i h st b hb => by
    obtain ⟨⟨old, he⟩, ⟨o, ho, hc, hd⟩, _⟩ := st
    have hb : b = e ∨ b = it := by simpa using hb
    rcases hb with z | z
    · rw [z]; exact ⟨_, he, fun v q => nomatch q⟩
    · rw [z]; exact ⟨o, ho, fun v q => by rw [hd] at q; cases q⟩
  keep := fun i h h' st k => let ⟨⟨old, he⟩, hi, ne⟩ := st; ⟨⟨old, k e (by simp) _ he⟩, isTupIter_keep hi fun o q => k it (by simp) o q, ne⟩
  item := by
    intro X hP hw hK hc i pins s σ H E I hf st hg
    subst hP hw hK
    obtain ⟨⟨old, he⟩, hit, ne, na, nea⟩ := st
    obtain ⟨xs, x, hq, hx⟩ := hg
    obtain ⟨its, rv, p, hz⟩ := I.tuple hq
    obtain ⟨u, hu, ru⟩ := rv.get hx
    have hel : e < s.heap.objs.size := Heap.lt_size he
    have hil : it < s.heap.objs.size := let ⟨_, q, _⟩ := hit; Heap.lt_size q
    have hlt : i < its.toArray.size := by
      have := (List.getElem?_eq_some_iff.mp hu).1
      simpa using this
    refine wpAny_pyNext_enum_itemD (drawsT (show X.A.in1.handled = none from I.ok.hd hc) it a na its.toArray) he ⟨hit, p⟩ hlt ne (by simp; exact ⟨ne, nea⟩) fun x' h' tk px ho hit' hT hsz hk => ?_
    have ex : x' = u := by
      have : its.toArray[i]? = some u := by simpa using hu
      rw [this] at px
      exact (Option.some.inj px).symm
    subst ex
    refine ⟨_, rfl, wpAny_letOwnedTupleGo_enum (s := { s with heap := h', toks := tk + 1 }) ho fun h'' he' sb => ?_⟩
    have hT2 : h''.get? s.heap.objs.size = some { cls := .type "tuple", data := .seq #[.int i tk, x'] } := (sb.2 _ (Nat.ne_of_gt hel)).trans hT
    have new : ObjOk X.prog X.w (upd H s.heap.objs.size (.tup [.int (i : Nat), x])) h'' s.heap.objs.size (.tup [.int (i : Nat), x]) :=
      ⟨by show 2 ≤ sizeLine; decide, [.int i tk, x'], .cons ⟨_, rfl⟩ (.cons ru .nil), ⟨_, hT2, rfl, _, rfl⟩⟩
    have I1 : Inv X pins σ (upd H s.heap.objs.size (.tup [.int (i : Nat), x])) { s with heap := h'', toks := tk + 1 } :=
      I.turnedNew (ch := [e, it]) (fun b ob hb q => (sb.2 b (fun z => hb (by simp [z]))).trans (hk b ob (fun z => hb (by simp [z])) (fun z => hb (by simp [z])) q)) hf (Nat.le_refl _) new
    refine ⟨.ref s.heap.objs.size, _, I1, rfl, ⟨_, x, rfl, I.hok.fresh (Nat.le_refl _), rfl, fun ys hy => by rw [I.tuple_inj hy hq]; exact hx⟩, ⟨⟨x', ?_⟩, isTupIter_keep hit'.1 fun o q => (sb.2 it (Ne.symm ne)).trans q, ne, na, nea⟩, fun b hb => ?_⟩
    · have e1 : ((i + 1 : Nat) : Int) = (i : Int) + 1 := by omega
      rw [e1]
      exact he'
    · have hb2 : b < s.heap.objs.size := by
        have e' : b = e ∨ b = it := by simpa using hb
        rcases e' with z | z
        · rw [z]; exact hel
        · rw [z]; exact hil
      rw [upd_ne (Nat.ne_of_lt hb2)]
      exact (hf b hb).1
  done := by
    intro X hP hw hK hc i pins s σ H E I hf st hg
    subst hP hw hK
    obtain ⟨⟨old, he⟩, hit, ne, na, nea⟩ := st
    obtain ⟨xs, hq, hx⟩ := hg
    obtain ⟨its, rv, p, hz⟩ := I.tuple hq
    obtain ⟨f0, f1, f2, f3, f4, f5⟩ := hf it (by simp)
    have hl := rv.length
    exact enumT_end (I.ok.hd hc) he hit p (by simp; omega) fun h' eb => ⟨rfl, I.turned (t' := s.toks) (fun b o hb q => eb b o hb q) f0 f1 f3 f4 f5⟩
  self := fun A i s Q E st h => let ⟨⟨_, he⟩, _⟩ := st; wpAny_pyIter_enum he h
/-! enumerate(e) over a list or a tuple -/
def iEnm (K : PySem.W.Frag) (ta : TA) : TI := fun σ H R => ta σ H fun vs H1 => ∃ a xs, vs = [.ref a] ∧ ((SqL K H1 a xs ∧ R (Ite K a) H1) ∨ (SqT K H1 a xs ∧ R (IteT K a) H1))
theorem pi_enm {X : Cx} {e : Expr} {ta : TA} {p pos tpos : Pos} {elts : List Expr} {kk : Nat} (hg : Gl X "enumerate") (hm : X.mg "enumerate" = none) (ha : PA X [e] ta) (hs : starEach [e] X.env = [(false, eval e X.env)]) : PI X (.Tuple elts kk tpos) (.Call (.Name "enumerate" p) [e] [] pos) (iEnm X.K ta) := by
  refine ⟨fun pins s σ H R I h => Call_ (ld_blt I hg hm boot_enumerate (PyProof.Rows.callWith_type1 (thn (ha.run pos pins s σ H _ I h) fun us s1 ⟨vs, H1, I1, r1, a, xs, ex, q1⟩ => ?_) hs rfl))⟩
  subst ex
  cases r1 with
  | cons r rr =>
    cases rr
    cases r
    have own : ∀ b ∈ [s1.heap.objs.size + 1, s1.heap.objs.size], FpOk X pins H1 b := fun b hb => by
      have hle : s1.heap.objs.size ≤ b := by
        have e' : b = s1.heap.objs.size + 1 ∨ b = s1.heap.objs.size := by simpa using hb
        omega
      exact I1.fpOk hle (I1.hok.fresh hle)
    rcases q1 with ⟨hq, q⟩ | ⟨hq, q⟩
    · obtain ⟨its, rv, p', hz⟩ := I1.list hq
      exact call_enumerate_list p'.isList fun h' he hit hsz hk => wpAny_pyIter_enum he ⟨s1.heap.objs.size + 1, [s1.heap.objs.size + 1, s1.heap.objs.size], _, _, H1, rfl, I1.kept (t' := s1.toks) hk, turn_enum a (s1.heap.objs.size + 1) s1.heap.objs.size, ⟨⟨.none, he⟩, hit, Nat.succ_ne_self _⟩, own, q⟩
    · obtain ⟨its, rv, p', hz⟩ := I1.tuple hq
      have al : a < s1.heap.objs.size := by
        obtain ⟨o, e, _⟩ := p'
        exact Heap.lt_size e
      refine call_enumT (show s1.heap.IsTuple a its.toArray from p') fun h' he hit hk => wpAny_pyIter_enum he ⟨s1.heap.objs.size + 1, [s1.heap.objs.size + 1, s1.heap.objs.size], _, _, H1, rfl, I1.kept (t' := s1.toks) hk, turn_enumT a (s1.heap.objs.size + 1) s1.heap.objs.size, ⟨⟨.none, he⟩, hit, Nat.succ_ne_self _, Nat.ne_of_lt al, Nat.ne_of_gt (Nat.lt_succ_of_lt al)⟩, own, q⟩
section
variable {K : PySem.W.Frag} {w : World} {nm : Nm} {a : Addr} {xs : List V} {vs : List GV}
theorem enm_at {i : Nat} {g : GV} (e : (enmL vs)[i]? = some g) : ∃ v, vs[i]? = some v ∧ g = .tup [.int (i : Nat), v] := by
  unfold enmL at e
  rw [List.getElem?_map] at e
  cases q : ((List.range vs.length).zip vs)[i]? with
  | none => rw [q] at e; cases e
  | some p =>
    rw [q] at e
    cases e
    obtain ⟨h1, h2⟩ := List.getElem?_zip_eq_some.mp q
    have h3 := (List.getElem?_eq_some_iff.mp h1).2
    rw [List.getElem_range] at h3
    exact ⟨p.2, h2, by rw [h3]⟩
theorem enm_len : (enmL vs).length = vs.length := by
  unfold enmL
  rw [List.length_map, List.length_zip, List.length_range, Nat.min_self]
theorem pair_in {μ : List Addr} {h : GH} {H : Hp} {T : Addr} {i : Nat} {v : GV} {x : V} (m : MHeap K w nm μ h H) (hT : H T = none) (r : VM K μ H v x) : Grow μ H μ (upd H T (.tup [.int (i : Nat), x])) ∧ MHeap K w nm μ h (upd H T (.tup [.int (i : Nat), x])) ∧ VM K μ (upd H T (.tup [.int (i : Nat), x])) (.tup [.int (i : Nat), v]) (.ref T) := by
  have g := Grow.side (ho := .tup [.int (i : Nat), x]) m hT
  exact ⟨g, MHeap.side m hT, .tup (SqT.of upd_same) (.cons (.int _) (.cons (r.grow m g) .nil))⟩
theorem wk_enmT (xs : List V) : Wk K w nm (IteT K a) (fun μ H => SqT K H a xs ∧ VMs K μ H vs xs) (enmL vs) none where
  keep := fun m g ⟨q, t⟩ => ⟨sqT_grow m g q, t.grow m g⟩
  go := fun {i v μ h H} e m _ ⟨q, t⟩ => by
    obtain ⟨u, e1, rfl⟩ := enm_at e
    obtain ⟨x, h1, r⟩ := t.get e1
    refine ⟨⟨xs, x, q, h1⟩, fun y H' ⟨T, x', e2, e3, e4, e5⟩ => ?_⟩
    subst e2 e4
    have := e5 xs q
    rw [h1] at this
    cases this
    exact pair_in m e3 r
  stop := fun m _ ⟨q, t⟩ => ⟨xs, q, by rw [enm_len, t.length]; exact Nat.le_refl _⟩
theorem wk_enmF (xs : List V) : Wk K w nm (Ite K a) (fun μ H => Frl K H a xs ∧ VMs K μ H vs xs) (enmL vs) none where
  keep := fun m g ⟨q, t⟩ => ⟨frl_grow m g q, t.grow m g⟩
  go := fun {i v μ h H} e m _ ⟨q, t⟩ => by
    obtain ⟨u, e1, rfl⟩ := enm_at e
    obtain ⟨x, h1, r⟩ := t.get e1
    refine ⟨⟨xs, x, q.sql, h1⟩, fun y H' ⟨T, x', e2, e3, e4, e5⟩ => ?_⟩
    subst e2 e4
    have := e5 xs q.sql
    rw [h1] at this
    cases this
    exact pair_in m e3 r
  stop := fun m _ ⟨q, t⟩ => ⟨xs, q.sql, by rw [enm_len, t.length]; exact Nat.le_refl _⟩
theorem wk_enmL (n : Nat) : Wk K w nm (Ite K a) (fun μ H => μ[n]? = some a) (enmL vs) (some (n, vs)) where
  keep := fun m g q => pre_get g.pre q
  go := fun {i v μ h H} e m c q => by
    obtain ⟨xs, q1, t⟩ := m.obj _ _ _ q (chk_at c)
    obtain ⟨u, e1, rfl⟩ := enm_at e
    obtain ⟨x, h1, r⟩ := t.get e1
    refine ⟨⟨xs, x, SqL.of q1, h1⟩, fun y H' ⟨T, x', e2, e3, e4, e5⟩ => ?_⟩
    subst e2 e4
    have := e5 xs (SqL.of q1)
    rw [h1] at this
    cases this
    exact pair_in m e3 r
  stop := fun {μ h H} m c q => by
    obtain ⟨xs, q1, t⟩ := m.obj _ _ _ q (chk_at c)
    exact ⟨xs, SqL.of q1, by rw [enm_len, t.length]; exact Nat.le_refl _⟩
end
def isTupE : Expr → Bool
  | .Tuple _ _ _ => true
  | _ => false
theorem sndI_enm {C : Cc} {tg a : Expr} {ia : Ex} {p pos : Pos} (htg : isTupE tg = true) (hg : glB C "enumerate" = true) (hs : notStar a = true) (sa : SndE C a ia) : SndI C tg (.Call (.Name "enumerate" p) [a] [] pos) (.enm ia) := fun G d E X k => by
  cases tg <;> first | (cases htg; done) | skip
  rename_i elts kk tpos
  refine PI.weak (pi_enm (gl_of k hg) (k.blt _ (by decide)) (pa_1 (sa G d E X k) hs) (star_of hs [] X.env)) fun σ H R ⟨env, h, μ, me, m, o⟩ => ?_
  rw [evI] at o
  refine ⟨env, h, μ, me, m, Out.bindM o fun μ1 H1 h1 v x g1 m1 r1 o1 => ?_⟩
  split at o1
  · rename_i xs e
    unfold seqT at e
    split at e
    · cases e
      cases r1 with
      | tup q t => exact ⟨_, _, rfl, .inr ⟨q, o1.pure m1 ⟨_, ⟨q, t⟩, wk_enmT _, fun _ => dl_tup⟩⟩⟩
    · cases e
      cases r1 with
      | frl q t => exact ⟨_, _, rfl, .inl ⟨q.sql, o1.pure m1 ⟨_, ⟨q, t⟩, wk_enmF _, fun _ => dl_frl⟩⟩⟩
    · split at e
      · rename_i n _ ys e1
        cases e
        cases r1 with
        | ref q =>
          obtain ⟨zs, z1, z2⟩ := m1.obj _ _ _ q e1
          exact ⟨_, _, rfl, .inl ⟨SqL.of z1, o1.pure m1 ⟨_, q, wk_enmL n, fun _ _ _ _ _ _ _ _ z => z⟩⟩⟩
      · cases e
    · cases e
  · exact o1.elim
end Pv
end Pv_WE
section Pv_WF
set_option Elab.async false
set_option linter.all false
set_option maxRecDepth 100000
set_option maxHeartbeats 2000000
/-! itertools.permutations over a range -/
namespace Pv
open PySem PySem.Spec PyProof.Rows
open L2
open GV

theorem mro_prm : mroOf (.type "itertools.permutations") = pure [.type "itertools.permutations", .type "object"] := by rw [mroOf_type]; kernel_rfl
theorem look_prm_new : typeLookup (.type "itertools.permutations") "__new__" = pure (some (.builtin "itertools.permutations.__new__")) := by rw [typeLookup_type, builtinLookup_eq_fast]; kernel_rfl
theorem sub_prm : isSubtype (.type "itertools.permutations") (.type "itertools.permutations") = pure true := by rw [isSubtype_type]; kernel_rfl
theorem slot_prm_init : Slot "itertools.permutations" "__init__" "object.__init__" :=
  .of (owner := "object") (n := "__init__") (by rw [typeLookup_type, builtinLookup_eq_fast]; kernel_rfl) (by decide +kernel) (by decide +kernel) (by decide +kernel) (by first | exact .inl (by decide +kernel) | exact .inr (by decide +kernel)) (by rw [isSubtype_type]; kernel_rfl)
theorem called_prm : TypeCalled "itertools.permutations" "itertools.permutations.__new__" "object.__init__" :=
  ⟨by decide +kernel, by decide +kernel, ⟨_, _, mro_prm⟩, madeBy_type mro_prm look_prm_new (by decide +kernel), by decide +kernel, sub_prm, slot_prm_init⟩
theorem typeCall_prm (a : Value) : checkTypeCall "itertools.permutations" ⟨[a], []⟩ = pure () := by kernel_rfl
theorem newCall_prm (a : Value) : checkBuiltinCall "itertools.permutations.__new__" ⟨[.type "itertools.permutations", a], []⟩ = pure () := by kernel_rfl
theorem entry_prm_new : entryFor table "itertools.permutations.__new__" = some Builtin.«itertools.permutations.__new__» := entryFor_of_tree (by kernel_rfl)
theorem slot_prm_iter : Slot "itertools.permutations" "__iter__" "itertools.permutations.__iter__" :=
  .of (owner := "itertools.permutations") (n := "__iter__") (by rw [typeLookup_type, builtinLookup_eq_fast]; kernel_rfl) (by decide +kernel) (by decide +kernel) (by decide +kernel) (by first | exact .inl (by decide +kernel) | exact .inr (by decide +kernel)) sub_prm
theorem slot_prm_next : Slot "itertools.permutations" "__next__" "itertools.permutations.__next__" :=
  .of (owner := "itertools.permutations") (n := "__next__") (by rw [typeLookup_type, builtinLookup_eq_fast]; kernel_rfl) (by decide +kernel) (by decide +kernel) (by decide +kernel) (by first | exact .inl (by decide +kernel) | exact .inr (by decide +kernel)) sub_prm
theorem entry_prm_iter : entryFor table "itertools.permutations.__iter__" = some Builtin.«dict_keyiterator.__iter__» :=
  entryFor_alias (id' := "dict_keyiterator.__iter__") (by kernel_rfl) (by first | rfl | decide +kernel | (unfold String.splitOn; simp +decide [String.splitOnAux])) (by decide +kernel) (by kernel_rfl)
theorem entry_prm_next : entryFor table "itertools.permutations.__next__" = some Builtin.«itertools.permutations.__next__» := entryFor_of_tree (by kernel_rfl)
def rvP : List Char := "itertools.permutations".toList.reverse
theorem owner_prm : Manifest.owners.lookup (String.ofList rvP.reverse) = some Manifest.sig_itertools_permutations := by kernel_rfl
theorem args_prm_iter (a : Value) : argsOk "itertools.permutations.__iter__" ⟨[a], []⟩ := by
  unfold argsOk; rw [signature?_of (id := "itertools.permutations.__iter__") (n := ['_', '_', 'r', 'e', 't', 'i', '_', '_']) (o := rvP) (by kernel_rfl) owner_prm]; kernel_rfl
theorem args_prm_next (a : Value) : argsOk "itertools.permutations.__next__" ⟨[a], []⟩ := by
  unfold argsOk; rw [signature?_of (id := "itertools.permutations.__next__") (n := ['_', '_', 't', 'x', 'e', 'n', '_', '_']) (o := rvP) (by kernel_rfl) owner_prm]; kernel_rfl
theorem noDict_prm : typeHasDict (.type "itertools.permutations") = false := by decide +kernel
end Pv
end Pv_WF
section Pv_WG
set_option Elab.async false
set_option linter.all false
set_option maxRecDepth 100000
set_option maxHeartbeats 2000000
namespace Pv
open PySem PySem.Spec PyProof.Rows
open L2
open GV

theorem cls_prm {prog : Program} {w : World} {A : Around} {E : Value → Shared → Prop} {s : Shared} {x : Value} {Q : Value × List Value → Shared → Prop} (h : Q (.type "itertools.permutations", [x]) s) : wpAny (model prog w) A (Builtin.Itertools.itClassAndRest "permutations" ⟨[.type "itertools.permutations", x], []⟩) Q E s := by
  have e : ("itertools." ++ "permutations" : String) = "itertools.permutations" := by decide
  have hsub := sub_prm
  unfold Builtin.Itertools.itClassAndRest
  dsimp only
  simp only [e]
  repeat (first
    | wp_step
    | simp only [List.head?_cons, Option.some_or, List.getElem?_cons_succ, List.getElem?_cons_zero, List.length_cons, List.length_nil, List.forIn_nil])
  all_goals first | exact h | skip
theorem bind_prm (x : Value) : Builtin.Itertools.itBindNamed "permutations" ["iterable", "r"] 1 2 [x] [] = pure [some x, none] := by rfl
theorem plain_prm_new : plainId "itertools.permutations.__new__" = true := by decide +kernel
/-- a permutations object: its pool, how it stands (0 new, 1 under way, 2 at its end), what it gave last, its numbers -/
abbrev prmO (P : Addr) (st : Int) (n : Nat) (last : Value) (nums : List Nat) : Obj := { cls := .type "itertools.permutations", dict := none, data := .fields (#[.ref P, rawInt st, rawInt n, last] ++ (nums.map fun (k : Nat) => rawInt k).toArray), slots := #[] }
section
variable {prog : Program} {w : World} {A : Around} {E : Value → Shared → Prop} {s : Shared} {r : Addr} {n : Nat} {t u v : Tok}
theorem code_prm_new {Q₁ : Value → Shared → Prop} (hh : A.handled = none) (hr : IsRange s.heap r 0 (n : Nat) 1 t u v) (hn : n ≤ 1000)
    (h : ∀ (h' : Heap) (tk : Nat) (acc : Array Value), (∀ b o, s.heap.get? b = some o → h'.get? b = some o) → ItemsOf (fun i v => ∃ t, v = .int (0 + i * 1) t) acc n →
      Q₁ (.ref (h'.objs.size + 1)) { s with heap := (h'.push { cls := .type "tuple", data := .seq acc }).push (prmO h'.objs.size 0 n .none (nums0 n)), toks := tk }) :
    codeAny (model prog w) A (.call (.builtin "itertools.permutations.__new__") ⟨[.type "itertools.permutations", .ref r], []⟩) (wants Q₁ E) s := by
  refine codeAny_of_tree ?_
  show wpAny _ A.in1 (do checkBuiltinCall "itertools.permutations.__new__" ⟨[.type "itertools.permutations", .ref r], []⟩; again (.builtin "itertools.permutations.__new__" ⟨[.type "itertools.permutations", .ref r], []⟩)) _ _ s
  refine wpAny_bind (wpAny_of_eq (newCall_prm _) (wpAny_pure ⟨plainId_quiet plain_prm_new _, codeAny_builtin entry_prm_new ?_⟩))
  rw [Around.under_plainId plain_prm_new _]
  have hsub := sub_prm
  have hd := noDict_prm
  have hh1 : A.in1.handled = none := hh
  have hsmall : Builtin.Range.small 0 (n : Nat) 1 = true := small_one (by omega) (by omega) (by omega) (by omega)
  have hsz : Builtin.Range.rangeSize 0 (n : Nat) 1 = n := by rw [rangeSize_one]; split <;> omega
  unfold Builtin.«itertools.permutations.__new__»
  refine wpAny_bind (cls_prm ?_)
  dsimp only
  refine wpAny_bind (wpAny_of_eq (bind_prm _) ?_)
  dsimp only
  refine wpAny_bind (collect_range (A := A.in1) hh1 hr hsmall hsz (by omega) fun h' tk acc hk hacc => ?_)
  have hl : acc.toList.length = n := by rw [Array.length_toList]; exact hacc.1
  simp only [Option.getD_none, pure_bind]
  have few : Builtin.Itertools.itTooMany (n : Nat) = false := by
    unfold Builtin.Itertools.itTooMany
    exact decide_eq_false (by omega)
  rw [hl, few, if_neg (show ¬ ((n : Nat) : Int) < 0 by omega), if_neg Bool.false_ne_true]
  have fit : acc.toList.length ≤ sizeLine := by rw [hl, sizeLine_eq]; omega
  refine wpAny_bind (wpAny_newTuple ?_ fit)
  have e1 : ((n : Nat) : Int).toNat = n := Int.toNat_natCast n
  rw [e1, if_neg (Nat.lt_irrefl n)]
  unfold Builtin.Itertools.itNewRecord
  rw [hd]
  have ez : (h'.push { cls := .type "tuple", data := .seq acc.toList.toArray }).objs.size = h'.objs.size + 1 := Heap.size_push ..
  have efs : ([Value.ref h'.objs.size, rawInt 0, rawInt (n : Nat), Value.none] ++ (List.range n).map (fun i => rawInt (i : Nat)) ++ (List.range n).map fun i => rawInt ((n : Nat) - (i : Nat))).toArray = #[.ref h'.objs.size, rawInt 0, rawInt (n : Nat), .none] ++ ((nums0 n).map fun (k : Nat) => rawInt k).toArray := by
    have em : ((List.range n).map fun i => rawInt ((n : Nat) - (i : Nat))) = ((List.range n).map fun i => n - i).map fun (k : Nat) => rawInt k := by
      rw [List.map_map]
      refine List.map_congr_left fun i hi => ?_
      have := List.mem_range.mp hi
      show rawInt ((n : Nat) - (i : Nat) : Int) = rawInt ((n - i : Nat) : Int)
      rw [show ((n : Nat) : Int) - (i : Nat) = ((n - i : Nat) : Int) from by omega]
    rw [em]
    unfold nums0
    rw [List.map_append]
    apply Array.toList_inj.mp
    simp
  rw [if_pos (show (!false) = true from rfl)]
  rw [efs]
  have ea : acc.toList.toArray = acc := by simp
  have q := h h' tk acc hk hacc
  rw [ea] at ez ⊢
  repeat wp_step
  have small : ¬ (#[Value.ref h'.objs.size, rawInt 0, rawInt (n : Nat), Value.none] ++ ((nums0 n).map fun (k : Nat) => rawInt k).toArray).size > sizeLine + 2 := by
    unfold nums0
    rw [sizeLine_eq]
    simp
    omega
  rw [if_neg small]
  refine wpAny_newObjAsIs_type ?_
  refine wpAny_pure ?_
  show Q₁ _ _
  rw [ez]
  exact q
end
end Pv
end Pv_WG
section Pv_WH
set_option Elab.async false
set_option linter.all false
set_option maxRecDepth 100000
set_option maxHeartbeats 2000000
namespace Pv
open PySem PySem.Spec PyProof.Rows
open L2
open GV

theorem np_eq {f : Nat → Nat → List Nat → List Nat → Option (List Nat × List Nat)} (h0 : ∀ n a b, f n 0 a b = none)
    (h1 : ∀ n i ind cyc, f n (i + 1) ind cyc = (let c := cyc.getD i 0 - 1; if c == 0 then f n i (ind.take i ++ ind.drop (i + 1) ++ [ind.getD i 0]) (cyc.set i (n - i)) else some ((ind.set i (ind.getD (n - c) 0)).set (n - c) (ind.getD i 0), cyc.set i c))) :
    ∀ n p ind cyc, f n p ind cyc = nxP n p ind cyc
  | n, 0, ind, cyc => h0 n ind cyc
  | n, i + 1, ind, cyc => by
    rw [h1, nxP]
    dsimp only
    split
    · exact np_eq h0 h1 n i _ _
    · rfl
theorem fld1 (P : Addr) (st st' : Int) (n : Nat) (last : Value) (nums : List Nat) : (prmO P st n last nums).mapFields (fun x => x.setIfInBounds 1 (rawInt st')) = prmO P st' n last nums := by
  show Obj.mk _ _ (Data.fields _) _ = _
  congr 2
  apply Array.toList_inj.mp
  simp
theorem fld3 (P : Addr) (st : Int) (n : Nat) (last last' : Value) (nums : List Nat) : (prmO P st n last nums).mapFields (fun x => x.setIfInBounds 3 last') = prmO P st n last' nums := by
  show Obj.mk _ _ (Data.fields _) _ = _
  congr 2
  apply Array.toList_inj.mp
  simp
theorem fldN (P : Addr) (st : Int) (n : Nat) (last : Value) (nums nums' : List Nat) : (prmO P st n last nums).mapFields (fun fs => fs.extract 0 4 ++ (nums'.map fun (k : Nat) => rawInt k).toArray) = prmO P st n last nums' := by
  show Obj.mk _ _ (Data.fields _) _ = _
  congr 2
  apply Array.toList_inj.mp
  simp
abbrev prmF (P : Addr) (st : Int) (n : Nat) (last : Value) (nums : List Nat) : Array Value := #[.ref P, rawInt st, rawInt n, last] ++ (nums.map fun (k : Nat) => rawInt k).toArray
theorem get0 {P : Addr} {st : Int} {n : Nat} {last : Value} {nums : List Nat} : (prmF P st n last nums)[0]? = some (.ref P) ∧ (prmF P st n last nums)[1]? = some (rawInt st) ∧ (prmF P st n last nums)[2]? = some (rawInt n) ∧ (prmF P st n last nums)[3]? = some last := by
  refine ⟨?_, ?_, ?_, ?_⟩ <;> simp [prmF]
theorem get_size {P : Addr} {st : Int} {n : Nat} {last : Value} {nums : List Nat} : 4 ≤ (prmF P st n last nums).size := by
  simp [prmF]
theorem nums_of {P : Addr} {st : Int} {n : Nat} {last : Value} {nums : List Nat} : ((prmF P st n last nums).toList.drop 4).map (fun | .int n _ => n.toNat | _ => 0) = nums := by
  have e : (prmF P st n last nums).toList.drop 4 = nums.map fun (k : Nat) => rawInt k := by simp [prmF]
  rw [e, List.map_map]
  conv => rhs; rw [← List.map_id nums]
  exact List.map_congr_left fun k _ => Int.toNat_natCast k
section
variable {prog : Program} {w : World} {A : Around} {E : Value → Shared → Prop} {s : Shared}
theorem int_fld {e : Addr} {o : Obj} {fs : Array Value} {i : Nat} {k : Int} {Q : Int → Shared → Prop} (he : s.heap.get? e = some o) (hd : o.data = .fields fs) (hx : fs[i]? = some (rawInt k)) (h : Q k s) : wpAny (model prog w) A (Builtin.Itertools.itIntField (.ref e) i) Q E s := by
  unfold Builtin.Itertools.itIntField
  exact wpAny_bind (wpAny_field he hd hx (wpAny_pure h))
theorem num_fld {e P : Addr} {st : Int} {n : Nat} {last : Value} {nums : List Nat} {Q : List Nat → Shared → Prop} (he : s.heap.get? e = some (prmO P st n last nums)) (h : Q nums s) : wpAny (model prog w) A (Builtin.Itertools.itNumbersFrom (.ref e) 4) Q E s := by
  unfold Builtin.Itertools.itNumbersFrom
  refine wpAny_bind (wpAny_load he ?_)
  show wpAny _ _ (pure (((prmF P st n last nums).toList.drop 4).map fun | .int n _ => n.toNat | _ => 0)) _ _ _
  rw [nums_of]
  exact wpAny_pure h
theorem call_prm {r : Addr} {n : Nat} {t u v : Tok} {Q : Value → Shared → Prop} (hh : A.handled = none) (hr : IsRange s.heap r 0 (n : Nat) 1 t u v) (hn : n ≤ 1000)
    (h : ∀ (h' : Heap) (tk : Nat) (acc : Array Value), (∀ b o, s.heap.get? b = some o → h'.get? b = some o) → ItemsOf (fun i v => ∃ t, v = .int (0 + i * 1) t) acc n →
      Q (.ref (h'.objs.size + 1)) { s with heap := (h'.push { cls := .type "tuple", data := .seq acc }).push (prmO h'.objs.size 0 n .none (nums0 n)), toks := tk }) :
    wpAny (model prog w) A (call (.type "itertools.permutations") [.ref r]) Q E s := by
  refine callType_codes (Q₁ := fun obj s₁ => s₁.TypeIs obj "itertools.permutations" ∧ Q obj s₁) called_prm (typeCall_prm _) F.entry_object_init
    (code_prm_new (A := A.in1) hh hr hn fun h' tk acc hk hacc => ⟨?_, h h' tk acc hk hacc⟩) fun obj s₁ h₁ => ?_
  · have z := Heap.get?_push_size (h'.push { cls := .type "tuple", data := .seq acc }) (o := prmO h'.objs.size 0 n .none (nums0 n)) rfl
    rw [Heap.size_push] at z
    exact ⟨_, z, rfl⟩
  · exact ⟨h₁.1, F.args_object_init_2 obj _, object_init_meets called_prm.init.lookup called_prm.made (by decide) prog w A.in1 _ s₁ ⟨h₁.1, rfl, h₁.2⟩⟩
theorem iter_prm {e P : Addr} {st : Int} {n : Nat} {last : Value} {nums : List Nat} {Q : Value → Shared → Prop} (he : s.heap.get? e = some (prmO P st n last nums)) (h : Q (.ref e) s) : wpAny (model prog w) A (pyIter (.ref e)) Q E s := by
  have hT : s.TypeIs (.ref e) "itertools.permutations" := ⟨_, he, rfl⟩
  refine wpAny_pyIter_slot hT slot_prm_iter (wpAny_call_entry slot_prm_iter hT entry_prm_iter ?_ (args_prm_iter _))
  show wpAny _ _ (ret (.ref e)) _ _ s
  exact wpAny_pure ⟨_, rfl, "itertools.permutations", _, hT, slot_prm_next.lookup, h⟩
/-- a tuple of the items at these places is made and kept -/
theorem give_prm {e P : Addr} {st : Int} {n : Nat} {last : Value} {nums ind : List Nat} {its : Array Value} {Q : PySem.Fin → Shared → Prop} (he : s.heap.get? e = some (prmO P st n last nums)) (hz : n ≤ 1000)
    (hQ : ∀ h', (∀ b o, b ≠ e → s.heap.get? b = some o → h'.get? b = some o) → h'.get? e = some (prmO P st n (.ref s.heap.objs.size) nums) → h'.get? s.heap.objs.size = some { cls := .type "tuple", data := .seq ((ind.take n).map fun i => its.getD i .none).toArray } → Q (.done (.ret (.ref s.heap.objs.size))) { s with heap := h' }) :
    wpAny (model prog w) A (do
      let t ← newTuple ((ind.take (Int.toNat n)).map fun i => its.getD i .none)
      let before ← field (.ref e) 3
      setField (.ref e) 3 t
      letGo [before] [t]
      ret t) Q E s := by
  rw [Int.toNat_natCast]
  refine wpAny_bind (wpAny_newTuple ?_ (by rw [List.length_map, List.length_take, sizeLine_eq]; omega))
  have he1 : (s.heap.push { cls := .type "tuple", data := .seq ((ind.take n).map fun i => its.getD i .none).toArray }).get? e = some (prmO P st n last nums) := Heap.get?_push_of_some _ he
  refine wpAny_bind (wpAny_field he1 rfl (x := last) get0.2.2.2 (wpAny_bind (wpAny_setField he1 rfl (Nat.lt_of_lt_of_le (by decide : 3 < 4) get_size) (wpAny_bind (wpAny_letGo (wpAny_pure ?_))))))
  have el := Heap.lt_size he
  have ne : s.heap.objs.size ≠ e := Nat.ne_of_gt el
  refine hQ _ (fun b o hb q => ?_) ?_ ?_
  · rw [Heap.get?_update_ne _ _ _ _ hb]
    exact Heap.get?_push_of_some _ q
  · have := Heap.get?_update_self (Obj.mapFields fun x => x.setIfInBounds 3 (.ref s.heap.objs.size)) he1 rfl
    rw [fld3] at this
    exact this
  · rw [Heap.get?_update_ne _ _ _ _ ne]
    exact Heap.get?_push_size _ rfl
theorem next_prm0 {e P : Addr} {n : Nat} {last : Value} {nums : List Nat} {its : Array Value} {Q : Option Value → Shared → Prop} (he : s.heap.get? e = some (prmO P 0 n last nums)) (hP : s.heap.IsTuple P its) (hz : n ≤ 1000)
    (hQ : ∀ h', (∀ b o, b ≠ e → s.heap.get? b = some o → h'.get? b = some o) → h'.get? e = some (prmO P 1 n (.ref s.heap.objs.size) nums) → h'.get? s.heap.objs.size = some { cls := .type "tuple", data := .seq ((nums.take n).map fun i => its.getD i .none).toArray } → Q (some (.ref s.heap.objs.size)) { s with heap := h' }) :
    wpAny (model prog w) A (pyNext (.ref e)) Q E s := by
  have hT : s.TypeIs (.ref e) "itertools.permutations" := ⟨_, he, rfl⟩
  obtain ⟨oP, ePo, _, nP, dP⟩ := hP
  unfold pyNext
  refine wpAny_bind (wpAny_attempt (wpAny_callSpecial?_slot (name := Str.ofString "__next__") hT slot_prm_next (wpAny_call_entry slot_prm_next hT entry_prm_next ?_ (args_prm_next _))))
  show wpAny _ _ (field (.ref e) 0 >>= _) _ _ s
  refine wpAny_bind (wpAny_field he rfl (x := .ref P) get0.1 ?_)
  unfold Builtin.Itertools.itPoolItems
  refine wpAny_bind (wpAny_bind (wpAny_seqItems ePo dP (wpAny_pure ?_)))
  dsimp only
  refine wpAny_bind (int_fld he rfl get0.2.2.1 (wpAny_bind (num_fld he (wpAny_bind (int_fld he rfl get0.2.1 ?_)))))
  refine wpAny_bind (wpAny_setField he rfl (Nat.lt_of_lt_of_le (by decide : 1 < 4) get_size) ?_)
  have he1 : (s.heap.update e (Obj.mapFields fun x => x.setIfInBounds 1 (rawInt 1))).get? e = some (prmO P 1 n last nums) := by
    have := Heap.get?_update_self (Obj.mapFields fun x => x.setIfInBounds 1 (rawInt 1)) he rfl
    rw [fld1] at this
    exact this
  refine give_prm (s := { s with heap := s.heap.update e (Obj.mapFields fun x => x.setIfInBounds 1 (rawInt 1)) }) (ind := nums) (its := its) he1 hz fun h' k1 k2 k3 => ⟨_, rfl, wpAny_pure ?_⟩
  have ez : (s.heap.update e (Obj.mapFields fun x => x.setIfInBounds 1 (rawInt 1))).objs.size = s.heap.objs.size := Heap.size_update ..
  rw [ez] at k2 k3 ⊢
  exact hQ h' (fun b o hb q => k1 b o hb (by rw [Heap.get?_update_ne _ _ _ _ hb]; exact q)) k2 k3
theorem next_prm1 {e P : Addr} {n : Nat} {last : Value} {nums : List Nat} {its : Array Value} {Q : Option Value → Shared → Prop} (he : s.heap.get? e = some (prmO P 1 n last nums)) (hP : s.heap.IsTuple P its) (hsz : its.size = n) (hz : n ≤ 1000) {ind cyc : List Nat} (nx : nxP n n (nums.take n) (nums.drop n) = some (ind, cyc)) (hll : (ind ++ cyc).length ≤ 2000)
    (hQ : ∀ h', (∀ b o, b ≠ e → s.heap.get? b = some o → h'.get? b = some o) → h'.get? e = some (prmO P 1 n (.ref s.heap.objs.size) (ind ++ cyc)) → h'.get? s.heap.objs.size = some { cls := .type "tuple", data := .seq ((ind.take n).map fun i => its.getD i .none).toArray } → Q (some (.ref s.heap.objs.size)) { s with heap := h' }) :
    wpAny (model prog w) A (pyNext (.ref e)) Q E s := by
  have hT : s.TypeIs (.ref e) "itertools.permutations" := ⟨_, he, rfl⟩
  obtain ⟨oP, ePo, _, nP, dP⟩ := hP
  unfold pyNext
  refine wpAny_bind (wpAny_attempt (wpAny_callSpecial?_slot (name := Str.ofString "__next__") hT slot_prm_next (wpAny_call_entry slot_prm_next hT entry_prm_next ?_ (args_prm_next _))))
  show wpAny _ _ (field (.ref e) 0 >>= _) _ _ s
  refine wpAny_bind (wpAny_field he rfl (x := .ref P) get0.1 ?_)
  unfold Builtin.Itertools.itPoolItems
  refine wpAny_bind (wpAny_bind (wpAny_seqItems ePo dP (wpAny_pure ?_)))
  dsimp only
  refine wpAny_bind (int_fld he rfl get0.2.2.1 (wpAny_bind (num_fld he (wpAny_bind (int_fld he rfl get0.2.1 ?_)))))
  split
  · rename_i q
    exact absurd q (by decide)
  · split
    · rename_i i2 c2 q
      have q2 := (np_eq (fun _ _ _ => rfl) (fun _ _ _ _ => rfl) _ _ _ _).symm.trans q
      have e1 : ((n : Nat) : Int).toNat = n := Int.toNat_natCast n
      rw [e1, hsz, nx] at q2
      cases q2
      unfold Builtin.Itertools.itSetNumbersFrom
      refine wpAny_bind (wpAny_updateFields he rfl ?_ ?_)
      · have he1 : (s.heap.update e (Obj.mapFields fun fs => fs.extract 0 4 ++ ((ind ++ cyc).map fun (k : Nat) => rawInt k).toArray)).get? e = some (prmO P 1 n last (ind ++ cyc)) := by
          have := Heap.get?_update_self (Obj.mapFields fun fs => fs.extract 0 4 ++ ((ind ++ cyc).map fun (k : Nat) => rawInt k).toArray) he rfl
          rw [fldN] at this
          exact this
        refine give_prm (s := { s with heap := s.heap.update e (Obj.mapFields fun fs => fs.extract 0 4 ++ ((ind ++ cyc).map fun (k : Nat) => rawInt k).toArray) }) (ind := ind) (its := its) he1 hz fun h' k1 k2 k3 => ⟨_, rfl, wpAny_pure ?_⟩
        have ez : (s.heap.update e (Obj.mapFields fun fs => fs.extract 0 4 ++ ((ind ++ cyc).map fun (k : Nat) => rawInt k).toArray)).objs.size = s.heap.objs.size := Heap.size_update ..
        rw [ez] at k2 k3 ⊢
        exact hQ h' (fun b o hb q => k1 b o hb (by rw [Heap.get?_update_ne _ _ _ _ hb]; exact q)) k2 k3
      · have z1 : ((prmF P 1 n last nums).extract 0 4).size ≤ 4 := by rw [Array.size_extract]; omega
        have z2 : ((ind ++ cyc).map fun (k : Nat) => rawInt k).toArray.size = (ind ++ cyc).length := by simp
        rw [Array.size_append, z2, sizeLine_eq]
        exact Nat.le_trans (Nat.add_le_add z1 hll) (by decide)
    · rename_i q
      have q2 := (np_eq (fun _ _ _ => rfl) (fun _ _ _ _ => rfl) _ _ _ _).symm.trans q
      have e1 : ((n : Nat) : Int).toNat = n := Int.toNat_natCast n
      rw [e1, hsz, nx] at q2
      cases q2
  · rename_i q1 q2
    exact absurd rfl q2
theorem next_prmE {e P : Addr} {n : Nat} {last : Value} {nums : List Nat} {its : Array Value} {Q : Option Value → Shared → Prop} (hh : A.handled = none) (he : s.heap.get? e = some (prmO P 1 n last nums)) (hP : s.heap.IsTuple P its) (hsz : its.size = n) (nx : nxP n n (nums.take n) (nums.drop n) = none)
    (hQ : ∀ h', Heap.ExtBut e s.heap h' → Q none { s with heap := h' }) : wpAny (model prog w) A (pyNext (.ref e)) Q E s := by
  have hT : s.TypeIs (.ref e) "itertools.permutations" := ⟨_, he, rfl⟩
  obtain ⟨oP, ePo, _, nP, dP⟩ := hP
  unfold pyNext
  refine wpAny_bind (wpAny_attempt (wpAny_callSpecial?_slot (name := Str.ofString "__next__") hT slot_prm_next (wpAny_call_entry slot_prm_next hT entry_prm_next ?_ (args_prm_next _))))
  show wpAny _ _ (field (.ref e) 0 >>= _) _ _ s
  refine wpAny_bind (wpAny_field he rfl (x := .ref P) get0.1 ?_)
  unfold Builtin.Itertools.itPoolItems
  refine wpAny_bind (wpAny_bind (wpAny_seqItems ePo dP (wpAny_pure ?_)))
  dsimp only
  refine wpAny_bind (int_fld he rfl get0.2.2.1 (wpAny_bind (num_fld he (wpAny_bind (int_fld he rfl get0.2.1 ?_)))))
  have e1 : ((n : Nat) : Int).toNat = n := Int.toNat_natCast n
  split
  · rename_i q
    exact absurd q (by decide)
  · split
    · rename_i i2 c2 q
      have q2 := (np_eq (fun _ _ _ => rfl) (fun _ _ _ _ => rfl) _ _ _ _).symm.trans q
      rw [e1, hsz, nx] at q2
      cases q2
    · refine wpAny_bind (wpAny_setField he rfl (Nat.lt_of_lt_of_le (by decide : 1 < 4) get_size) ?_)
      unfold Builtin.Itertools.itStop
      show wpAny _ _ (newExc (.type "StopIteration") [] >>= _) _ _ _
      refine wpAny_bind ?_
      simp only [newExc, newTuple]
      refine wpAny_bind (wpAny_newObj_type ?_ (by size_fits))
      refine wpAny_bind (m := firstArgMember _ _) (wpAny_of_eq (a := Value.none) (by first | rfl | (simp only [firstArgMember]; rfl)) ?_)
      refine wpAny_newObj_type ?_ (by size_fits)
      simp only [raiseNew]
      refine wpAny_bind (wpAny_handled ?_)
      first | rw [show A.in1.handled = none from hh] | rw [hh]
      refine wpAny_bind (wpAny_pure (wpAny_throw ?_))
      refine wpAny_bind (wpAny_isInstance (T := "StopIteration") (b := true) ⟨_, Heap.get?_push_size _ rfl, rfl⟩ isSubtype_stop (wpAny_pure (hQ _ (((Heap.SameBut.update ..).extBut.push _).push _))))
  · rename_i q1 q2
    exact absurd rfl q2
end
end Pv
end Pv_WH
section Pv_WI
set_option Elab.async false
set_option linter.all false
set_option maxRecDepth 100000
set_option maxHeartbeats 2000000
namespace Pv
open PySem PySem.Spec PyProof.Rows
open L2
open GV

/-- the orders follow one another -/
def chainP (n : Nat) : List (List Nat) → Bool
  | [] => false
  | [x] => (nxP n n (x.take n) (x.drop n)).isNone && decide (x.length ≤ 1000) && (x.take n).all fun k => decide (k < n)
  | x :: y :: r => decide (nxP n n (x.take n) (x.drop n) = some (y.take n, y.drop n)) && decide (x.length ≤ 1000) && ((x.take n).all fun k => decide (k < n)) && chainP n (y :: r)
theorem chainP_at {n : Nat} : ∀ {L : List (List Nat)} {i : Nat} {x : List Nat}, chainP n L = true → L[i]? = some x → x.length ≤ 1000 ∧ (∀ k ∈ x.take n, k < n) ∧ (∀ y, L[i + 1]? = some y → nxP n n (x.take n) (x.drop n) = some (y.take n, y.drop n)) ∧ (L[i + 1]? = none → nxP n n (x.take n) (x.drop n) = none)
  | [], _, _, h, _ => by cases h
  | [x0], i, x, h, e => by
    unfold chainP at h
    simp only [Bool.and_eq_true, decide_eq_true_eq, List.all_eq_true, Option.isNone_iff_eq_none] at h
    cases i with
    | zero =>
      cases e
      exact ⟨h.1.2, h.2, fun y z => by simp at z, fun _ => h.1.1⟩
    | succ i => simp at e
  | x0 :: y0 :: r, i, x, h, e => by
    unfold chainP at h
    simp only [Bool.and_eq_true, decide_eq_true_eq, List.all_eq_true] at h
    obtain ⟨⟨⟨h1, h2⟩, h3⟩, h4⟩ := h
    cases i with
    | zero =>
      cases e
      exact ⟨h2, h3, fun y z => by cases z; exact h1, fun z => by cases z⟩
    | succ i => exact chainP_at (L := y0 :: r) (i := i) h4 e
theorem chain_small : ∀ n : Nat, n ≤ 4 → chainP n (prmS n) = true ∧ (prmS n)[0]? = some (nums0 n)
  | 0, _ => ⟨by decide +kernel, by decide +kernel⟩
  | 1, _ => ⟨by decide +kernel, by decide +kernel⟩
  | 2, _ => ⟨by decide +kernel, by decide +kernel⟩
  | 3, _ => ⟨by decide +kernel, by decide +kernel⟩
  | 4, _ => ⟨by decide +kernel, by decide +kernel⟩
  | n + 5, h => by omega
/-- each order, as a new tuple -/
def Itp (n : Nat) (L : List (List Nat)) : It := ⟨fun i _ => i < L.length, fun i H x H' => ∃ T y, x = .ref T ∧ H T = none ∧ L[i]? = some y ∧ H' = upd H T (.tup ((y.take n).map fun (k : Nat) => V.int k)), fun i _ => L.length ≤ i⟩
theorem vals_prm {n : Nat} {its : Array Value} (h : ItemsOf (fun i v => ∃ t, v = .int (0 + i * 1) t) its n) : ∀ {ks : List Nat}, (∀ k ∈ ks, k < n) → Vals (ks.map fun (k : Nat) => V.int k) (ks.map fun i => its.getD i .none)
  | [], _ => .nil
  | k :: ks, hk => by
    refine .cons ?_ (vals_prm h fun j hj => hk j (List.mem_cons_of_mem _ hj))
    have hlt := hk k (List.mem_cons_self ..)
    have hl : k < its.size := by rw [h.1]; exact hlt
    obtain ⟨t, e⟩ := h.2 k its[k] (by simp [hl])
    have e2 : its.getD k .none = its[k] := by simp [Array.getD, hl]
    show RelV (V.int k) (its.getD k .none)
    rw [e2, e]
    exact ⟨t, by congr 1; omega⟩
theorem turn_prm {P : Program} {w : World} {K : PySem.W.Frag} {tg : Expr} {n : Nat} {L : List (List Nat)} {its : Array Value} {c : Nat} (e p : Addr) (hn : n ≤ 1000) (ch : chainP n L = true) (hits : ItemsOf (fun i v => ∃ t, v = .int (0 + i * 1) t) its n) :
    Turn P w K tg (Itp n L) [e, p] e (fun i h => p ≠ e ∧ h.get? p = some { cls := .type "tuple", data := .seq its } ∧ i ≤ L.length ∧ ((i = 0 ∧ ∃ x, L[0]? = some x ∧ h.get? e = some (prmO p 0 n .none x)) ∨ ∃ j x T, i = j + 1 ∧ L[j]? = some x ∧ h.get? e = some (prmO p 1 n (.ref T) x))) where
  mem := by simp
  obj := fun i h st b hb => by
    obtain ⟨ne, hp, _, q⟩ := st
    have hb : b = e ∨ b = p := by simpa using hb
    rcases hb with rfl | rfl
    · rcases q with ⟨_, x, _, q⟩ | ⟨j, x, T, _, _, q⟩
      · exact ⟨_, q, fun v z => nomatch z⟩
      · exact ⟨_, q, fun v z => nomatch z⟩
    · exact ⟨_, hp, fun v z => nomatch z⟩
  keep := fun i h h' st k => by
    obtain ⟨ne, hp, hi, q⟩ := st
    refine ⟨ne, k p (by simp) _ hp, hi, ?_⟩
    rcases q with ⟨z, x, q1, q⟩ | ⟨j, x, T, z, q1, q⟩
    · exact .inl ⟨z, x, q1, k e (by simp) _ q⟩
    · exact .inr ⟨j, x, T, z, q1, k e (by simp) _ q⟩
  item := by
    intro X hP hw hK hc i pins s σ H E I hf st hg
    subst hP hw hK
    obtain ⟨ne, hp, hi, q⟩ := st
    have hg : i < L.length := hg
    have tup : s.heap.IsTuple p its := ⟨_, hp, rfl, _, rfl⟩
    have go : ∀ (h' : Heap) (y : List Nat), L[i]? = some y → (∀ b o, b ≠ e → s.heap.get? b = some o → h'.get? b = some o) → h'.get? e = some (prmO p 1 n (.ref s.heap.objs.size) y) → h'.get? s.heap.objs.size = some { cls := .type "tuple", data := .seq ((y.take n).map fun i => its.getD i .none).toArray } →
        ∃ u, (some (Value.ref s.heap.objs.size) : Option Value) = some u ∧ wpAny (model X.prog X.w) X.A (letOwnedTupleGo tg (.ref e) u) (fun _ s2 => ∃ x H', Inv X pins σ H' s2 ∧ RelV x u ∧ (Itp n L).yld i H x H' ∧ (p ≠ e ∧ s2.heap.get? p = some { cls := .type "tuple", data := .seq its } ∧ i + 1 ≤ L.length ∧ ((i + 1 = 0 ∧ ∃ x, L[0]? = some x ∧ s2.heap.get? e = some (prmO p 0 n .none x)) ∨ ∃ j x T, i + 1 = j + 1 ∧ L[j]? = some x ∧ s2.heap.get? e = some (prmO p 1 n (.ref T) x))) ∧ ∀ b ∈ [e, p], H' b = none) E { s with heap := h' } := fun h' y hy k1 k2 k3 => by
      obtain ⟨c1, c2, _⟩ := chainP_at ch hy
      have el : e < s.heap.objs.size := by
        rcases q with ⟨_, x, _, q⟩ | ⟨j, x, T, _, _, q⟩ <;> exact Heap.lt_size q
      have pl : p < s.heap.objs.size := Heap.lt_size hp
      refine ⟨_, rfl, go_of (s := { s with heap := h' }) k2 rfl rfl (by decide) ⟨.ref s.heap.objs.size, upd H s.heap.objs.size (.tup ((y.take n).map fun (k : Nat) => V.int k)), ?_, rfl, ⟨_, y, rfl, I.hok.fresh (Nat.le_refl _), hy, rfl⟩, ⟨ne, k1 p _ ne hp, hg, .inr ⟨i, y, _, rfl, hy, k2⟩⟩, fun b hb => ?_⟩⟩
      · refine I.turnedNew (t' := s.toks) (ch := [e]) (fun b o hb z => k1 b o (fun q => hb (by simp [q])) z) (fun b hb => hf b (by simp at hb; simp [hb])) (Nat.le_refl _) ⟨?_, (y.take n).map fun i => its.getD i .none, vals_prm hits c2, ⟨_, k3, rfl, _, rfl⟩⟩
        show ((y.take n).map _).length ≤ sizeLine
        rw [List.length_map, List.length_take, sizeLine_eq]
        omega
      · have hb2 : b < s.heap.objs.size := by
          have e' : b = e ∨ b = p := by simpa using hb
          rcases e' with z | z
          · rw [z]; exact el
          · rw [z]; exact pl
        rw [upd_ne (Nat.ne_of_lt hb2)]
        exact (hf b hb).1
    rcases q with ⟨z, x, q1, qe⟩ | ⟨j, x, T, z, q1, qe⟩
    · subst z
      exact next_prm0 qe tup hn fun h' k1 k2 k3 => go h' x q1 k1 k2 k3
    · subst z
      obtain ⟨c1, c2, c3, c4⟩ := chainP_at ch q1
      have hy : L[j + 1]? = some L[j + 1] := List.getElem?_eq_getElem hg
      have nx := c3 _ hy
      obtain ⟨d1, d2, _⟩ := chainP_at ch hy
      have ey : (L[j + 1].take n) ++ (L[j + 1].drop n) = L[j + 1] := List.take_append_drop ..
      refine next_prm1 qe tup hits.1 hn nx (by rw [ey]; omega) fun h' k1 k2 k3 => ?_
      rw [ey] at k2
      rw [List.take_take, Nat.min_self] at k3
      exact go h' _ hy k1 k2 k3
  done := by
    intro X hP hw hK hc i pins s σ H E I hf st hg
    subst hP hw hK
    obtain ⟨ne, hp, hi, q⟩ := st
    have hg : L.length ≤ i := hg
    obtain ⟨f0, f1, f2, f3, f4, f5⟩ := hf e (by simp)
    rcases q with ⟨z, x, q1, qe⟩ | ⟨j, x, T, z, q1, qe⟩
    · subst z
      have := (List.getElem?_eq_some_iff.mp q1).1
      omega
    · subst z
      obtain ⟨c1, c2, c3, c4⟩ := chainP_at ch q1
      exact next_prmE (I.ok.hd hc) qe ⟨_, hp, rfl, _, rfl⟩ hits.1 (c4 (List.getElem?_eq_none (by omega))) fun h' eb => ⟨rfl, I.turned (t' := s.toks) (fun b o hb e => eb b o hb e) f0 f1 f3 f4 f5⟩
  self := fun A i s Q E st h => by
    obtain ⟨ne, hp, hi, q⟩ := st
    rcases q with ⟨_, x, _, qe⟩ | ⟨j, x, T, _, _, qe⟩
    · exact iter_prm qe h
    · exact iter_prm qe h
def iPrm (ta : TA) : TI := fun σ H R => ta σ H fun vs H1 => ∃ (r : Addr) (n : Nat), vs = [.ref r] ∧ H1 r = some (.rng 0 (n : Nat)) ∧ n ≤ 4 ∧ R (Itp n (prmS n)) H1
theorem pi_prm {X : Cx} {tg a : Expr} {ta : TA} {p pos : Pos} (hc : X.calm = true) (hg : Gl X "permutations") (hm : X.mg "permutations" = some (.type "itertools.permutations")) (ha : PA X [a] ta) (hs : starEach [a] X.env = [(false, eval a X.env)]) : PI X tg (.Call (.Name "permutations" p) [a] [] pos) (iPrm ta) := by
  refine ⟨fun pins s σ H R I h => Call_ (ld_glob I hg hm (PyProof.Rows.callWith_type1 (thn (ha.run pos pins s σ H _ I h) fun us s1 ⟨vs, H1, I1, r1, r, n, ex, hr, hn, q⟩ => ?_) hs rfl))⟩
  subst ex
  cases r1 with
  | cons ru rr =>
    cases rr
    cases ru
    obtain ⟨t1, t2, t3, hR⟩ := I1.hok r _ hr
    refine call_prm (I1.ok.hd hc) hR (by omega) fun h' tk acc hk hacc => ?_
    have I0 : Inv X pins σ H1 { s1 with heap := h' } := I1.kept (t' := s1.toks) hk
    generalize hh : (h'.push { cls := .type "tuple", data := .seq acc }).push (prmO h'.objs.size 0 n .none (nums0 n)) = h2
    have ez : (h'.push { cls := .type "tuple", data := .seq acc }).objs.size = h'.objs.size + 1 := Heap.size_push ..
    have g1 : h2.get? (h'.objs.size + 1) = some (prmO h'.objs.size 0 n .none (nums0 n)) := by
      have z := Heap.get?_push_size (h'.push { cls := .type "tuple", data := .seq acc }) (o := prmO h'.objs.size 0 n .none (nums0 n)) rfl
      rw [ez, hh] at z
      exact z
    have g2 : h2.get? h'.objs.size = some { cls := .type "tuple", data := .seq acc } := by
      rw [← hh]
      exact Heap.get?_push_of_some _ (Heap.get?_push_size _ rfl)
    obtain ⟨c1, c2⟩ := chain_small n hn
    have own : ∀ b ∈ [h'.objs.size + 1, h'.objs.size], FpOk X pins H1 b := fun b hb => by
      have hle : h'.objs.size ≤ b := by
        have e' : b = h'.objs.size + 1 ∨ b = h'.objs.size := by simpa using hb
        rcases e' with z | z
        · rw [z]; exact Nat.le_succ _
        · rw [z]; exact Nat.le_refl _
      exact I0.fpOk hle (I0.hok.fresh hle)
    exact iter_prm g1 ⟨h'.objs.size + 1, [h'.objs.size + 1, h'.objs.size], _, _, H1, rfl, I1.kept (t' := tk) (fun b o z => by rw [← hh]; exact Heap.get?_push_of_some _ (Heap.get?_push_of_some _ (hk b o z))), turn_prm (c := 0) (h'.objs.size + 1) h'.objs.size (by omega) c1 hacc, ⟨Nat.ne_of_lt (Nat.lt_succ_self _), g2, Nat.zero_le _, .inl ⟨rfl, _, c2, g1⟩⟩, own, q⟩
end Pv
namespace Pv
open PySem PySem.Spec PyProof.Rows
open L2
open GV
section
variable {K : PySem.W.Frag} {w : World} {nm : Nm}
theorem ints_vm {μ : List Addr} {H : Hp} : ∀ ks : List Nat, VMs K μ H (ks.map fun k => GV.int (k : Nat)) (ks.map fun (k : Nat) => V.int k)
  | [] => .nil
  | k :: ks => .cons (.int _) (ints_vm ks)
theorem wk_prm (n : Nat) (L : List (List Nat)) : Wk K w nm (Itp n L) (fun _ _ => True) (L.map fun x => GV.tup ((x.take n).map fun k => .int (k : Nat))) none where
  keep := fun _ _ _ => trivial
  go := fun {i v μ h H} e m _ _ => by
    rw [List.getElem?_map] at e
    cases hi : L[i]? with
    | none => rw [hi] at e; cases e
    | some k =>
      rw [hi] at e
      cases e
      refine ⟨(List.getElem?_eq_some_iff.mp hi).1, fun y H' ⟨T, z, e1, e2, e3, e4⟩ => ?_⟩
      rw [hi] at e3
      cases e3
      subst e1 e4
      exact ⟨Grow.side m e2, MHeap.side m e2, .tup (SqT.of upd_same) (ints_vm _)⟩
  stop := fun _ _ _ => by
    rw [List.length_map]
    exact Nat.le_refl _
end
theorem gl_prm {C : Cc} {G : _} {d : _} {E : _} {X : _} (k : Ok C G d E X) (hp : C.prm = true) : X.mg "permutations" = some (.type "itertools.permutations") := k.glob.prm hp
theorem sndI_prm {C : Cc} {tg a : Expr} {ia : Ex} {p p2 pos pos2 : Pos} (hp : C.prm = true) (hg : glB C "permutations" = true) (hg2 : glB C "range" = true) (hs : notStar a = true) (sa : SndE C a ia) : SndI C tg (.Call (.Name "permutations" p) [.Call (.Name "range" p2) [a] [] pos2] [] pos) (.prm ia) := fun G d E X k => by
  refine PI.weak (pi_prm k.calm (gl_of k hg) (gl_prm k hp) (pa_1 (pe_callTy cr_range1 (gl_of k hg2) (k.blt _ (by decide)) (by rfl) (pa_1 (sa G d E X k) hs) (he := star_of hs [] X.env)) (by rfl)) (star_of (by rfl) [] X.env)) fun σ H R ⟨env, h, μ, me, m, o⟩ => ?_
  rw [evI] at o
  refine ⟨env, h, μ, me, m, Out.bindM o fun μ1 H1 h1 v x g1 m1 r1 o1 => ?_⟩
  split at o1
  · rename_i i
    split at o1
    · rename_i hb
      cases r1
      refine ⟨i, rfl, fun q hq => ⟨q, i.toNat, rfl, ?_, by omega, ?_⟩⟩
      · rw [Int.toNat_of_nonneg hb.1]
        exact upd_same
      · exact o1.at (Grow.side m1 hq) (MHeap.side m1 hq) ⟨fun _ _ => True, trivial, wk_prm _ _, fun _ _ _ _ _ _ _ _ _ => trivial⟩
    · exact o1.elim
  · exact o1.elim
end Pv
end Pv_WI
section Pv_WJ
set_option Elab.async false
set_option linter.all false
set_option maxRecDepth 100000
set_option maxHeartbeats 2000000
/-! sorted(xs, key=f), f a def of the program -/
namespace Pv
open PySem PySem.Spec PyProof.Rows
open L2
open GV
open PySem.W (KeepsBut sortingHeap sortingHeap_old SortsAt dataKind keyH_end each_snoc sortVals EachIs KeyedOut keyedOut_each)

section
variable {X : Cx} {pins : List (Addr × Obj)} {σ : L2.St}
/-- what stays true of a record of ours -/
def Stay (X : Cx) (pins : List (Addr × Obj)) (b : Addr) : Prop := b ≠ X.env.locals ∧ b ∉ X.fs ∧ (b ∈ X.ex ∨ X.s_0.heap.objs.size ≤ b) ∧ (∀ x c, X.env.cells.lookup x = some c → c ≠ b) ∧ ∀ p ∈ X.pn ++ pins, p.1 ≠ b
theorem key_turn {f : Addr} {fd : FuncData} {ps : List Str} {k : Nat} {sp : Sp} {H : Hp} {s : Shared} {u : Value} {x : V} {Q : VK} (F : FnOk X.prog X.w X.K X.mg X.base (L2.CX X.prog X.w) k f fd ps sp) (hr : Room (k + 2) X.A) (hb : ∀ s : Shared, BindsTo s fd ⟨[u], []⟩ (ps.zip [u])) (I : Inv X pins σ H s) (r : RelV x u) (h : sp [x] H Q nev) :
    wpAny (model X.prog X.w) X.A.in1.in1 (call (.ref f) [u]) (EP X pins σ Q) (fun _ _ => False) s := by
  refine wpAny_call (codeAny_mono (F.run X.A.in1.in1 X.stack s H ⟨[u], []⟩ [u] [x] Q nev hr.in1.in1 I.env0.in1.in1 (hb s) (.cons r .nil) h) fun r s' hq => ?_)
  cases r with
  | error e =>
    obtain ⟨_, _, _, _, _, _, _, _, _, _, _, _, hE⟩ := hq
    exact hE.elim
  | ok fl =>
    cases fl with
    | ret u => exact I.after hq
    | next => exact False.elim hq
    | brk => exact False.elim hq
    | cont => exact False.elim hq
end
theorem each_growV {K : PySem.W.Frag} {w : World} {nm : Nm} {μ : List Addr} {h : GH} {H : Hp} {μ' : List Addr} {H' : Hp} (m : MHeap K w nm μ h H) (g : Grow μ H μ' H') {us : List Value} {gs : List GV} (e : EachIs (VR K μ H) us gs) : EachIs (VR K μ' H') us gs := e.mono fun _ _ ⟨x, r, q⟩ => ⟨x, r.grow m g, q⟩
theorem each_at {α β : Type} {R : α → β → Prop} : ∀ {as : List α} {bs : List β} {i : Nat} {a : α}, EachIs R as bs → as[i]? = some a → ∃ b, bs[i]? = some b ∧ R a b
  | _, _, 0, _, .cons r _, h => by cases h; exact ⟨_, rfl, r⟩
  | _, _, i + 1, _, .cons _ t, h => each_at (i := i) t h
theorem each_mapR {α β γ : Type} {R : α → γ → Prop} {f : β → γ} : ∀ {as : List α} {bs : List β}, EachIs (fun a b => R a (f b)) as bs → EachIs R as (bs.map f)
  | _, _, .nil => .nil
  | _, _, .cons r t => .cons r (each_mapR t)
theorem each_unmapR {α β γ : Type} {R : α → γ → Prop} {f : β → γ} : ∀ {as : List α} {bs : List β}, EachIs R as (bs.map f) → EachIs (fun a b => R a (f b)) as bs
  | [], [], _ => .nil
  | [], _ :: _, h => by cases h
  | _ :: _, [], h => by cases h
  | _ :: _, _ :: _, h => by
    cases h with
    | cons h1 t => exact .cons h1 (each_unmapR t)
/-- the loop that gets the keys -/
def sortF (cl : Calls) (f : Nat) : GV → Acc → GH → Res Acc := fun x acc h2 => (cl f [x] h2).bind fun k h3 => .ok (acc ++ [(k, x)]) h3
section
variable {X : Cx} {pins : List (Addr × Obj)} {σ : L2.St} {nm : Nm}
/-- records of ours have turned, one of them is tracked now -/
theorem inv_track {H : Hp} {s : Shared} {h' : Heap} {t' : Nat} {ch : List Addr} {T : Addr} {ob : HO} (I : Inv X pins σ H s) (k : ∀ b o, b ∉ ch → s.heap.get? b = some o → h'.get? b = some o) (hf : ∀ b ∈ ch, FpOk X pins H b) (hT : T ∈ ch)
    (new : ObjOk X.prog X.w (upd H T ob) h' T ob) : Inv X pins σ (upd H T ob) { s with heap := h', toks := t' } := by
  have hn : H T = none := (hf T hT).1
  have nit : ∀ b u, H b = some u → b ∉ ch := fun b u e z => by
    have q := (hf b z).1
    rw [q] at e; cases e
  have nT : ∀ b, b ∉ ch → b ≠ T := fun b hb z => hb (by rw [z]; exact hT)
  refine I.step (g' := s.gens) (d' := s.drawn) (ch := ch) (fun b hb => ⟨(hf b hb).2.2.2.1, (hf b hb).2.1, (hf b hb).2.2.2.2.1, (hf b hb).2.2.2.2.2⟩) (fun b o _ _ hc e _ => k b o hc e) (fun b o _ _ hc e _ => ⟨o.slots, k b o hc e⟩)
    (fun b o hc e n => ?_) (fun b o hc e => ⟨o, k b o hc e⟩) (fun b xs e => ?_) (fun b o u e => ?_) (fun b ps e => ⟨#[], ?_⟩) (fun m hm => ?_) (fun b u e => ?_) I.bare
  · rw [upd_ne (nT b hc)]; exact n
  · rw [upd_ne (ne_of_none e hn)]; exact e
  · rw [upd_ne (ne_of_none e hn)]; exact e
  · rw [upd_ne (ne_of_none e hn), e]; simp
  · obtain ⟨o, es, ep, ho, r⟩ := hm
    exact ⟨o, es, ep, k _ o (fun z => (hf _ z).2.1 rfl) ho, r⟩
  · by_cases hb : b = T
    · subst hb
      rw [upd_same] at e
      cases e
      exact new
    · rw [upd_ne hb] at e
      refine (I.hok b u e).stay (fun c v hc q => k c v ?_ q) (fun c q => by rw [upd_ne (ne_of_none q hn)]; exact q) fun c xs q => by rw [upd_ne (ne_of_none q hn)]; exact q
      rcases hc with z | z
      · rw [z]; exact nit b u e
      · exact nit c _ z
theorem key_sort {G : Prg} {d f np n : Nat} {fa a : Addr} {fd : FuncData} {par : List Str} {s : Shared} {vs : List Value} {gs : List GV} {μ0 : List Addr} {gh0 ghE : GH} {H0 : Hp} {ps : Acc} {P : PySem.Fin → Shared → Prop} {E : Value → Shared → Prop}
    (F : FnOk X.prog X.w X.K X.mg X.base (L2.CX X.prog X.w) (4 * d + 1) fa fd par (spF X.K X.w nm (callF G d) f np)) (hr : Room (4 * d + 4) X.A) (hb : ∀ (s : Shared) (u : Value), BindsTo s fd ⟨[u], []⟩ (par.zip [u])) (hnp : np = 1)
    (I : Inv X pins σ H0 s) (ho : s.heap.get? a = some (seqObj "list" vs.toArray n)) (fpa : FpOk X pins H0 a) (e0 : EachIs (VR X.K μ0 H0) vs gs) (m0 : MHeap X.K X.w nm μ0 gh0 H0) (run : cmpL none (sortF (callF G d) f) gs [] gh0 = .ok ps ghE) (ok : srtOk (ps.map (·.1)) = true) (hZ : vs.length ≤ sizeLine)
    (h : ∀ s' μ' H' ys, Inv X pins σ (upd H' a (.lst ys)) s' → H' a = none → Grow μ0 H0 μ' H' → MHeap X.K X.w nm μ' ghE H' → VMs X.K μ' H' (srtBy ps) ys → P (.done (.ret .none)) s') :
    wpAny (model X.prog X.w) X.A.in1.in1 (ksk_tree a (.ref fa) false) P E s := by
  have ha : a < s.heap.objs.size := Heap.lt_size ho
  have hlg : vs.length = gs.length := each_len e0
  obtain ⟨e1, ho1⟩ : ∃ e1, (s.heap.update a (Obj.mapSeq fun _ => (#[] : Array Value))).get? a = some (seqObj "list" #[] e1) := ⟨_, get?_update_seq ho fun _ => #[]⟩
  have hkS : ((s.heap.update a (Obj.mapSeq fun _ => (#[] : Array Value))).push (seqObj "tuple" vs.toArray 0)).objs.size = s.heap.objs.size + 1 := by rw [size_push', Heap.size_update]
  unfold ksk_tree
  refine wpAny_bind (listItems_at ho rfl ?_)
  refine wpAny_bind (listUpdate_at ho rfl ?_ (by rw [List.size_toArray]; exact hZ) (Nat.zero_le _))
  refine wpAny_bind (seqEpoch_at ho1 rfl ?_)
  refine wpAny_bind (wpAny_newTuple ?_ (by show vs.length ≤ _; exact hZ))
  refine wpAny_bind (wpAny_newList ?_ (Nat.zero_le _))
  refine wpAny_holding ?_
  have kp : ∀ b o, b ≠ a → s.heap.get? b = some o → (sortingHeap s.heap a vs).get? b = some o := fun b o hb q => sortingHeap_old hb q
  have at_a : (sortingHeap s.heap a vs).get? a = some (seqObj "list" #[] e1) := Heap.get?_push_of_some _ (Heap.get?_push_of_some _ ho1)
  have at_k : (sortingHeap s.heap a vs).get? (s.heap.objs.size + 1) = some (seqObj "list" #[] 0) := by
    rw [← hkS]
    exact Heap.get?_push_size _ rfl
  rw [hkS]
  change wpAny _ _ (ksk_rest a (.ref fa) false vs.toArray e1 (.ref (s.heap.objs.size + 1))) P E { s with heap := sortingHeap s.heap a vs }
  have I1 : Inv X pins σ H0 { s with heap := sortingHeap s.heap a vs } := I.turned (t' := s.toks) kp fpa.1 fpa.2.1 fpa.2.2.2.1 fpa.2.2.2.2.1 fpa.2.2.2.2.2
  have fpk : FpOk X pins H0 (s.heap.objs.size + 1) := I.fpOk (Nat.le_succ _) (I.hok.fresh (Nat.le_succ _))
  have hka : s.heap.objs.size + 1 ≠ a := Nat.ne_of_gt (Nat.lt_succ_of_lt ha)
  generalize s.heap.objs.size + 1 = kS at at_k fpk hka ⊢
  have stat : ∀ {b : Addr} {H : Hp}, FpOk X pins H0 b → H b = none → FpOk X pins H b := fun f e => ⟨e, f.2⟩
  unfold ksk_rest
  refine wpAny_bind (wpAny_rule ?_)
  first
    | rw [List.forIn_toArray]
    | (rw [← Array.forIn_toList]; simp only [List.toList_toArray])
    | rw [← Array.forIn_toList]
  refine wpAny_bind (ksk_fold (fun i s' => ∃ μ gh H acc kA e, Inv X pins σ H s' ∧ Grow μ0 H0 μ H ∧ MHeap X.K X.w nm μ gh H ∧ s'.heap.get? a = some (seqObj "list" #[] e1) ∧ s'.heap.get? kS = some (seqObj "list" kA e) ∧ H a = none ∧ H kS = none ∧ EachIs (VR X.K μ H) kA.toList (acc.map (·.1)) ∧ acc.map (·.2) = gs.take i ∧ cmpL none (sortF (callF G d) f) (gs.drop i) acc gh = .ok ps ghE) vs 0 _
    ⟨μ0, gh0, H0, [], #[], 0, I1, .refl, m0, at_a, at_k, fpa.1, fpk.1, .nil, rfl, run⟩ ?step ?done)
  case step =>
    rintro j x s' hx ⟨μ, gh, H, acc, kA, e, I', g, m, na, nk, fa', fk', ek, et, run'⟩
    simp only [Nat.zero_add] at et run' ⊢
    have hjv : j < vs.length := (List.getElem?_eq_some_iff.mp hx).1
    obtain ⟨y, hy, xv, rv, rl⟩ := each_at (each_growV m0 g e0) hx
    have hdr : gs.drop j = y :: gs.drop (j + 1) := by
      obtain ⟨h1, h2⟩ := List.getElem?_eq_some_iff.mp hy
      rw [List.drop_eq_getElem_cons h1, h2]
    rw [hdr] at run'
    unfold cmpL at run'
    rw [if_pos (show chk none _ = true from rfl)] at run'
    obtain ⟨acc', h3, c1, c2⟩ := bind_ok run'
    unfold sortF at c1
    obtain ⟨kk, h4, d1, d2⟩ := bind_ok c1
    cases d2
    have hkz : kA.size ≤ vs.length := by
      have h1 := each_len ek
      have h2 := congrArg List.length et
      rw [Array.length_toList, List.length_map] at h1
      rw [List.length_map, List.length_take] at h2
      omega
    have I2 : Inv X (pins ++ [(a, seqObj "list" #[] e1), (kS, seqObj "list" kA e)]) σ H s' := I'.pins_of fun p hp => by
      rcases List.mem_append.mp hp with hp | hp
      · exact I'.pin p (List.mem_append_right _ hp)
      · rcases List.mem_cons.mp hp with rfl | hp
        · exact ⟨na, fa', fpa.2.1, fpa.2.2.1, fun v z => nomatch z⟩
        · rw [List.mem_singleton.mp hp]
          exact ⟨nk, fk', fpk.2.1, fpk.2.2.1, fun v z => nomatch z⟩
    refine wpAny_bind (wpAny_attempt (wpAny_mono (key_turn (Q := fun z H' => ∃ μ', Grow μ H μ' H' ∧ MHeap X.K X.w nm μ' h3 H' ∧ VM X.K μ' H' kk z) F (hr.mono (by omega)) (fun s => hb s x) I2 rl ⟨by subst hnp; rfl, gh, μ, [y], m, .cons rv .nil, by rw [d1]; exact fun μ' H' z g' m' r' => ⟨μ', g', m', r'⟩⟩) (fun v s'' he => ?_) fun _ _ hF => hF.elim))
    obtain ⟨z, H', I3, rz, μ', g', m', r'⟩ := he
    try dsimp only
    have pa := I3.pin (a, seqObj "list" #[] e1) (by simp)
    have pk := I3.pin (kS, seqObj "list" kA e) (by simp)
    have s1 := Heap.SameBut.update s''.heap kS (Obj.mapSeq (·.push v))
    obtain ⟨c2', hc2⟩ : ∃ c2, (s''.heap.update kS (Obj.mapSeq (·.push v))).get? kS = some (seqObj "list" (kA.push v) c2) := ⟨_, get?_update_seq pk.1 (·.push v)⟩
    have ea : (kA.push v).toList = kA.toList ++ [v] := by simp
    have I4 : Inv X pins σ H' s'' := I3.unpinned
    have fk2 := stat fpk pk.2.1
    refine wpAny_bind (listUpdate_at pk.1 rfl ?_ (Nat.le_trans hkz hZ) (Nat.le_trans (Nat.le_of_eq (Array.size_push ..)) (Nat.succ_le_succ (Nat.le_trans hkz hZ))))
    refine wpAny_pure ⟨rfl, μ', h3, H', acc ++ [(kk, y)], kA.push v, c2', I4.turned (t' := s''.toks) (fun b o hb q => (s1.2 b hb).trans q) fk2.1 fk2.2.1 fk2.2.2.2.1 fk2.2.2.2.2.1 fk2.2.2.2.2.2, g.trans g', m', (s1.2 a hka.symm).trans pa.1, hc2, pa.2.1, pk.2.1, ?_, ?_, c2⟩
    · rw [ea, List.map_append]
      exact each_snoc ⟨z, r', rz⟩ (each_growV m g' ek)
    · rw [List.map_append, et, List.take_add_one, hy]
      rfl
  case done =>
    rintro s' ⟨μ, gh, H, acc, kA, e, I', g, m, na, nk, fa', fk', ek, et, run'⟩
    simp only [Nat.zero_add] at et run'
    rw [hlg, List.drop_length] at run'
    rw [hlg, List.take_length] at et
    unfold cmpL at run'
    rw [if_pos (show chk none _ = true from rfl)] at run'
    cases run'
    obtain ⟨f1, f2, f3⟩ := srt_facts ok
    have rd : EachIs (fun v d => ∃ as, Reads s'.heap v d as) kA.toList ((ps.map (·.1)).map dat) := each_mapR (each_reads I' f1 ek)
    have hsz : kA.size = vs.length := by
      have h1 := each_len ek
      have h2 := congrArg List.length et
      rw [Array.length_toList, List.length_map] at h1
      rw [List.length_map] at h2
      omega
    have hu : ∀ q, q ∈ (ps.map (·.1)).map dat → X.A.in1.in1.units + q.depth < cLine := fun q hq => by
      obtain ⟨b, hb, rfl⟩ := List.mem_map.mp hq
      have l1 := (lay_of 30 b (oks_mem f1 b hb)).2
      have l2 := hr.un
      show X.A.units + 1 + 1 + (dat b).depth < cLine
      omega
    obtain ⟨B, b1, b2⟩ := restrict s'.heap fun b => decide (b ≠ kS)
    have kB : KeepsBut a B s'.heap := fun b o hb q => by
      by_cases z : b = kS
      · rw [z, b2 kS (by simp)] at q; cases q
      · rw [b1 b (by simpa using z)] at q; exact q
    have ee : EachIs (fun v (p : GV × GV) => VR X.K μ H v p.2) vs ps := each_unmapR (by rw [et]; exact each_growV m0 g e0)
    refine wpAny_bind (listItems_at nk rfl ?_)
    refine keyH_end (κ := dataKind s'.heap ((ps.map (·.1)).map dat)) (h₁ := B) kB (b2 kS (by simp)) nk na hka (SortsAt.data (s := s') rd f2 f3 hu) hsz hZ fun h' tk c k3 n3 => ?_
    have em : ps.map (fun p : GV × GV => dat p.1) = (ps.map (·.1)).map dat := by
      rw [List.map_map]
      rfl
    have eo := keyedOut_each (rev := false) (fun p : GV × GV => dat p.1) ⟨s'.heap, kA.toList, by rw [em]; exact f2, rfl, by rw [em]; exact rd⟩ ee
    rw [em] at eo
    have eo2 : EachIs (VR X.K μ H) (sortVals (dataKind s'.heap ((ps.map (·.1)).map dat)) false kA.toList vs) (srtBy ps) := each_mapR eo
    obtain ⟨ys, y1, y2⟩ := of_each eo2
    have hly : ys.length ≤ sizeLine := by
      have l1 := y2.length
      have l2 := each_len eo2
      have l3 := congrArg List.length et
      have l4 : (srtBy ps).length = ps.length := by
        unfold srtBy
        rw [List.length_map, List.length_mergeSort]
      rw [List.length_map] at l3
      omega
    refine h _ μ H ys (inv_track (t' := tk) (ch := [a, kS]) I' (fun b o hb q => k3 b o (fun z => hb (by simp [z])) ?_) (fun b hb => ?_) (by simp) ⟨hly, _, c, y2, n3⟩) fa' g m y1
    · rw [b1 b (by
        have : b ≠ kS := fun z => hb (by simp [z])
        simpa using this)]
      exact q
    · have : b = a ∨ b = kS := by simpa using hb
      rcases this with z | z
      · rw [z]; exact stat fpa fa'
      · rw [z]; exact stat fpk fk'
end
end Pv
namespace Pv
open PySem PySem.Spec PyProof.Rows
open L2
open GV
open PySem.W (EachIs)
def rSrk (K : PySem.W.Frag) (w : World) (nm : Nm) (cl : Calls) (f : Nat) (fa : Addr) : List V → List V → Hp → VK → Prop := fun vs zs H Q => zs = [.ref fa] ∧ ∃ p xs gs μ gh ghE ps, vs = [V.ref p] ∧ (SqL K H p xs ∨ SqT K H p xs) ∧ VMs K μ H gs xs ∧ MHeap K w nm μ gh H ∧ cmpL none (sortF cl f) gs [] gh = .ok ps ghE ∧ srtOk (ps.map (·.1)) = true ∧
  ∀ μ' H' q ys, Grow μ H μ' H' → MHeap K w nm μ' ghE H' → H' q = none → VMs K μ' H' (srtBy ps) ys → Q (.ref q) (upd H' q (.lst ys))
theorem cr_srk {X : Cx} {nm : Nm} {G : Prg} {d f np : Nat} {fa : Addr} {fd : FuncData} {par : List Str} (F : FnOk X.prog X.w X.K X.mg X.base (L2.CX X.prog X.w) (4 * d + 1) fa fd par (spF X.K X.w nm (callF G d) f np)) (hr : Room (4 * d + 4) X.A) (hb : ∀ (s : Shared) (u : Value), BindsTo s fd ⟨[u], []⟩ (par.zip [u])) (hnp : np = 1) :
    CallRK X (.builtin "sorted") [Str.ofString "key"] (rSrk X.K X.w nm (callF G d) f fa) := by
  intro pins s σ H vs zs us ws Q I r rz h
  obtain ⟨rfl, p, xs, gs, μ, gh, ghE, ps, rfl, hq, t, m, run, ok, q⟩ := h
  obtain ⟨u, rfl, rx⟩ := r.one
  cases rx
  obtain ⟨u, rfl, rx⟩ := rz.one
  cases rx
  have go : ∀ (T : String) (ob : Obj) (its : List Value) (n : Nat), T = "list" ∨ T = "tuple" → s.heap.get? p = some ob → ob.cls = .type T → ob.data = .seq its.toArray n → Vals xs its → xs.length ≤ sizeLine →
      wpAny (model X.prog X.w) X.A (call (.builtin "sorted") [.ref p] [(Str.ofString "key", .ref fa)]) (EP X pins σ Q) X.xe s := fun T ob its n hT ho hc hd rv hz => by
    have e0 : EachIs (VR X.K μ H) its gs := each_of t rv
    have hl := rv.length
    refine sorted_any hT ho hc hd (by simp only [List.size_toArray]; omega) (PyProof.Rows.ksk_s1 _ _) (fun _ => PyProof.Rows.ksk_l1 _ _) fun h' kp E' => ?_
    rw [PyProof.Rows.ksk_t1]
    have I0 : Inv X pins σ H { s with heap := h' } := I.kept (t' := s.toks) kp
    have at_ : (h'.push { cls := .type "list", data := .seq its.toArray }).get? h'.objs.size = some (seqObj "list" its.toArray 0) := Heap.get?_push_size _ rfl
    have k1 : ∀ b o, s.heap.get? b = some o → (h'.push { cls := .type "list", data := .seq its.toArray }).get? b = some o := fun b o e => Heap.get?_push_of_some _ (kp b o e)
    have I1 : Inv X pins σ H { s with heap := h'.push { cls := .type "list", data := .seq its.toArray } } := I.kept (t' := s.toks) k1
    refine key_sort F hr hb hnp I1 at_ (I0.fpOk (Nat.le_refl _) (I0.hok.fresh (Nat.le_refl _))) e0 m run ok (by omega) fun s' μ' H' ys I2 fr g m' y => ⟨rfl, ?_⟩
    exact ⟨.ref h'.objs.size, _, I2, rfl, q μ' H' _ ys g m' fr y⟩
  rcases hq with hq | hq
  · obtain ⟨its, rv, ⟨ob, n, e1, e2, _, e3⟩, hz⟩ := I.list hq
    exact go "list" ob its n (.inl rfl) e1 e2 e3 rv hz
  · obtain ⟨its, rv, ⟨ob, e1, e2, n, e3⟩, hz⟩ := I.tuple hq
    exact go "tuple" ob its n (.inr rfl) e1 e2 e3 rv hz
theorem snd_srk {C : Cc} {a : Expr} {s : Sq} {x : Str} {f : Nat} {p p2 pk pos : Pos} (hg : glB C "sorted" = true) (hs : notStar a = true) (hn : C.nm f = x) (hm : C.meth f = none) (hf : f ∈ C.fs) (hp1 : (C.par f).length = 1) (hgx : glB C x = true) (hdb : (x == ("__debug__" : Str)) = false) (sa : SndS C a s) :
    SndN C (.Call (.Name "sorted" p) [a] [⟨some "key", .Name x p2, pk⟩] pos) (.srk s f) := fun G d E X k => by
  obtain ⟨fn, hG, ⟨⟨fa, fd, F⟩, hp⟩⟩ := k.fns f hf
  have hnp : fn.np = 1 := hp.symm.trans hp1
  refine PE.weak (pe_callBK (cr_srk F.ok k.room (fun s u => F.bnd s [u] (by rw [hnp]; rfl)) hnp) (gl_of k hg) (k.blt _ (by decide)) (by rfl) (pa_1 (sa G d E X k) hs) (pk_cons (pe_glob (v := .ref fa) (gl_of k hgx) (by rw [← hn]; exact F.glo hm) rfl hdb) pk_nil) (he := by rw [star_of hs]; rfl) (hpl := by rw [star_of hs]; rfl)) fun σ H Q ⟨env, h, μ, me, m, o⟩ => ?_
  rw [evS] at o
  refine ⟨env, h, μ, me, m, Out.bindM o fun μ1 H1 h1 vs x g1 m1 ⟨b, xs, e, q, t⟩ o1 => ?_⟩
  subst e
  change Out _ _ _ _ ((cmpL none (sortF (callF G d) f) vs [] h1).quiet.bind _) _ _ _ _ at o1
  cases run : cmpL none (sortF (callF G d) f) vs [] h1 with
  | exc a b d => rw [run] at o1; exact o1.elim
  | bad => rw [run] at o1; exact o1.elim
  | ok ps hR =>
    rw [run] at o1
    dsimp only [Res.quiet, Res.bind] at o1
    split at o1
    · rename_i ok
      exact ⟨rfl, b, xs, vs, μ1, h1, hR, ps, rfl, q, t, m1, run, ok, fun μ' H' q ys g m' hq y => o1 μ' H' ys g m' y q hq⟩
    · exact o1.elim
end Pv
end Pv_WJ
section Pv_X
set_option Elab.async false
set_option linter.all false
set_option maxRecDepth 10000
set_option maxHeartbeats 4000000
namespace Pv
open PySem PySem.Spec PyProof.Rows
open L2
open GV

/-! ### the text, turned into its form here, with the proof that the form tells the truth -/
def slotOf (N : List Str) (x : Str) : Nat := N.findIdx fun y => decide (y = x)
def clsOf (C : Cc) (j : Nat) : List Nat := (C.attrs.filter fun p => decide (p.2 = j)).map (·.1)
theorem clsOf_mem {C : Cc} {j : Nat} : ∀ c ∈ clsOf C j, (c, j) ∈ C.attrs := fun c hc => by
  obtain ⟨p, hp, rfl⟩ := List.mem_map.mp hc
  obtain ⟨h1, h2⟩ := List.mem_filter.mp hp
  rw [← of_decide_eq_true h2]
  exact h1
def mkOf (C : Cc) (c : Nat) : Nat := match C.mks.find? fun p => decide (p.1 = c) with
  | some p => p.2
  | none => 0
/-- the block's own names, by slot -/
def ownOf (N : List Str) (sc : Scope) : List (Str × Nat) := (sc.names.filter fun y => (match y.2 with | .local => true | .cell => true | _ => false) && decide (y.1 ∈ N)).map fun y => (y.1, slotOf N y.1)
def ordOf (C : Cc) (f n : Nat) (ks : List Str) : List Nat := match C.kws.find? fun q => decide (q.1 = f) && decide (q.2.1 = n) && decide (q.2.2.1 = ks) with
  | some q => q.2.2.2
  | none => []
def cG (C : Cc) (tg : Expr) : Option {t : Tg // SndG C tg t} := match tg with
  | .Name x p => if h : C.N[slotOf C.N x]? = some x ∧ locB C x = true then some ⟨.nm (slotOf C.N x), sndG_nm h.1 h.2⟩ else none
  | .Tuple es j p =>
    let is := es.map fun e => match e with
      | .Name x _ => slotOf C.N x
      | _ => 0
    if h : nmsOf C es is = true then some ⟨.tup is, sndG_tup h⟩ else none
  | _ => none
def kN1 (C : Cc) (elt tg iter : Expr) (ifs : List Expr) (scope : Scope) (pos : Pos) (t : {t : Tg // SndG (C.blk scope) tg t}) (q : {q : OEx // SndQ (C.blk scope) ifs q}) (i : {i : Iy // SndI C tg iter i}) (e : {i : Ex // SndE (C.blk scope) elt i}) :
    Option {s : Sq // SndN C (.ListComp elt [⟨tg, iter, ifs, 0⟩] scope pos) s} :=
  if h : blkC C.N C.sc scope (ownOf C.N scope) = true ∧ tgIn t.1 ((ownOf C.N scope).map (·.2)) = true ∧ notSet iter = true then
    some ⟨.cmp ((ownOf C.N scope).map (·.2)) (.one t.1 i.1 q.1) e.1, by
      obtain ⟨h1, h2, h3⟩ := h
      exact snd_lc (own := ownOf C.N scope) h1 h2 h3 i.2 t.2 q.2 e.2⟩
  else none
def kN2 (C : Cc) (elt tg iter tg1 iter1 : Expr) (ifs ifs1 : List Expr) (scope : Scope) (pos : Pos) (t : {t : Tg // SndG (C.blk scope) tg t}) (q : {q : OEx // SndQ (C.blk scope) ifs q}) (i : {i : Iy // SndI C tg iter i}) (u : {t : Tg // SndG (C.blk scope) tg1 t}) (d : {q : OEx // SndQ (C.blk scope) ifs1 q})
    (j : {i : Iy // SndI (C.blk scope) tg1 iter1 i}) (e : {i : Ex // SndE (C.blk scope) elt i}) : Option {s : Sq // SndN C (.ListComp elt [⟨tg, iter, ifs, 0⟩, ⟨tg1, iter1, ifs1, 0⟩] scope pos) s} :=
  if h : blkC C.N C.sc scope (ownOf C.N scope) = true ∧ tgIn t.1 ((ownOf C.N scope).map (·.2)) = true ∧ tgIn u.1 (tgL u.1) = true ∧ usIn (tgL u.1) (ownOf C.N scope) = true ∧ iyD j.1 = true ∧ notSet iter = true ∧ notSet iter1 = true then
    some ⟨.cmp ((ownOf C.N scope).map (·.2)) (.two t.1 i.1 q.1 (tgL u.1) u.1 j.1 d.1) e.1, by
      obtain ⟨h1, h2, h3, h4, h5, h6, h7⟩ := h
      exact snd_lc2 (own := ownOf C.N scope) h1 h2 h3 h4 h5 h6 h7 i.2 t.2 q.2 j.2 u.2 d.2 e.2⟩
  else none
def kM1 (C : Cc) (x : Str) (p : Pos) (elt tg iter : Expr) (ifs : List Expr) (scope : Scope) (pos sp : Pos) (hl : C.sc.names.lookup x = some .local) (t : {t : Tg // SndG (C.blk scope) tg t}) (q : {q : OEx // SndQ (C.blk scope) ifs q}) (i : {i : Iy // SndI C tg iter i}) (e : {i : Ex // SndE (C.blk scope) elt i}) :
    {i : Sm // SndM C (.Assign [.Name x p] (.ListComp elt [⟨tg, iter, ifs, 0⟩] scope pos) sp) i} :=
  if h : C.N[slotOf C.N x]? = some x ∧ C.sc.kind = .function ∧ (p.line == pos.line) = true ∧ (scope.names.any fun (n, k) => n == x && (k == .local || k == .cell)) = false ∧ blkC C.N C.sc scope (ownOf C.N scope) = true ∧ tgIn t.1 ((ownOf C.N scope).map (·.2)) = true ∧ notSet iter = true then
    ⟨.asg (.nm (slotOf C.N x)) (.lst (.cmp ((ownOf C.N scope).map (·.2)) (.one t.1 i.1 q.1) e.1)), by
      obtain ⟨h1, h2, h3, h4, h5, h6, h7⟩ := h
      exact sndM_lc (own := ownOf C.N scope) h1 hl h2 h3 h4 h5 h6 h7 i.2 t.2 q.2 e.2⟩
  else ⟨.bad, sndM_bad _⟩
def kM2 (C : Cc) (x : Str) (p : Pos) (elt tg iter tg1 iter1 : Expr) (ifs ifs1 : List Expr) (scope : Scope) (pos sp : Pos) (hl : C.sc.names.lookup x = some .local) (t : {t : Tg // SndG (C.blk scope) tg t}) (q : {q : OEx // SndQ (C.blk scope) ifs q}) (i : {i : Iy // SndI C tg iter i})
    (u : {t : Tg // SndG (C.blk scope) tg1 t}) (d : {q : OEx // SndQ (C.blk scope) ifs1 q}) (j : {i : Iy // SndI (C.blk scope) tg1 iter1 i}) (e : {i : Ex // SndE (C.blk scope) elt i}) : {i : Sm // SndM C (.Assign [.Name x p] (.ListComp elt [⟨tg, iter, ifs, 0⟩, ⟨tg1, iter1, ifs1, 0⟩] scope pos) sp) i} :=
  if h : C.N[slotOf C.N x]? = some x ∧ C.sc.kind = .function ∧ (p.line == pos.line) = true ∧ (scope.names.any fun (n, k) => n == x && (k == .local || k == .cell)) = false ∧ blkC C.N C.sc scope (ownOf C.N scope) = true ∧ tgIn t.1 ((ownOf C.N scope).map (·.2)) = true ∧
      tgIn u.1 (tgL u.1) = true ∧ usIn (tgL u.1) (ownOf C.N scope) = true ∧ iyD j.1 = true ∧ notSet iter = true ∧ notSet iter1 = true then
    ⟨.asg (.nm (slotOf C.N x)) (.lst (.cmp ((ownOf C.N scope).map (·.2)) (.two t.1 i.1 q.1 (tgL u.1) u.1 j.1 d.1) e.1)), by
      obtain ⟨h1, h2, h3, h4, h5, h6, h7, h8, h9, h10, h11⟩ := h
      exact sndM_lc2 (own := ownOf C.N scope) h1 hl h2 h3 h4 h5 h6 h7 h8 h9 h10 h11 i.2 t.2 q.2 j.2 u.2 d.2 e.2⟩
  else ⟨.bad, sndM_bad _⟩
section
variable (ids : Str → Nat)
mutual
def cE : Nat → (C : Cc) → (e : Expr) → {i : Ex // SndE C e i}
  | 0, _, e => ⟨.bad, snd_bad e⟩
  | n + 1, C, e => match e with
    | .Name x p => if h : C.N[slotOf C.N x]? = some x ∧ visB C x = true ∧ (x == ("__debug__" : Str)) = false ∧ (x == ("__classdict__" : Str)) = false then ⟨.var (slotOf C.N x), snd_var h.1 (vis_of h.2.1) h.2.2.1 h.2.2.2⟩ else ⟨.bad, snd_bad _⟩
    | .Constant (.int i) j p => ⟨.cst (.int i), snd_int⟩
    | .Constant (.bool b) j p => ⟨.cst (.bl b), snd_bl⟩
    | .Constant .none j p => ⟨.cst .non, snd_non⟩
    | .Constant (.str x) j p => ⟨.cst (.str x), snd_str⟩
    | .Tuple es j p => match cEs n C es with
      | some i => ⟨.tup i.1, snd_tup i.2⟩
      | none => ⟨.bad, snd_bad _⟩
    | .BinOp a .Add b p => ⟨.op .add (cE n C a).1 (cE n C b).1, snd_add (cE n C a).2 (cE n C b).2⟩
    | .BinOp a .Sub b p => ⟨.op .sub (cE n C a).1 (cE n C b).1, snd_sub (cE n C a).2 (cE n C b).2⟩
    | .BinOp a .Mult b p => ⟨.op .mul (cE n C a).1 (cE n C b).1, snd_mul (cE n C a).2 (cE n C b).2⟩
    | .BinOp a .FloorDiv b p => ⟨.op .fdiv (cE n C a).1 (cE n C b).1, snd_fdiv (cE n C a).2 (cE n C b).2⟩
    | .BinOp a .Mod b p => ⟨.op .mod (cE n C a).1 (cE n C b).1, snd_mod (cE n C a).2 (cE n C b).2⟩
    | .BinOp a .Pow b p => ⟨.op .pow (cE n C a).1 (cE n C b).1, snd_pow (cE n C a).2 (cE n C b).2⟩
    | .Compare a [.Eq] [b] p => ⟨.op .eq (cE n C a).1 (cE n C b).1, snd_eq (cE n C a).2 (cE n C b).2⟩
    | .Compare a [.NotEq] [b] p => ⟨.op .ne (cE n C a).1 (cE n C b).1, snd_ne (cE n C a).2 (cE n C b).2⟩
    | .Compare a [.Lt] [b] p => ⟨.op .lt (cE n C a).1 (cE n C b).1, snd_lt (cE n C a).2 (cE n C b).2⟩
    | .Compare a [.LtE] [b] p => ⟨.op .le (cE n C a).1 (cE n C b).1, snd_le (cE n C a).2 (cE n C b).2⟩
    | .Compare a [.Gt] [b] p => ⟨.op .gt (cE n C a).1 (cE n C b).1, snd_gt (cE n C a).2 (cE n C b).2⟩
    | .Compare a [.GtE] [b] p => ⟨.op .ge (cE n C a).1 (cE n C b).1, snd_ge (cE n C a).2 (cE n C b).2⟩
    | .Compare a [.In] [b] p => if h : behindInMarks .In b = false then ⟨.op .inn (cE n C a).1 (cE n C b).1, snd_in (cE n C a).2 (cE n C b).2 h⟩ else ⟨.bad, snd_bad _⟩
    | .Compare a [.NotIn] [b] p => if h : behindInMarks .NotIn b = false then ⟨.op .nin (cE n C a).1 (cE n C b).1, snd_nin (cE n C a).2 (cE n C b).2 h⟩ else ⟨.bad, snd_bad _⟩
    | .Compare a [.Is] [.Constant .none j p2] p => ⟨.isn (cE n C a).1, snd_isn (cE n C a).2⟩
    | .Compare a [.IsNot] [.Constant .none j p2] p => ⟨.ntn (cE n C a).1, snd_ntn (cE n C a).2⟩
    | .UnaryOp .Not a p => ⟨.not (cE n C a).1, snd_not (cE n C a).2⟩
    | .UnaryOp .USub a p => ⟨.neg (cE n C a).1, snd_neg (cE n C a).2⟩
    | .BoolOp o [a] p => ⟨(cE n C a).1, snd_one (cE n C a).2⟩
    | .BoolOp .And (a :: b :: r) p => ⟨.and (cE n C a).1 (cE n C (.BoolOp .And (b :: r) p)).1, snd_and (cE n C a).2 (cE n C (.BoolOp .And (b :: r) p)).2⟩
    | .BoolOp .Or (a :: b :: r) p => ⟨.or (cE n C a).1 (cE n C (.BoolOp .Or (b :: r) p)).1, snd_or (cE n C a).2 (cE n C (.BoolOp .Or (b :: r) p)).2⟩
    | .IfExp c a b p => ⟨.ite (cT n C c).1 (cE n C a).1 (cE n C b).1, snd_ite (cT n C c).2 (cE n C a).2 (cE n C b).2⟩
    | .Subscript a (.Slice lo hi none p2) p => match cO n C lo, cO n C hi with
      | some l, some u => ⟨.slc (cE n C a).1 l.1 u.1, snd_slc (cE n C a).2 l.2 u.2⟩
      | _, _ => ⟨.bad, snd_bad _⟩
    | .Subscript a b p => if h : notSlice b = true then ⟨.op .idx (cE n C a).1 (cE n C b).1, snd_idx (cE n C a).2 (cE n C b).2 h⟩ else ⟨.bad, snd_bad _⟩
    | .Attribute a f p => if h : plainBase a = true ∧ C.nm (ids f) = f then ⟨.fld (cE n C a).1 (clsOf C (ids f)) (ids f), snd_fld (cE n C a).2 h.1 h.2 clsOf_mem⟩ else ⟨.bad, snd_bad _⟩
    | .List es p => match cN n C (.List es p) with
      | some i => ⟨.lst i.1, snd_lst i.2⟩
      | none => ⟨.bad, snd_bad _⟩
    | .ListComp a b c p => match cN n C (.ListComp a b c p) with
      | some i => ⟨.lst i.1, snd_lst i.2⟩
      | none => ⟨.bad, snd_bad _⟩
    | .DictComp kx vx [⟨tg, iter, ifs, 0⟩] scope pos => match cG (C.blk scope) tg, cQ n (C.blk scope) ifs with
      | some t, some q => kD1 C kx vx tg iter ifs scope (ownOf C.N scope) pos t q (cI n C tg iter) (cE n (C.blk scope) kx) (cE n (C.blk scope) vx)
      | _, _ => ⟨.bad, snd_bad _⟩
    | .DictComp kx vx [⟨tg, iter, ifs, 0⟩, ⟨tg1, iter1, ifs1, 0⟩] scope pos => match cG (C.blk scope) tg, cQ n (C.blk scope) ifs, cG (C.blk scope) tg1, cQ n (C.blk scope) ifs1 with
      | some t, some q, some u, some d => kD2 C kx vx tg iter tg1 iter1 ifs ifs1 scope (ownOf C.N scope) pos t q (cI n C tg iter) u d (cI n (C.blk scope) tg1 iter1) (cE n (C.blk scope) kx) (cE n (C.blk scope) vx)
      | _, _, _, _ => ⟨.bad, snd_bad _⟩
    | .Dict [] [] p => ⟨.dic, snd_dic⟩
    | .Call (.Attribute ob m ap) [a] [] cp => if h : plainBase ob = true ∧ notStar a = true ∧ (ap.endLine == cp.line) = true then
        (if h2 : m = "append" then ⟨.m1 .append (cE n C ob).1 (cE n C a).1, by subst h2; exact snd_app h.1 h.2.1 h.2.2 (cE n C ob).2 (cE n C a).2⟩
        else if h2 : m = "extend" then ⟨.m1 .extend (cE n C ob).1 (cE n C a).1, by subst h2; exact snd_ext h.1 h.2.1 h.2.2 (cE n C ob).2 (cE n C a).2⟩
        else if h2 : m = "remove" then ⟨.m1 .remove (cE n C ob).1 (cE n C a).1, by subst h2; exact snd_rem h.1 h.2.1 h.2.2 (cE n C ob).2 (cE n C a).2⟩
        else ⟨.bad, snd_bad _⟩) else ⟨.bad, snd_bad _⟩
    | .Call (.Name x p) args kws cp => if hg : glB C x = true then
        (if x ∈ bltNames then cB n C x p args kws cp
        else if hc : C.nm (ids x) = x ∧ (x == ("__debug__" : Str)) = false ∧ noStars args = true then
          (if hm : (ids x, mkOf C (ids x)) ∈ C.mks ∧ mkOf C (ids x) ∈ C.fs then
            (match args, kws, hc with
            | a :: as, [], hc => match cEs n C (a :: as) with
              | some i => ⟨.mk (ids x) (mkOf C (ids x)) i.1, snd_mk hc.1 hm.2 hm.1 hg hc.2.1 hc.2.2 i.2⟩
              | none => ⟨.bad, snd_bad _⟩
            | _, _, _ => ⟨.bad, snd_bad _⟩)
          else if hf : ids x ∈ C.fs ∧ C.meth (ids x) = none then
            (match args, kws, hc with
            | [], [], hc => ⟨.call (ids x) .nil, snd_call0 hc.1 hf.2 hf.1 hg hc.2.1⟩
            | a :: as, [], hc => match cEs n C (a :: as) with
              | some i => ⟨.call (ids x) i.1, snd_call hc.1 hf.2 hf.1 hg hc.2.1 hc.2.2 i.2⟩
              | none => ⟨.bad, snd_bad _⟩
            | [], k :: ks, hc => if hk : kwAll (k :: ks) = true ∧ (ids x, 0, kwNames (k :: ks), ordOf C (ids x) 0 (kwNames (k :: ks))) ∈ C.kws then
                (match cK n C (k :: ks) with
                | some q => ⟨.perm (ids x) 0 (kwNames (k :: ks)).length .nil q.1 (ordOf C (ids x) 0 (kwNames (k :: ks))), snd_callK0 hc.1 hf.2 hf.1 hg hc.2.1 hk.1 hk.2 q.2⟩
                | none => ⟨.bad, snd_bad _⟩) else ⟨.bad, snd_bad _⟩
            | a :: as, k :: ks, hc => if hk : kwAll (k :: ks) = true ∧ (ids x, as.length + 1, kwNames (k :: ks), ordOf C (ids x) (as.length + 1) (kwNames (k :: ks))) ∈ C.kws then
                (match cEs n C (a :: as), cK n C (k :: ks) with
                | some i, some q => ⟨.perm (ids x) (as.length + 1) (kwNames (k :: ks)).length i.1 q.1 (ordOf C (ids x) (as.length + 1) (kwNames (k :: ks))), snd_callK hc.1 hf.2 hf.1 hg hc.2.1 hc.2.2 hk.1 hk.2 i.2 q.2⟩
                | _, _ => ⟨.bad, snd_bad _⟩) else ⟨.bad, snd_bad _⟩)
          else ⟨.bad, snd_bad _⟩)
        else ⟨.bad, snd_bad _⟩)
      else ⟨.bad, snd_bad _⟩
    | e => ⟨.bad, snd_bad e⟩
termination_by structural n => n
/-- built-in functions and types -/
def cB : Nat → (C : Cc) → (x : Str) → (p : Pos) → (args : List Expr) → (kws : List Keyword) → (cp : Pos) → {i : Ex // SndE C (.Call (.Name x p) args kws cp) i}
  | 0, _, x, p, args, kws, cp => ⟨.bad, snd_bad _⟩
  | n + 1, C, x, p, args, kws, cp => match args, kws with
    | [.Call (.Name y p2) [a] [] p3], [] => if h : x = "len" ∧ y = "set" ∧ glB C "len" = true ∧ glB C "set" = true ∧ notStar a = true then ⟨.lset (cE n C a).1, by obtain ⟨h1, h2, h3, h4, h5⟩ := h; subst h1 h2; exact snd_lset h3 h4 h5 (cE n C a).2⟩
      else cB1 n C x p (.Call (.Name y p2) [a] [] p3) cp
    | [a], [] => cB1 n C x p a cp
    | [a, b], [] => if h : notStar a = true ∧ notStar b = true then
        (if h2 : x = "max" ∧ glB C "max" = true then ⟨.b2 .max (cE n C a).1 (cE n C b).1, by obtain ⟨h1, h9⟩ := h2; subst h1; exact snd_max h9 h.1 h.2 (cE n C a).2 (cE n C b).2⟩
        else if h2 : x = "min" ∧ glB C "min" = true then ⟨.b2 .min (cE n C a).1 (cE n C b).1, by obtain ⟨h1, h9⟩ := h2; subst h1; exact snd_min h9 h.1 h.2 (cE n C a).2 (cE n C b).2⟩
        else if h2 : x = "range" ∧ glB C "range" = true then ⟨.rng (cE n C a).1 (cE n C b).1, by obtain ⟨h1, h9⟩ := h2; subst h1; exact snd_rng2 h9 h.1 h.2 (cE n C a).2 (cE n C b).2⟩
        else if h2 : x = "isinstance" ∧ glB C "isinstance" = true then (match b, h2 with
          | .Name y p2, h2 => (match ht : tyOf1 y with
            | some t => if hy : glB C y = true then ⟨.isi (cE n C a).1 [t], by obtain ⟨h1, h9⟩ := h2; subst h1; exact snd_isi1 h9 hy ht h.1 (cE n C a).2⟩ else ⟨.bad, snd_bad _⟩
            | none => ⟨.bad, snd_bad _⟩)
          | .Tuple es j p2, h2 => (match ht : tysOf C es with
            | some (t :: ts) => if hl : ts.length ≤ 10 then ⟨.isi (cE n C a).1 (t :: ts), by obtain ⟨h1, h9⟩ := h2; subst h1; exact snd_isiT h9 ht hl h.1 (cE n C a).2⟩ else ⟨.bad, snd_bad _⟩
            | _ => ⟨.bad, snd_bad _⟩)
          | _, _ => ⟨.bad, snd_bad _⟩)
        else ⟨.bad, snd_bad _⟩) else ⟨.bad, snd_bad _⟩
    | [a], [k] => match cN n C (.Call (.Name x p) [a] [k] cp) with
      | some i => ⟨.lst i.1, snd_lst i.2⟩
      | none => ⟨.bad, snd_bad _⟩
    | args, kws => ⟨.bad, snd_bad _⟩
termination_by structural n => n
/-- .. of one argument -/
def cB1 : Nat → (C : Cc) → (x : Str) → (p : Pos) → (a : Expr) → (cp : Pos) → {i : Ex // SndE C (.Call (.Name x p) [a] [] cp) i}
  | 0, _, x, p, a, cp => ⟨.bad, snd_bad _⟩
  | n + 1, C, x, p, a, cp => if hs : notStar a = true then
      (if h : x = "len" ∧ glB C "len" = true then ⟨.b1 .len (cE n C a).1, by obtain ⟨h1, h2⟩ := h; subst h1; exact snd_len h2 hs (cE n C a).2⟩
      else if h : x = "int" ∧ glB C "int" = true then ⟨.b1 .int (cE n C a).1, by obtain ⟨h1, h2⟩ := h; subst h1; exact snd_int1 h2 hs (cE n C a).2⟩
      else if h : x = "str" ∧ glB C "str" = true then ⟨.b1 .str (cE n C a).1, by obtain ⟨h1, h2⟩ := h; subst h1; exact snd_str1 h2 hs (cE n C a).2⟩
      else if h : x = "range" ∧ glB C "range" = true then ⟨.rng (.cst (.int 0)) (cE n C a).1, by obtain ⟨h1, h2⟩ := h; subst h1; exact snd_rng1 h2 hs (cE n C a).2⟩
      else if h : x = "tuple" ∧ glB C "tuple" = true then ⟨.tpl (cS n C a).1, by obtain ⟨h1, h2⟩ := h; subst h1; exact snd_tpl h2 hs (cS n C a).2⟩
      else if h : x = "any" ∧ glB C "any" = true then (match cN n C a with
        | some i => ⟨.any i.1, by obtain ⟨h1, h2⟩ := h; subst h1; exact snd_any h2 hs i.2⟩
        | none => ⟨.bad, snd_bad _⟩)
      else if h : x = "all" ∧ glB C "all" = true then (match cN n C a with
        | some i => ⟨.all i.1, by obtain ⟨h1, h2⟩ := h; subst h1; exact snd_all h2 hs i.2⟩
        | none => ⟨.bad, snd_bad _⟩)
      else match cN n C (.Call (.Name x p) [a] [] cp) with
        | some i => ⟨.lst i.1, snd_lst i.2⟩
        | none => ⟨.bad, snd_bad _⟩)
    else ⟨.bad, snd_bad _⟩
termination_by structural n => n
def cT : Nat → (C : Cc) → (e : Expr) → {i : Ex // SndT C e i}
  | 0, _, e => ⟨.bad, sndT_bad e⟩
  | n + 1, C, e => match e with
    | .UnaryOp .Not a p => ⟨.not (cT n C a).1, sndT_not (cT n C a).2⟩
    | .BoolOp o vs p => match cW n C o vs p with
      | some i => ⟨i.1, sndT_w i.2⟩
      | none => ⟨.bad, sndT_bad _⟩
    | .Compare a [.Eq] [b] p => ⟨.op .eq (cE n C a).1 (cE n C b).1, sndT_cmpK cmpk_eq rfl (cE n C a).2 (cE n C b).2 (nomark b)⟩
    | .Compare a [.NotEq] [b] p => ⟨.op .ne (cE n C a).1 (cE n C b).1, sndT_cmpK cmpk_ne rfl (cE n C a).2 (cE n C b).2 (nomark b)⟩
    | .Compare a [.Lt] [b] p => ⟨.op .lt (cE n C a).1 (cE n C b).1, sndT_cmpK cmpk_lt rfl (cE n C a).2 (cE n C b).2 (nomark b)⟩
    | .Compare a [.LtE] [b] p => ⟨.op .le (cE n C a).1 (cE n C b).1, sndT_cmpK cmpk_le rfl (cE n C a).2 (cE n C b).2 (nomark b)⟩
    | .Compare a [.Gt] [b] p => ⟨.op .gt (cE n C a).1 (cE n C b).1, sndT_cmpK cmpk_gt rfl (cE n C a).2 (cE n C b).2 (nomark b)⟩
    | .Compare a [.GtE] [b] p => ⟨.op .ge (cE n C a).1 (cE n C b).1, sndT_cmpK cmpk_ge rfl (cE n C a).2 (cE n C b).2 (nomark b)⟩
    | .Compare a [.In] [b] p => if h : behindInMarks .In b = false then ⟨.op .inn (cE n C a).1 (cE n C b).1, sndT_cmpK cmpk_in rfl (cE n C a).2 (cE n C b).2 h⟩ else ⟨.bad, sndT_bad _⟩
    | .Compare a [.NotIn] [b] p => if h : behindInMarks .NotIn b = false then ⟨.op .nin (cE n C a).1 (cE n C b).1, sndT_cmpK cmpk_nin rfl (cE n C a).2 (cE n C b).2 h⟩ else ⟨.bad, sndT_bad _⟩
    | .Compare a [.Is] [.Constant .none j p2] p => ⟨.isn (cE n C a).1, sndT_isn (cE n C a).2⟩
    | .Compare a [.IsNot] [.Constant .none j p2] p => ⟨.ntn (cE n C a).1, sndT_ntn (cE n C a).2⟩
    | e => if h : plainTest e = true then ⟨(cE n C e).1, sndT_of (cE n C e).2 fun env w => plain_test h env w⟩ else ⟨.bad, sndT_bad _⟩
termination_by structural n => n
def cW : Nat → (C : Cc) → (o : BoolOp) → (vs : List Expr) → (p : Pos) → Option {i : Ex // SndW C (.BoolOp o vs p) i}
  | 0, _, _, _, _ => none
  | n + 1, C, o, vs, p => match o, vs with
    | .And, [a] => some ⟨(cT n C a).1, sndW_and1 (cT n C a).2⟩
    | .Or, [a] => some ⟨(cT n C a).1, sndW_or1 (cT n C a).2⟩
    | .And, a :: b :: r => match cW n C .And (b :: r) p with
      | some i => some ⟨.and (cT n C a).1 i.1, sndW_and (cT n C a).2 i.2⟩
      | none => none
    | .Or, a :: b :: r => match cW n C .Or (b :: r) p with
      | some i => some ⟨.or (cT n C a).1 i.1, sndW_or (cT n C a).2 i.2⟩
      | none => none
    | _, [] => none
termination_by structural n => n
def cEs : Nat → (C : Cc) → (es : List Expr) → Option {i : Exs // SndA C es i}
  | 0, _, _ => none
  | n + 1, C, es => match es with
    | [] => some ⟨.nil, snd_nil⟩
    | e :: r => if h : notStar e = true then (match cEs n C r with
      | some i => some ⟨.cons (cE n C e).1 i.1, snd_cons (cE n C e).2 i.2 fun env => star_of h r env⟩
      | none => none) else none
termination_by structural n => n
def cK : Nat → (C : Cc) → (ks : List Keyword) → Option {i : Exs // SndK C ks i}
  | 0, _, ks => none
  | n + 1, C, ks => match ks with
    | [] => some ⟨.nil, sndK_nil⟩
    | ⟨nm, e, kp⟩ :: r => match cK n C r with
      | some i => some ⟨.cons (cE n C e).1 i.1, sndK_cons (cE n C e).2 i.2⟩
      | none => none
termination_by structural n => n
def cO : Nat → (C : Cc) → (e : Option Expr) → Option {i : OEx // SndO C e i}
  | 0, _, _ => none
  | n + 1, C, e => match e with
    | none => some ⟨.non, snd_ono⟩
    | some e => some ⟨.som (cE n C e).1, snd_osome (cE n C e).2⟩
termination_by structural n => n
/-- a new list -/
def cN : Nat → (C : Cc) → (e : Expr) → Option {s : Sq // SndN C e s}
  | 0, _, _ => none
  | n + 1, C, e => match e with
    | .List es p => match cEs n C es with
      | some i => some ⟨.dsp i.1, snd_dsp i.2⟩
      | none => none
    | .ListComp elt [⟨tg, iter, ifs, 0⟩] scope pos => match cG (C.blk scope) tg, cQ n (C.blk scope) ifs with
      | some t, some q => kN1 C elt tg iter ifs scope pos t q (cI n C tg iter) (cE n (C.blk scope) elt)
      | _, _ => none
    | .ListComp elt [⟨tg, iter, ifs, 0⟩, ⟨tg1, iter1, ifs1, 0⟩] scope pos => match cG (C.blk scope) tg, cQ n (C.blk scope) ifs, cG (C.blk scope) tg1, cQ n (C.blk scope) ifs1 with
      | some t, some q, some u, some d => kN2 C elt tg iter tg1 iter1 ifs ifs1 scope pos t q (cI n C tg iter) u d (cI n (C.blk scope) tg1 iter1) (cE n (C.blk scope) elt)
      | _, _, _, _ => none
    | .Call (.Name x p) [.Call (.Name y p2) args [] p3] [] cp => if h : x = "list" ∧ y = "range" ∧ glB C "list" = true ∧ glB C "range" = true then
        (match args with
        | [a] => if hs : notStar a = true then some ⟨.rgl (.cst (.int 0)) (cE n C a).1, by obtain ⟨h1, h2, h3, h4⟩ := h; subst h1 h2; exact snd_rgl1 h3 h4 hs (cE n C a).2⟩ else none
        | [a, b] => if hs : notStar a = true ∧ notStar b = true then some ⟨.rgl (cE n C a).1 (cE n C b).1, by obtain ⟨h1, h2, h3, h4⟩ := h; subst h1 h2; exact snd_rgl2 h3 h4 hs.1 hs.2 (cE n C a).2 (cE n C b).2⟩ else none
        | _ => none)
      else cN1 n C x p (.Call (.Name y p2) args [] p3) cp
    | .Call (.Name x p) [a] [] cp => cN1 n C x p a cp
    | .Call (.Name x p) [a] [⟨some y, .Name f p2, pk⟩] cp => if h : (x = "sorted" ∧ y = "key" ∧ glB C "sorted" = true ∧ notStar a = true) ∧ C.nm (ids f) = f ∧ C.meth (ids f) = none ∧ ids f ∈ C.fs ∧ (C.par (ids f)).length = 1 ∧ glB C f = true ∧ (f == ("__debug__" : Str)) = false then
        some ⟨.srk (cS n C a).1 (ids f), by
          obtain ⟨⟨h1, h2, h3, h4⟩, h5, h6, h7, h8, h9, h10⟩ := h
          subst h1 h2
          exact snd_srk h3 h4 h5 h6 h7 h8 h9 h10 (cS n C a).2⟩
      else none
    | _ => none
termination_by structural n => n
def cN1 : Nat → (C : Cc) → (x : Str) → (p : Pos) → (a : Expr) → (cp : Pos) → Option {s : Sq // SndN C (.Call (.Name x p) [a] [] cp) s}
  | 0, _, _, _, _, _ => none
  | n + 1, C, x, p, a, cp => if hs : notStar a = true then
      (if h : x = "list" ∧ glB C "list" = true then (match cN n C a with
        | some i => some ⟨.lis i.1, by obtain ⟨h1, h2⟩ := h; subst h1; exact snd_lis h2 hs (snd_sqN i.2)⟩
        | none => some ⟨.lsv (cE n C a).1, by obtain ⟨h1, h2⟩ := h; subst h1; exact snd_lsv h2 hs (cE n C a).2⟩)
      else if h : x = "sorted" ∧ glB C "sorted" = true then some ⟨.srt (cS n C a).1, by obtain ⟨h1, h2⟩ := h; subst h1; exact snd_srt h2 hs (cS n C a).2⟩
      else none) else none
termination_by structural n => n
/-- items in a row -/
def cS : Nat → (C : Cc) → (e : Expr) → {s : Sq // SndS C e s}
  | 0, _, e => ⟨.val .bad, snd_sval (snd_bad e)⟩
  | n + 1, C, e => match cN n C e with
    | some i => ⟨i.1, snd_sqN i.2⟩
    | none => ⟨.val (cE n C e).1, snd_sval (cE n C e).2⟩
termination_by structural n => n
def cQ : Nat → (C : Cc) → (ifs : List Expr) → Option {q : OEx // SndQ C ifs q}
  | 0, _, _ => none
  | n + 1, C, ifs => match ifs with
    | [] => some ⟨.non, sndQ_nil⟩
    | [c] => some ⟨.som (cT n C c).1, sndQ_one (cT n C c).2⟩
    | _ => none
termination_by structural n => n
/-- what is walked -/
def cI : Nat → (C : Cc) → (tg e : Expr) → {i : Iy // SndI C tg e i}
  | 0, _, tg, e => ⟨.val .bad, sndI_bad tg e⟩
  | n + 1, C, tg, e => match e with
    | .Call (.Name x p) [.Call (.Name y p2) [a] [] p3] [] cp => if h : x = "permutations" ∧ y = "range" ∧ C.prm = true ∧ glB C "permutations" = true ∧ glB C "range" = true ∧ notStar a = true then
        ⟨.prm (cE n C a).1, by obtain ⟨h1, h2, h3, h4, h5, h6⟩ := h; subst h1 h2; exact sndI_prm h3 h4 h5 h6 (cE n C a).2⟩
      else cI2 n C tg (.Call (.Name x p) [.Call (.Name y p2) [a] [] p3] [] cp)
    | e => cI2 n C tg e
termination_by structural n => n
def cI2 : Nat → (C : Cc) → (tg e : Expr) → {i : Iy // SndI C tg e i}
  | 0, _, tg, e => ⟨.val .bad, sndI_bad tg e⟩
  | n + 1, C, tg, e => match e with
    | .Call (.Name x p) [a] [] cp => if h : x = "range" ∧ glB C "range" = true ∧ notStar a = true then ⟨.rng (.cst (.int 0)) (cE n C a).1, by obtain ⟨h1, h2, h3⟩ := h; subst h1; exact sndI_rng1 h2 h3 (cE n C a).2⟩
      else if h : x = "enumerate" ∧ glB C "enumerate" = true ∧ notStar a = true ∧ isTupE tg = true then ⟨.enm (cE n C a).1, by obtain ⟨h1, h2, h3, h4⟩ := h; subst h1; exact sndI_enm h4 h2 h3 (cE n C a).2⟩
      else cI1 n C tg (.Call (.Name x p) [a] [] cp)
    | .Call (.Name x p) [a, b] [] cp => if h : x = "range" ∧ glB C "range" = true ∧ notStar a = true ∧ notStar b = true then ⟨.rng (cE n C a).1 (cE n C b).1, by obtain ⟨h1, h2, h3, h4⟩ := h; subst h1; exact sndI_rng2 h2 h3 h4 (cE n C a).2 (cE n C b).2⟩
      else cI1 n C tg (.Call (.Name x p) [a, b] [] cp)
    | .Call (.Name x p) [a, b, c] [] cp => if h : x = "range" ∧ glB C "range" = true ∧ notStar a = true ∧ notStar b = true ∧ notStar c = true then ⟨.rngS (cE n C a).1 (cE n C b).1 (cE n C c).1, by obtain ⟨h1, h2, h3, h4, h5⟩ := h; subst h1; exact sndI_rng3 h2 h3 h4 h5 (cE n C a).2 (cE n C b).2 (cE n C c).2⟩
      else cI1 n C tg (.Call (.Name x p) [a, b, c] [] cp)
    | e => cI1 n C tg e
termination_by structural n => n
def cI1 : Nat → (C : Cc) → (tg e : Expr) → {i : Iy // SndI C tg e i}
  | 0, _, tg, e => ⟨.val .bad, sndI_bad tg e⟩
  | n + 1, C, tg, e => match cN n C e with
    | some i => ⟨.sq i.1, sndI_sq i.2⟩
    | none => ⟨.val (cE n C e).1, sndI_val (cE n C e).2⟩
termination_by structural n => n
end
end
end Pv
end Pv_X
section Pv_Y
set_option Elab.async false
set_option linter.all false
set_option maxRecDepth 10000
set_option maxHeartbeats 4000000
namespace Pv
open PySem PySem.Spec PyProof.Rows
open L2
open GV

/-! ### statements -/
/-- whether a comprehension that is set to x at once swaps the iterator (as the machine has it) -/
def swB (C : Cc) (x : Str) (p : Pos) (vp : Pos) (scope : Scope) : Bool :=
  (match C.sc.kind with | .function => true | _ => false) && (match C.sc.names.lookup x with | some .local => true | _ => false) && (p.line == vp.line) && !(scope.names.any fun (n, k) => n == x && (k == .local || k == .cell))
theorem sw_comp {C : Cc} {x : Str} {p : Pos} {elt : Expr} {gs : List Comprehension} {scope : Scope} {pos : Pos} (hl : C.sc.names.lookup x ≠ some .local) (l : Nat) (X : Cx) (h : X.env.scope = C.sc) : swapsWith (.ListComp elt gs scope pos) (some (.Name x p)) l X.env = pure false := by
  have e : X.env.kindOf x = C.sc.names.lookup x := by
    show X.env.scope.names.lookup x = _
    rw [h]
  unfold swapsWith
  simp only [e]
  have : (C.sc.names.lookup x == some NameKind.local) = false := by
    rw [beq_eq_false_iff_ne]
    exact hl
  rw [this]
  simp
theorem sw_dcomp {C : Cc} {x : Str} {p : Pos} {kx vx : Expr} {gs : List Comprehension} {scope : Scope} {pos : Pos} (hl : C.sc.names.lookup x ≠ some .local) (l : Nat) (X : Cx) (h : X.env.scope = C.sc) : swapsWith (.DictComp kx vx gs scope pos) (some (.Name x p)) l X.env = pure false := by
  have e : X.env.kindOf x = C.sc.names.lookup x := by
    show X.env.scope.names.lookup x = _
    rw [h]
  unfold swapsWith
  simp only [e]
  have : (C.sc.names.lookup x == some NameKind.local) = false := by
    rw [beq_eq_false_iff_ne]
    exact hl
  rw [this]
  simp
section
variable (ids : Str → Nat)
mutual
def cM : Nat → (C : Cc) → (s : Stmt) → {i : Sm // SndM C s i}
  | 0, _, s => ⟨.bad, sndM_bad s⟩
  | n + 1, C, s => match s with
    | .Pass p => ⟨.pass, sndM_pass⟩
    | .Break p => ⟨.brk, sndM_brk⟩
    | .Continue p => ⟨.cnt, sndM_cnt⟩
    | .Return none p => ⟨.ret (.cst .non), sndM_retN⟩
    | .Return (some e) p => ⟨.ret (cE ids n C e).1, sndM_ret (cE ids n C e).2⟩
    | .Expr e p => if h : notComp e = true then ⟨.exp (cE ids n C e).1, sndM_exp h (cE ids n C e).2⟩ else ⟨.bad, sndM_bad _⟩
    | .If c a b p => ⟨.iff (cT ids n C c).1 (cMs n C a).1 (cMs n C b).1, sndM_if (cT ids n C c).2 (cMs n C a).2 (cMs n C b).2⟩
    | .For tg iter body [] p => match cG C tg with
      | some t => if h : notSet iter = true then ⟨.for t.1 (cI ids n C tg iter).1 (cMs n C body).1, sndM_for h (cI ids n C tg iter).2 t.2 (cMs n C body).2⟩ else ⟨.bad, sndM_bad _⟩
      | none => ⟨.bad, sndM_bad _⟩
    | .While c body [] p => ⟨.whl (cT ids n C c).1 (cMs n C body).1, sndM_whl (cT ids n C c).2 (cMs n C body).2⟩
    | .Assign [.Name x p] (.ListComp elt [⟨tg, iter, ifs, 0⟩] scope pos) sp =>
      if hl : C.sc.names.lookup x = some .local then
        (match cG (C.blk scope) tg, cQ ids n (C.blk scope) ifs with
        | some t, some q => kM1 C x p elt tg iter ifs scope pos sp hl t q (cI ids n C tg iter) (cE ids n (C.blk scope) elt)
        | _, _ => ⟨.bad, sndM_bad _⟩)
      else if h : C.N[slotOf C.N x]? = some x ∧ locB C x = true then ⟨.asg (.nm (slotOf C.N x)) (cE ids n C (.ListComp elt [⟨tg, iter, ifs, 0⟩] scope pos)).1, sndM_set h.1 h.2 (fun X hX => sw_comp hl _ X hX) (cE ids n C (.ListComp elt [⟨tg, iter, ifs, 0⟩] scope pos)).2⟩
      else ⟨.bad, sndM_bad _⟩
    | .Assign [.Name x p] (.ListComp elt [⟨tg, iter, ifs, 0⟩, ⟨tg1, iter1, ifs1, 0⟩] scope pos) sp =>
      if hl : C.sc.names.lookup x = some .local then
        (match cG (C.blk scope) tg, cQ ids n (C.blk scope) ifs, cG (C.blk scope) tg1, cQ ids n (C.blk scope) ifs1 with
        | some t, some q, some u, some d => kM2 C x p elt tg iter tg1 iter1 ifs ifs1 scope pos sp hl t q (cI ids n C tg iter) u d (cI ids n (C.blk scope) tg1 iter1) (cE ids n (C.blk scope) elt)
        | _, _, _, _ => ⟨.bad, sndM_bad _⟩)
      else if h : C.N[slotOf C.N x]? = some x ∧ locB C x = true then ⟨.asg (.nm (slotOf C.N x)) (cE ids n C (.ListComp elt [⟨tg, iter, ifs, 0⟩, ⟨tg1, iter1, ifs1, 0⟩] scope pos)).1, sndM_set h.1 h.2 (fun X hX => sw_comp hl _ X hX) (cE ids n C (.ListComp elt [⟨tg, iter, ifs, 0⟩, ⟨tg1, iter1, ifs1, 0⟩] scope pos)).2⟩
      else ⟨.bad, sndM_bad _⟩
    | .Assign [.Name x p] (.DictComp kx vx [⟨tg, iter, ifs, 0⟩] scope pos) sp =>
      if hl : C.sc.names.lookup x = some .local then
        (match cG (C.blk scope) tg, cQ ids n (C.blk scope) ifs with
        | some t, some q => kMD C x (slotOf C.N x) p kx vx tg iter ifs scope (ownOf C.N scope) pos sp hl t q (cI ids n C tg iter) (cE ids n (C.blk scope) kx) (cE ids n (C.blk scope) vx)
        | _, _ => ⟨.bad, sndM_bad _⟩)
      else if h : C.N[slotOf C.N x]? = some x ∧ locB C x = true then ⟨.asg (.nm (slotOf C.N x)) (cE ids n C (.DictComp kx vx [⟨tg, iter, ifs, 0⟩] scope pos)).1, sndM_set h.1 h.2 (fun X hX => sw_dcomp hl _ X hX) (cE ids n C (.DictComp kx vx [⟨tg, iter, ifs, 0⟩] scope pos)).2⟩
      else ⟨.bad, sndM_bad _⟩
    | .Assign [.Name x p] (.DictComp kx vx [⟨tg, iter, ifs, 0⟩, ⟨tg1, iter1, ifs1, 0⟩] scope pos) sp =>
      if hl : C.sc.names.lookup x = some .local then
        (match cG (C.blk scope) tg, cQ ids n (C.blk scope) ifs, cG (C.blk scope) tg1, cQ ids n (C.blk scope) ifs1 with
        | some t, some q, some u, some d => kMD2 C x (slotOf C.N x) p kx vx tg iter tg1 iter1 ifs ifs1 scope (ownOf C.N scope) pos sp hl t q (cI ids n C tg iter) u d (cI ids n (C.blk scope) tg1 iter1) (cE ids n (C.blk scope) kx) (cE ids n (C.blk scope) vx)
        | _, _, _, _ => ⟨.bad, sndM_bad _⟩)
      else if h : C.N[slotOf C.N x]? = some x ∧ locB C x = true then ⟨.asg (.nm (slotOf C.N x)) (cE ids n C (.DictComp kx vx [⟨tg, iter, ifs, 0⟩, ⟨tg1, iter1, ifs1, 0⟩] scope pos)).1, sndM_set h.1 h.2 (fun X hX => sw_dcomp hl _ X hX) (cE ids n C (.DictComp kx vx [⟨tg, iter, ifs, 0⟩, ⟨tg1, iter1, ifs1, 0⟩] scope pos)).2⟩
      else ⟨.bad, sndM_bad _⟩
    | .Assign [.Name x p] e sp => if h : notComp e = true ∧ C.N[slotOf C.N x]? = some x ∧ locB C x = true then ⟨.asg (.nm (slotOf C.N x)) (cE ids n C e).1, sndM_set h.2.1 h.2.2 (fun X _ => sw_no h.1 _ _ _) (cE ids n C e).2⟩ else ⟨.bad, sndM_bad _⟩
    | .Assign [.Tuple es j p] e sp =>
      let is := es.map fun e => match e with
        | .Name x _ => slotOf C.N x
        | _ => 0
      if h : nmsOf C es is = true ∧ notComp e = true ∧ notTup e = true then ⟨.asg (.tup is) (cE ids n C e).1, sndM_tup h.1 h.2.1 h.2.2 (cE ids n C e).2⟩ else ⟨.bad, sndM_bad _⟩
    | .Assign [.Attribute o f p] e sp => if h : notComp e = true ∧ C.nm (ids f) = f then ⟨.asg (.fld (cE ids n C o).1 (clsOf C (ids f)) (ids f)) (cE ids n C e).1, sndM_fld (cE ids n C o).2 (cE ids n C e).2 h.2 clsOf_mem h.1⟩ else ⟨.bad, sndM_bad _⟩
    | .Assign [.Subscript o i p] e sp => if h : notSlice i = true ∧ notComp e = true then ⟨.asg (.sub (cE ids n C o).1 (cE ids n C i).1) (cE ids n C e).1, sndM_sub (cE ids n C o).2 (cE ids n C i).2 (cE ids n C e).2 h.1 h.2⟩ else ⟨.bad, sndM_bad _⟩
    | s => ⟨.bad, sndM_bad s⟩
termination_by structural n => n
def cMs : Nat → (C : Cc) → (ss : List Stmt) → {i : Sms // SndMs C ss i}
  | 0, _, ss => ⟨.cons .bad .nil, by
    cases ss with
    | nil => exact fun G d E X k => PSs.weak (t := tNever) pss_never fun D σ H ⟨env, h, μ, _, _, o⟩ => by rw [exSs, exS] at o; exact o
    | cons s r => exact fun G d E X k => PSs.weak (t := tNever) pss_never fun D σ H ⟨env, h, μ, _, _, o⟩ => by rw [exSs, exS] at o; exact o⟩
  | n + 1, C, ss => match ss with
    | [] => ⟨.nil, sndMs_nil⟩
    | s :: r => ⟨.cons (cM n C s).1 (cMs n C r).1, sndMs_cons (cM n C s).2 (cMs n C r).2⟩
termination_by structural n => n
end
end
end Pv
end Pv_Y
section Pv_Z
set_option Elab.async false
set_option linter.all false
set_option maxRecDepth 10000
namespace Pv
open PySem PySem.Spec PyProof.Rows
open L2
open GV

/-! ### names by a table -/
def nmT (tab : List Str) (i : Nat) : Str := match tab[i]? with
  | some x => x
  | none => ⟨#[2000000 + i]⟩
def lowS (x : Str) : Bool := match x.cps.toList with
  | [] => true
  | c :: _ => decide (c < 2000000)
def encS (x : Str) : Nat := x.cps.toList.foldl (fun a c => a * 2097152 + c) 1
/-- ascending -/
def incr : List Nat → Bool
  | a :: b :: r => decide (a < b) && incr (b :: r)
  | _ => true
theorem incr_lt : ∀ {l : List Nat} {a : Nat}, incr (a :: l) = true → ∀ b ∈ l, a < b
  | c :: r, a, h, b, hb => by
    unfold incr at h
    rw [Bool.and_eq_true, decide_eq_true_iff] at h
    rcases List.mem_cons.mp hb with rfl | hb
    · exact h.1
    · exact Nat.lt_trans h.1 (incr_lt h.2 b hb)
theorem incr_tail {a : Nat} {l : List Nat} (h : incr (a :: l) = true) : incr l = true := by
  cases l with
  | nil => rfl
  | cons b r =>
    unfold incr at h
    rw [Bool.and_eq_true] at h
    exact h.2
theorem nodup_of_incr : ∀ {l : List Nat}, incr l = true → l.Nodup
  | [], _ => List.nodup_nil
  | a :: l, h => List.nodup_cons.mpr ⟨fun z => Nat.lt_irrefl a (incr_lt h a z), nodup_of_incr (incr_tail h)⟩
theorem nodup_of_map {α β : Type} (f : α → β) : ∀ {l : List α}, (l.map f).Nodup → l.Nodup
  | [], _ => List.nodup_nil
  | a :: l, h => by
    rw [List.map_cons, List.nodup_cons] at h
    exact List.nodup_cons.mpr ⟨fun z => h.1 (List.mem_map.mpr ⟨a, z, rfl⟩), nodup_of_map f h.2⟩
def tabOk (tab : List Str) : Bool := incr (tab.map encS) && tab.all lowS
theorem nmT_inj {tab : List Str} (h : tabOk tab = true) : ∀ a b, nmT tab a = nmT tab b → a = b := by
  unfold tabOk at h
  rw [Bool.and_eq_true] at h
  obtain ⟨nd, lo⟩ := h
  have nd := nodup_of_map encS (nodup_of_incr nd)
  have low : ∀ {x : Str} {n k : Nat}, tab[n]? = some x → x ≠ ⟨#[2000000 + k]⟩ := fun {x n k} e z => by
    have q := List.all_eq_true.mp lo x (List.mem_of_getElem? e)
    rw [z] at q
    have q : decide (2000000 + k < 2000000) = true := q
    have := of_decide_eq_true q
    omega
  intro a b e
  unfold nmT at e
  cases ea : tab[a]? with
  | some x =>
    rw [ea] at e
    cases eb : tab[b]? with
    | some y =>
      rw [eb] at e
      have e : x = y := e
      subst e
      obtain ⟨la, qa⟩ := List.getElem?_eq_some_iff.mp ea
      obtain ⟨lb, qb⟩ := List.getElem?_eq_some_iff.mp eb
      exact (List.getElem_inj nd).mp (qa.trans qb.symm)
    | none =>
      rw [eb] at e
      exact absurd e (low ea)
  | none =>
    rw [ea] at e
    cases eb : tab[b]? with
    | some y =>
      rw [eb] at e
      exact absurd (show y = _ from e.symm) (low eb)
    | none =>
      rw [eb] at e
      have e : (⟨#[2000000 + a]⟩ : Str) = ⟨#[2000000 + b]⟩ := e
      simp at e
      exact e
def idT (tab : List Str) (x : Str) : Nat := tab.findIdx fun y => decide (y = x)
/-! ### the defs of a text -/
structure DefS where
  name : Str
  qual : Str
  args : Arguments
  body : List Stmt
  scope : Scope
def defsOf : List Stmt → List DefS
  | [] => []
  | .FunctionDef nm ar bd _ _ _ sc _ _ _ :: r => ⟨nm, nm, ar, bd, sc⟩ :: defsOf r
  | _ :: r => defsOf r
def methsOf (c : Str) : List Stmt → List DefS
  | [] => []
  | .ClassDef nm _ _ bd _ _ _ _ _ _ _ :: r => if nm = c then (defsOf bd).map fun d => { d with qual := c ++ "." ++ d.name } else methsOf c r
  | _ :: r => methsOf c r
def findD (ds : List DefS) (x : Str) : Option DefS := ds.find? fun d => decide (d.name = x)
end Pv
end Pv_Z
section Lw_Names
set_option Elab.async false
set_option linter.all false
set_option maxRecDepth 100000
namespace Pv
open PySem (Str)
def tab0 : List Str := ["at", "do", "ask", "cut", "end", "law", "pop", "use", "Desk", "bars", "bind", "done", "fate", "fill", "fits", "flat", "free", "join", "keys", "lets", "part", "redo", "take", "text", "ties"]
def tab1 : List Str := ["turn", "undo", "what", "word", "Table", "World", "_take", "_wall", "begin", "bound", "claim", "clash", "clear", "count", "finer", "holds", "index", "items", "leave", "lying", "notes", "place", "point", "scope", "share"]
def tab2 : List Str := ["split", "table", "truth", "upper", "value", "watch", "Reader", "__eq__", "_deeds", "append", "attach", "bar_in", "barred", "closed", "extend", "finest", "follow", "frames", "frozen", "insert", "is_lay", "is_let", "is_row", "parted", "remove"]
def tab3 : List Str := ["row_of", "row_to", "search", "so_far", "tie_in", "values", "widest", "Desk.do", "TooMany", "__len__", "_claims", "_law_do", "_law_on", "_report", "_undone", "between", "by_size", "carried", "choices", "crossed", "deed_in", "is_deed", "is_even", "is_name", "is_pair"]
def tab4 : List Str := ["isdigit", "matches", "network", "patches", "picture", "refuted", "rest_of", "reverse", "settled", "size_of", "stacked", "ties_to", "true_at", "true_in", "turn_in", "turn_of", "verdict", "watched", "written", "__init__", "_law_all", "_law_any", "_law_bad", "_law_due", "_law_gap"]
def tab5 : List Str := ["_law_kit", "_law_let", "_law_lot", "_law_net", "_law_pot", "_law_raw", "_law_run", "_law_tie", "_law_two", "all_rows", "bar_with", "claim_on", "holds_in", "how_many", "is_below", "is_clash", "is_label", "is_shape", "is_spots", "names_of", "pairs_of", "parts_of", "piece_at", "row_fits", "scenario"]
def tab6 : List Str := ["table_in", "table_of", "take_tie", "tie_fits", "Desk.done", "Desk.redo", "Desk.undo", "Undefined", "World.ask", "_law_asks", "_law_atom", "_law_bars", "_law_bent", "_law_core", "_law_deed", "_law_ends", "_law_even", "_law_fits", "_law_flow", "_law_free", "_law_full", "_law_held", "_law_kept", "_law_lets", "_law_lots"]
def tab7 : List Str := ["_law_made", "_law_many", "_law_name", "_law_next", "_law_part", "_law_read", "_law_rows", "_law_said", "_law_same", "_law_says", "_law_seen", "_law_sign", "_law_size", "_law_step", "_law_take", "_law_text", "_law_true", "_law_turn", "_law_used", "_law_uses", "_law_well", "_law_word", "_networks", "_place_of", "all_pairs"]
def tab8 : List Str := ["all_words", "are_names", "check_lay", "check_let", "check_row", "check_tie", "coarse_of", "exchanged", "grown_out", "is_backed", "is_barred", "is_number", "is_places", "is_rising", "is_tie_of", "is_worded", "least_row", "next_ties", "points_at", "reason_at", "shows_bar", "take_many", "take_word", "thirds_of", "tied_down"]
def tab9 : List Str := ["ties_left", "told_ties", "Desk._take", "Desk.claim", "Desk.leave", "Desk.watch", "InvalidRow", "PatchError", "Reader.end", "Reader.use", "_law_alike", "_law_asked", "_law_bound", "_law_claim", "_law_count", "_law_cycle", "_law_drawn", "_law_error", "_law_every", "_law_finer", "_law_first", "_law_joins", "_law_joint", "_law_known", "_law_label"]
def tab10 : List Str := ["_law_least", "_law_named", "_law_names", "_law_never", "_law_paper", "_law_parse", "_law_piece", "_law_plain", "_law_shown", "_law_shows", "_law_steps", "_law_table", "_law_taken", "_law_three", "_law_wrong", "_questions", "all_shapes", "are_unlike", "best_split", "check_bars", "check_turn", "coarse_gap", "first_open", "first_uses", "free_names"]
def tab11 : List Str := ["has_reason", "is_closing", "is_formula", "is_joining", "is_network", "kept_label", "label_from", "least_core", "let_shapes", "read_table", "setdefault", "startswith", "tie_stands", "twin_found", "twin_grown", "well_built", "with_label", "InvalidDeed", "InvalidText", "Reader.bind", "Reader.take", "World.point", "_law_agrees", "_law_called", "_law_change"]
def tab12 : List Str := ["_law_claims", "_law_closes", "_law_coarse", "_law_finite", "_law_gather", "_law_halves", "_law_inside", "_law_is_net", "_law_joined", "_law_orders", "_law_others", "_law_placed", "_law_search", "_law_spoilt", "_law_stands", "_law_struck", "_law_unlike", "_law_wanted", "_law_wishes", "check_asked", "check_names", "check_spots", "check_world", "coarse_turn", "found_clash"]
def tab13 : List Str := ["has_one_tie", "is_bar_told", "is_question", "is_sequence", "keeps_apart", "least_shape", "part_of_one", "points_over", "write_table", "written_row", "Desk._report", "Desk.network", "Desk.watched", "InvalidNames", "InvalidTable", "Reader.begin", "Table.__eq__", "_law_answers", "_law_carries", "_law_clashes", "_law_classes", "_law_formula", "_law_goes_on", "_law_picture", "_law_planted"]
def tab14 : List Str := ["_law_refused", "_law_refuses", "_law_stacked", "_law_ties_to", "_law_triples", "chain_is_let", "check_places", "coarse_table", "endless_over", "first_barred", "fit_together", "is_ruled_out", "names_to_use", "number_below", "read_formula", "read_history", "read_picture", "told_picture", "turned_label", "twins_beyond", "Desk.__init__", "InvalidNumber", "InvalidPlaces", "NothingToUndo", "Reader.attach"]
def tab15 : List Str := ["Reader.follow", "World.__len__", "World.carried", "World.picture", "World.ties_to", "_law_bar_line", "_law_bar_text", "_law_clashing", "_law_hopeless", "_law_next_row", "_law_no_names", "_law_no_world", "_law_pictured", "_law_piece_of", "_law_question", "_law_sentence", "_law_standing", "_law_too_many", "all_scenarios", "barred_orders", "check_formula", "check_joining", "check_network", "check_picture", "collect_names"]
def tab16 : List Str := ["is_refutation", "least_network", "names_to_bind", "network_after", "numbers_below", "part_of_other", "twins_without", "write_formula", "write_history", "write_picture", "Desk._place_of", "InvalidFormula", "InvalidNetwork", "InvalidPicture", "Table.__init__", "World.__init__", "World.piece_at", "_law_bad_names", "_law_bars_well", "_law_core_well", "_law_cross_bad", "_law_deed_line", "_law_deed_text", "_law_first_row", "_law_is_number"]
def tab17 : List Str := ["_law_lets_from", "_law_lets_well", "_law_names_fit", "_law_number_of", "_law_rows_kept", "_law_stack_bad", "_law_told_part", "_law_world_kit", "check_crossing", "many_scenarios", "Reader.__init__", "Reader.take_tie", "_law_bars_there", "_law_clash_told", "_law_cross_turn", "_law_draw_names", "_law_draw_order", "_law_even_meets", "_law_free_names", "_law_grown_well", "_law_holds_down", "_law_is_picture", "_law_is_stacked", "_law_label_left", "_law_least_well"]
def tab18 : List Str := ["_law_lets_asked", "_law_names_good", "_law_no_formula", "_law_no_picture", "_law_parts_true", "_law_stack_turn", "_law_table_line", "_law_table_well", "_law_with_label", "_law_world_told", "points_of_world", "Reader.take_many", "Reader.take_word", "TooMany.__init__", "_law_closed_well", "_law_coarse_bars", "_law_counts_true", "_law_errors_well", "_law_known_meets", "_law_wishes_true", "is_closing_split", "_law_draw_picture", "_law_inside_meets", "pieces_by_picture", "Undefined.__init__"]
def tab19 : List Str := ["InvalidRow.__init__", "Reader.names_to_use", "is_stacked_triangle", "InvalidDeed.__init__", "InvalidText.__init__", "Reader.names_to_bind", "InvalidNames.__init__", "InvalidTable.__init__", "InvalidNumber.__init__", "InvalidPlaces.__init__", "NothingToUndo.__init__", "InvalidFormula.__init__", "InvalidNetwork.__init__", "InvalidPicture.__init__"]
def tab : List Str := tab0 ++ tab1 ++ tab2 ++ tab3 ++ tab4 ++ tab5 ++ tab6 ++ tab7 ++ tab8 ++ tab9 ++ tab10 ++ tab11 ++ tab12 ++ tab13 ++ tab14 ++ tab15 ++ tab16 ++ tab17 ++ tab18 ++ tab19
theorem tab_ok : tabOk tab = true := by decide +kernel
abbrev n_at : Nat := 0
abbrev n_do : Nat := 1
abbrev n_ask : Nat := 2
abbrev n_cut : Nat := 3
abbrev n_end : Nat := 4
abbrev n_law : Nat := 5
abbrev n_pop : Nat := 6
abbrev n_use : Nat := 7
abbrev n_Desk : Nat := 8
abbrev n_bars : Nat := 9
abbrev n_bind : Nat := 10
abbrev n_done : Nat := 11
abbrev n_fate : Nat := 12
abbrev n_fill : Nat := 13
abbrev n_fits : Nat := 14
abbrev n_flat : Nat := 15
abbrev n_free : Nat := 16
abbrev n_join : Nat := 17
abbrev n_keys : Nat := 18
abbrev n_lets : Nat := 19
abbrev n_part : Nat := 20
abbrev n_redo : Nat := 21
abbrev n_take : Nat := 22
abbrev n_text : Nat := 23
abbrev n_ties : Nat := 24
abbrev n_turn : Nat := 25
abbrev n_undo : Nat := 26
abbrev n_what : Nat := 27
abbrev n_word : Nat := 28
abbrev n_Table : Nat := 29
abbrev n_World : Nat := 30
abbrev n__take : Nat := 31
abbrev n__wall : Nat := 32
abbrev n_begin : Nat := 33
abbrev n_bound : Nat := 34
abbrev n_claim : Nat := 35
abbrev n_clash : Nat := 36
abbrev n_clear : Nat := 37
abbrev n_count : Nat := 38
abbrev n_finer : Nat := 39
abbrev n_holds : Nat := 40
abbrev n_index : Nat := 41
abbrev n_items : Nat := 42
abbrev n_leave : Nat := 43
abbrev n_lying : Nat := 44
abbrev n_notes : Nat := 45
abbrev n_place : Nat := 46
abbrev n_point : Nat := 47
abbrev n_scope : Nat := 48
abbrev n_share : Nat := 49
abbrev n_split : Nat := 50
abbrev n_table : Nat := 51
abbrev n_truth : Nat := 52
abbrev n_upper : Nat := 53
abbrev n_value : Nat := 54
abbrev n_watch : Nat := 55
abbrev n_Reader : Nat := 56
abbrev n___eq__ : Nat := 57
abbrev n__deeds : Nat := 58
abbrev n_append : Nat := 59
abbrev n_attach : Nat := 60
abbrev n_bar_in : Nat := 61
abbrev n_barred : Nat := 62
abbrev n_closed : Nat := 63
abbrev n_extend : Nat := 64
abbrev n_finest : Nat := 65
abbrev n_follow : Nat := 66
abbrev n_frames : Nat := 67
abbrev n_frozen : Nat := 68
abbrev n_insert : Nat := 69
abbrev n_is_lay : Nat := 70
abbrev n_is_let : Nat := 71
abbrev n_is_row : Nat := 72
abbrev n_parted : Nat := 73
abbrev n_remove : Nat := 74
abbrev n_row_of : Nat := 75
abbrev n_row_to : Nat := 76
abbrev n_search : Nat := 77
abbrev n_so_far : Nat := 78
abbrev n_tie_in : Nat := 79
abbrev n_values : Nat := 80
abbrev n_widest : Nat := 81
abbrev n_Desk_dot_do : Nat := 82
abbrev n_TooMany : Nat := 83
abbrev n___len__ : Nat := 84
abbrev n__claims : Nat := 85
abbrev n__law_do : Nat := 86
abbrev n__law_on : Nat := 87
abbrev n__report : Nat := 88
abbrev n__undone : Nat := 89
abbrev n_between : Nat := 90
abbrev n_by_size : Nat := 91
abbrev n_carried : Nat := 92
abbrev n_choices : Nat := 93
abbrev n_crossed : Nat := 94
abbrev n_deed_in : Nat := 95
abbrev n_is_deed : Nat := 96
abbrev n_is_even : Nat := 97
abbrev n_is_name : Nat := 98
abbrev n_is_pair : Nat := 99
abbrev n_isdigit : Nat := 100
abbrev n_matches : Nat := 101
abbrev n_network : Nat := 102
abbrev n_patches : Nat := 103
abbrev n_picture : Nat := 104
abbrev n_refuted : Nat := 105
abbrev n_rest_of : Nat := 106
abbrev n_reverse : Nat := 107
abbrev n_settled : Nat := 108
abbrev n_size_of : Nat := 109
abbrev n_stacked : Nat := 110
abbrev n_ties_to : Nat := 111
abbrev n_true_at : Nat := 112
abbrev n_true_in : Nat := 113
abbrev n_turn_in : Nat := 114
abbrev n_turn_of : Nat := 115
abbrev n_verdict : Nat := 116
abbrev n_watched : Nat := 117
abbrev n_written : Nat := 118
abbrev n___init__ : Nat := 119
abbrev n__law_all : Nat := 120
abbrev n__law_any : Nat := 121
abbrev n__law_bad : Nat := 122
abbrev n__law_due : Nat := 123
abbrev n__law_gap : Nat := 124
abbrev n__law_kit : Nat := 125
abbrev n__law_let : Nat := 126
abbrev n__law_lot : Nat := 127
abbrev n__law_net : Nat := 128
abbrev n__law_pot : Nat := 129
abbrev n__law_raw : Nat := 130
abbrev n__law_run : Nat := 131
abbrev n__law_tie : Nat := 132
abbrev n__law_two : Nat := 133
abbrev n_all_rows : Nat := 134
abbrev n_bar_with : Nat := 135
abbrev n_claim_on : Nat := 136
abbrev n_holds_in : Nat := 137
abbrev n_how_many : Nat := 138
abbrev n_is_below : Nat := 139
abbrev n_is_clash : Nat := 140
abbrev n_is_label : Nat := 141
abbrev n_is_shape : Nat := 142
abbrev n_is_spots : Nat := 143
abbrev n_names_of : Nat := 144
abbrev n_pairs_of : Nat := 145
abbrev n_parts_of : Nat := 146
abbrev n_piece_at : Nat := 147
abbrev n_row_fits : Nat := 148
abbrev n_scenario : Nat := 149
abbrev n_table_in : Nat := 150
abbrev n_table_of : Nat := 151
abbrev n_take_tie : Nat := 152
abbrev n_tie_fits : Nat := 153
abbrev n_Desk_dot_done : Nat := 154
abbrev n_Desk_dot_redo : Nat := 155
abbrev n_Desk_dot_undo : Nat := 156
abbrev n_Undefined : Nat := 157
abbrev n_World_dot_ask : Nat := 158
abbrev n__law_asks : Nat := 159
abbrev n__law_atom : Nat := 160
abbrev n__law_bars : Nat := 161
abbrev n__law_bent : Nat := 162
abbrev n__law_core : Nat := 163
abbrev n__law_deed : Nat := 164
abbrev n__law_ends : Nat := 165
abbrev n__law_even : Nat := 166
abbrev n__law_fits : Nat := 167
abbrev n__law_flow : Nat := 168
abbrev n__law_free : Nat := 169
abbrev n__law_full : Nat := 170
abbrev n__law_held : Nat := 171
abbrev n__law_kept : Nat := 172
abbrev n__law_lets : Nat := 173
abbrev n__law_lots : Nat := 174
abbrev n__law_made : Nat := 175
abbrev n__law_many : Nat := 176
abbrev n__law_name : Nat := 177
abbrev n__law_next : Nat := 178
abbrev n__law_part : Nat := 179
abbrev n__law_read : Nat := 180
abbrev n__law_rows : Nat := 181
abbrev n__law_said : Nat := 182
abbrev n__law_same : Nat := 183
abbrev n__law_says : Nat := 184
abbrev n__law_seen : Nat := 185
abbrev n__law_sign : Nat := 186
abbrev n__law_size : Nat := 187
abbrev n__law_step : Nat := 188
abbrev n__law_take : Nat := 189
abbrev n__law_text : Nat := 190
abbrev n__law_true : Nat := 191
abbrev n__law_turn : Nat := 192
abbrev n__law_used : Nat := 193
abbrev n__law_uses : Nat := 194
abbrev n__law_well : Nat := 195
abbrev n__law_word : Nat := 196
abbrev n__networks : Nat := 197
abbrev n__place_of : Nat := 198
abbrev n_all_pairs : Nat := 199
abbrev n_all_words : Nat := 200
abbrev n_are_names : Nat := 201
abbrev n_check_lay : Nat := 202
abbrev n_check_let : Nat := 203
abbrev n_check_row : Nat := 204
abbrev n_check_tie : Nat := 205
abbrev n_coarse_of : Nat := 206
abbrev n_exchanged : Nat := 207
abbrev n_grown_out : Nat := 208
abbrev n_is_backed : Nat := 209
abbrev n_is_barred : Nat := 210
abbrev n_is_number : Nat := 211
abbrev n_is_places : Nat := 212
abbrev n_is_rising : Nat := 213
abbrev n_is_tie_of : Nat := 214
abbrev n_is_worded : Nat := 215
abbrev n_least_row : Nat := 216
abbrev n_next_ties : Nat := 217
abbrev n_points_at : Nat := 218
abbrev n_reason_at : Nat := 219
abbrev n_shows_bar : Nat := 220
abbrev n_take_many : Nat := 221
abbrev n_take_word : Nat := 222
abbrev n_thirds_of : Nat := 223
abbrev n_tied_down : Nat := 224
abbrev n_ties_left : Nat := 225
abbrev n_told_ties : Nat := 226
abbrev n_Desk_dot__take : Nat := 227
abbrev n_Desk_dot_claim : Nat := 228
abbrev n_Desk_dot_leave : Nat := 229
abbrev n_Desk_dot_watch : Nat := 230
abbrev n_InvalidRow : Nat := 231
abbrev n_PatchError : Nat := 232
abbrev n_Reader_dot_end : Nat := 233
abbrev n_Reader_dot_use : Nat := 234
abbrev n__law_alike : Nat := 235
abbrev n__law_asked : Nat := 236
abbrev n__law_bound : Nat := 237
abbrev n__law_claim : Nat := 238
abbrev n__law_count : Nat := 239
abbrev n__law_cycle : Nat := 240
abbrev n__law_drawn : Nat := 241
abbrev n__law_error : Nat := 242
abbrev n__law_every : Nat := 243
abbrev n__law_finer : Nat := 244
abbrev n__law_first : Nat := 245
abbrev n__law_joins : Nat := 246
abbrev n__law_joint : Nat := 247
abbrev n__law_known : Nat := 248
abbrev n__law_label : Nat := 249
abbrev n__law_least : Nat := 250
abbrev n__law_named : Nat := 251
abbrev n__law_names : Nat := 252
abbrev n__law_never : Nat := 253
abbrev n__law_paper : Nat := 254
abbrev n__law_parse : Nat := 255
abbrev n__law_piece : Nat := 256
abbrev n__law_plain : Nat := 257
abbrev n__law_shown : Nat := 258
abbrev n__law_shows : Nat := 259
abbrev n__law_steps : Nat := 260
abbrev n__law_table : Nat := 261
abbrev n__law_taken : Nat := 262
abbrev n__law_three : Nat := 263
abbrev n__law_wrong : Nat := 264
abbrev n__questions : Nat := 265
abbrev n_all_shapes : Nat := 266
abbrev n_are_unlike : Nat := 267
abbrev n_best_split : Nat := 268
abbrev n_check_bars : Nat := 269
abbrev n_check_turn : Nat := 270
abbrev n_coarse_gap : Nat := 271
abbrev n_first_open : Nat := 272
abbrev n_first_uses : Nat := 273
abbrev n_free_names : Nat := 274
abbrev n_has_reason : Nat := 275
abbrev n_is_closing : Nat := 276
abbrev n_is_formula : Nat := 277
abbrev n_is_joining : Nat := 278
abbrev n_is_network : Nat := 279
abbrev n_kept_label : Nat := 280
abbrev n_label_from : Nat := 281
abbrev n_least_core : Nat := 282
abbrev n_let_shapes : Nat := 283
abbrev n_read_table : Nat := 284
abbrev n_setdefault : Nat := 285
abbrev n_startswith : Nat := 286
abbrev n_tie_stands : Nat := 287
abbrev n_twin_found : Nat := 288
abbrev n_twin_grown : Nat := 289
abbrev n_well_built : Nat := 290
abbrev n_with_label : Nat := 291
abbrev n_InvalidDeed : Nat := 292
abbrev n_InvalidText : Nat := 293
abbrev n_Reader_dot_bind : Nat := 294
abbrev n_Reader_dot_take : Nat := 295
abbrev n_World_dot_point : Nat := 296
abbrev n__law_agrees : Nat := 297
abbrev n__law_called : Nat := 298
abbrev n__law_change : Nat := 299
abbrev n__law_claims : Nat := 300
abbrev n__law_closes : Nat := 301
abbrev n__law_coarse : Nat := 302
abbrev n__law_finite : Nat := 303
abbrev n__law_gather : Nat := 304
abbrev n__law_halves : Nat := 305
abbrev n__law_inside : Nat := 306
abbrev n__law_is_net : Nat := 307
abbrev n__law_joined : Nat := 308
abbrev n__law_orders : Nat := 309
abbrev n__law_others : Nat := 310
abbrev n__law_placed : Nat := 311
abbrev n__law_search : Nat := 312
abbrev n__law_spoilt : Nat := 313
abbrev n__law_stands : Nat := 314
abbrev n__law_struck : Nat := 315
abbrev n__law_unlike : Nat := 316
abbrev n__law_wanted : Nat := 317
abbrev n__law_wishes : Nat := 318
abbrev n_check_asked : Nat := 319
abbrev n_check_names : Nat := 320
abbrev n_check_spots : Nat := 321
abbrev n_check_world : Nat := 322
abbrev n_coarse_turn : Nat := 323
abbrev n_found_clash : Nat := 324
abbrev n_has_one_tie : Nat := 325
abbrev n_is_bar_told : Nat := 326
abbrev n_is_question : Nat := 327
abbrev n_is_sequence : Nat := 328
abbrev n_keeps_apart : Nat := 329
abbrev n_least_shape : Nat := 330
abbrev n_part_of_one : Nat := 331
abbrev n_points_over : Nat := 332
abbrev n_write_table : Nat := 333
abbrev n_written_row : Nat := 334
abbrev n_Desk_dot__report : Nat := 335
abbrev n_Desk_dot_network : Nat := 336
abbrev n_Desk_dot_watched : Nat := 337
abbrev n_InvalidNames : Nat := 338
abbrev n_InvalidTable : Nat := 339
abbrev n_Reader_dot_begin : Nat := 340
abbrev n_Table_dot___eq__ : Nat := 341
abbrev n__law_answers : Nat := 342
abbrev n__law_carries : Nat := 343
abbrev n__law_clashes : Nat := 344
abbrev n__law_classes : Nat := 345
abbrev n__law_formula : Nat := 346
abbrev n__law_goes_on : Nat := 347
abbrev n__law_picture : Nat := 348
abbrev n__law_planted : Nat := 349
abbrev n__law_refused : Nat := 350
abbrev n__law_refuses : Nat := 351
abbrev n__law_stacked : Nat := 352
abbrev n__law_ties_to : Nat := 353
abbrev n__law_triples : Nat := 354
abbrev n_chain_is_let : Nat := 355
abbrev n_check_places : Nat := 356
abbrev n_coarse_table : Nat := 357
abbrev n_endless_over : Nat := 358
abbrev n_first_barred : Nat := 359
abbrev n_fit_together : Nat := 360
abbrev n_is_ruled_out : Nat := 361
abbrev n_names_to_use : Nat := 362
abbrev n_number_below : Nat := 363
abbrev n_read_formula : Nat := 364
abbrev n_read_history : Nat := 365
abbrev n_read_picture : Nat := 366
abbrev n_told_picture : Nat := 367
abbrev n_turned_label : Nat := 368
abbrev n_twins_beyond : Nat := 369
abbrev n_Desk_dot___init__ : Nat := 370
abbrev n_InvalidNumber : Nat := 371
abbrev n_InvalidPlaces : Nat := 372
abbrev n_NothingToUndo : Nat := 373
abbrev n_Reader_dot_attach : Nat := 374
abbrev n_Reader_dot_follow : Nat := 375
abbrev n_World_dot___len__ : Nat := 376
abbrev n_World_dot_carried : Nat := 377
abbrev n_World_dot_picture : Nat := 378
abbrev n_World_dot_ties_to : Nat := 379
abbrev n__law_bar_line : Nat := 380
abbrev n__law_bar_text : Nat := 381
abbrev n__law_clashing : Nat := 382
abbrev n__law_hopeless : Nat := 383
abbrev n__law_next_row : Nat := 384
abbrev n__law_no_names : Nat := 385
abbrev n__law_no_world : Nat := 386
abbrev n__law_pictured : Nat := 387
abbrev n__law_piece_of : Nat := 388
abbrev n__law_question : Nat := 389
abbrev n__law_sentence : Nat := 390
abbrev n__law_standing : Nat := 391
abbrev n__law_too_many : Nat := 392
abbrev n_all_scenarios : Nat := 393
abbrev n_barred_orders : Nat := 394
abbrev n_check_formula : Nat := 395
abbrev n_check_joining : Nat := 396
abbrev n_check_network : Nat := 397
abbrev n_check_picture : Nat := 398
abbrev n_collect_names : Nat := 399
abbrev n_is_refutation : Nat := 400
abbrev n_least_network : Nat := 401
abbrev n_names_to_bind : Nat := 402
abbrev n_network_after : Nat := 403
abbrev n_numbers_below : Nat := 404
abbrev n_part_of_other : Nat := 405
abbrev n_twins_without : Nat := 406
abbrev n_write_formula : Nat := 407
abbrev n_write_history : Nat := 408
abbrev n_write_picture : Nat := 409
abbrev n_Desk_dot__place_of : Nat := 410
abbrev n_InvalidFormula : Nat := 411
abbrev n_InvalidNetwork : Nat := 412
abbrev n_InvalidPicture : Nat := 413
abbrev n_Table_dot___init__ : Nat := 414
abbrev n_World_dot___init__ : Nat := 415
abbrev n_World_dot_piece_at : Nat := 416
abbrev n__law_bad_names : Nat := 417
abbrev n__law_bars_well : Nat := 418
abbrev n__law_core_well : Nat := 419
abbrev n__law_cross_bad : Nat := 420
abbrev n__law_deed_line : Nat := 421
abbrev n__law_deed_text : Nat := 422
abbrev n__law_first_row : Nat := 423
abbrev n__law_is_number : Nat := 424
abbrev n__law_lets_from : Nat := 425
abbrev n__law_lets_well : Nat := 426
abbrev n__law_names_fit : Nat := 427
abbrev n__law_number_of : Nat := 428
abbrev n__law_rows_kept : Nat := 429
abbrev n__law_stack_bad : Nat := 430
abbrev n__law_told_part : Nat := 431
abbrev n__law_world_kit : Nat := 432
abbrev n_check_crossing : Nat := 433
abbrev n_many_scenarios : Nat := 434
abbrev n_Reader_dot___init__ : Nat := 435
abbrev n_Reader_dot_take_tie : Nat := 436
abbrev n__law_bars_there : Nat := 437
abbrev n__law_clash_told : Nat := 438
abbrev n__law_cross_turn : Nat := 439
abbrev n__law_draw_names : Nat := 440
abbrev n__law_draw_order : Nat := 441
abbrev n__law_even_meets : Nat := 442
abbrev n__law_free_names : Nat := 443
abbrev n__law_grown_well : Nat := 444
abbrev n__law_holds_down : Nat := 445
abbrev n__law_is_picture : Nat := 446
abbrev n__law_is_stacked : Nat := 447
abbrev n__law_label_left : Nat := 448
abbrev n__law_least_well : Nat := 449
abbrev n__law_lets_asked : Nat := 450
abbrev n__law_names_good : Nat := 451
abbrev n__law_no_formula : Nat := 452
abbrev n__law_no_picture : Nat := 453
abbrev n__law_parts_true : Nat := 454
abbrev n__law_stack_turn : Nat := 455
abbrev n__law_table_line : Nat := 456
abbrev n__law_table_well : Nat := 457
abbrev n__law_with_label : Nat := 458
abbrev n__law_world_told : Nat := 459
abbrev n_points_of_world : Nat := 460
abbrev n_Reader_dot_take_many : Nat := 461
abbrev n_Reader_dot_take_word : Nat := 462
abbrev n_TooMany_dot___init__ : Nat := 463
abbrev n__law_closed_well : Nat := 464
abbrev n__law_coarse_bars : Nat := 465
abbrev n__law_counts_true : Nat := 466
abbrev n__law_errors_well : Nat := 467
abbrev n__law_known_meets : Nat := 468
abbrev n__law_wishes_true : Nat := 469
abbrev n_is_closing_split : Nat := 470
abbrev n__law_draw_picture : Nat := 471
abbrev n__law_inside_meets : Nat := 472
abbrev n_pieces_by_picture : Nat := 473
abbrev n_Undefined_dot___init__ : Nat := 474
abbrev n_InvalidRow_dot___init__ : Nat := 475
abbrev n_Reader_dot_names_to_use : Nat := 476
abbrev n_is_stacked_triangle : Nat := 477
abbrev n_InvalidDeed_dot___init__ : Nat := 478
abbrev n_InvalidText_dot___init__ : Nat := 479
abbrev n_Reader_dot_names_to_bind : Nat := 480
abbrev n_InvalidNames_dot___init__ : Nat := 481
abbrev n_InvalidTable_dot___init__ : Nat := 482
abbrev n_InvalidNumber_dot___init__ : Nat := 483
abbrev n_InvalidPlaces_dot___init__ : Nat := 484
abbrev n_NothingToUndo_dot___init__ : Nat := 485
abbrev n_InvalidFormula_dot___init__ : Nat := 486
abbrev n_InvalidNetwork_dot___init__ : Nat := 487
abbrev n_InvalidPicture_dot___init__ : Nat := 488
end Pv
end Lw_Names
section Pv_ZA
set_option Elab.async false
set_option linter.all false
set_option maxRecDepth 10000
namespace Pv
open PySem PySem.Spec PyProof.Rows
open L2
open GV

/-! ### the head -/
/-- one def of the text: its number, its text, its names by slot, whether it leaves the heap as it was, where it stands -/
structure DefR where
  f : Nat
  d : DefS
  N : List Str
  pu : Bool
  at_ : Str × Option Str
def ccR (B : Cb) (r : DefR) : Cc := { B with N := r.N, sc := r.d.scope, own := fun _ => true }
def fnR (B : Cb) (ids : Str → Nat) (r : DefR) : Fn := ⟨(B.par r.f).length, r.N.length, r.pu, (cMs ids 60 (ccR B r) r.d.body).1⟩
def gOf (B : Cb) (ids : Str → Nat) (rs : List DefR) : Prg := fun f => (rs.find? fun r => decide (r.f = f)).map fun r => fnR B ids r
def scB (N P : List Str) (sc : Scope) : Bool :=
  (match sc.kind with | .function => true | _ => false) && !sc.isCoroutine && !sc.isGenerator && decide N.Nodup && decide (N.take P.length = P) && (P.all fun x => match sc.names.lookup x with | some .local => true | some .cell => true | _ => false) && sc.names.all fun y => match y.2 with | .free => false | _ => true
theorem scB_ok {N P : List Str} {sc : Scope} (h : scB N P sc = true) : FnScope N P sc := by
  unfold scB at h
  simp only [Bool.and_eq_true, decide_eq_true_eq, Bool.not_eq_true', List.all_eq_true] at h
  obtain ⟨⟨⟨⟨⟨⟨h1, h2⟩, h3⟩, h4⟩, h5⟩, h6⟩, h7⟩ := h
  refine ⟨?_, h2, h3, h4, h5, fun x hx => ?_, fun y hy e => ?_⟩
  · split at h1
    · assumption
    · cases h1
  · have := h6 x hx
    split at this
    · exact .inl (by assumption)
    · exact .inr (by assumption)
    · cases this
  · have := h7 y hy
    rw [e] at this
    cases this
def atOf (B : Cb) (f : Nat) : Str × Option Str := match B.meth f with
  | some (c, m) => (B.nm c, some (B.nm m))
  | none => (B.nm f, none)
def chkR (B : Cb) (r : DefR) : Bool :=
  plainP r.d.args && decide (parOf r.d.args = B.par r.f) && decide (B.par r.f).Nodup && scB r.N (B.par r.f) r.d.scope && (B.kws.all fun q => !decide (q.1 = r.f) || kwOk (B.par r.f) q.2.1 q.2.2.1 q.2.2.2) && decide (r.at_ = atOf B r.f)
def toD (r : DefR) : He.DefD := ⟨r.at_, r.d.name, r.d.qual, r.d.args, r.d.body, r.d.scope, [], []⟩
/-- what the head is to tell -/
def faOf (B : Cb) : List He.Fa :=
  bltNames.map .free ++ (B.attrs.map fun p => .cls (B.nm p.1)) ++ (B.attrs.map fun p => .noat (B.nm p.1) (B.nm p.2)) ++ (B.mks.map fun p => .glo (B.nm p.1)) ++ (B.mks.map fun p => .mkr (B.nm p.1)) ++
    B.fs.map fun f => match B.meth f with
      | some (c, m) => .meth (B.nm c) (B.nm m)
      | none => .glo (B.nm f)
/-- each class that is made has its own __init__ here -/
def mkB (B : Cb) : Bool := B.mks.all fun p => match B.meth p.2 with
  | some (c, m) => decide (c = p.1) && decide (B.nm m = "__init__")
  | none => false
theorem says_fact {fa : List He.Fa} {fn : List He.DefD} {K : PySem.W.Frag} (c : He.SaysD fa fn K) {f : He.Fa} (h : f ∈ fa) : f.ok K = true := by
  obtain ⟨i, hi, e⟩ := List.mem_iff_getElem.mp h
  exact c.fact i (f := f) (by rw [List.getElem?_eq_getElem hi, e])
/-- the name permutations is the library's type -/
def prmIn (b : Bool) (K : PySem.W.Frag) : Bool := match b with
  | true => He.eqO (PySem.W.nsIn K mainGlobals "permutations") (some (some (.type "itertools.permutations")))
  | false => true
def hookP (n : Nat) (b : Bool) (fa : List He.Fa) (fn : List He.DefD) : PySem.W.Hook where
  α := He.AlD × Bool
  obs := fun s => (He.obsDG n fa fn s.heap.get?, prmIn b (He.frG s.heap.get? (He.asD s.heap.get? n)))
  val := fun _ => (He.valD fn, true)
  says := fun _ h => ∃ K : PySem.W.Frag, K.In h ∧ He.SaysD fa fn K ∧ prmIn b K = true
  of := fun _ _ e => ⟨_, He.frG_in, congrArg Prod.fst e, congrArg Prod.snd e⟩
  keeps := fun _ _ _ ⟨K, hK, c⟩ k => ⟨K, PySem.W.Frag.In.keeps hK k, c⟩
def obsP (n : Nat) (b : Bool) (fa : List He.Fa) (fn : List He.DefD) (g : Addr → Option Obj) : He.AlD × Bool := (He.obsDG n fa fn g, prmIn b (He.frG g (He.asD g n)))
theorem obsP_eq {n : Nat} {b : Bool} {fa : List He.Fa} {fn : List He.DefD} {g : Addr → Option Obj} {s : Shared} (h : ∀ a, g a = s.heap.get? a) : obsP n b fa fn g = (hookP n b fa fn).obs s := by
  have e : g = s.heap.get? := funext h
  rw [e] <;> rfl
section
variable {K : PySem.W.Frag} {h : Heap} {mg : Str → Option Value} {B : Cb} {fn : List He.DefD}
theorem glob_of (X : K.In h) (G : h.Ns mainGlobals mg) (c : He.SaysD (faOf B) fn K) (pr : prmIn B.prm K = true) (mk : mkB B = true) : Glob K mg B where
  prm := fun e => by
    rw [e] at pr
    exact PySem.W.mg_of X G (He.eqO_ok pr)
  blt := fun x hx => He.free_ok X G (says_fact c (by unfold faOf; simp only [List.mem_append, List.mem_map]; exact .inl (.inl (.inl (.inl (.inl ⟨x, hx, rfl⟩))))))
  attr := fun p hp => ⟨He.cls_ok (says_fact c (by unfold faOf; simp only [List.mem_append, List.mem_map]; exact .inl (.inl (.inl (.inl (.inr ⟨p, hp, rfl⟩)))))),
    He.noat_ok (says_fact c (by unfold faOf; simp only [List.mem_append, List.mem_map]; exact .inl (.inl (.inl (.inr ⟨p, hp, rfl⟩)))))⟩
  made := fun p hp => by
    have m1 := He.glo_ok X G (says_fact c (f := .glo (B.nm p.1)) (by unfold faOf; simp only [List.mem_append, List.mem_map]; exact .inl (.inl (.inr ⟨p, hp, rfl⟩))))
    have m2 := He.mkr_ok (says_fact c (f := .mkr (B.nm p.1)) (by unfold faOf; simp only [List.mem_append, List.mem_map]; exact .inl (.inr ⟨p, hp, rfl⟩)))
    refine ⟨m1, m2.makes, m2.kp, ?_⟩
    unfold mkB at mk
    have q := List.all_eq_true.mp mk p hp
    split at q
    · rename_i c0 m e
      rw [Bool.and_eq_true, decide_eq_true_iff, decide_eq_true_iff] at q
      exact ⟨m, by rw [e, q.1], q.2⟩
    · cases q
theorem def_of {ids : Str → Nat} {rs : List DefR} {r : DefR} (X : K.In h) (G : h.Ns mainGlobals mg) (c : He.SaysD (faOf B) (rs.map toD) K) (hr : (rs.find? fun q => decide (q.f = r.f)) = some r) (hf : r.f ∈ B.fs) (ck : chkR B r = true) : DefOk K mg B (gOf B ids rs) r.f := by
  unfold chkR at ck
  simp only [Bool.and_eq_true, decide_eq_true_eq, List.all_eq_true, Bool.or_eq_true, Bool.not_eq_true', decide_eq_false_iff_not] at ck
  obtain ⟨⟨⟨⟨⟨c1, c2⟩, c3⟩, c4⟩, c5⟩, c6⟩ := ck
  obtain ⟨fd, F⟩ := He.SaysD.defs c (d := toD r) (List.mem_map.mpr ⟨r, List.mem_of_find?_eq_some hr, rfl⟩)
  have fact : (match B.meth r.f with | some (c, m) => He.Fa.meth (B.nm c) (B.nm m) | none => .glo (B.nm r.f)).ok K = true := says_fact c (by unfold faOf; simp only [List.mem_append, List.mem_map]; exact .inr ⟨r.f, hf, rfl⟩)
  refine ⟨fnR B ids r, ccR B r, r.d.name, r.d.qual, r.d.args, r.d.body, r.d.scope, He.fAd K r.at_, fd, by unfold gOf; rw [hr]; rfl, F, fun e => ?_, fun cc m e => ?_, c1, c2, c3, rfl, rfl, rfl, scB_ok c4, rfl, rfl, (cMs ids 60 (ccR B r) r.d.body).2, fun q hq e => (c5 q hq).resolve_left fun z => z e⟩
  · rw [e] at fact
    rw [c6]
    unfold atOf
    rw [e]
    exact He.glo_ok X G fact
  · rw [e] at fact
    rw [c6]
    unfold atOf
    rw [e]
    exact He.meth_ok fact
end
/-- all the defs stand and are found -/
def chkAll (B : Cb) (rs : List DefR) : Bool := mkB B && B.fs.all fun f => match rs.find? fun q => decide (q.f = f) with
  | some r => decide (r.f = f) && chkR B r
  | none => false
theorem fns_of {P : Program} {w : World} {K : PySem.W.Frag} {mg : Str → Option Value} {base h : Heap} {B : Cb} {ids : Str → Nat} {rs : List DefR} (X : K.In h) (G : h.Ns mainGlobals mg) (c : He.SaysD (faOf B) (rs.map toD) K) (pr : prmIn B.prm K = true) (ck : chkAll B rs = true) (d : Nat) :
    Fns P w K mg base B (gOf B ids rs) d := by
  unfold chkAll at ck
  rw [Bool.and_eq_true] at ck
  refine fns_all (glob_of X G c pr ck.1) (fun f hf => ?_) d
  have q := List.all_eq_true.mp ck.2 f hf
  split at q
  · rename_i r e
    rw [Bool.and_eq_true, decide_eq_true_iff] at q
    have e2 := q.1
    subst e2
    exact def_of X G c e hf q.2
  · cases q
/-- the law's promise, by the run of its form here -/
theorem law_sp {K : PySem.W.Frag} {w : World} {nm : Nm} {cl : Calls} {f : Nat} {H : Hp} {a : Addr} {ns : List Int} (hO : Only H) (hS : SqL K H a (ns.map V.int)) (run : ∃ h', cl f [.frl (ns.map GV.int)] [] = .ok (.bl true) h') :
    spF K w nm cl f 1 [.ref a] H (fun v _ => v = .bl true) (fun _ _ _ => False) := by
  have fr : Frl K H a (ns.map V.int) := by
    rcases hS with (e | ⟨o, e⟩) | q
    · rcases hO a with z | ⟨o, xs, z⟩
      · rw [e] at z; cases z
      · rw [e] at z; cases z
    · exact .inl ⟨o, e⟩
    · exact .inr q
  obtain ⟨h', e⟩ := run
  refine ⟨rfl, [], [], [.frl (ns.map GV.int)], ⟨rfl, List.nodup_nil, fun n a o e => by simp at e⟩, .cons (.frl fr (ints_back ns)) .nil, ?_⟩
  rw [e]
  intro μ' H' x _ _ r
  cases r
  rfl
/-- no exception is let out -/
theorem fnOk_nev {P : Program} {w : World} {K : PySem.W.Frag} {mg : Str → Option Value} {base : Heap} {CX : CXT} {k : Nat} {f : Addr} {fd : FuncData} {ps : List Str} {sp : Sp} (F : FnOk P w K mg base (L2.CX P w) k f fd ps sp) :
    FnOk P w K mg base CX k f fd ps (fun vs H Q _ => sp vs H Q (fun _ _ _ => False)) where
  len := fun vs H Q E z => F.len vs H Q _ z
  run := fun A outer s H args us vs Q E hr e0 hb r z => by
    refine codeAny_mono (F.run A outer s H args us vs Q (fun _ _ _ => False) hr e0 hb r z) fun res s' q => ?_
    cases res with
    | ok fl => cases fl <;> exact q
    | error e =>
      obtain ⟨_, _, _, _, _, _, _, _, _, _, _, _, x⟩ := q
      exact x.elim
/-- the end of a law's walk -/
theorem law_end {P : Program} {w : World} {mg : Str → Option Value} {fa : Addr} {h : Heap} {B : Cb} {ids : Str → Nat} {rs : List DefR} {d f : Nat} {CX : CXT} (Y : ∃ K : PySem.W.Frag, K.In h ∧ He.SaysD (faOf B) (rs.map toD) K ∧ prmIn B.prm K = true) (G : h.Ns mainGlobals mg)
    (hmg : mg (B.nm f) = some (.ref fa)) (ck : chkAll B rs = true) (hf : f ∈ B.fs) (hm : B.meth f = none) (hp : B.par f = [("script" : Str)])
    (run : ∀ ns : List Int, ns.length ≤ 63 → ∃ h', callF (gOf B ids rs) d f [.frl (ns.map GV.int)] [] = .ok (.bl true) h') :
    ∃ (K : PySem.W.Frag) (fd : FuncData) (sp : Sp), K.In h ∧ (∀ (s : Shared) (u : Value), BindsTo s fd ⟨[u], []⟩ [(("script" : Str), u)]) ∧
      (∀ (H : Hp) (a : Addr) (ns : List Int), ns.length ≤ 63 → Only H → SqL K H a (ns.map V.int) → sp [.ref a] H (fun v _ => v = .bl true) fun _ _ _ => False) ∧
      ∀ base : Heap, K.In base → base.Ns mainGlobals mg → FnOk P w K mg base CX (4 * d + 1) fa fd [("script" : Str)] sp := by
  obtain ⟨K, KX, c, pr⟩ := Y
  obtain ⟨fn, hG, ⟨⟨a, fd, F⟩, hl⟩⟩ := fns_of (P := P) (w := w) (base := h) (ids := ids) KX G c pr ck d f hf
  have np : fn.np = 1 := by rw [← hl, hp]; rfl
  have ea : a = fa := by
    have := (F.glo hm).symm.trans hmg
    cases this
    rfl
  subst ea
  refine ⟨K, fd, fun vs H Q E => spF K w B.nm (callF (gOf B ids rs) d) f 1 vs H Q (fun _ _ _ => False), KX, fun s u => ?_, fun H a' ns h1 h2 h3 => law_sp h2 h3 (run ns h1), fun base hK hN => ?_⟩
  · have b := F.bnd s [u] (by rw [np]; rfl)
    rw [hp] at b
    exact b
  · obtain ⟨fn', hG', ⟨⟨a', fd', F'⟩, hl'⟩⟩ := fns_of (P := P) (w := w) (base := base) (ids := ids) KX G c pr ck d f hf
    rw [hG] at hG'
    cases hG'
    have e2 : a' = a := by
      have := (F'.glo hm).symm.trans hmg
      cases this
      rfl
    subst e2
    obtain ⟨oc, od, osl, l1⟩ := F.lk
    obtain ⟨oc', od', osl', l2⟩ := F'.lk
    rw [l1] at l2
    cases l2
    have ok := F'.ok
    rw [np, hp] at ok
    exact fnOk_nev ok
end Pv
end Pv_ZA
section Lw_H51
set_option Elab.async false
set_option linter.all false
set_option maxRecDepth 100000
set_option maxHeartbeats 0
namespace L_k51
open PySem PySem.W PySem.Calls PyProof.Rows Pv
def prog : Program := PySem.Challenge.pw_patchworlds_k51_closed_by_between
def dl : List DefS := defsOf prog.main.body ++ methsOf "Table" prog.main.body
def parL0 : List (Nat × List Str) := [(n__law_flow, ["script"]), (n__law_next, ["flow", "many"]), (n__law_turn, ["flow", "ties"]), (n__law_orders, ["many"]), (n__law_tie, ["turn", "pic", "i", "j"]), (n__law_piece, ["turn", "pic", "places"]), (n__law_bad, ["turn", "bars"]), (n__law_picture, ["flow", "ties", "points"]), (n__law_table, ["flow", "most"]), (n_is_sequence, ["value"]), (n_is_number, ["value"]), (n_is_below, ["value", "limit"]), (n_check_turn, ["turn"]), (n_is_row, ["value", "points", "ties"]), (n_is_shape, ["value", "ties"]), (n_check_bars, ["bars", "ties"]), (n_flat, ["picture"]), (n_tie_in, ["turn", "picture", "start", "end"]), (n_row_to, ["turn", "picture", "places", "point"]), (n_cut, ["turn", "picture", "places"])]
def parL1 : List (Nat × List Str) := [(n_barred_orders, ["turn", "bars"]), (n_least_shape, ["turn", "picture"]), (n_by_size, ["picture"]), (n_Table_dot___init__, ["self", "turn", "bars"]), (n__law_net, ["flow", "ties", "points", "odds"]), (n__law_with_label, ["net", "i", "j", "label"]), (n__law_wanted, ["flow", "kit"]), (n__law_label, ["turn", "net", "i", "j"]), (n__law_full, ["kit", "net"]), (n__law_held, ["bad", "one", "other", "t"]), (n__law_struck, ["kit", "full"]), (n__law_due, ["kit", "net"]), (n__law_is_number, ["value"]), (n__law_is_net, ["value", "ties", "points"]), (n__law_well, ["kit", "told", "due", "points"]), (n_is_spots, ["value", "points"]), (n_is_places, ["value", "points"]), (n_is_rising, ["value", "points"]), (n_is_label, ["value", "ties"]), (n_is_network, ["value", "ties"])]
def parL2 : List (Nat × List Str) := [(n_check_network, ["table", "network"]), (n_frozen, ["labels"]), (n_check_tie, ["table", "value"]), (n_between, ["table", "one", "other"]), (n_all_pairs, ["points"]), (n_turned_label, ["table", "label"]), (n_label_from, ["table", "labels", "i", "j"]), (n_is_backed, ["table", "fits", "labels", "i", "j", "tie"]), (n_closed, ["table", "network"]), (n_law, ["script"])]
def parL : List (Nat × List Str) := parL0 ++ parL1 ++ parL2
def B : Cb where
  nm := nmT tab
  inj := nmT_inj tab_ok
  par := fun f => (parL.lookup f).getD []
  meth := fun f => [(n_Table_dot___init__, (n_Table, n___init__))].lookup f
  attrs := [(n_Table, n_turn), (n_Table, n_ties), (n_Table, n_bars), (n_Table, n_widest), (n_Table, n_barred), (n_Table, n_notes)]
  mks := [(n_Table, n_Table_dot___init__)]
  kws := [(n_closed, 1, ["network"], [0, 1]), (n_closed, 0, ["network", "table"], [1, 0])]
  prm := true
  fs := [n__law_flow, n__law_next, n__law_turn, n__law_orders, n__law_tie, n__law_piece, n__law_bad, n__law_picture, n__law_table, n_is_sequence, n_is_number, n_is_below, n_check_turn, n_is_row, n_is_shape, n_check_bars, n_flat, n_tie_in, n_row_to, n_cut, n_barred_orders, n_least_shape, n_by_size, n_Table_dot___init__, n__law_net, n__law_with_label, n__law_wanted, n__law_label, n__law_full, n__law_held, n__law_struck, n__law_due, n__law_is_number, n__law_is_net, n__law_well, n_is_spots, n_is_places, n_is_rising, n_is_label, n_is_network, n_check_network, n_frozen, n_check_tie, n_between, n_all_pairs, n_turned_label, n_label_from, n_is_backed, n_closed, n_law]
def dQ (q : Str) : DefS := ((dl.find? fun d => decide (d.qual = q))).getD ⟨"", "", ⟨[], [], none, [], [], none, []⟩, [], ⟨.function, [], false, false, []⟩⟩
def rs0 : List DefR := [
  ⟨n__law_flow, dQ "_law_flow", ["script", "cells", "seed", "cell"], false, ("_law_flow", none)⟩,
  ⟨n__law_next, dQ "_law_next", ["flow", "many", "cell", "told"], false, ("_law_next", none)⟩,
  ⟨n__law_turn, dQ "_law_turn", ["flow", "ties", "turn", "t", "u"], false, ("_law_turn", none)⟩,
  ⟨n__law_orders, dQ "_law_orders", ["many", "found", "k", "longer", "order", "at"], false, ("_law_orders", none)⟩,
  ⟨n__law_tie, dQ "_law_tie", ["turn", "pic", "i", "j"], true, ("_law_tie", none)⟩,
  ⟨n__law_piece, dQ "_law_piece", ["turn", "pic", "places", "rows", "k", "h"], true, ("_law_piece", none)⟩,
  ⟨n__law_bad, dQ "_law_bad", ["turn", "bars", "bad", "bar", "order"], false, ("_law_bad", none)⟩,
  ⟨n__law_picture, dQ "_law_picture", ["flow", "ties", "points", "rows", "j", "i"], false, ("_law_picture", none)⟩,
  ⟨n__law_table, dQ "_law_table", ["flow", "most", "ties", "turn", "bars", "wide", "k"], false, ("_law_table", none)⟩,
  ⟨n_is_sequence, dQ "is_sequence", ["value"], true, ("is_sequence", none)⟩]
def rs1 : List DefR := [
  ⟨n_is_number, dQ "is_number", ["value"], true, ("is_number", none)⟩,
  ⟨n_is_below, dQ "is_below", ["value", "limit"], true, ("is_below", none)⟩,
  ⟨n_check_turn, dQ "check_turn", ["turn", "tie", "back"], true, ("check_turn", none)⟩,
  ⟨n_is_row, dQ "is_row", ["value", "points", "ties", "tie"], true, ("is_row", none)⟩,
  ⟨n_is_shape, dQ "is_shape", ["value", "ties", "at", "row"], true, ("is_shape", none)⟩,
  ⟨n_check_bars, dQ "check_bars", ["bars", "ties", "at", "bar"], true, ("check_bars", none)⟩,
  ⟨n_flat, dQ "flat", ["picture", "row", "tie"], true, ("flat", none)⟩,
  ⟨n_tie_in, dQ "tie_in", ["turn", "picture", "start", "end"], true, ("tie_in", none)⟩,
  ⟨n_row_to, dQ "row_to", ["turn", "picture", "places", "point", "place"], true, ("row_to", none)⟩,
  ⟨n_cut, dQ "cut", ["turn", "picture", "places", "at", "point"], true, ("cut", none)⟩]
def rs2 : List DefR := [
  ⟨n_barred_orders, dQ "barred_orders", ["turn", "bars", "found", "bar", "places"], false, ("barred_orders", none)⟩,
  ⟨n_least_shape, dQ "least_shape", ["turn", "picture", "points", "full", "starts", "rows", "_", "best", "kept", "places", "b", "point", "a", "row", "place"], true, ("least_shape", none)⟩,
  ⟨n_by_size, dQ "by_size", ["picture"], true, ("by_size", none)⟩,
  ⟨n_Table_dot___init__, dQ "Table.__init__", ["self", "turn", "bars", "shapes", "bar"], false, ("Table", some "__init__")⟩,
  ⟨n__law_net, dQ "_law_net", ["flow", "ties", "points", "odds", "net", "j", "row", "i", "t"], false, ("_law_net", none)⟩,
  ⟨n__law_with_label, dQ "_law_with_label", ["net", "i", "j", "label", "row"], true, ("_law_with_label", none)⟩,
  ⟨n__law_wanted, dQ "_law_wanted", ["flow", "kit", "points", "net", "j", "i"], false, ("_law_wanted", none)⟩,
  ⟨n__law_label, dQ "_law_label", ["turn", "net", "i", "j", "t"], true, ("_law_label", none)⟩,
  ⟨n__law_full, dQ "_law_full", ["kit", "net", "full", "i", "row", "j"], false, ("_law_full", none)⟩,
  ⟨n__law_held, dQ "_law_held", ["bad", "one", "other", "t", "a", "b"], true, ("_law_held", none)⟩]
def rs3 : List DefR := [
  ⟨n__law_struck, dQ "_law_struck", ["kit", "full", "many", "changed", "j", "i", "t", "kept", "k"], false, ("_law_struck", none)⟩,
  ⟨n__law_due, dQ "_law_due", ["kit", "net", "full", "k", "j", "i"], true, ("_law_due", none)⟩,
  ⟨n__law_is_number, dQ "_law_is_number", ["value"], true, ("_law_is_number", none)⟩,
  ⟨n__law_is_net, dQ "_law_is_net", ["value", "ties", "points", "j", "label", "k"], true, ("_law_is_net", none)⟩,
  ⟨n__law_well, dQ "_law_well", ["kit", "told", "due", "points"], true, ("_law_well", none)⟩,
  ⟨n_is_spots, dQ "is_spots", ["value", "points"], true, ("is_spots", none)⟩,
  ⟨n_is_places, dQ "is_places", ["value", "points"], true, ("is_places", none)⟩,
  ⟨n_is_rising, dQ "is_rising", ["value", "points"], true, ("is_rising", none)⟩,
  ⟨n_is_label, dQ "is_label", ["value", "ties"], true, ("is_label", none)⟩,
  ⟨n_is_network, dQ "is_network", ["value", "ties", "j", "row", "label"], true, ("is_network", none)⟩]
def rs4 : List DefR := [
  ⟨n_check_network, dQ "check_network", ["table", "network"], true, ("check_network", none)⟩,
  ⟨n_frozen, dQ "frozen", ["labels", "row"], true, ("frozen", none)⟩,
  ⟨n_check_tie, dQ "check_tie", ["table", "value"], true, ("check_tie", none)⟩,
  ⟨n_between, dQ "between", ["table", "one", "other", "tie"], true, ("between", none)⟩,
  ⟨n_all_pairs, dQ "all_pairs", ["points", "j", "i"], false, ("all_pairs", none)⟩,
  ⟨n_turned_label, dQ "turned_label", ["table", "label", "tie"], true, ("turned_label", none)⟩,
  ⟨n_label_from, dQ "label_from", ["table", "labels", "i", "j"], true, ("label_from", none)⟩,
  ⟨n_is_backed, dQ "is_backed", ["table", "fits", "labels", "i", "j", "tie", "k", "near", "far", "one", "other"], true, ("is_backed", none)⟩,
  ⟨n_closed, dQ "closed", ["table", "network", "labels", "ties", "fits", "changed", "row", "one", "other", "i", "j", "kept", "tie"], true, ("closed", none)⟩,
  ⟨n_law, dQ "law", ["script", "flow", "kit", "table", "net", "due", "other"], false, ("law", none)⟩]
def rs : List DefR := rs0 ++ rs1 ++ rs2 ++ rs3 ++ rs4
abbrev G : Prg := gOf B (idT tab) rs
abbrev R : OpenRow := OpenLaw.row PySem.Challenge.rw_patchworlds_k51_closed_by_between
abbrev qv : Program := view R.prog [0, 63]
def lo0 : List Str := ["__name__", "PatchError", "InvalidNumber", "InvalidTable", "InvalidNetwork", "is_number", "is_below", "is_sequence", "is_row", "is_shape", "is_spots", "is_places", "is_rising", "check_tie", "check_turn", "tie_in", "row_to", "cut", "flat", "least_shape", "by_size", "between", "all_pairs", "is_label", "is_network", "check_network", "turned_label", "label_from", "frozen", "is_backed"]
def lo1 : List Str := ["closed", "check_bars", "barred_orders", "Table", "_law_flow", "_law_next", "_law_turn", "_law_picture", "_law_tie", "_law_piece", "_law_orders", "_law_bad", "_law_table", "_law_net", "_law_with_label", "_law_is_number", "_law_is_picture", "_law_is_net", "_law_label", "_law_full", "_law_held", "_law_struck", "_law_due", "_law_wanted", "_law_well"]
def lo : List Str := lo0 ++ lo1
def fa : List He.Fa := faOf B
def fn : List He.DefD := rs.map toD
abbrev hk : Hook := hookP 5 B.prm fa fn
def ob (s : SharedT) : He.AlD × Bool := obsP 5 B.prm fa fn (HandSHeadRun.getT s)
theorem ob_eq (s : SharedT) : ob s = hk.obs s.abs := obsP_eq (HandSHeadRun.getT_eq s)
theorem ck : chkAll B rs = true := by kernel_rfl
theorem run (w : World) : HandSHeadRun.RunEqI R qv hk ob 6000 lo w := by
  unfold HandSHeadRun.RunEqI
  kernel_rfl
end L_k51
end Lw_H51
section Pp_Fns
set_option Elab.async false
set_option linter.all false
set_option maxRecDepth 100000
namespace Pv
open PySem (Str)
abbrev I (n : Nat) : GV := .int (n : Int)
def F__law_flow : Fn := ⟨1, 4, false, .cons (.asg (.nm 1) (.lst (.cmp [3] (.one (.nm 3) (.val (.slc (.var 0) .non (.som (.cst (I 63))))) .non) (.b1 .int (.var 3))))) (.cons (.asg (.nm 2) (.op .add (.cst (I 7)) (.b1 .len (.var 1)))) (.cons (.for (.nm 3) (.val (.var 1)) (.cons (.asg (.nm 2) (.op .mod (.b1 .int (.op .add (.op .mul (.var 2) (.cst (I 48271))) (.var 3))) (.cst (I 2147483647)))) .nil)) (.cons (.ret (.lst (.dsp (.cons (.var 1) (.cons (.cst (I 0)) (.cons (.var 2) (.cons (.cst (I 0)) (.cons (.cst (I 0)) .nil)))))))) .nil)))⟩
def F__law_next : Fn := ⟨2, 4, false, .cons (.iff (.and (.op .eq (.op .idx (.var 0) (.cst (I 4))) (.cst (I 0))) (.op .lt (.op .idx (.var 0) (.cst (I 1))) (.b1 .len (.op .idx (.var 0) (.cst (I 0)))))) (.cons (.asg (.nm 2) (.op .idx (.op .idx (.var 0) (.cst (I 0))) (.op .idx (.var 0) (.cst (I 1))))) (.cons (.asg (.sub (.var 0) (.cst (I 1))) (.op .add (.op .idx (.var 0) (.cst (I 1))) (.cst (I 1)))) (.cons (.iff (.op .ge (.var 2) (.op .pow (.cst (I 10)) (.cst (I 18)))) (.cons (.asg (.sub (.var 0) (.cst (I 3))) (.op .sub (.var 2) (.op .pow (.cst (I 10)) (.cst (I 18))))) (.cons (.asg (.sub (.var 0) (.cst (I 4))) (.cst (I 60))) .nil)) (.cons (.asg (.sub (.var 0) (.cst (I 2))) (.op .mod (.b1 .int (.op .add (.op .add (.op .mul (.op .idx (.var 0) (.cst (I 2))) (.cst (I 48271))) (.op .mul (.var 2) (.cst (I 69621)))) (.cst (I 11)))) (.cst (I 2147483647)))) .nil)) .nil))) .nil) (.cons (.iff (.op .gt (.op .idx (.var 0) (.cst (I 4))) (.cst (I 0))) (.cons (.asg (.sub (.var 0) (.cst (I 4))) (.op .sub (.op .idx (.var 0) (.cst (I 4))) (.cst (I 1)))) (.cons (.asg (.nm 3) (.op .mod (.b1 .int (.op .idx (.var 0) (.cst (I 3)))) (.var 1))) (.cons (.asg (.sub (.var 0) (.cst (I 3))) (.op .fdiv (.op .idx (.var 0) (.cst (I 3))) (.var 1))) (.cons (.ret (.var 3)) .nil)))) .nil) (.cons (.asg (.sub (.var 0) (.cst (I 2))) (.op .mod (.b1 .int (.op .add (.op .mul (.op .idx (.var 0) (.cst (I 2))) (.cst (I 69621))) (.cst (I 13)))) (.cst (I 2147483647)))) (.cons (.ret (.op .mod (.b1 .int (.op .fdiv (.op .idx (.var 0) (.cst (I 2))) (.cst (I 131)))) (.var 1))) .nil)))⟩
def F__law_turn : Fn := ⟨2, 5, false, .cons (.asg (.nm 2) (.lst (.rgl (.cst (I 0)) (.var 1)))) (.cons (.for (.nm 3) (.rng (.cst (I 0)) (.var 1)) (.cons (.asg (.nm 4) (.op .add (.var 3) (.call n__law_next (.cons (.var 0) (.cons (.op .sub (.var 1) (.var 3)) .nil))))) (.cons (.iff (.and (.op .eq (.op .idx (.var 2) (.var 3)) (.var 3)) (.op .eq (.op .idx (.var 2) (.var 4)) (.var 4))) (.cons (.asg (.sub (.var 2) (.var 3)) (.var 4)) (.cons (.asg (.sub (.var 2) (.var 4)) (.var 3)) .nil)) .nil) .nil))) (.cons (.ret (.var 2)) .nil))⟩
def F__law_orders_k51 : Fn := ⟨1, 6, false, .cons (.asg (.nm 1) (.lst (.dsp (.cons (.tup .nil) .nil)))) (.cons (.for (.nm 2) (.rng (.cst (I 0)) (.var 0)) (.cons (.asg (.nm 3) (.lst (.dsp .nil))) (.cons (.for (.nm 4) (.val (.var 1)) (.cons (.for (.nm 5) (.rng (.cst (I 0)) (.op .add (.var 2) (.cst (I 1)))) (.cons (.exp (.m1 .append (.var 3) (.op .add (.op .add (.slc (.var 4) .non (.som (.var 5))) (.tup (.cons (.var 2) .nil))) (.slc (.var 4) (.som (.var 5)) .non)))) .nil)) .nil)) (.cons (.asg (.nm 1) (.var 3)) .nil)))) (.cons (.ret (.var 1)) .nil))⟩
def F__law_tie_k51 : Fn := ⟨4, 4, true, .cons (.iff (.op .lt (.var 2) (.var 3)) (.cons (.ret (.op .idx (.op .idx (.var 1) (.var 3)) (.var 2))) .nil) .nil) (.cons (.ret (.op .idx (.var 0) (.op .idx (.op .idx (.var 1) (.var 2)) (.var 3)))) .nil)⟩
def F__law_piece_k51 : Fn := ⟨3, 6, true, .cons (.asg (.nm 3) (.lst (.dsp .nil))) (.cons (.for (.nm 4) (.rng (.cst (I 0)) (.b1 .len (.var 2))) (.cons (.exp (.m1 .append (.var 3) (.tpl (.cmp [5] (.one (.nm 5) (.rng (.cst (I 0)) (.var 4)) .non) (.call n__law_tie (.cons (.var 0) (.cons (.var 1) (.cons (.op .idx (.var 2) (.var 5)) (.cons (.op .idx (.var 2) (.var 4)) .nil))))))))) .nil)) (.cons (.ret (.tpl (.val (.var 3)))) .nil))⟩
def F__law_bad : Fn := ⟨2, 5, false, .cons (.asg (.nm 2) .dic) (.cons (.for (.nm 3) (.val (.var 1)) (.cons (.for (.nm 4) (.val (.call n__law_orders (.cons (.b1 .len (.var 3)) .nil))) (.cons (.asg (.sub (.var 2) (.call n__law_piece (.cons (.var 0) (.cons (.var 3) (.cons (.var 4) .nil))))) (.cst (.bl true))) .nil)) .nil)) (.cons (.ret (.var 2)) .nil))⟩
def F__law_picture : Fn := ⟨3, 6, false, .cons (.asg (.nm 3) (.lst (.dsp .nil))) (.cons (.for (.nm 4) (.rng (.cst (I 0)) (.var 2)) (.cons (.exp (.m1 .append (.var 3) (.tpl (.cmp [5] (.one (.nm 5) (.rng (.cst (I 0)) (.var 4)) .non) (.call n__law_next (.cons (.var 0) (.cons (.var 1) .nil))))))) .nil)) (.cons (.ret (.tpl (.val (.var 3)))) .nil))⟩
def F__law_table : Fn := ⟨2, 7, false, .cons (.asg (.nm 2) (.op .add (.cst (I 1)) (.call n__law_next (.cons (.var 0) (.cons (.cst (I 4)) .nil))))) (.cons (.asg (.nm 3) (.call n__law_turn (.cons (.var 0) (.cons (.var 2) .nil)))) (.cons (.asg (.nm 4) (.lst (.dsp .nil))) (.cons (.asg (.nm 5) (.cst (.bl false))) (.cons (.for (.nm 6) (.rng (.cst (I 0)) (.call n__law_next (.cons (.var 0) (.cons (.op .add (.cst (I 1)) (.op .mul (.var 1) (.var 2))) .nil)))) (.cons (.iff (.and (.op .lt (.var 2) (.cst (I 3))) (.op .eq (.call n__law_next (.cons (.var 0) (.cons (.cst (I 3)) .nil))) (.cst (I 0)))) (.cons (.exp (.m1 .append (.var 4) (.call n__law_picture (.cons (.var 0) (.cons (.var 2) (.cons (.cst (I 4)) .nil)))))) (.cons (.asg (.nm 5) (.cst (.bl true))) .nil)) (.cons (.exp (.m1 .append (.var 4) (.call n__law_picture (.cons (.var 0) (.cons (.var 2) (.cons (.cst (I 3)) .nil)))))) .nil)) .nil)) (.cons (.ret (.lst (.dsp (.cons (.var 2) (.cons (.var 3) (.cons (.var 4) (.cons (.call n__law_bad (.cons (.var 3) (.cons (.var 4) .nil))) (.cons (.var 5) .nil)))))))) .nil)))))⟩
def F_is_sequence : Fn := ⟨1, 1, true, .cons (.ret (.isi (.var 0) [.list, .tuple])) .nil⟩
def F_is_number : Fn := ⟨1, 1, true, .cons (.ret (.and (.isi (.var 0) [.int]) (.and (.not (.isi (.var 0) [.bool])) (.op .ge (.var 0) (.cst (I 0)))))) .nil⟩
def F_is_below : Fn := ⟨2, 2, true, .cons (.ret (.and (.call n_is_number (.cons (.var 0) .nil)) (.op .lt (.var 0) (.var 1)))) .nil⟩
def F_check_turn : Fn := ⟨1, 3, true, .cons (.iff (.or (.not (.call n_is_sequence (.cons (.var 0) .nil))) (.not (.var 0))) (.cons .bad .nil) .nil) (.cons (.for (.tup [1, 2]) (.enm (.var 0)) (.cons (.iff (.not (.call n_is_below (.cons (.var 2) (.cons (.b1 .len (.var 0)) .nil)))) (.cons .bad .nil) .nil) .nil)) (.cons (.for (.tup [1, 2]) (.enm (.var 0)) (.cons (.iff (.op .ne (.op .idx (.var 0) (.var 2)) (.var 1)) (.cons .bad .nil) .nil) .nil)) .nil))⟩
def F_is_row : Fn := ⟨3, 4, true, .cons (.iff (.or (.not (.isi (.var 0) [.tuple])) (.op .ne (.b1 .len (.var 0)) (.var 1))) (.cons (.ret (.cst (.bl false))) .nil) .nil) (.cons (.for (.nm 3) (.val (.var 0)) (.cons (.iff (.not (.call n_is_below (.cons (.var 3) (.cons (.var 2) .nil)))) (.cons (.ret (.cst (.bl false))) .nil) .nil) .nil)) (.cons (.ret (.cst (.bl true))) .nil))⟩
def F_is_shape : Fn := ⟨2, 4, true, .cons (.iff (.not (.isi (.var 0) [.tuple])) (.cons (.ret (.cst (.bl false))) .nil) .nil) (.cons (.for (.tup [2, 3]) (.enm (.var 0)) (.cons (.iff (.not (.call n_is_row (.cons (.var 3) (.cons (.var 2) (.cons (.var 1) .nil))))) (.cons (.ret (.cst (.bl false))) .nil) .nil) .nil)) (.cons (.ret (.cst (.bl true))) .nil))⟩
def F_check_bars : Fn := ⟨2, 4, true, .cons (.iff (.not (.call n_is_sequence (.cons (.var 0) .nil))) (.cons .bad .nil) .nil) (.cons (.for (.tup [2, 3]) (.enm (.var 0)) (.cons (.iff (.or (.not (.call n_is_shape (.cons (.var 3) (.cons (.var 1) .nil)))) (.op .nin (.b1 .len (.var 3)) (.tup (.cons (.cst (I 3)) (.cons (.cst (I 4)) .nil))))) (.cons .bad .nil) .nil) .nil)) .nil)⟩
def F_flat : Fn := ⟨1, 3, true, .cons (.ret (.tpl (.cmp [1, 2] (.two (.nm 1) (.val (.var 0)) .non [2] (.nm 2) (.val (.var 1)) .non) (.var 2)))) .nil⟩
def F_tie_in : Fn := ⟨4, 4, true, .cons (.iff (.op .lt (.var 2) (.var 3)) (.cons (.ret (.op .idx (.op .idx (.var 1) (.var 3)) (.var 2))) .nil) .nil) (.cons (.ret (.op .idx (.var 0) (.op .idx (.op .idx (.var 1) (.var 2)) (.var 3)))) .nil)⟩
def F_row_to : Fn := ⟨4, 5, true, .cons (.ret (.tpl (.cmp [4] (.one (.nm 4) (.val (.var 2)) .non) (.call n_tie_in (.cons (.var 0) (.cons (.var 1) (.cons (.var 4) (.cons (.var 3) .nil)))))))) .nil⟩
def F_cut : Fn := ⟨3, 5, true, .cons (.ret (.tpl (.cmp [3, 4] (.one (.tup [3, 4]) (.enm (.var 2)) .non) (.call n_row_to (.cons (.var 0) (.cons (.var 1) (.cons (.slc (.var 2) .non (.som (.var 3))) (.cons (.var 4) .nil)))))))) .nil⟩
def F_barred_orders : Fn := ⟨2, 5, false, .cons (.asg (.nm 2) .dic) (.cons (.for (.nm 3) (.val (.var 1)) (.cons (.for (.nm 4) (.prm (.b1 .len (.var 3))) (.cons (.asg (.sub (.var 2) (.call n_flat (.cons (.call n_cut (.cons (.var 0) (.cons (.var 3) (.cons (.var 4) .nil)))) .nil))) (.cst (.bl true))) .nil)) .nil)) (.cons (.ret (.var 2)) .nil))⟩
def F_least_shape : Fn := ⟨2, 15, true, .cons (.asg (.nm 2) (.rng (.cst (I 0)) (.b1 .len (.var 1)))) (.cons (.asg (.nm 3) (.lst (.cmp [10] (.one (.nm 10) (.val (.var 2)) .non) (.lst (.cmp [12] (.one (.nm 12) (.val (.var 2)) .non) (.ite (.op .eq (.var 12) (.var 10)) (.cst .non) (.call n_tie_in (.cons (.var 0) (.cons (.var 1) (.cons (.var 12) (.cons (.var 10) .nil))))))))))) (.cons (.asg (.nm 4) (.lst (.dsp (.cons (.tup .nil) .nil)))) (.cons (.asg (.nm 5) (.lst (.dsp .nil))) (.cons (.for (.nm 6) (.val (.var 2)) (.cons (.asg (.nm 7) (.cst .non)) (.cons (.asg (.nm 8) (.lst (.dsp .nil))) (.cons (.for (.nm 9) (.val (.var 4)) (.cons (.for (.nm 11) (.val (.var 2)) (.cons (.iff (.op .nin (.var 11) (.var 9)) (.cons (.asg (.nm 13) (.tpl (.cmp [14] (.one (.nm 14) (.val (.var 9)) .non) (.op .idx (.op .idx (.var 3) (.var 11)) (.var 14))))) (.cons (.iff (.or (.isn (.var 7)) (.op .lt (.var 13) (.var 7))) (.cons (.asg (.nm 7) (.var 13)) (.cons (.asg (.nm 8) (.lst (.dsp .nil))) .nil)) .nil) (.cons (.iff (.op .eq (.var 13) (.var 7)) (.cons (.exp (.m1 .append (.var 8) (.op .add (.var 9) (.tup (.cons (.var 11) .nil))))) .nil) .nil) .nil))) .nil) .nil)) .nil)) (.cons (.asg (.nm 4) (.var 8)) (.cons (.exp (.m1 .append (.var 5) (.var 7))) .nil)))))) (.cons (.ret (.tpl (.val (.var 5)))) .nil)))))⟩
def F_by_size : Fn := ⟨1, 1, true, .cons (.ret (.tup (.cons (.b1 .len (.var 0)) (.cons (.var 0) .nil)))) .nil⟩
def F_Table_dot___init__ : Fn := ⟨3, 5, false, .cons (.exp (.call n_check_turn (.cons (.var 1) .nil))) (.cons (.exp (.call n_check_bars (.cons (.var 2) (.cons (.b1 .len (.var 1)) .nil)))) (.cons (.asg (.fld (.var 0) [n_Table] n_turn) (.tpl (.val (.var 1)))) (.cons (.asg (.fld (.var 0) [n_Table] n_ties) (.b1 .len (.fld (.var 0) [n_Table] n_turn))) (.cons (.asg (.nm 3) (.dcp [4] (.one (.nm 4) (.val (.var 2)) .non) (.call n_least_shape (.cons (.fld (.var 0) [n_Table] n_turn) (.cons (.var 4) .nil))) (.cst (.bl true)))) (.cons (.asg (.fld (.var 0) [n_Table] n_bars) (.tpl (.srk (.lsv (.var 3)) n_by_size))) (.cons (.asg (.fld (.var 0) [n_Table] n_widest) (.cst (I 3))) (.cons (.for (.nm 4) (.val (.fld (.var 0) [n_Table] n_bars)) (.cons (.asg (.fld (.var 0) [n_Table] n_widest) (.b2 .max (.fld (.var 0) [n_Table] n_widest) (.b1 .len (.var 4)))) .nil)) (.cons (.asg (.fld (.var 0) [n_Table] n_barred) (.call n_barred_orders (.cons (.fld (.var 0) [n_Table] n_turn) (.cons (.fld (.var 0) [n_Table] n_bars) .nil)))) (.cons (.asg (.fld (.var 0) [n_Table] n_notes) .dic) .nil)))))))))⟩
def F__law_net_k51 : Fn := ⟨4, 9, false, .cons (.asg (.nm 4) (.lst (.dsp .nil))) (.cons (.for (.nm 5) (.rng (.cst (I 0)) (.var 2)) (.cons (.asg (.nm 6) (.lst (.dsp .nil))) (.cons (.for (.nm 7) (.rng (.cst (I 0)) (.var 5)) (.cons (.exp (.m1 .append (.var 6) (.tpl (.cmp [8] (.one (.nm 8) (.rng (.cst (I 0)) (.var 1)) (.som (.op .lt (.call n__law_next (.cons (.var 0) (.cons (.cst (I 8)) .nil))) (.var 3)))) (.var 8))))) .nil)) (.cons (.exp (.m1 .append (.var 4) (.tpl (.val (.var 6))))) .nil)))) (.cons (.ret (.tpl (.val (.var 4)))) .nil))⟩
def F__law_with_label : Fn := ⟨4, 5, true, .cons (.asg (.nm 4) (.op .add (.op .add (.slc (.op .idx (.var 0) (.var 2)) .non (.som (.var 1))) (.tup (.cons (.var 3) .nil))) (.slc (.op .idx (.var 0) (.var 2)) (.som (.op .add (.var 1) (.cst (I 1)))) .non))) (.cons (.ret (.op .add (.op .add (.slc (.var 0) .non (.som (.var 2))) (.tup (.cons (.var 4) .nil))) (.slc (.var 0) (.som (.op .add (.var 2) (.cst (I 1)))) .non))) .nil)⟩
def F__law_wanted : Fn := ⟨2, 6, false, .cons (.asg (.nm 2) (.call n__law_next (.cons (.var 0) (.cons (.cst (I 8)) .nil)))) (.cons (.iff (.op .eq (.call n__law_next (.cons (.var 0) (.cons (.cst (I 4)) .nil))) (.cst (I 0))) (.cons (.asg (.nm 2) (.op .add (.cst (I 8)) (.call n__law_next (.cons (.var 0) (.cons (.cst (I 3)) .nil))))) .nil) .nil) (.cons (.asg (.nm 3) (.call n__law_net (.cons (.var 0) (.cons (.op .idx (.var 1) (.cst (I 0))) (.cons (.var 2) (.cons (.op .add (.cst (I 3)) (.call n__law_next (.cons (.var 0) (.cons (.cst (I 6)) .nil)))) .nil)))))) (.cons (.iff (.op .gt (.op .idx (.var 1) (.cst (I 0))) (.cst (I 1))) (.cons (.for (.nm 4) (.rng (.cst (I 0)) (.var 2)) (.cons (.for (.nm 5) (.rng (.cst (I 0)) (.var 4)) (.cons (.iff (.and (.op .eq (.b1 .len (.op .idx (.op .idx (.var 3) (.var 4)) (.var 5))) (.cst (I 0))) (.op .gt (.call n__law_next (.cons (.var 0) (.cons (.cst (I 8)) .nil))) (.cst (I 0)))) (.cons (.asg (.nm 3) (.call n__law_with_label (.cons (.var 3) (.cons (.var 5) (.cons (.var 4) (.cons (.tup (.cons (.call n__law_next (.cons (.var 0) (.cons (.op .idx (.var 1) (.cst (I 0))) .nil))) .nil)) .nil)))))) .nil) .nil) .nil)) .nil)) .nil) .nil) (.cons (.ret (.var 3)) .nil))))⟩
def F__law_label : Fn := ⟨4, 5, true, .cons (.iff (.op .lt (.var 2) (.var 3)) (.cons (.ret (.op .idx (.op .idx (.var 1) (.var 3)) (.var 2))) .nil) .nil) (.cons (.ret (.tpl (.cmp [4] (.one (.nm 4) (.val (.op .idx (.op .idx (.var 1) (.var 2)) (.var 3))) .non) (.op .idx (.var 0) (.var 4))))) .nil)⟩
def F__law_full : Fn := ⟨2, 6, false, .cons (.asg (.nm 2) (.lst (.dsp .nil))) (.cons (.for (.nm 3) (.rng (.cst (I 0)) (.b1 .len (.var 1))) (.cons (.asg (.nm 4) (.lst (.dsp .nil))) (.cons (.for (.nm 5) (.rng (.cst (I 0)) (.b1 .len (.var 1))) (.cons (.iff (.op .eq (.var 3) (.var 5)) (.cons (.exp (.m1 .append (.var 4) (.lst (.dsp .nil)))) .nil) (.cons (.exp (.m1 .append (.var 4) (.lst (.lsv (.call n__law_label (.cons (.op .idx (.var 0) (.cst (I 1))) (.cons (.var 1) (.cons (.var 3) (.cons (.var 5) .nil))))))))) .nil)) .nil)) (.cons (.exp (.m1 .append (.var 2) (.var 4))) .nil)))) (.cons (.ret (.var 2)) .nil))⟩
def F__law_held_k51 : Fn := ⟨4, 6, true, .cons (.for (.nm 4) (.val (.var 1)) (.cons (.for (.nm 5) (.val (.var 2)) (.cons (.iff (.op .nin (.tup (.cons (.tup .nil) (.cons (.tup (.cons (.var 4) .nil)) (.cons (.tup (.cons (.var 3) (.cons (.var 5) .nil))) .nil)))) (.var 0)) (.cons (.ret (.cst (.bl true))) .nil) .nil) .nil)) .nil)) (.cons (.ret (.cst (.bl false))) .nil)⟩
def F__law_struck : Fn := ⟨2, 9, false, .cons (.asg (.nm 2) (.b1 .len (.var 1))) (.cons (.asg (.nm 3) (.cst (.bl false))) (.cons (.for (.nm 4) (.rngS (.op .sub (.var 2) (.cst (I 1))) (.cst (I 0)) (.neg (.cst (I 1)))) (.cons (.for (.nm 5) (.rng (.cst (I 0)) (.var 4)) (.cons (.for (.nm 6) (.sq (.lsv (.op .idx (.op .idx (.var 1) (.var 5)) (.var 4)))) (.cons (.asg (.nm 7) (.cst (.bl true))) (.cons (.for (.nm 8) (.rng (.cst (I 0)) (.var 2)) (.cons (.iff (.and (.op .ne (.var 8) (.var 5)) (.and (.op .ne (.var 8) (.var 4)) (.and (.var 7) (.not (.call n__law_held (.cons (.op .idx (.var 0) (.cst (I 3))) (.cons (.op .idx (.op .idx (.var 1) (.var 5)) (.var 8)) (.cons (.op .idx (.op .idx (.var 1) (.var 8)) (.var 4)) (.cons (.var 6) .nil))))))))) (.cons (.asg (.nm 7) (.cst (.bl false))) .nil) .nil) .nil)) (.cons (.iff (.not (.var 7)) (.cons (.exp (.m1 .remove (.op .idx (.op .idx (.var 1) (.var 5)) (.var 4)) (.var 6))) (.cons (.exp (.m1 .remove (.op .idx (.op .idx (.var 1) (.var 4)) (.var 5)) (.op .idx (.op .idx (.var 0) (.cst (I 1))) (.var 6)))) (.cons (.asg (.nm 3) (.cst (.bl true))) .nil))) .nil) .nil)))) .nil)) .nil)) (.cons (.ret (.var 3)) .nil)))⟩
def F__law_due_k51 : Fn := ⟨2, 6, true, .cons (.asg (.nm 2) (.call n__law_full (.cons (.var 0) (.cons (.var 1) .nil)))) (.cons (.for (.nm 3) (.rng (.cst (I 0)) (.cst (I 200))) (.cons (.for (.nm 4) (.rng (.cst (I 0)) (.b1 .len (.var 1))) (.cons (.for (.nm 5) (.rng (.cst (I 0)) (.var 4)) (.cons (.iff (.op .eq (.b1 .len (.op .idx (.op .idx (.var 2) (.var 5)) (.var 4))) (.cst (I 0))) (.cons (.ret (.cst .non)) .nil) .nil) .nil)) .nil)) (.cons (.iff (.not (.call n__law_struck (.cons (.var 0) (.cons (.var 2) .nil)))) (.cons .brk .nil) .nil) .nil))) (.cons (.ret (.tpl (.cmp [4] (.one (.nm 4) (.rng (.cst (I 0)) (.b1 .len (.var 1))) .non) (.tpl (.cmp [5] (.one (.nm 5) (.rng (.cst (I 0)) (.var 4)) .non) (.tpl (.val (.op .idx (.op .idx (.var 2) (.var 5)) (.var 4))))))))) .nil))⟩
def F__law_is_number : Fn := ⟨1, 1, true, .cons (.ret (.and (.isi (.var 0) [.int]) (.and (.not (.isi (.var 0) [.bool])) (.op .ge (.var 0) (.cst (I 0)))))) .nil⟩
def F__law_is_net : Fn := ⟨3, 6, true, .cons (.iff (.or (.not (.isi (.var 0) [.tuple])) (.op .ne (.b1 .len (.var 0)) (.var 2))) (.cons (.ret (.cst (.bl false))) .nil) .nil) (.cons (.for (.nm 3) (.rng (.cst (I 0)) (.var 2)) (.cons (.iff (.or (.not (.isi (.op .idx (.var 0) (.var 3)) [.tuple])) (.op .ne (.b1 .len (.op .idx (.var 0) (.var 3))) (.var 3))) (.cons (.ret (.cst (.bl false))) .nil) .nil) (.cons (.for (.nm 4) (.val (.op .idx (.var 0) (.var 3))) (.cons (.iff (.not (.isi (.var 4) [.tuple])) (.cons (.ret (.cst (.bl false))) .nil) .nil) (.cons (.for (.nm 5) (.rng (.cst (I 0)) (.b1 .len (.var 4))) (.cons (.iff (.or (.not (.call n__law_is_number (.cons (.op .idx (.var 4) (.var 5)) .nil))) (.op .ge (.op .idx (.var 4) (.var 5)) (.var 1))) (.cons (.ret (.cst (.bl false))) .nil) .nil) (.cons (.iff (.and (.op .gt (.var 5) (.cst (I 0))) (.op .ge (.op .idx (.var 4) (.op .sub (.var 5) (.cst (I 1)))) (.op .idx (.var 4) (.var 5)))) (.cons (.ret (.cst (.bl false))) .nil) .nil) .nil))) .nil))) .nil))) (.cons (.ret (.cst (.bl true))) .nil))⟩
def F__law_well_k51 : Fn := ⟨4, 4, true, .cons (.iff (.isn (.var 2)) (.cons (.ret (.isn (.var 1))) .nil) .nil) (.cons (.ret (.and (.call n__law_is_net (.cons (.var 1) (.cons (.op .idx (.var 0) (.cst (I 0))) (.cons (.var 3) .nil)))) (.op .eq (.var 1) (.var 2)))) .nil)⟩
def F_is_spots : Fn := ⟨2, 2, true, .cons (.ret (.and (.isi (.var 0) [.tuple]) (.call n_is_row (.cons (.var 0) (.cons (.b1 .len (.var 0)) (.cons (.var 1) .nil)))))) .nil⟩
def F_is_places : Fn := ⟨2, 2, true, .cons (.ret (.and (.call n_is_spots (.cons (.var 0) (.cons (.var 1) .nil))) (.op .eq (.lset (.var 0)) (.b1 .len (.var 0))))) .nil⟩
def F_is_rising : Fn := ⟨2, 2, true, .cons (.ret (.and (.call n_is_places (.cons (.var 0) (.cons (.var 1) .nil))) (.op .eq (.var 0) (.tpl (.srt (.val (.var 0))))))) .nil⟩
def F_is_label : Fn := ⟨2, 2, true, .cons (.ret (.call n_is_rising (.cons (.var 0) (.cons (.var 1) .nil)))) .nil⟩
def F_is_network : Fn := ⟨2, 5, true, .cons (.iff (.not (.isi (.var 0) [.tuple])) (.cons (.ret (.cst (.bl false))) .nil) .nil) (.cons (.for (.tup [2, 3]) (.enm (.var 0)) (.cons (.iff (.or (.not (.isi (.var 3) [.tuple])) (.op .ne (.b1 .len (.var 3)) (.var 2))) (.cons (.ret (.cst (.bl false))) .nil) .nil) (.cons (.for (.nm 4) (.val (.var 3)) (.cons (.iff (.not (.call n_is_label (.cons (.var 4) (.cons (.var 1) .nil)))) (.cons (.ret (.cst (.bl false))) .nil) .nil) .nil)) .nil))) (.cons (.ret (.cst (.bl true))) .nil))⟩
def F_check_network : Fn := ⟨2, 2, true, .cons (.iff (.not (.call n_is_network (.cons (.var 1) (.cons (.fld (.var 0) [n_Table] n_ties) .nil)))) (.cons .bad .nil) .nil) .nil⟩
def F_frozen : Fn := ⟨1, 2, true, .cons (.ret (.tpl (.cmp [1] (.one (.nm 1) (.val (.var 0)) .non) (.tpl (.val (.var 1)))))) .nil⟩
def F_check_tie : Fn := ⟨2, 2, true, .cons (.iff (.not (.call n_is_below (.cons (.var 1) (.cons (.fld (.var 0) [n_Table] n_ties) .nil)))) (.cons .bad .nil) .nil) .nil⟩
def F_between : Fn := ⟨3, 4, true, .cons (.exp (.call n_check_tie (.cons (.var 0) (.cons (.var 1) .nil)))) (.cons (.exp (.call n_check_tie (.cons (.var 0) (.cons (.var 2) .nil)))) (.cons (.ret (.tpl (.cmp [3] (.one (.nm 3) (.rng (.cst (I 0)) (.fld (.var 0) [n_Table] n_ties)) (.som (.op .nin (.tup (.cons (.var 1) (.cons (.var 3) (.cons (.var 2) .nil)))) (.fld (.var 0) [n_Table] n_barred)))) (.var 3)))) .nil))⟩
def F_all_pairs : Fn := ⟨1, 3, false, .cons (.ret (.lst (.cmp [1, 2] (.two (.nm 1) (.rng (.cst (I 0)) (.var 0)) .non [2] (.nm 2) (.rng (.cst (I 0)) (.var 1)) .non) (.tup (.cons (.var 2) (.cons (.var 1) .nil)))))) .nil⟩
def F_turned_label : Fn := ⟨2, 3, true, .cons (.ret (.tpl (.srt (.cmp [2] (.one (.nm 2) (.val (.var 1)) .non) (.op .idx (.fld (.var 0) [n_Table] n_turn) (.var 2)))))) .nil⟩
def F_label_from : Fn := ⟨4, 4, true, .cons (.iff (.op .lt (.var 2) (.var 3)) (.cons (.ret (.op .idx (.op .idx (.var 1) (.var 3)) (.var 2))) .nil) .nil) (.cons (.ret (.call n_turned_label (.cons (.var 0) (.cons (.op .idx (.op .idx (.var 1) (.var 2)) (.var 3)) .nil)))) .nil)⟩
def F_is_backed : Fn := ⟨6, 11, true, .cons (.for (.nm 6) (.rng (.cst (I 0)) (.b1 .len (.var 2))) (.cons (.iff (.and (.op .ne (.var 6) (.var 3)) (.op .ne (.var 6) (.var 4))) (.cons (.asg (.nm 7) (.call n_label_from (.cons (.var 0) (.cons (.var 2) (.cons (.var 3) (.cons (.var 6) .nil)))))) (.cons (.asg (.nm 8) (.call n_label_from (.cons (.var 0) (.cons (.var 2) (.cons (.var 6) (.cons (.var 4) .nil)))))) (.cons (.iff (.not (.any (.cmp [9, 10] (.two (.nm 9) (.val (.var 7)) .non [10] (.nm 10) (.val (.var 8)) .non) (.op .inn (.var 5) (.op .idx (.var 1) (.tup (.cons (.var 9) (.cons (.var 10) .nil)))))))) (.cons (.ret (.cst (.bl false))) .nil) .nil) .nil))) .nil) .nil)) (.cons (.ret (.cst (.bl true))) .nil)⟩
def F_closed : Fn := ⟨2, 13, true, .cons (.exp (.call n_check_network (.cons (.var 0) (.cons (.var 1) .nil)))) (.cons (.asg (.nm 2) (.lst (.cmp [6] (.one (.nm 6) (.val (.var 1)) .non) (.lst (.lsv (.var 6)))))) (.cons (.asg (.nm 3) (.rng (.cst (I 0)) (.fld (.var 0) [n_Table] n_ties))) (.cons (.asg (.nm 4) (.dcp [7, 8] (.two (.nm 7) (.val (.var 3)) .non [8] (.nm 8) (.val (.var 3)) .non) (.tup (.cons (.var 7) (.cons (.var 8) .nil))) (.call n_between (.cons (.var 0) (.cons (.var 7) (.cons (.var 8) .nil)))))) (.cons (.asg (.nm 5) (.cst (.bl true))) (.cons (.whl (.var 5) (.cons (.asg (.nm 5) (.cst (.bl false))) (.cons (.for (.tup [9, 10]) (.val (.call n_all_pairs (.cons (.b1 .len (.var 2)) .nil))) (.cons (.asg (.nm 11) (.tpl (.cmp [12] (.one (.nm 12) (.val (.op .idx (.op .idx (.var 2) (.var 10)) (.var 9))) (.som (.call n_is_backed (.cons (.var 0) (.cons (.var 4) (.cons (.var 2) (.cons (.var 9) (.cons (.var 10) (.cons (.var 12) .nil))))))))) (.var 12)))) (.cons (.iff (.not (.var 11)) (.cons (.ret (.cst .non)) .nil) .nil) (.cons (.iff (.op .ne (.var 11) (.op .idx (.op .idx (.var 2) (.var 10)) (.var 9))) (.cons (.asg (.sub (.op .idx (.var 2) (.var 10)) (.var 9)) (.var 11)) (.cons (.asg (.nm 5) (.cst (.bl true))) .nil)) .nil) .nil)))) .nil))) (.cons (.ret (.call n_frozen (.cons (.var 2) .nil))) .nil))))))⟩
def F_law_k51 : Fn := ⟨1, 7, false, .cons (.asg (.nm 1) (.call n__law_flow (.cons (.var 0) .nil))) (.cons (.asg (.nm 2) (.call n__law_table (.cons (.var 1) (.cons (.cst (I 2)) .nil)))) (.cons (.asg (.nm 3) (.mk n_Table n_Table_dot___init__ (.cons (.tpl (.val (.op .idx (.var 2) (.cst (I 1))))) (.cons (.tpl (.val (.op .idx (.var 2) (.cst (I 2))))) .nil)))) (.cons (.asg (.nm 4) (.call n__law_wanted (.cons (.var 1) (.cons (.var 2) .nil)))) (.cons (.asg (.nm 5) (.call n__law_due (.cons (.var 2) (.cons (.var 4) .nil)))) (.cons (.iff (.not (.call n__law_well (.cons (.var 2) (.cons (.call n_closed (.cons (.var 3) (.cons (.var 4) .nil))) (.cons (.var 5) (.cons (.b1 .len (.var 4)) .nil)))))) (.cons (.ret (.cst (.bl false))) .nil) .nil) (.cons (.asg (.nm 6) (.slc (.var 4) .non (.som (.b2 .max (.cst (I 0)) (.op .sub (.b1 .len (.var 4)) (.cst (I 1))))))) (.cons (.iff (.not (.call n__law_well (.cons (.var 2) (.cons (.perm n_closed 0 2 .nil (.cons (.var 6) (.cons (.var 3) .nil)) [1, 0]) (.cons (.call n__law_due (.cons (.var 2) (.cons (.var 6) .nil))) (.cons (.b1 .len (.var 6)) .nil)))))) (.cons (.ret (.cst (.bl false))) .nil) .nil) (.cons (.ret (.call n__law_well (.cons (.var 2) (.cons (.perm n_closed 1 1 (.cons (.var 3) .nil) (.cons (.var 4) .nil) [0, 1]) (.cons (.var 5) (.cons (.b1 .len (.var 4)) .nil)))))) .nil))))))))⟩
structure D__law_flow (G : Prg) : Prop where
  f : G n__law_flow = some F__law_flow
structure D__law_next (G : Prg) : Prop where
  f : G n__law_next = some F__law_next
structure D__law_turn (G : Prg) : Prop where
  f : G n__law_turn = some F__law_turn
  _law_next : D__law_next G
structure D__law_orders_k51 (G : Prg) : Prop where
  f : G n__law_orders = some F__law_orders_k51
structure D__law_tie_k51 (G : Prg) : Prop where
  f : G n__law_tie = some F__law_tie_k51
structure D__law_piece_k51 (G : Prg) : Prop where
  f : G n__law_piece = some F__law_piece_k51
  _law_tie : D__law_tie_k51 G
structure D__law_bad (G : Prg) : Prop where
  f : G n__law_bad = some F__law_bad
  _law_orders : D__law_orders_k51 G
  _law_piece : D__law_piece_k51 G
structure D__law_picture (G : Prg) : Prop where
  f : G n__law_picture = some F__law_picture
  _law_next : D__law_next G
structure D__law_table (G : Prg) : Prop where
  f : G n__law_table = some F__law_table
  _law_next : D__law_next G
  _law_turn : D__law_turn G
  _law_picture : D__law_picture G
  _law_bad : D__law_bad G
structure D_is_sequence (G : Prg) : Prop where
  f : G n_is_sequence = some F_is_sequence
structure D_is_number (G : Prg) : Prop where
  f : G n_is_number = some F_is_number
structure D_is_below (G : Prg) : Prop where
  f : G n_is_below = some F_is_below
  is_number : D_is_number G
structure D_check_turn (G : Prg) : Prop where
  f : G n_check_turn = some F_check_turn
  is_sequence : D_is_sequence G
  is_below : D_is_below G
structure D_is_row (G : Prg) : Prop where
  f : G n_is_row = some F_is_row
  is_below : D_is_below G
structure D_is_shape (G : Prg) : Prop where
  f : G n_is_shape = some F_is_shape
  is_row : D_is_row G
structure D_check_bars (G : Prg) : Prop where
  f : G n_check_bars = some F_check_bars
  is_sequence : D_is_sequence G
  is_shape : D_is_shape G
structure D_flat (G : Prg) : Prop where
  f : G n_flat = some F_flat
structure D_tie_in (G : Prg) : Prop where
  f : G n_tie_in = some F_tie_in
structure D_row_to (G : Prg) : Prop where
  f : G n_row_to = some F_row_to
  tie_in : D_tie_in G
structure D_cut (G : Prg) : Prop where
  f : G n_cut = some F_cut
  row_to : D_row_to G
structure D_barred_orders (G : Prg) : Prop where
  f : G n_barred_orders = some F_barred_orders
  flat : D_flat G
  cut : D_cut G
structure D_least_shape (G : Prg) : Prop where
  f : G n_least_shape = some F_least_shape
  tie_in : D_tie_in G
structure D_by_size (G : Prg) : Prop where
  f : G n_by_size = some F_by_size
structure D_Table_dot___init__ (G : Prg) : Prop where
  f : G n_Table_dot___init__ = some F_Table_dot___init__
  check_turn : D_check_turn G
  check_bars : D_check_bars G
  least_shape : D_least_shape G
  by_size : D_by_size G
  barred_orders : D_barred_orders G
structure D__law_net_k51 (G : Prg) : Prop where
  f : G n__law_net = some F__law_net_k51
  _law_next : D__law_next G
structure D__law_with_label (G : Prg) : Prop where
  f : G n__law_with_label = some F__law_with_label
structure D__law_wanted (G : Prg) : Prop where
  f : G n__law_wanted = some F__law_wanted
  _law_next : D__law_next G
  _law_net : D__law_net_k51 G
  _law_with_label : D__law_with_label G
structure D__law_label (G : Prg) : Prop where
  f : G n__law_label = some F__law_label
structure D__law_full (G : Prg) : Prop where
  f : G n__law_full = some F__law_full
  _law_label : D__law_label G
structure D__law_held_k51 (G : Prg) : Prop where
  f : G n__law_held = some F__law_held_k51
structure D__law_struck (G : Prg) : Prop where
  f : G n__law_struck = some F__law_struck
  _law_held : D__law_held_k51 G
structure D__law_due_k51 (G : Prg) : Prop where
  f : G n__law_due = some F__law_due_k51
  _law_full : D__law_full G
  _law_struck : D__law_struck G
structure D__law_is_number (G : Prg) : Prop where
  f : G n__law_is_number = some F__law_is_number
structure D__law_is_net (G : Prg) : Prop where
  f : G n__law_is_net = some F__law_is_net
  _law_is_number : D__law_is_number G
structure D__law_well_k51 (G : Prg) : Prop where
  f : G n__law_well = some F__law_well_k51
  _law_is_net : D__law_is_net G
structure D_is_spots (G : Prg) : Prop where
  f : G n_is_spots = some F_is_spots
  is_row : D_is_row G
structure D_is_places (G : Prg) : Prop where
  f : G n_is_places = some F_is_places
  is_spots : D_is_spots G
structure D_is_rising (G : Prg) : Prop where
  f : G n_is_rising = some F_is_rising
  is_places : D_is_places G
structure D_is_label (G : Prg) : Prop where
  f : G n_is_label = some F_is_label
  is_rising : D_is_rising G
structure D_is_network (G : Prg) : Prop where
  f : G n_is_network = some F_is_network
  is_label : D_is_label G
structure D_check_network (G : Prg) : Prop where
  f : G n_check_network = some F_check_network
  is_network : D_is_network G
structure D_frozen (G : Prg) : Prop where
  f : G n_frozen = some F_frozen
structure D_check_tie (G : Prg) : Prop where
  f : G n_check_tie = some F_check_tie
  is_below : D_is_below G
structure D_between (G : Prg) : Prop where
  f : G n_between = some F_between
  check_tie : D_check_tie G
structure D_all_pairs (G : Prg) : Prop where
  f : G n_all_pairs = some F_all_pairs
structure D_turned_label (G : Prg) : Prop where
  f : G n_turned_label = some F_turned_label
structure D_label_from (G : Prg) : Prop where
  f : G n_label_from = some F_label_from
  turned_label : D_turned_label G
structure D_is_backed (G : Prg) : Prop where
  f : G n_is_backed = some F_is_backed
  label_from : D_label_from G
structure D_closed (G : Prg) : Prop where
  f : G n_closed = some F_closed
  check_network : D_check_network G
  between : D_between G
  all_pairs : D_all_pairs G
  is_backed : D_is_backed G
  frozen : D_frozen G
structure D_law_k51 (G : Prg) : Prop where
  f : G n_law = some F_law_k51
  _law_flow : D__law_flow G
  _law_table : D__law_table G
  Table_dot___init__ : D_Table_dot___init__ G
  _law_wanted : D__law_wanted G
  _law_due : D__law_due_k51 G
  _law_well : D__law_well_k51 G
  closed : D_closed G
end Pv
end Pp_Fns
section Pp_Base
set_option Elab.async false
set_option linter.all false
set_option maxRecDepth 10000
namespace Pv
open PySem (Str)
open GV
/-- a rule that is to leave a trace in a proof (so that the kernel need not find it again) -/
theorem nr {A : Sort _} {a b : A} (h : a = b) : a = b := h
/-! ### plain rules of the evaluator -/
theorem Res.bind_ok {A B : Type} (a : A) (h : GH) (f : A → GH → Res B) : (Res.ok a h).bind f = f a h := nr rfl
theorem Res.bind_exc {A B : Type} (c : Nat) (fs : List (Nat × GV)) (h : GH) (f : A → GH → Res B) : (Res.exc c fs h).bind f = .exc c fs h := nr rfl
theorem ite_tt {A : Type} (a b : A) : (if true = true then a else b) = a := nr rfl
theorem ite_ff {A : Type} (a b : A) : (if false = true then a else b) = b := nr rfl
theorem truth_b (b : Bool) (h : GH) : truth (.bl b) h = some b := nr rfl
theorem truth_i (b : Int) (h : GH) : truth (.int b) h = some (b != 0) := nr rfl
theorem truth_non (h : GH) : truth .non h = some false := nr rfl
def To {A : Type} (r : Res A) (Q : A → GH → Prop) : Prop := ∃ a h, r = .ok a h ∧ Q a h
theorem To_ok {A : Type} {a : A} {h : GH} {Q : A → GH → Prop} : To (.ok a h) Q ↔ Q a h :=
  ⟨fun ⟨_, _, e, q⟩ => by cases e; exact q, fun q => ⟨_, _, rfl, q⟩⟩
theorem To.ok {A : Type} {a : A} {h : GH} {Q : A → GH → Prop} (q : Q a h) : To (.ok a h) Q := ⟨_, _, rfl, q⟩
theorem To_bind {A B : Type} {r : Res A} {f : A → GH → Res B} {Q : B → GH → Prop} : To (r.bind f) Q ↔ To r fun a h => To (f a h) Q := by
  constructor
  · rintro ⟨b, h, e, q⟩
    cases r with
    | ok a h1 => exact ⟨a, h1, rfl, b, h, e, q⟩
    | exc c fs h1 => cases e
    | bad => cases e
  · rintro ⟨a, h, rfl, q⟩
    exact q
theorem To.mono {A : Type} {r : Res A} {Q R : A → GH → Prop} (t : To r Q) (f : ∀ a h, Q a h → R a h) : To r R := let ⟨a, h, e, q⟩ := t; ⟨a, h, e, f a h q⟩
theorem To.bind {A B : Type} {r : Res A} {f : A → GH → Res B} {Q : A → GH → Prop} {R : B → GH → Prop} (t : To r Q) (g : ∀ a h, Q a h → To (f a h) R) : To (r.bind f) R := To_bind.mpr (t.mono g)
theorem To.of_eq {A : Type} {r : Res A} {a : A} {h : GH} {Q : A → GH → Prop} (e : r = .ok a h) (q : Q a h) : To r Q := ⟨a, h, e, q⟩
theorem To.eq {A : Type} {r : Res A} {a : A} {h : GH} (t : To r fun b h1 => b = a ∧ h1 = h) : r = .ok a h := by
  obtain ⟨b, h1, e, rfl, rfl⟩ := t
  exact e

/-- a block, statement by statement -/
def Kn (cl : Calls) (r : Sms) (Q : Fl × Env → GH → Prop) : Fl × Env → GH → Prop := fun p h1 => match p with
  | (.nxt, e) => To (exSs cl r e h1) Q
  | (f, e) => Q (f, e) h1
theorem seq_to {cl : Calls} {s : Sm} {r : Sms} {env : Env} {h : GH} {Q : Fl × Env → GH → Prop} (t : To (exS cl s env h) (Kn cl r Q)) : To (exSs cl (.cons s r) env h) Q := by
  simp only [exSs]
  refine t.bind fun p h1 q => ?_
  obtain ⟨f, e⟩ := p
  cases f with
  | nxt => exact q
  | brk => exact To.ok q
  | cnt => exact To.ok q
  | ret v => exact To.ok q
theorem seq_mid {cl : Calls} {s : Sm} {r : Sms} {env : Env} {h : GH} {Q : Fl × Env → GH → Prop} (R : Fl × Env → GH → Prop) (t : To (exS cl s env h) R) (k : ∀ p h1, R p h1 → Kn cl r Q p h1) : To (exSs cl (.cons s r) env h) Q := seq_to (t.mono k)
theorem nil_to {cl : Calls} {env : Env} {h : GH} {Q : Fl × Env → GH → Prop} (q : Q (.nxt, env) h) : To (exSs cl .nil env h) Q := by
  simp only [exSs]
  exact To.ok q
theorem Kn_nxt {cl : Calls} {r : Sms} {Q : Fl × Env → GH → Prop} {e : Env} {h : GH} : Kn cl r Q (.nxt, e) h ↔ To (exSs cl r e h) Q := Iff.rfl
theorem Kn_ret {cl : Calls} {r : Sms} {Q : Fl × Env → GH → Prop} {e : Env} {h : GH} {v : GV} : Kn cl r Q (.ret v, e) h ↔ Q (.ret v, e) h := Iff.rfl
theorem Kn_brk {cl : Calls} {r : Sms} {Q : Fl × Env → GH → Prop} {e : Env} {h : GH} : Kn cl r Q (.brk, e) h ↔ Q (.brk, e) h := Iff.rfl
theorem Kn_cnt {cl : Calls} {r : Sms} {Q : Fl × Env → GH → Prop} {e : Env} {h : GH} : Kn cl r Q (.cnt, e) h ↔ Q (.cnt, e) h := Iff.rfl

theorem szv : szL = 16777216 := rfl
theorem sz0 : (0 ≤ szL) = True := by simp [szL]
theorem sz1 : (1 ≤ szL) = True := by simp [szL]
theorem sz2 : (2 ≤ szL) = True := by simp [szL]
theorem sz3 : (3 ≤ szL) = True := by simp [szL]
theorem sz4 : (4 ≤ szL) = True := by simp [szL]
theorem sz5 : (5 ≤ szL) = True := by simp [szL]
theorem sz6 : (6 ≤ szL) = True := by simp [szL]
theorem sz7 : (7 ≤ szL) = True := by simp [szL]
theorem sz8 : (8 ≤ szL) = True := by simp [szL]
/-! ### equations -/
def rngR (x y : GV) (h : GH) : Res (List GV × Gd) := match x, y with
  | .int i, .int j => match rngL i j with
    | some xs => .ok (xs, none) h
    | none => .bad
  | _, _ => .bad
def rngQ (x y : GV) (h : GH) : Res (List GV) := match x, y with
  | .int i, .int j => match rngL i j with
    | some xs => .ok xs h
    | none => .bad
  | _, _ => .bad
def rngV (x y : GV) (h : GH) : Res GV := match x, y with
  | .int i, .int j => if -1000000 ≤ i ∧ i ≤ 1000000 ∧ -1000000 ≤ j ∧ j ≤ 1000000 then .ok (.rng i j) h else .bad
  | _, _ => .bad
def rngT (x y z : GV) (h : GH) : Res (List GV × Gd) := match x, y, z with
  | .int i, .int j, .int k => match rngS i j k with
    | some xs => .ok (xs, none) h
    | none => .bad
  | _, _, _ => .bad
def negV (x : GV) (h : GH) : Res GV := match x with
  | .int i => .ok (.int (-i)) h
  | _ => .bad
def tru (x : GV) (h : GH) : Res Bool := match truth x h with
  | some k => .ok k h
  | none => .bad
def idxI (x : GV) (h : GH) : Res (Option Int) := match x with
  | .int i => .ok (some i) h
  | _ => .bad
def getV (o : Option (Option GV)) (h : GH) : Res GV := match o with
  | some (some v) => .ok v h
  | _ => .bad
def szT (vs : List GV) (h : GH) : Res GV := if vs.length ≤ szL then .ok (.tup vs) h else .bad
def szS (vs : List GV) (h : GH) : Res (List GV) := if vs.length ≤ szL then .ok vs h else .bad
def itS (x : GV) (h : GH) : Res (List GV × Gd) := match seqOf x h with
  | some xs => .ok (xs, gdOf x xs) h
  | none => .bad
def itE (x : GV) (h : GH) : Res (List GV × Gd) := match seqT x h with
  | some xs => .ok (enmL xs, enmG x xs) h
  | none => .bad
def itP (x : GV) (h : GH) : Res (List GV × Gd) := match x with
  | .int i => if 0 ≤ i ∧ i ≤ 4 then .ok (prmL i.toNat, none) h else .bad
  | _ => .bad
def sqT (x : GV) (h : GH) : Res (List GV) := match seqT x h with
  | some xs => .ok xs h
  | none => .bad
def sqD (x : GV) (h : GH) : Res (List GV) := match seqD x h with
  | some xs => .ok xs h
  | none => .bad
def isiV (ts : List Ty) (x : GV) (h : GH) : Res GV := match isTs ts x h with
  | some k => .ok (.bl k) h
  | none => .bad
def lenV (x : GV) (h : GH) : Res GV := match lenOf x h with
  | some n => .ok (I n) h
  | none => .bad
def intV (x : GV) (h : GH) : Res GV := match x with
  | .int i => .ok (.int i) h
  | .bl k => .ok (.int (if k then 1 else 0)) h
  | _ => .bad
def allV (f : List Bool → Bool) (vs : List GV) (h : GH) : Res GV := match bools vs with
  | some bs => .ok (.bl (f bs)) h
  | none => .bad
def setR (o i v : GV) (env : Env) (h : GH) : Res Env := match setIx o i v h with
  | some h3 => .ok env h3
  | none => .bad
def fldR (o : GV) (cs : List Nat) (f : Nat) (v : GV) (env : Env) (h : GH) : Res Env := match setFld o cs f v h with
  | some h3 => .ok env h3
  | none => .bad
def tgR (t : Tg) (v : GV) (env : Env) (h : GH) : Res Env := match setTg t v env with
  | some e => .ok e h
  | none => .bad
/-- a turn of a loop -/
def forB (cl : Calls) (t : Tg) (b : Sms) : GV → Env → GH → RS := fun x e h2 => match setTg t x e with
  | some e1 => exSs cl b e1 h2
  | none => .bad
theorem forB_nm {cl : Calls} {i : Nat} {b : Sms} {x : GV} {e : Env} {h : GH} : forB cl (.nm i) b x e h = exSs cl b (e.set i (some x)) h := nr rfl
section
variable {cl : Calls} {env : Env} {h : GH}
theorem eE_var {i : Nat} : evE cl (.var i) env h = getV env[i]? h := by rw [evE]; rfl
theorem eE_cst {v : GV} : evE cl (.cst v) env h = .ok v h := by rw [evE]
theorem eE_tup {es : Exs} : evE cl (.tup es) env h = (evEs cl es env h).bind szT := by rw [evE]; rfl
theorem eE_lst {s : Sq} : evE cl (.lst s) env h = (evS cl s env h).bind fun vs h1 => .ok (.ref h1.length) (h1 ++ [.lst vs]) := by rw [evE]
theorem eE_tpl {s : Sq} : evE cl (.tpl s) env h = (evS cl s env h).bind fun vs h1 => .ok (.tup vs) h1 := by rw [evE]
theorem eE_op {o : Op} {a b : Ex} : evE cl (.op o a b) env h = (evE cl a env h).bind fun x h1 => (evE cl b env h1).bind fun y h2 => opE o x y h2 := by rw [evE]
theorem eE_neg {a : Ex} : evE cl (.neg a) env h = (evE cl a env h).bind negV := by rw [evE]; rfl
theorem eE_isn {a : Ex} : evE cl (.isn a) env h = (evE cl a env h).bind fun x h1 => .ok (.bl (decide (x = .non))) h1 := by rw [evE]
theorem eE_ntn {a : Ex} : evE cl (.ntn a) env h = (evE cl a env h).bind fun x h1 => .ok (.bl (!decide (x = .non))) h1 := by rw [evE]
theorem eE_and {a b : Ex} : evE cl (.and a b) env h = (evE cl a env h).bind fun x h1 => (tru x h1).bind fun k h2 => if k = true then evE cl b env h1 else .ok x h1 := by
  rw [evE]
  congr 1
  funext x h1
  unfold tru
  cases truth x h1 <;> rfl
theorem eE_or {a b : Ex} : evE cl (.or a b) env h = (evE cl a env h).bind fun x h1 => (tru x h1).bind fun k h2 => if k = true then .ok x h1 else evE cl b env h1 := by
  rw [evE]
  congr 1
  funext x h1
  unfold tru
  cases truth x h1 <;> rfl
theorem eE_not {a : Ex} : evE cl (.not a) env h = (evE cl a env h).bind fun x h1 => (tru x h1).bind fun k h2 => .ok (.bl (!k)) h2 := by
  rw [evE]
  congr 1
  funext x h1
  unfold tru
  cases truth x h1 <;> rfl
theorem eE_ite {c a b : Ex} : evE cl (.ite c a b) env h = (evE cl c env h).bind fun x h1 => (tru x h1).bind fun k h2 => if k = true then evE cl a env h2 else evE cl b env h2 := by
  rw [evE]
  congr 1
  funext x h1
  unfold tru
  cases truth x h1 <;> rfl
theorem eE_slc {a : Ex} {lo hi : OEx} : evE cl (.slc a lo hi) env h = (evE cl a env h).bind fun x h1 => (evO cl lo env h1).bind fun l h2 => (evO cl hi env h2).bind fun u h3 => opSlc x l u h3 := by rw [evE]
theorem eE_fld {a : Ex} {cs : List Nat} {f : Nat} : evE cl (.fld a cs f) env h = (evE cl a env h).bind fun x h1 => opFld x cs f h1 := by rw [evE]
theorem eE_call {f : Nat} {es : Exs} : evE cl (.call f es) env h = (evEs cl es env h).bind fun vs h1 => cl f vs h1 := by rw [evE]
theorem eE_perm {f n j : Nat} {es ks : Exs} {p : List Nat} : evE cl (.perm f n j es ks p) env h = (evEs cl es env h).bind fun vs h1 => (evEs cl ks env h1).bind fun us h2 => if vs.length = n ∧ us.length = j then cl f (p.map fun i => (vs ++ us).getD i .non) h2 else .bad := by rw [evE]
theorem eE_mk {c f : Nat} {es : Exs} : evE cl (.mk c f es) env h = (evEs cl es env h).bind fun vs h1 => (cl f (.ref h1.length :: vs) (h1 ++ [.ins c []])).bind fun v h2 => if v = .non then .ok (.ref h1.length) h2 else .bad := by rw [evE]
theorem eE_len {a : Ex} : evE cl (.b1 .len a) env h = (evE cl a env h).bind lenV := by rw [evE]; rfl
theorem eE_int {a : Ex} : evE cl (.b1 .int a) env h = (evE cl a env h).bind intV := by
  rw [evE]
  rfl
theorem eE_str {a : Ex} : evE cl (.b1 .str a) env h = (evE cl a env h).bind fun x h1 => ev1 .str x h1 := by rw [evE]
theorem eE_b2 {b : B2} {a c : Ex} : evE cl (.b2 b a c) env h = (evE cl a env h).bind fun x h1 => (evE cl c env h1).bind fun y h2 => ev2 b x y h2 := by rw [evE]
theorem eE_all {s : Sq} : evE cl (.all s) env h = (evS cl s env h).bind (allV fun bs => bs.all id) := by rw [evE]; rfl
theorem eE_any {s : Sq} : evE cl (.any s) env h = (evS cl s env h).bind (allV fun bs => bs.any id) := by rw [evE]; rfl
theorem eE_isi {a : Ex} {ts : List Ty} : evE cl (.isi a ts) env h = (evE cl a env h).bind (isiV ts) := by rw [evE]; rfl
theorem eE_rng {a b : Ex} : evE cl (.rng a b) env h = (evE cl a env h).bind fun x h1 => (evE cl b env h1).bind fun y h2 => rngV x y h2 := by rw [evE]; rfl
theorem eE_m1 {m : M1} {a e : Ex} : evE cl (.m1 m a e) env h = (evE cl a env h).bind fun x h1 => if isLst x h1 = true then (evE cl e env h1).bind fun y h2 => evM1 m x y h2 else .bad := by rw [evE]
theorem eE_dic : evE cl .dic env h = .ok (.ref h.length) (h ++ [.dct []]) := by rw [evE]
theorem eA_nil : evEs cl .nil env h = .ok [] h := by rw [evEs]
theorem eA_cons {e : Ex} {es : Exs} : evEs cl (.cons e es) env h = (evE cl e env h).bind fun v h1 => (evEs cl es env h1).bind fun vs h2 => .ok (v :: vs) h2 := by rw [evEs]
theorem eO_non : evO cl .non env h = .ok none h := by rw [evO]
theorem eO_som {e : Ex} : evO cl (.som e) env h = (evE cl e env h).bind idxI := by rw [evO]; rfl
theorem eQ_non : evQ cl .non env h = .ok true h := by rw [evQ]
theorem eQ_som {e : Ex} : evQ cl (.som e) env h = (evE cl e env h).bind tru := by rw [evQ]; rfl
theorem eS_val {e : Ex} : evS cl (.val e) env h = (evE cl e env h).bind sqT := by rw [evS]; rfl
theorem eS_lsv {e : Ex} : evS cl (.lsv e) env h = (evE cl e env h).bind sqD := by rw [evS]; rfl
theorem eS_rgl {a b : Ex} : evS cl (.rgl a b) env h = (evE cl a env h).bind fun x h1 => (evE cl b env h1).bind fun y h2 => rngQ x y h2 := by rw [evS]; rfl
theorem eS_dsp {es : Exs} : evS cl (.dsp es) env h = (evEs cl es env h).bind szS := by rw [evS]; rfl
theorem eS_lis {s : Sq} : evS cl (.lis s) env h = evS cl s env h := by rw [evS]
theorem eS_srt {s : Sq} : evS cl (.srt s) env h = (evS cl s env h).bind fun vs h1 => if srtOk vs = true then .ok (vs.mergeSort leD) h1 else .bad := by rw [evS]
theorem eI_val {e : Ex} : evI cl (.val e) env h = (evE cl e env h).bind itS := by rw [evI]; rfl
theorem eI_sq {s : Sq} : evI cl (.sq s) env h = (evS cl s env h).bind fun vs h1 => .ok (vs, none) h1 := by rw [evI]
theorem eI_enm {e : Ex} : evI cl (.enm e) env h = (evE cl e env h).bind itE := by rw [evI]; rfl
theorem eI_rng {a b : Ex} : evI cl (.rng a b) env h = (evE cl a env h).bind fun x h1 => (evE cl b env h1).bind fun y h2 => rngR x y h2 := by rw [evI]; rfl
theorem eI_rngS {a b c : Ex} : evI cl (.rngS a b c) env h = (evE cl a env h).bind fun x h1 => (evE cl b env h1).bind fun y h2 => (evE cl c env h2).bind fun z h3 => rngT x y z h3 := by rw [evI]; rfl
theorem eI_prm {a : Ex} : evI cl (.prm a) env h = (evE cl a env h).bind itP := by rw [evI]; rfl
theorem eT {e : Ex} : evT cl e env h = (evE cl e env h).bind tru := rfl
theorem xS_pass : exS cl .pass env h = .ok (.nxt, env) h := by rw [exS]
theorem xS_brk : exS cl .brk env h = .ok (.brk, env) h := by rw [exS]
theorem xS_cnt : exS cl .cnt env h = .ok (.cnt, env) h := by rw [exS]
theorem xS_ret {e : Ex} : exS cl (.ret e) env h = (evE cl e env h).bind fun v h1 => .ok (.ret v, env) h1 := by rw [exS]
theorem xS_exp {e : Ex} : exS cl (.exp e) env h = (evE cl e env h).bind fun _ h1 => .ok (.nxt, env) h1 := by rw [exS]
theorem xS_nm {i : Nat} {e : Ex} : exS cl (.asg (.nm i) e) env h = (evE cl e env h).bind fun v h1 => .ok (.nxt, env.set i (some v)) h1 := by rw [exS]; rfl
theorem xS_tg {is : List Nat} {e : Ex} : exS cl (.asg (.tup is) e) env h = (evE cl e env h).bind fun v h1 => (tgR (.tup is) v env h1).bind fun e1 h2 => .ok (.nxt, e1) h2 := by rw [exS]; rfl
theorem xS_fld {o : Ex} {cs : List Nat} {f : Nat} {e : Ex} : exS cl (.asg (.fld o cs f) e) env h = (evE cl e env h).bind fun v h1 => (evE cl o env h1).bind fun x h2 => (fldR x cs f v env h2).bind fun e1 h3 => .ok (.nxt, e1) h3 := by
  rw [exS]
  congr 1
  funext v h1
  simp only [setTt]
  cases evE cl o env h1 <;> rfl
theorem xS_sub {o i : Ex} {e : Ex} : exS cl (.asg (.sub o i) e) env h = (evE cl e env h).bind fun v h1 => (evE cl o env h1).bind fun x h2 => (evE cl i env h2).bind fun y h3 => (setR x y v env h3).bind fun e1 h4 => .ok (.nxt, e1) h4 := by
  rw [exS]
  congr 1
  funext v h1
  simp only [setTt]
  cases q : evE cl o env h1 with
  | ok x h2 =>
    simp only [Res.bind]
    cases evE cl i env h2 <;> rfl
  | exc _ _ _ => rfl
  | bad => rfl
theorem xS_iff {c : Ex} {a b : Sms} : exS cl (.iff c a b) env h = (evE cl c env h).bind fun x h1 => (tru x h1).bind fun k h2 => if k = true then exSs cl a env h2 else exSs cl b env h2 := by
  rw [exS, eT]
  cases evE cl c env h <;> rfl
theorem xS_for {t : Tg} {i : Iy} {b : Sms} : exS cl (.for t i b) env h = (evI cl i env h).bind fun p h1 => forL p.2 (forB cl t b) p.1 env h1 := by
  rw [exS]
  rfl
theorem xS_whl {c : Ex} {b : Sms} : exS cl (.whl c b) env h = whlL (fun e h1 => evT cl c e h1) (fun e h1 => exSs cl b e h1) whF env h := by rw [exS]
end
theorem oE_add {a b : GV} {h : GH} : opE .add a b h = opAdd a b h := nr rfl
theorem oE_sub {a b : GV} {h : GH} : opE .sub a b h = opSub a b h := nr rfl
theorem oE_mul {a b : GV} {h : GH} : opE .mul a b h = opMul a b h := nr rfl
theorem oE_fdiv {a b : GV} {h : GH} : opE .fdiv a b h = opFdiv a b h := nr rfl
theorem oE_mod {a b : GV} {h : GH} : opE .mod a b h = opMod a b h := nr rfl
theorem oE_pow {a b : GV} {h : GH} : opE .pow a b h = opPow a b h := nr rfl
theorem oE_eq {a b : GV} {h : GH} : opE .eq a b h = opEq a b h := nr rfl
theorem oE_ne {a b : GV} {h : GH} : opE .ne a b h = opNe a b h := nr rfl
theorem oE_lt {a b : GV} {h : GH} : opE .lt a b h = opLt a b h := nr rfl
theorem oE_le {a b : GV} {h : GH} : opE .le a b h = opLe a b h := nr rfl
theorem oE_gt {a b : GV} {h : GH} : opE .gt a b h = opGt a b h := nr rfl
theorem oE_ge {a b : GV} {h : GH} : opE .ge a b h = opGe a b h := nr rfl
theorem oE_idx {a b : GV} {h : GH} : opE .idx a b h = opIdx a b h := nr rfl
def inV (a b : GV) (h : GH) : Res GV := match opIn a b h with
  | some k => .ok (.bl k) h
  | none => .bad
def ninV (a b : GV) (h : GH) : Res GV := match opIn a b h with
  | some k => .ok (.bl (!k)) h
  | none => .bad
theorem oE_inn {a b : GV} {h : GH} : opE .inn a b h = inV a b h := nr rfl
theorem oE_nin {a b : GV} {h : GH} : opE .nin a b h = ninV a b h := nr rfl
theorem inV_of {a b : GV} {h : GH} {k : Bool} (e : opIn a b h = some k) : inV a b h = .ok (.bl k) h := by
  unfold inV
  rw [e]
theorem ninV_of {a b : GV} {h : GH} {k : Bool} (e : opIn a b h = some k) : ninV a b h = .ok (.bl (!k)) h := by
  unfold ninV
  rw [e]
theorem getV_ok {v : GV} {h : GH} : getV (some (some v)) h = .ok v h := nr rfl
theorem tru_bl {b : Bool} {h : GH} : tru (.bl b) h = .ok b h := nr rfl
theorem tru_non {h : GH} : tru .non h = .ok false h := nr rfl
theorem idxI_nat {k : Nat} {h : GH} : idxI (I k) h = .ok (some (k : Int)) h := nr rfl
theorem intV_int {i : Int} {h : GH} : intV (.int i) h = .ok (.int i) h := nr rfl
theorem intV_bl {k : Bool} {h : GH} : intV (.bl k) h = .ok (I (if k then 1 else 0)) h := by cases k <;> rfl
theorem allV_map {A : Type} (f : List Bool → Bool) (xs : List A) (p : A → Bool) (h : GH) : allV f (xs.map fun x => GV.bl (p x)) h = .ok (.bl (f (xs.map p))) h := by
  have : bools (xs.map fun x => GV.bl (p x)) = some (xs.map p) := by
    induction xs with
    | nil => rfl
    | cons x xs ih => rw [List.map_cons, bools, ih]; rfl
  unfold allV
  rw [this]

/-! ### calls -/
theorem callF_eq {G : Prg} {d f : Nat} {fn : Fn} {vs : List GV} {h : GH} (hG : G f = some fn) (hn : vs.length = fn.np) :
    callF G (d + 1) f vs h = (exSs (callF G d) fn.body (vs.map some ++ List.replicate (fn.nn - vs.length) none) h).bind fun p h1 =>
          match retV p.1 with
            | some v => if fn.pure = true then (if h1.take h.length = h ∧ refsLt h.length v = true then .ok v h else .bad) else .ok v h1
            | none => .bad := by
  rw [callF, hG]
  simp only [hn, if_true] <;> rfl
/-- what stood ahead stands, but for S -/
def Mod (S : List Nat) (h h1 : GH) : Prop := h.length ≤ h1.length ∧ ∀ n, n < h.length → n ∉ S → h1[n]? = h[n]?
abbrev Pre (h h1 : GH) : Prop := Mod [] h h1
theorem Mod.refl (S : List Nat) (h : GH) : Mod S h h := ⟨Nat.le_refl _, fun _ _ _ => rfl⟩
theorem Pre.refl (h : GH) : Pre h h := Mod.refl [] h
theorem lt_of_get {h : GH} {n : Nat} {o : GO} (e : h[n]? = some o) : n < h.length := by
  by_cases q : n < h.length
  · exact q
  · rw [List.getElem?_eq_none (by omega)] at e; cases e
theorem Mod.get {S : List Nat} {h h1 : GH} (p : Mod S h h1) {n : Nat} {o : GO} (e : h[n]? = some o) (hn : n ∉ S) : h1[n]? = some o := by rw [p.2 n (lt_of_get e) hn, e]
theorem Pre.get {h h1 : GH} (p : Pre h h1) {n : Nat} {o : GO} (e : h[n]? = some o) : h1[n]? = some o := Mod.get p e (by simp)
theorem Mod.len {S : List Nat} {h h1 : GH} (p : Mod S h h1) : h.length ≤ h1.length := p.1
theorem Mod.comp {S T : List Nat} {a b c : GH} (p : Mod S a b) (q : Mod T b c) (st : ∀ n ∈ T, n ∈ S ∨ a.length ≤ n) : Mod S a c :=
  ⟨Nat.le_trans p.1 q.1, fun n hn hs => by
    have hb := p.1
    rw [q.2 n (by omega) fun z => (st n z).elim hs (by omega), p.2 n hn hs]⟩
theorem Mod.trans {S : List Nat} {a b c : GH} (p : Mod S a b) (q : Mod S b c) : Mod S a c := p.comp q fun n hn => .inl hn
theorem Pre.mod {S : List Nat} {a b : GH} (p : Pre a b) : Mod S a b := ⟨p.1, fun n hn _ => p.2 n hn (by simp)⟩
theorem Mod.mono {S T : List Nat} {a b : GH} (p : Mod S a b) (st : ∀ n ∈ S, n ∈ T) : Mod T a b := ⟨p.1, fun n hn h => p.2 n hn fun z => h (st n z)⟩
theorem Mod.push {S : List Nat} {h h1 : GH} (p : Mod S h h1) (g : GH) : Mod S h (h1 ++ g) :=
  ⟨by rw [List.length_append]; have := p.1; omega, fun n hn hs => by
    rw [List.getElem?_append_left (by have := p.1; omega), p.2 n hn hs]⟩
theorem Mod.set {S : List Nat} {h h1 : GH} (p : Mod S h h1) {n : Nat} (hn : n ∈ S ∨ h.length ≤ n) (o : GO) : Mod S h (h1.set n o) :=
  ⟨by rw [List.length_set]; exact p.1, fun k hk hs => by
    rw [List.getElem?_set_ne (by rintro rfl; exact hn.elim hs (by omega)), p.2 k hk hs]⟩
theorem Pre.take {h h1 : GH} (p : Pre h h1) : h1.take h.length = h := by
  refine List.ext_getElem? fun n => ?_
  by_cases q : n < h.length
  · rw [List.getElem?_take_of_lt q, p.2 n q (by simp)]
  · rw [List.getElem?_eq_none (by rw [List.length_take]; omega), List.getElem?_eq_none (by omega)]
theorem get_push {h : GH} {o : GO} : (h ++ [o])[h.length]? = some o := by simp
theorem get_put {h : GH} {n : Nat} {o : GO} (hn : n < h.length) : (h.set n o)[n]? = some o := by simp [hn]
theorem get_ne {h : GH} {n k : Nat} {o : GO} (e : k ≠ n) : (h.set n o)[k]? = h[k]? := List.getElem?_set_ne e.symm
theorem get_app {h g : GH} {k : Nat} {o : GO} (e : h[k]? = some o) : (h ++ g)[k]? = some o := by rw [List.getElem?_append_left (lt_of_get e), e]
theorem call_pure {G : Prg} {d f : Nat} {fn : Fn} {vs : List GV} {h : GH} {v : GV} (hG : G f = some fn) (hp : fn.pure = true) (hn : vs.length = fn.np) (hr : refsLt h.length v = true)
    (hb : To (exSs (callF G d) fn.body (vs.map some ++ List.replicate (fn.nn - vs.length) none) h) fun p h1 => retV p.1 = some v ∧ Pre h h1) : callF G (d + 1) f vs h = .ok v h := by
  rw [callF_eq hG hn]
  obtain ⟨p, h1, e, e1, e2⟩ := hb
  rw [e, Res.bind_ok, e1]
  simp only [hp, if_true]
  exact if_pos ⟨e2.take, hr⟩
theorem call_to {G : Prg} {d f : Nat} {fn : Fn} {vs : List GV} {h : GH} {Q : GV → GH → Prop} (hG : G f = some fn) (hp : fn.pure = false) (hn : vs.length = fn.np)
    (hb : To (exSs (callF G d) fn.body (vs.map some ++ List.replicate (fn.nn - vs.length) none) h) fun p h1 => ∃ v, retV p.1 = some v ∧ Q v h1) : To (callF G (d + 1) f vs h) Q := by
  rw [callF_eq hG hn]
  obtain ⟨p, h1, e, v, e1, e2⟩ := hb
  rw [e, Res.bind_ok, e1]
  simp only [hp]
  exact ⟨v, h1, rfl, e2⟩

/-! ### values -/
class Enc (A : Type) where
  enc : A → GV
  dep : Nat
  ok : ∀ (a : A) (n : Nat), dep ≤ n → okN n (enc a) = true
  inj : ∀ a b : A, num (enc a) = num (enc b) → a = b
  noref : ∀ (a : A) (n : Nat), refsLt n (enc a) = true
open Enc (enc)
instance : Enc Nat where
  enc := I
  dep := 0
  ok := fun a n _ => by cases n <;> rfl
  inj := fun a b h => by
    simp only [I, num, GV.int.injEq] at h
    omega
  noref := fun a n => rfl
instance : Enc Bool where
  enc := .bl
  dep := 0
  ok := fun a n _ => by cases n <;> rfl
  inj := fun a b h => by cases a <;> cases b <;> simp [num] at h ⊢
  noref := fun a n => rfl
theorem nums_map (xs : List GV) : nums xs = xs.map num := by
  induction xs with
  | nil => rfl
  | cons x xs ih => rw [nums, ih]; rfl
theorem oksN_all (n : Nat) (xs : List GV) : oksN n xs = xs.all (okN n) := by
  induction xs with
  | nil => cases n <;> rfl
  | cons x xs ih => cases n <;> (rw [oksN, ih]; rfl)
theorem refsLts_all (n : Nat) (xs : List GV) : refsLts n xs = xs.all (refsLt n) := by
  induction xs with
  | nil => rfl
  | cons x xs ih => rw [refsLts, ih]; rfl
theorem map_inj {A B : Type} {f : A → B} (hf : ∀ a b, f a = f b → a = b) : ∀ {l m : List A}, l.map f = m.map f → l = m
  | [], [], _ => rfl
  | [], _ :: _, h => by cases h
  | _ :: _, [], h => by cases h
  | a :: l, b :: m, h => by
    rw [List.map_cons, List.map_cons, List.cons.injEq] at h
    rw [hf a b h.1, map_inj hf h.2]
instance {A : Type} [Enc A] : Enc (List A) where
  enc := fun l => .tup (l.map enc)
  dep := Enc.dep A + 1
  ok := fun a n hn => by
    cases n with
    | zero => omega
    | succ n =>
      rw [okN, oksN_all, List.all_map, List.all_eq_true]
      intro x _
      exact Enc.ok x n (by omega)
  inj := fun a b h => by
    simp only [num, nums_map, GV.tup.injEq, List.map_map] at h
    exact map_inj (fun x y e => Enc.inj x y e) h
  noref := fun a n => by
    rw [refsLt, refsLts_all, List.all_map, List.all_eq_true]
    intro x _
    exact Enc.noref x n
instance {A B : Type} [Enc A] [Enc B] : Enc (A × B) where
  enc := fun p => .tup [enc p.1, enc p.2]
  dep := max (Enc.dep A) (Enc.dep B) + 1
  ok := fun a n hn => by
    cases n with
    | zero => omega
    | succ n =>
      rw [okN, oksN_all]
      simp [Enc.ok a.1 n (by omega), Enc.ok a.2 n (by omega)]
  inj := fun a b h => by
    simp only [num, nums, GV.tup.injEq, List.cons.injEq] at h
    exact Prod.ext (Enc.inj _ _ h.1) (Enc.inj _ _ h.2.1)
  noref := fun a n => by
    simp [refsLt, refsLts, Enc.noref]
theorem enc_nat (k : Nat) : enc k = I k := nr rfl
theorem enc_bool (k : Bool) : enc k = .bl k := nr rfl
theorem enc_list {A : Type} [Enc A] (l : List A) : enc l = .tup (l.map enc) := rfl
theorem enc_nil {A : Type} [Enc A] : (.tup [] : GV) = enc ([] : List A) := rfl
theorem tup_map {A : Type} [Enc A] (l : List A) : GV.tup (l.map enc) = enc l := rfl
theorem tup_mapI (l : List Nat) : GV.tup (l.map I) = enc l := rfl
theorem enc_num {A : Type} [Enc A] (a b : A) : (num (enc a) = num (enc b)) ↔ a = b := ⟨Enc.inj a b, fun e => by rw [e]⟩

/-! ### operations -/
theorem atI_nat {A : Type} (xs : List A) (k : Nat) : L2.atI xs (k : Int) = xs[k]? := by
  unfold L2.atI L2.ixN
  rw [if_pos (by omega)]
  by_cases h : k < xs.length
  · rw [if_pos (by omega)]; rfl
  · rw [if_neg (by omega)]
    simp only [Option.bind_none]
    rw [List.getElem?_eq_none (by omega)]
theorem ixN_nat {n k : Nat} (h : k < n) : L2.ixN n (k : Int) = some k := by
  unfold L2.ixN
  rw [if_pos (by omega), if_pos (by omega)]
  rfl
theorem idx_tup {xs : List GV} {k : Nat} {h : GH} {v : GV} (e : xs[k]? = some v) : opIdx (.tup xs) (I k) h = .ok v h := by
  show (match L2.atI xs (k : Int) with | some v => Res.ok v h | none => .bad) = _
  rw [atI_nat, e]
theorem idx_enc {A : Type} [Enc A] (x : A) {l : List A} {k : Nat} {h : GH} (hk : k < l.length) : opIdx (enc l) (I k) h = .ok (enc (l.getD k x)) h := idx_tup (by simp [hk])
theorem idx_N {l : List Nat} {k : Nat} {h : GH} (hk : k < l.length) : opIdx (enc l) (I k) h = .ok (I (l.getD k 0)) h := idx_enc 0 hk
theorem idx_P {A : Type} [Enc A] {l : List (List A)} {k : Nat} {h : GH} (hk : k < l.length) : opIdx (enc l) (I k) h = .ok (enc (l.getD k [])) h := idx_enc [] hk
theorem idx_lst {n k : Nat} {h : GH} {xs : List GV} {v : GV} (e : h[n]? = some (.lst xs)) (e2 : xs[k]? = some v) : opIdx (.ref n) (I k) h = .ok v h := by
  show (match h[n]? with | some (.lst xs) => (match L2.atI xs (k : Int) with | some v => Res.ok v h | none => .bad) | some (.dct kvs) => _ | _ => .bad) = _
  rw [e]
  show (match L2.atI xs (k : Int) with | some v => Res.ok v h | none => .bad) = _
  rw [atI_nat, e2]
theorem set_lst {n k : Nat} {h : GH} {xs : List GV} {v : GV} (e : h[n]? = some (.lst xs)) (hk : k < xs.length) : setIx (.ref n) (I k) v h = some (h.set n (.lst (xs.set k v))) := by
  unfold setIx
  simp only [e, ixN_nat hk]
theorem set_dct {n : Nat} {k : GV} {h : GH} {kvs : List (GV × GV)} {v : GV} (e : h[n]? = some (.dct kvs)) (hk : keyOk kvs k = true) (hl : kvs.length < szL) : setIx (.ref n) k v h = some (h.set n (.dct (put kvs k v))) := by
  unfold setIx
  simp only [e, hk, hl]
  simp
theorem lt_nat (a b : Nat) (h : GH) : opLt (I a) (I b) h = .ok (GV.bl (decide (a < b))) h := by
  show Res.ok (GV.bl (decide ((a : Int) < b))) h = _
  simp
theorem le_nat (a b : Nat) (h : GH) : opLe (I a) (I b) h = .ok (GV.bl (decide (a ≤ b))) h := by
  show Res.ok (GV.bl (decide ((a : Int) ≤ b))) h = _
  simp
theorem gt_nat (a b : Nat) (h : GH) : opGt (I a) (I b) h = .ok (GV.bl (decide (b < a))) h := by
  show Res.ok (GV.bl (decide ((b : Int) < a))) h = _
  simp
theorem ge_nat (a b : Nat) (h : GH) : opGe (I a) (I b) h = .ok (GV.bl (decide (b ≤ a))) h := by
  show Res.ok (GV.bl (decide ((b : Int) ≤ a))) h = _
  simp
theorem add_nat (a b : Nat) (h : GH) : opAdd (I a) (I b) h = .ok (I (a + b)) h := by
  show Res.ok (GV.int ((a : Int) + b)) h = _
  simp
theorem sub_nat {a b : Nat} (q : b ≤ a) (h : GH) : opSub (I a) (I b) h = .ok (I (a - b)) h := by
  show Res.ok (GV.int ((a : Int) - b)) h = _
  rw [show ((a : Int) - b) = ((a - b : Nat) : Int) by omega]
theorem mul_nat {a b : Nat} (q : b < 1000000) (h : GH) : opMul (I a) (I b) h = .ok (I (a * b)) h := by
  unfold opMul
  simp only
  rw [if_pos (.inr ⟨by simp only [two64]; omega, by simp only [two64]; omega⟩)]
  rw [show ((a : Int) * b) = ((a * b : Nat) : Int) by simp]
theorem eq_ints (a b : Int) (h : GH) : opEq (.int a) (.int b) h = .ok (GV.bl (decide (a = b))) h := by
  simp [opEq, eqV, okN, num]
theorem ne_ints (a b : Int) (h : GH) : opNe (.int a) (.int b) h = .ok (GV.bl (!decide (a = b))) h := by
  simp [opNe, eqV, okN, num]
theorem eq_nat (a b : Nat) (h : GH) : opEq (I a) (I b) h = .ok (GV.bl (decide (a = b))) h := by
  rw [eq_ints]
  congr 2
  exact decide_eq_decide.mpr (by omega)
theorem ne_nat (a b : Nat) (h : GH) : opNe (I a) (I b) h = .ok (GV.bl (!decide (a = b))) h := by
  rw [ne_ints]
  congr 3
  exact decide_eq_decide.mpr (by omega)
theorem eq_enc {A : Type} [Enc A] [DecidableEq A] (hd : Enc.dep A ≤ 40) (a b : A) (h : GH) : opEq (enc a) (enc b) h = .ok (GV.bl (decide (a = b))) h := by
  unfold opEq eqV
  rw [if_pos ⟨Enc.ok a 40 hd, Enc.ok b 40 hd⟩]
  simp only
  congr 2
  exact decide_eq_decide.mpr (enc_num a b)
theorem ne_enc {A : Type} [Enc A] [DecidableEq A] (hd : Enc.dep A ≤ 40) (a b : A) (h : GH) : opNe (enc a) (enc b) h = .ok (GV.bl (!decide (a = b))) h := by
  unfold opNe eqV
  rw [if_pos ⟨Enc.ok a 40 hd, Enc.ok b 40 hd⟩]
  simp only
  congr 3
  exact decide_eq_decide.mpr (enc_num a b)
theorem eq_N (a b : List Nat) (h : GH) : opEq (enc a) (enc b) h = .ok (GV.bl (decide (a = b))) h := eq_enc (by decide) a b h
theorem ne_N (a b : List Nat) (h : GH) : opNe (enc a) (enc b) h = .ok (GV.bl (!decide (a = b))) h := ne_enc (by decide) a b h
theorem eq_P (a b : List (List Nat)) (h : GH) : opEq (enc a) (enc b) h = .ok (GV.bl (decide (a = b))) h := eq_enc (by decide) a b h
theorem ne_P (a b : List (List Nat)) (h : GH) : opNe (enc a) (enc b) h = .ok (GV.bl (!decide (a = b))) h := ne_enc (by decide) a b h
theorem eq_L (a b : List (List (List Nat))) (h : GH) : opEq (enc a) (enc b) h = .ok (GV.bl (decide (a = b))) h := eq_enc (by decide) a b h
theorem ne_L (a b : List (List (List Nat))) (h : GH) : opNe (enc a) (enc b) h = .ok (GV.bl (!decide (a = b))) h := ne_enc (by decide) a b h
theorem in_N (a : Nat) (l : List Nat) (h : GH) : opIn (I a) (enc l) h = some (decide (a ∈ l)) := by
  unfold opIn
  simp only [enc_list]
  rw [if_pos ⟨rfl, by simp [flatG, enc_nat]⟩]
  congr 1
  rw [List.any_map]
  induction l with
  | nil => rfl
  | cons b l ih =>
    simp only [List.any_cons, ih, Function.comp, List.mem_cons, enc_nat, num, GV.int.injEq]
    by_cases q : a = b
    · simp [q]
    · simp only [show ¬ ((b : Int) = a) by omega, decide_false, Bool.false_or, q, false_or]
      exact ih
theorem len_enc {A : Type} [Enc A] (l : List A) (h : GH) : lenOf (enc l) h = some l.length := by
  show some (l.map enc).length = _
  rw [List.length_map]
theorem seqT_enc {A : Type} [Enc A] (l : List A) (h : GH) : seqT (enc l) h = some (l.map enc) := nr rfl
theorem seqOf_enc {A : Type} [Enc A] (l : List A) (h : GH) : seqOf (enc l) h = some (l.map enc) := nr rfl
theorem seqD_enc {A : Type} [Enc A] (l : List A) (h : GH) : seqD (enc l) h = some (l.map enc) := nr rfl
theorem gdOf_enc {A : Type} [Enc A] (l : List A) (xs : List GV) : gdOf (enc l) xs = none := nr rfl
theorem truth_enc {A : Type} [Enc A] (l : List A) (h : GH) : truth (enc l) h = some (!l.isEmpty) := by
  show some (!(l.map enc).isEmpty) = _
  cases l <;> rfl
theorem isT_enc {A : Type} [Enc A] (l : List A) (t : Ty) (h : GH) : isT t (enc l) h = some (decide (t = .tuple)) := nr rfl
theorem add_enc {A : Type} [Enc A] {a b : List A} {h : GH} (q : a.length + b.length ≤ szL) : opAdd (enc a) (enc b) h = .ok (enc (a ++ b)) h := by
  unfold opAdd
  simp only [enc_list, List.length_map]
  rw [if_pos q, List.map_append]
theorem sIx_nat (n k d : Nat) : HT.sIx n d (some (k : Int)) = min k n := HT.sIx_nat n d k
theorem slc_take {A : Type} [Enc A] (l : List A) (k : Nat) (h : GH) : opSlc (enc l) none (some (k : Int)) h = .ok (enc (l.take k)) h := by
  unfold opSlc cutG
  simp only [enc_list, HT.sIx_none, sIx_nat, List.length_map, List.drop_zero, Nat.sub_zero]
  congr 2
  rw [← List.map_take]
  congr 1
  rw [List.take_eq_take_iff]
  omega
theorem slc_drop {A : Type} [Enc A] (l : List A) (k : Nat) (h : GH) : opSlc (enc l) (some (k : Int)) none h = .ok (enc (l.drop k)) h := by
  unfold opSlc cutG
  simp only [enc_list, HT.sIx_none, sIx_nat, List.length_map]
  congr 2
  rw [List.take_of_length_le (by simp), ← List.map_drop]
  congr 1
  by_cases q : k ≤ l.length
  · rw [Nat.min_eq_left q]
  · rw [Nat.min_eq_right (by omega), List.drop_eq_nil_of_le (by omega), List.drop_eq_nil_of_le (by omega)]
theorem rng_nat {n : Nat} (hn : n ≤ 1000000) : rngL ((0 : Nat) : Int) (n : Int) = some ((List.range n).map I) := by
  simp only [rngL, seqOf]
  rw [if_pos (by omega)]
  simp
theorem rng_nat2 {m n : Nat} (hm : m ≤ 1000000) (hn : n ≤ 1000000) : rngL (m : Int) (n : Int) = some ((List.range' m (n - m)).map I) := by
  simp only [rngL, seqOf]
  rw [if_pos (by omega)]
  rw [List.range'_eq_map_range, List.map_map, show ((n : Int) - (m : Int)).toNat = n - m by omega]
  simp [Function.comp_def]
theorem chk_none (h : GH) : chk none h = true := rfl
theorem chk_some {h : GH} {n : Nat} {xs : List GV} (e : h[n]? = some (.lst xs)) : chk (some (n, xs)) h = true := by
  unfold chk
  simp only [e, decide_true]
theorem enm_enc {A : Type} [Enc A] (l : List A) : enmL (l.map enc) = ((List.range l.length).zip l).map enc := by
  unfold enmL
  rw [List.length_map, List.zip_map_right, List.map_map]
  rfl
theorem enmG_enc {A : Type} [Enc A] (l : List A) (xs : List GV) : enmG (enc l) xs = none := nr rfl
theorem setTg_nm (i : Nat) (v : GV) (env : Env) : setTg (.nm i) v env = some (env.set i (some v)) := nr rfl
theorem setTg_pair {A B : Type} [Enc A] [Enc B] (i j : Nat) (q : A × B) (env : Env) : setTg (.tup [i, j]) (enc q) env = some ((env.set i (some (enc q.1))).set j (some (enc q.2))) := nr rfl

theorem rngR_nat {n : Nat} (hn : n ≤ 1000000) (h : GH) : rngR (I 0) (I n) h = .ok ((List.range n).map I, none) h := by
  show (match rngL ((0 : Nat) : Int) (n : Int) with | some xs => Res.ok (xs, (none : Gd)) h | none => .bad) = _
  rw [rng_nat hn]
theorem rngR_nat2 {m n : Nat} (hm : m ≤ 1000000) (hn : n ≤ 1000000) (h : GH) : rngR (I m) (I n) h = .ok ((List.range' m (n - m)).map I, none) h := by
  show (match rngL (m : Int) (n : Int) with | some xs => Res.ok (xs, (none : Gd)) h | none => .bad) = _
  rw [rng_nat2 hm hn]
theorem rngQ_nat {n : Nat} (hn : n ≤ 1000000) (h : GH) : rngQ (I 0) (I n) h = .ok ((List.range n).map I) h := by
  show (match rngL ((0 : Nat) : Int) (n : Int) with | some xs => Res.ok xs h | none => .bad) = _
  rw [rng_nat hn]
theorem rngV_nat {m n : Nat} (hm : m ≤ 1000000) (hn : n ≤ 1000000) (h : GH) : rngV (I m) (I n) h = .ok (.rng m n) h := by
  show (if _ then _ else _) = _
  rw [if_pos (by omega)]
theorem rngT_nat {m n : Nat} (hm : m ≤ 1000000) (hn : n ≤ 1000000) (h : GH) : rngT (I m) (I n) (.int (-1)) h = .ok (((List.range (m - n)).map fun k => I (m - k)), none) h := by
  show (match rngS (m : Int) (n : Int) (-1) with | some xs => Res.ok (xs, (none : Gd)) h | none => .bad) = _
  unfold rngS
  rw [if_pos (by omega), show ((m : Int) - (n : Int)).toNat = m - n by omega]
  simp only
  congr 2
  refine List.map_congr_left fun k hk => ?_
  have := List.mem_range.mp hk
  rw [GV.int.injEq]
  omega
theorem itS_enc {A : Type} [Enc A] (l : List A) (h : GH) : itS (enc l) h = .ok (l.map enc, none) h := nr rfl
theorem itS_ref {n : Nat} {h : GH} {xs : List GV} (e : h[n]? = some (.lst xs)) : itS (.ref n) h = .ok (xs, some (n, xs)) h := by
  unfold itS seqOf
  simp only [e]
  rfl
theorem itS_rng {n : Nat} (hn : n ≤ 1000000) (h : GH) : itS (.rng ((0 : Nat) : Int) (n : Int)) h = .ok ((List.range n).map I, none) h := by
  have e : seqOf (.rng ((0 : Nat) : Int) (n : Int)) h = some ((List.range n).map I) := rng_nat hn
  unfold itS
  rw [e]
  rfl
theorem itE_enc {A : Type} [Enc A] (l : List A) (h : GH) : itE (enc l) h = .ok (((List.range l.length).zip l).map enc, none) h := by
  show Res.ok (enmL (l.map enc), (none : Gd)) h = _
  rw [enm_enc]
theorem itE_ref {n : Nat} {h : GH} {xs : List GV} (e : h[n]? = some (.lst xs)) : itE (.ref n) h = .ok (enmL xs, some (n, xs)) h := by
  unfold itE seqT
  simp only [e]
  rfl
theorem itP_nat {n : Nat} (hn : n ≤ 4) (h : GH) : itP (I n) h = .ok (prmL n, none) h := by
  show (if _ then _ else _) = _
  rw [if_pos (by omega)]
  rfl
theorem sqT_enc {A : Type} [Enc A] (l : List A) (h : GH) : sqT (enc l) h = .ok (l.map enc) h := nr rfl
theorem sqT_ref {n : Nat} {h : GH} {xs : List GV} (e : h[n]? = some (.lst xs)) : sqT (.ref n) h = .ok xs h := by
  unfold sqT seqT
  simp only [e]
theorem sqD_enc {A : Type} [Enc A] (l : List A) (h : GH) : sqD (enc l) h = .ok (l.map enc) h := nr rfl
theorem sqD_ref {n : Nat} {h : GH} {xs : List GV} (e : h[n]? = some (.lst xs)) : sqD (.ref n) h = .ok xs h := by
  unfold sqD seqD
  simp only [e, seqT]
theorem sqD_dct {n : Nat} {h : GH} {kvs : List (GV × GV)} (e : h[n]? = some (.dct kvs)) : sqD (.ref n) h = .ok (kvs.map (·.1)) h := by
  unfold sqD seqD
  simp only [e]
theorem inV_N (a : Nat) (l : List Nat) (h : GH) : inV (I a) (enc l) h = .ok (.bl (decide (a ∈ l))) h := inV_of (in_N a l h)
theorem ninV_N (a : Nat) (l : List Nat) (h : GH) : ninV (I a) (enc l) h = .ok (.bl (!decide (a ∈ l))) h := ninV_of (in_N a l h)
theorem lenV_enc {A : Type} [Enc A] (l : List A) (h : GH) : lenV (enc l) h = .ok (I l.length) h := by
  unfold lenV
  rw [len_enc]
theorem lenV_ref {n : Nat} {h : GH} {xs : List GV} (e : h[n]? = some (.lst xs)) : lenV (.ref n) h = .ok (I xs.length) h := by
  unfold lenV lenOf
  simp only [e]
theorem isi_enc {A : Type} [Enc A] (l : List A) (h : GH) : isiV [.tuple] (enc l) h = .ok (.bl true) h := nr rfl
theorem isi_int (k : Int) (h : GH) : isiV [.int] (.int k) h = .ok (.bl true) h := nr rfl
theorem isi_intb (k : Int) (h : GH) : isiV [.bool] (.int k) h = .ok (.bl false) h := nr rfl
theorem isi_lt {A : Type} [Enc A] (l : List A) (h : GH) : isiV [.list, .tuple] (enc l) h = .ok (.bl true) h := nr rfl
theorem isi_lt_ref {n : Nat} {h : GH} {xs : List GV} (e : h[n]? = some (.lst xs)) : isiV [.list, .tuple] (.ref n) h = .ok (.bl true) h := by
  unfold isiV isTs isT
  simp only [e]
  rfl
theorem tru_enc {A : Type} [Enc A] (l : List A) (h : GH) : tru (enc l) h = .ok (!l.isEmpty) h := by
  unfold tru
  rw [truth_enc]
theorem tru_ref {n : Nat} {h : GH} {xs : List GV} (e : h[n]? = some (.lst xs)) : tru (.ref n) h = .ok (!xs.isEmpty) h := by
  unfold tru truth
  simp only [e]
theorem setR_lst {n k : Nat} {h : GH} {xs : List GV} {v : GV} {env : Env} (e : h[n]? = some (.lst xs)) (hk : k < xs.length) : setR (.ref n) (I k) v env h = .ok env (h.set n (.lst (xs.set k v))) := by
  unfold setR
  rw [set_lst e hk]
theorem setR_dct {n : Nat} {k : GV} {h : GH} {kvs : List (GV × GV)} {v : GV} {env : Env} (e : h[n]? = some (.dct kvs)) (hk : keyOk kvs k = true) (hl : kvs.length < szL) : setR (.ref n) k v env h = .ok env (h.set n (.dct (put kvs k v))) := by
  unfold setR
  rw [set_dct e hk hl]
theorem forB_pair {cl : Calls} {A B : Type} [Enc A] [Enc B] {i j : Nat} {b : Sms} {q : A × B} {e : Env} {h : GH} : forB cl (.tup [i, j]) b (enc q) e h = exSs cl b ((e.set i (some (enc q.1))).set j (some (enc q.2))) h := nr rfl
theorem tgR_pair {A B : Type} [Enc A] [Enc B] (i j : Nat) (q : A × B) (env : Env) (h : GH) : tgR (.tup [i, j]) (enc q) env h = .ok ((env.set i (some (enc q.1))).set j (some (enc q.2))) h := nr rfl
theorem szT_ok {vs : List GV} {h : GH} (q : vs.length ≤ szL) : szT vs h = .ok (.tup vs) h := if_pos q
theorem szS_ok {vs : List GV} {h : GH} (q : vs.length ≤ szL) : szS vs h = .ok vs h := if_pos q
theorem szT0 {h : GH} : szT [] h = .ok (.tup []) h := szT_ok (by simp)
theorem szT1 {a : GV} {h : GH} : szT [a] h = .ok (.tup [a]) h := szT_ok (by simp [szL])
theorem szT2 {a b : GV} {h : GH} : szT [a, b] h = .ok (.tup [a, b]) h := szT_ok (by simp [szL])
theorem szT3 {a b c : GV} {h : GH} : szT [a, b, c] h = .ok (.tup [a, b, c]) h := szT_ok (by simp [szL])
theorem szT4 {a b c d : GV} {h : GH} : szT [a, b, c, d] h = .ok (.tup [a, b, c, d]) h := szT_ok (by simp [szL])
theorem szS0 {h : GH} : szS [] h = .ok [] h := szS_ok (by simp)
theorem szS1 {a : GV} {h : GH} : szS [a] h = .ok [a] h := szS_ok (by simp [szL])
theorem szS2 {a b : GV} {h : GH} : szS [a, b] h = .ok [a, b] h := szS_ok (by simp [szL])
theorem szS3 {a b c : GV} {h : GH} : szS [a, b, c] h = .ok [a, b, c] h := szS_ok (by simp [szL])
theorem szS4 {a b c d : GV} {h : GH} : szS [a, b, c, d] h = .ok [a, b, c, d] h := szS_ok (by simp [szL])
theorem szS5 {a b c d e : GV} {h : GH} : szS [a, b, c, d, e] h = .ok [a, b, c, d, e] h := szS_ok (by simp [szL])

/-! ### comprehensions -/
theorem cmpL_flat {A : Type} {f : GV → Acc → GH → Res Acc} {gd : Gd} {h : GH} (en : A → GV) (g : A → Acc) (hc : chk gd h = true) : ∀ (xs : List A) (acc : Acc),
    (acc.length + (xs.flatMap g).length ≤ szL) → (∀ x ∈ xs, ∀ acc, acc.length + (g x).length ≤ szL → f (en x) acc h = .ok (acc ++ g x) h) → cmpL gd f (xs.map en) acc h = .ok (acc ++ xs.flatMap g) h
  | [], acc, _, _ => by
    simp only [List.map_nil, cmpL, hc, if_true, List.flatMap_nil, List.append_nil]
  | x :: xs, acc, hb, hf => by
    rw [List.flatMap_cons, List.length_append] at hb
    simp only [List.map_cons, cmpL, hc, if_true, hf x (List.mem_cons_self ..) acc (by omega), Res.bind_ok]
    rw [cmpL_flat en g hc xs (acc ++ g x) (by rw [List.length_append]; omega) fun y hy => hf y (List.mem_cons_of_mem _ hy)]
    simp [List.append_assoc]
theorem flat_one {A B : Type} (v : A → B) (xs : List A) : xs.flatMap (fun x => [v x]) = xs.map v := by
  induction xs with
  | nil => rfl
  | cons x xs ih => rw [List.flatMap_cons, ih]; rfl
theorem flat_if {A B : Type} (p : A → Bool) (v : A → B) (xs : List A) : xs.flatMap (fun x => if p x = true then [v x] else []) = (xs.filter p).map v := by
  induction xs with
  | nil => rfl
  | cons x xs ih =>
    rw [List.flatMap_cons, ih, List.filter_cons]
    cases p x <;> rfl
section
variable {cl : Calls}
/-- [e for x in ..] -/
theorem evS_map {A : Type} {ws : List Nat} {t : Tg} {it : Iy} {e : Ex} {env : Env} {h h1 : GH} {gd : Gd} (xs : List A) (en : A → GV) (v : A → GV) (hi : evI cl it env h = .ok (xs.map en, gd) h1) (hc : chk gd h1 = true) (hl : xs.length ≤ szL)
    (he : ∀ x ∈ xs, ∃ e1, setTg t (en x) (wipeE env ws) = some e1 ∧ evE cl e e1 h1 = .ok (v x) h1) : evS cl (.cmp ws (.one t it .non) e) env h = .ok (xs.map v) h1 := by
  simp only [evS, evC, hi, Res.bind_ok]
  rw [cmpL_flat en (fun x => [(v x, .non)]) hc xs [] (by rw [flat_one]; simpa using hl)]
  · rw [flat_one]
    simp [Res.quiet, Res.bind, Function.comp_def]
  · intro x hx acc hb
    obtain ⟨e1, q1, q2⟩ := he x hx
    simp only [q1, evQ, Res.bind_ok, if_true, q2]
    rw [if_pos (by simp only [List.length_cons, List.length_nil] at hb; omega)]
/-- [e for x in .. if c] -/
theorem evS_filter {A : Type} {ws : List Nat} {t : Tg} {it : Iy} {e : Ex} {c : Ex} {env : Env} {h h1 : GH} {gd : Gd} (xs : List A) (en : A → GV) (v : A → GV) (p : A → Bool) (hi : evI cl it env h = .ok (xs.map en, gd) h1) (hc : chk gd h1 = true) (hl : xs.length ≤ szL)
    (he : ∀ x ∈ xs, ∃ e1, setTg t (en x) (wipeE env ws) = some e1 ∧ evQ cl (.som c) e1 h1 = .ok (p x) h1 ∧ (p x = true → evE cl e e1 h1 = .ok (v x) h1)) : evS cl (.cmp ws (.one t it (.som c)) e) env h = .ok ((xs.filter p).map v) h1 := by
  simp only [evS, evC, hi, Res.bind_ok]
  rw [cmpL_flat en (fun x => if p x = true then [(v x, .non)] else []) hc xs []]
  · rw [flat_if]
    simp [Res.quiet, Res.bind, Function.comp_def]
  · rw [flat_if]
    have := List.length_filter_le p xs
    simp only [List.length_nil, List.length_map, Nat.zero_add]
    omega
  · intro x hx acc hb
    obtain ⟨e1, q1, q2, q3⟩ := he x hx
    simp only [q1, q2, Res.bind_ok]
    cases q : p x with
    | false => simp
    | true =>
      rw [q] at hb
      simp only [if_true, q3 q, Res.bind_ok]
      rw [if_pos (by simp only [if_true, List.length_cons, List.length_nil] at hb; omega)]
/-- [e for x in .. for y in ..] -/
theorem evS_two {A B : Type} {ws us : List Nat} {t u : Tg} {it jt : Iy} {e : Ex} {env : Env} {h h0 : GH} {gd : Gd} (xs : List A) (en : A → GV) (ys : A → List B) (em : B → GV) (v : A → B → GV) (hi : evI cl it env h0 = .ok (xs.map en, gd) h) (hc : chk gd h = true)
    (hl : (xs.flatMap ys).length ≤ szL)
    (he : ∀ x ∈ xs, ∃ e1 g2, setTg t (en x) (wipeE env ws) = some e1 ∧ evI cl jt e1 h = .ok ((ys x).map em, g2) h ∧ chk g2 h = true ∧ ∀ y ∈ ys x, ∃ e2, setTg u (em y) (wipeE e1 us) = some e2 ∧ evE cl e e2 h = .ok (v x y) h) :
    evS cl (.cmp ws (.two t it .non us u jt .non) e) env h0 = .ok (xs.flatMap fun x => (ys x).map (v x)) h := by
  have fl : ∀ x, (ys x).flatMap (fun y => [(v x y, GV.non)]) = (ys x).map fun y => (v x y, GV.non) := fun x => flat_one _ _
  have fb : (xs.flatMap fun x => (ys x).map fun y => (v x y, GV.non)).length = (xs.flatMap ys).length := by simp [List.length_flatMap]
  simp only [evS, evC, hi, Res.bind_ok]
  rw [cmpL_flat en (fun x => (ys x).map fun y => (v x y, .non)) hc xs [] (by rw [fb]; simpa using hl)]
  · simp [Res.quiet, Res.bind, Function.comp_def, List.map_flatMap]
  · intro x hx acc hb
    obtain ⟨e1, g2, h1, h2, h3, h4⟩ := he x hx
    simp only [h1, evQ, Res.bind_ok, if_true, h2]
    rw [cmpL_flat em (fun y => [(v x y, .non)]) h3 (ys x) acc (by rw [fl]; exact hb)]
    · rw [fl]
    · intro y hy acc hb
      obtain ⟨e2, h5, h6⟩ := h4 y hy
      simp only [h5, Res.bind_ok, if_true, h6]
      rw [if_pos (by simp only [List.length_cons, List.length_nil] at hb; omega)]
theorem bools_map {A : Type} (xs : List A) (p : A → Bool) : bools (xs.map fun x => GV.bl (p x)) = some (xs.map p) := by
  induction xs with
  | nil => rfl
  | cons x xs ih => rw [List.map_cons, bools, ih]; rfl
theorem any_of {A : Type} {s : Sq} {env : Env} {h : GH} {xs : List A} {p : A → Bool} (e : evS cl s env h = .ok (xs.map fun x => .bl (p x)) h) : evE cl (.any s) env h = .ok (.bl (xs.any p)) h := by
  simp only [evE, e, Res.bind_ok, bools_map]
  simp [List.any_map, Function.comp_def]
theorem all_of {A : Type} {s : Sq} {env : Env} {h : GH} {xs : List A} {p : A → Bool} (e : evS cl s env h = .ok (xs.map fun x => .bl (p x)) h) : evE cl (.all s) env h = .ok (.bl (xs.all p)) h := by
  simp only [evE, e, Res.bind_ok, bools_map]
  simp [List.all_map, Function.comp_def]
end

theorem cmpL_to {A : Type} {f : GV → Acc → GH → Res Acc} {gd : Gd} (en : A → GV) (J : List A → Acc → GH → Prop) (hc : ∀ r acc h, J r acc h → chk gd h = true) (hs : ∀ x r acc h, J (x :: r) acc h → To (f (en x) acc h) (J r)) :
    ∀ xs acc h, J xs acc h → To (cmpL gd f (xs.map en) acc h) (J [])
  | [], acc, h, j => by
    simp only [List.map_nil, cmpL, hc _ _ _ j, if_true]
    exact To.ok j
  | x :: r, acc, h, j => by
    simp only [List.map_cons, cmpL, hc _ _ _ j, if_true]
    exact (hs x r acc h j).bind fun a h1 q => cmpL_to en J hc hs r a h1 q
theorem To.quiet {A : Type} {r : Res A} {Q : A → GH → Prop} (t : To r Q) : To r.quiet Q := by
  obtain ⟨a, h, rfl, q⟩ := t
  exact ⟨a, h, rfl, q⟩
/-- [e for x in ..] where e changes what stands -/
theorem evS_to {cl : Calls} {A : Type} {ws : List Nat} {t : Tg} {it : Iy} {e : Ex} {env : Env} {h h1 : GH} {gd : Gd} {Q : List GV → GH → Prop} (xs : List A) (en : A → GV) (J : List A → List GV → GH → Prop) (hi : evI cl it env h = .ok (xs.map en, gd) h1) (hc : ∀ r acc h, J r acc h → chk gd h = true) (hl : xs.length ≤ szL)
    (hs : ∀ x r acc h, J (x :: r) acc h → ∃ e1, setTg t (en x) (wipeE env ws) = some e1 ∧ To (evE cl e e1 h) fun v h2 => J r (acc ++ [v]) h2) (h0 : J xs [] h1) (fin : ∀ acc h, J [] acc h → Q acc h) : To (evS cl (.cmp ws (.one t it .non) e) env h) Q := by
  simp only [evS, evC, hi, Res.bind_ok]
  refine (To.quiet (cmpL_to en (fun r (acc : Acc) h => acc.length + r.length = xs.length ∧ ∃ vs, acc = vs.map (fun v => (v, GV.non)) ∧ J r vs h) (fun r acc h ⟨_, vs, _, j⟩ => hc r vs h j) ?_ xs [] h1 ⟨by simp, [], rfl, h0⟩)).bind ?_
  · rintro x r acc h ⟨hn, vs, rfl, j⟩
    obtain ⟨e1, q1, q2⟩ := hs x r vs h j
    simp only [q1, evQ, Res.bind_ok, if_true]
    refine q2.bind fun v h2 j2 => ?_
    rw [List.length_cons] at hn
    rw [if_pos (by omega)]
    refine To.ok ⟨?_, vs ++ [v], by simp, j2⟩
    rw [List.length_append, List.length_singleton]
    omega
  · rintro acc h ⟨-, vs, rfl, j⟩
    refine To.ok ?_
    simp only [List.map_map, Function.comp_def, List.map_id']
    exact fin vs h j

theorem evS_at {cl : Calls} {A : Type} {ws : List Nat} {t : Tg} {it : Iy} {e : Ex} {env : Env} {h h1 : GH} {gd : Gd} {Q : List GV → GH → Prop} (xs : List A) (en : A → GV) (J : Nat → List GV → GH → Prop) (hi : evI cl it env h = .ok (xs.map en, gd) h1) (hc : ∀ k acc h, J k acc h → chk gd h = true) (hl : xs.length ≤ szL)
    (hs : ∀ k (hk : k < xs.length) acc h, J k acc h → ∃ e1, setTg t (en xs[k]) (wipeE env ws) = some e1 ∧ To (evE cl e e1 h) fun v h2 => J (k + 1) (acc ++ [v]) h2) (h0 : J 0 [] h1) (fin : ∀ acc h, J xs.length acc h → Q acc h) : To (evS cl (.cmp ws (.one t it .non) e) env h) Q := by
  refine evS_to xs en (fun r acc h => ∃ k, k ≤ xs.length ∧ r = xs.drop k ∧ J k acc h) hi (fun r acc h ⟨k, _, _, j⟩ => hc k acc h j) hl ?_ ⟨0, Nat.zero_le _, rfl, h0⟩ ?_
  · rintro x r acc h ⟨k, hk, er, j⟩
    have hk2 : k < xs.length := by
      by_cases q : k < xs.length
      · exact q
      · rw [List.drop_eq_nil_of_le (by omega)] at er; cases er
    rw [List.drop_eq_getElem_cons hk2] at er
    obtain ⟨rfl, rfl⟩ := List.cons.inj er
    obtain ⟨e1, q1, q2⟩ := hs k hk2 acc h j
    exact ⟨e1, q1, q2.mono fun v h2 j2 => ⟨k + 1, hk2, rfl, j2⟩⟩
  · rintro acc h ⟨k, hk, er, j⟩
    have : k = xs.length := by
      have := congrArg List.length er
      rw [List.length_drop, List.length_nil] at this
      omega
    subst this
    exact fin acc h j

/-! ### loops -/
/-- how a turn of a loop may end -/
def Lp {A : Type} (J : List A → Env → GH → Prop) (Q : Fl × Env → GH → Prop) (r : List A) : Fl × Env → GH → Prop := fun p h1 => match p.1 with
  | .nxt => J r p.2 h1
  | .cnt => J r p.2 h1
  | .brk => Q (.nxt, p.2) h1
  | .ret v => Q (.ret v, p.2) h1
/-- what holds ahead of each turn, by what is left -/
theorem forL_to {A : Type} {gd : Gd} {body : GV → Env → GH → RS} {Q : Fl × Env → GH → Prop} (en : A → GV) (J : List A → Env → GH → Prop) (hc : ∀ r e h, J r e h → chk gd h = true)
    (hs : ∀ x r e h, J (x :: r) e h → To (body (en x) e h) (Lp J Q r))
    (he : ∀ e h, J [] e h → Q (.nxt, e) h) : ∀ xs e h, J xs e h → To (forL gd body (xs.map en) e h) Q
  | [], e, h, j => by
    simp only [List.map_nil, forL, hc _ _ _ j, if_true]
    exact To.ok (he e h j)
  | x :: r, e, h, j => by
    simp only [List.map_cons, forL, hc _ _ _ j, if_true]
    refine (hs x r e h j).bind fun p h1 q => ?_
    obtain ⟨f, e1⟩ := p
    cases f with
    | nxt => exact forL_to en J hc hs he r e1 h1 q
    | cnt => exact forL_to en J hc hs he r e1 h1 q
    | brk => exact To.ok q
    | ret v => exact To.ok q
/-- .. by how many are done -/
def Ln (J : Nat → Env → GH → Prop) (Q : Fl × Env → GH → Prop) (k : Nat) : Fl × Env → GH → Prop := fun p h1 => match p.1 with
  | .nxt => J k p.2 h1
  | .cnt => J k p.2 h1
  | .brk => Q (.nxt, p.2) h1
  | .ret v => Q (.ret v, p.2) h1
theorem forL_at {A : Type} {gd : Gd} {body : GV → Env → GH → RS} {Q : Fl × Env → GH → Prop} (en : A → GV) (J : Nat → Env → GH → Prop) (xs : List A) (hc : ∀ k e h, J k e h → chk gd h = true)
    (hs : ∀ k (hk : k < xs.length) e h, J k e h → To (body (en xs[k]) e h) (Ln J Q (k + 1))) (he : ∀ e h, J xs.length e h → Q (.nxt, e) h) {e : Env} {h : GH} (h0 : J 0 e h) : To (forL gd body (xs.map en) e h) Q := by
  refine forL_to (gd := gd) en (fun r e h => ∃ k, k ≤ xs.length ∧ r = xs.drop k ∧ J k e h) (fun r e h ⟨k, _, _, j⟩ => hc k e h j) ?_ ?_ xs e h ⟨0, Nat.zero_le _, rfl, h0⟩
  · rintro x r e h ⟨k, hk, er, j⟩
    have hk2 : k < xs.length := by
      by_cases q : k < xs.length
      · exact q
      · rw [List.drop_eq_nil_of_le (by omega)] at er; cases er
    rw [List.drop_eq_getElem_cons hk2] at er
    obtain ⟨rfl, rfl⟩ := List.cons.inj er
    refine (hs k hk2 e h j).mono fun p h1 q => ?_
    obtain ⟨f, e1⟩ := p
    cases f with
    | nxt => exact ⟨k + 1, hk2, rfl, q⟩
    | cnt => exact ⟨k + 1, hk2, rfl, q⟩
    | brk => exact q
    | ret v => exact q
  · rintro e h ⟨k, hk, er, j⟩
    have : k = xs.length := by
      have := congrArg List.length er
      rw [List.length_drop, List.length_nil] at this
      omega
    subst this
    exact he e h j
theorem forL_range {body : GV → Env → GH → RS} {Q : Fl × Env → GH → Prop} (J : Nat → Env → GH → Prop) (N : Nat)
    (hs : ∀ k, k < N → ∀ e h, J k e h → To (body (I k) e h) (Ln J Q (k + 1))) (he : ∀ e h, J N e h → Q (.nxt, e) h) {e : Env} {h : GH} (h0 : J 0 e h) : To (forL none body ((List.range N).map I) e h) Q :=
  forL_at I J (List.range N) (fun _ _ _ _ => rfl) (fun k hk e h j => by
    rw [List.getElem_range]
    exact hs k (by simpa using hk) e h j) (fun e h j => he e h (by simpa using j)) h0
theorem forL_range' {body : GV → Env → GH → RS} {Q : Fl × Env → GH → Prop} (J : Nat → Env → GH → Prop) (M N : Nat) (hMN : M ≤ N)
    (hs : ∀ k, M ≤ k → k < N → ∀ e h, J k e h → To (body (I k) e h) (Ln J Q (k + 1))) (he : ∀ e h, J N e h → Q (.nxt, e) h) {e : Env} {h : GH} (h0 : J M e h) : To (forL none body ((List.range' M (N - M)).map I) e h) Q :=
  forL_at I (fun k => J (M + k)) (List.range' M (N - M)) (fun _ _ _ _ => rfl) (fun k hk e h j => by
    rw [List.getElem_range', Nat.one_mul]
    have hk2 : k < N - M := by simpa using hk
    refine (hs (M + k) (by omega) (by omega) e h j).mono fun p h1 q => ?_
    obtain ⟨f, e1⟩ := p
    cases f <;> exact q) (fun e h j => he e h (by
      rw [List.length_range', show M + (N - M) = N by omega] at j
      exact j)) h0
/-- a look at each: back with v at the first that is not so -/
theorem forL_all {A : Type} {body : GV → Env → GH → RS} {gd : Gd} {h : GH} {v : GV} (hc : chk gd h = true) (en : A → GV) (E : Env → Prop) (p : A → Bool) : ∀ (xs : List A)
    (_ : ∀ x ∈ xs, ∀ e, E e → To (body (en x) e h) fun q h1 => h1 = h ∧ if p x = true then (q.1 = .nxt ∨ q.1 = .cnt) ∧ E q.2 else q.1 = .ret v) (e : Env), E e →
    To (forL gd body (xs.map en) e h) fun q h1 => h1 = h ∧ if xs.all p = true then q.1 = .nxt ∧ E q.2 else q.1 = .ret v
  | [], _, e, he => by
    simp only [List.map_nil, forL, hc, if_true]
    exact To.ok ⟨rfl, rfl, he⟩
  | x :: xs, hb, e, he => by
    simp only [List.map_cons, forL, hc, if_true]
    refine (hb x (List.mem_cons_self ..) e he).bind fun q h1 ⟨e1, z⟩ => ?_
    subst e1
    obtain ⟨f, e1⟩ := q
    rw [List.all_cons]
    cases px : p x with
    | true =>
      rw [px] at z
      simp only [if_true, Bool.true_and] at z ⊢
      rcases z with ⟨z1 | z1, z2⟩ <;> (cases z1; exact forL_all hc en E p xs (fun y hy => hb y (List.mem_cons_of_mem _ hy)) e1 z2)
    | false =>
      rw [px] at z
      simp only [Bool.false_and] at z ⊢
      have z : f = .ret v := z
      subst z
      exact To.ok ⟨rfl, rfl⟩
/-- .. and what is behind the loop -/
theorem forL_check {A : Type} {body : GV → Env → GH → RS} {gd : Gd} {h : GH} {Q : Fl × Env → GH → Prop} (en : A → GV) (E : Env → Prop) (p : A → Bool) (v : GV) {xs : List A} {e : Env} (he : E e)
    (hb : ∀ x ∈ xs, ∀ e, E e → To (body (en x) e h) fun q h1 => h1 = h ∧ if p x = true then (q.1 = .nxt ∨ q.1 = .cnt) ∧ E q.2 else q.1 = .ret v)
    (ht : xs.all p = true → ∀ e', E e' → Q (.nxt, e') h) (hf : xs.all p = false → ∀ e', Q (.ret v, e') h) (hc : chk gd h = true := by rfl) : To (forL gd body (xs.map en) e h) Q := by
  refine (forL_all hc en E p xs hb e he).mono fun q h1 ⟨e1, z⟩ => ?_
  subst e1
  obtain ⟨f, e1⟩ := q
  cases k : xs.all p with
  | true =>
    rw [k] at z
    obtain ⟨z1, z2⟩ := (if_pos rfl : (if true = true then _ else _) = _).mp z
    have z1 : f = .nxt := z1
    subst z1
    exact ht k e1 z2
  | false =>
    rw [k] at z
    have z : f = .ret v := z
    subst z
    exact hf k e1
theorem whlL_to {c : Env → GH → Res Bool} {body : Env → GH → RS} {Q : Fl × Env → GH → Prop} (J : Nat → Env → GH → Prop)
    (hs : ∀ n e h, J n e h → To (c e h) fun k h1 => if k = true then 0 < n ∧ To (body e h1) fun p h2 => match p.1 with
        | .nxt => ∃ m, m < n ∧ J m p.2 h2
        | .cnt => ∃ m, m < n ∧ J m p.2 h2
        | .brk => Q (.nxt, p.2) h2
        | .ret v => Q (.ret v, p.2) h2
      else Q (.nxt, e) h1) : ∀ (N n : Nat) e h, n < N → J n e h → To (whlL c body N e h) Q
  | 0, n, e, h, hn, _ => by omega
  | N + 1, n, e, h, hn, j => by
    simp only [whlL]
    refine (hs n e h j).bind fun k h1 q => ?_
    cases k with
    | false => exact To.ok q
    | true =>
      simp only [if_true] at q ⊢
      refine q.2.bind fun p h2 z => ?_
      obtain ⟨f, e1⟩ := p
      cases f with
      | nxt => obtain ⟨m, hm, jm⟩ := z; exact whlL_to J hs N m e1 h2 (by omega) jm
      | cnt => obtain ⟨m, hm, jm⟩ := z; exact whlL_to J hs N m e1 h2 (by omega) jm
      | brk => exact To.ok z
      | ret v => exact To.ok z
end Pv
end Pp_Base
section Pp_C1
set_option Elab.async false
set_option linter.all false
set_option maxRecDepth 10000
namespace Pv
open PySem (Str)
open GV
open Enc (enc)
local macro_rules
  | `(tactic| simp! [$ls,*]) => `(tactic| try simp only [eE_var, eE_cst, eE_tup, eE_lst, eE_tpl, eE_op, eE_neg, eE_isn, eE_ntn, eE_and, eE_or, eE_not, eE_ite, eE_slc, eE_fld, eE_call, eE_perm, eE_mk, eE_len, eE_int, eE_str, eE_b2, eE_all, eE_any, eE_isi, eE_rng, eE_m1, eE_dic, eA_nil, eA_cons, eO_non, eO_som, eQ_non, eQ_som, eS_val, eS_lsv, eS_rgl, eS_dsp, eS_lis, eS_srt, eI_val, eI_sq, eI_enm, eI_rng, eI_rngS, eI_prm, xS_pass, xS_brk, xS_cnt, xS_ret, xS_exp, xS_nm, xS_tg, xS_fld, xS_sub, xS_iff, xS_for, forB_nm, forB_pair, enc_nat, getV_ok, tru_bl, tru_non, idxI_nat, intV_int, intV_bl, szT0, szT1, szT2, szT3, szT4, szS0, szS1, szS2, szS3, szS4, szS5, setTg_nm, oE_add, oE_sub, oE_mul, oE_fdiv, oE_mod, oE_pow, oE_eq, oE_ne, oE_lt, oE_le, oE_gt, oE_ge, oE_idx, oE_inn, oE_nin, Res.bind_ok, Res.bind_exc, ite_tt, ite_ff, if_true, if_false, List.map_cons, List.map_nil, List.length_cons, List.length_nil, Nat.zero_add, Nat.reduceAdd, Nat.reduceSub, List.replicate_succ, List.replicate_zero, List.cons_append, List.nil_append, List.getElem?_cons_zero, List.getElem?_cons_succ, List.set_cons_zero, List.set_cons_succ, retV, To_ok, To_bind, Kn_nxt, Kn_ret, Kn_brk, Kn_cnt, $ls,*])
local macro_rules
  | `(tactic| dsimp! [$ls,*]) => `(tactic| simp only [eE_var, eE_cst, eE_tup, eE_lst, eE_tpl, eE_op, eE_neg, eE_isn, eE_ntn, eE_and, eE_or, eE_not, eE_ite, eE_slc, eE_fld, eE_call, eE_perm, eE_mk, eE_len, eE_int, eE_str, eE_b2, eE_all, eE_any, eE_isi, eE_rng, eE_m1, eE_dic, eA_nil, eA_cons, eO_non, eO_som, eQ_non, eQ_som, eS_val, eS_lsv, eS_rgl, eS_dsp, eS_lis, eS_srt, eI_val, eI_sq, eI_enm, eI_rng, eI_rngS, eI_prm, xS_pass, xS_brk, xS_cnt, xS_ret, xS_exp, xS_nm, xS_tg, xS_fld, xS_sub, xS_iff, xS_for, forB_nm, forB_pair, enc_nat, getV_ok, tru_bl, tru_non, idxI_nat, intV_int, intV_bl, szT0, szT1, szT2, szT3, szT4, szS0, szS1, szS2, szS3, szS4, szS5, setTg_nm, oE_add, oE_sub, oE_mul, oE_fdiv, oE_mod, oE_pow, oE_eq, oE_ne, oE_lt, oE_le, oE_gt, oE_ge, oE_idx, oE_inn, oE_nin, Res.bind_ok, Res.bind_exc, ite_tt, ite_ff, if_true, if_false, List.map_cons, List.map_nil, List.length_cons, List.length_nil, Nat.zero_add, Nat.reduceAdd, Nat.reduceSub, List.replicate_succ, List.replicate_zero, List.cons_append, List.nil_append, List.getElem?_cons_zero, List.getElem?_cons_succ, List.set_cons_zero, List.set_cons_succ, $ls,*])
local macro_rules
  | `(tactic| simp_all! [$ls,*]) => `(tactic| simp only [List.map_cons, List.map_nil, List.length_cons, List.length_nil, Nat.zero_add, Nat.reduceAdd, Nat.reduceSub, List.replicate_succ, List.replicate_zero, List.cons_append, List.nil_append, List.getElem?_cons_zero, List.getElem?_cons_succ, List.set_cons_zero, List.set_cons_succ, $ls,*])
/-! ### pictures, rows -/
/-- row j has j ties below r -/
def WfP (r : Nat) (p : List (List Nat)) : Prop := ∀ j, j < p.length → (p.getD j []).length = j ∧ ∀ t ∈ p.getD j [], t < r
theorem WfP.len {r : Nat} {p : List (List Nat)} (w : WfP r p) {j : Nat} (hj : j < p.length) : (p.getD j []).length = j := (w j hj).1
theorem WfP.lt {r : Nat} {p : List (List Nat)} (w : WfP r p) {j i : Nat} (hj : j < p.length) (hi : i < j) : (p.getD j []).getD i 0 < r := by
  have l := w.len hj
  refine (w j hj).2 _ ?_
  generalize p.getD j [] = row at l ⊢
  rw [List.getD_eq_getElem?_getD, List.getElem?_eq_getElem (by omega), Option.getD_some]
  exact List.getElem_mem _
theorem is_number_nat {G : Prg} (D : D_is_number G) (d k : Nat) (h : GH) : callF G (d + 1) n_is_number [I k] h = .ok (.bl true) h := by
  refine call_pure D.f rfl rfl rfl ?_
  dsimp! [exSs, retV, F_is_number, lt_nat, le_nat, gt_nat, ge_nat, add_nat, sub_nat, eq_nat, ne_nat, eq_N, ne_N, eq_P, ne_P, eq_L, ne_L, inV_N, ninV_N, lenV_enc, sqT_enc, sqD_enc, itS_enc, itE_enc, isi_enc, isi_int, isi_intb, isi_lt, tru_enc, slc_take, slc_drop, chk_none, setTg_pair, tgR_pair, idx_N, idx_P, Bool.not_false, To_ok]
  simp [Pre.refl]
theorem is_below_nat {G : Prg} (D : D_is_below G) (d k r : Nat) (h : GH) : callF G (d + 2) n_is_below [I k, I r] h = .ok (.bl (decide (k < r))) h := by
  refine call_pure D.f rfl rfl rfl ?_
  dsimp! [exSs, retV, F_is_below, is_number_nat D.is_number, lt_nat, le_nat, gt_nat, ge_nat, add_nat, sub_nat, eq_nat, ne_nat, eq_N, ne_N, eq_P, ne_P, eq_L, ne_L, inV_N, ninV_N, lenV_enc, sqT_enc, sqD_enc, itS_enc, itE_enc, isi_enc, isi_int, isi_intb, isi_lt, tru_enc, slc_take, slc_drop, chk_none, setTg_pair, tgR_pair, idx_N, idx_P, To_ok]
  exact ⟨trivial, .refl h⟩
theorem is_row_nat {G : Prg} (D : D_is_row G) (d : Nat) (l : List Nat) (n r : Nat) (h : GH) : callF G (d + 3) n_is_row [enc l, I n, I r] h = .ok (.bl (decide (l.length = n) && l.all fun t => decide (t < r))) h := by
  refine call_pure D.f rfl rfl rfl ?_
  dsimp! [exSs, retV, F_is_row, lt_nat, le_nat, gt_nat, ge_nat, add_nat, sub_nat, eq_nat, ne_nat, eq_N, ne_N, eq_P, ne_P, eq_L, ne_L, inV_N, ninV_N, lenV_enc, sqT_enc, sqD_enc, itS_enc, itE_enc, isi_enc, isi_int, isi_intb, isi_lt, tru_enc, slc_take, slc_drop, chk_none, setTg_pair, tgR_pair, idx_N, idx_P]
  by_cases q : l.length = n
  · simp [q, exSs, eE_var, eE_cst, eE_tup, eE_lst, eE_tpl, eE_op, eE_neg, eE_isn, eE_ntn, eE_and, eE_or, eE_not, eE_ite, eE_slc, eE_fld, eE_call, eE_perm, eE_mk, eE_len, eE_int, eE_str, eE_b2, eE_all, eE_any, eE_isi, eE_rng, eE_m1, eE_dic, eA_nil, eA_cons, eO_non, eO_som, eQ_non, eQ_som, eS_val, eS_lsv, eS_rgl, eS_dsp, eS_lis, eS_srt, eI_val, eI_sq, eI_enm, eI_rng, eI_rngS, eI_prm, xS_pass, xS_brk, xS_cnt, xS_ret, xS_exp, xS_nm, xS_tg, xS_fld, xS_sub, xS_iff, xS_for, forB_nm, forB_pair, enc_nat, getV_ok, tru_bl, tru_non, idxI_nat, intV_int, intV_bl, szT0, szT1, szT2, szT3, szT4, szS0, szS1, szS2, szS3, szS4, szS5, setTg_nm, oE_add, oE_sub, oE_mul, oE_fdiv, oE_mod, oE_pow, oE_eq, oE_ne, oE_lt, oE_le, oE_gt, oE_ge, oE_idx, oE_inn, oE_nin, Res.bind_ok, Res.bind_exc, ite_tt, ite_ff, if_true, if_false, List.map_cons, List.map_nil, List.length_cons, List.length_nil, Nat.zero_add, Nat.reduceAdd, Nat.reduceSub, List.replicate_succ, List.replicate_zero, List.cons_append, List.nil_append, List.getElem?_cons_zero, List.getElem?_cons_succ, List.set_cons_zero, List.set_cons_succ, retV, lt_nat, le_nat, gt_nat, ge_nat, add_nat, sub_nat, eq_nat, ne_nat, eq_N, ne_N, eq_P, ne_P, eq_L, ne_L, inV_N, ninV_N, lenV_enc, sqT_enc, sqD_enc, itS_enc, itE_enc, isi_enc, isi_int, isi_intb, isi_lt, tru_enc, slc_take, slc_drop, chk_none, setTg_pair, tgR_pair, idx_N, idx_P, To_bind]
    refine forL_check enc (fun e => ∃ x, e = [some (enc l), some (I n), some (I r), x]) (fun t => decide (t < r)) (.bl false) ⟨_, rfl⟩ ?_ ?_ ?_
    · rintro t ht e ⟨x, rfl⟩
      dsimp! [exSs, retV, enc_nat, is_below_nat D.is_below]
      by_cases k : t < r <;> simp [k, exSs, eE_var, eE_cst, eE_tup, eE_lst, eE_tpl, eE_op, eE_neg, eE_isn, eE_ntn, eE_and, eE_or, eE_not, eE_ite, eE_slc, eE_fld, eE_call, eE_perm, eE_mk, eE_len, eE_int, eE_str, eE_b2, eE_all, eE_any, eE_isi, eE_rng, eE_m1, eE_dic, eA_nil, eA_cons, eO_non, eO_som, eQ_non, eQ_som, eS_val, eS_lsv, eS_rgl, eS_dsp, eS_lis, eS_srt, eI_val, eI_sq, eI_enm, eI_rng, eI_rngS, eI_prm, xS_pass, xS_brk, xS_cnt, xS_ret, xS_exp, xS_nm, xS_tg, xS_fld, xS_sub, xS_iff, xS_for, forB_nm, forB_pair, enc_nat, getV_ok, tru_bl, tru_non, idxI_nat, intV_int, intV_bl, szT0, szT1, szT2, szT3, szT4, szS0, szS1, szS2, szS3, szS4, szS5, setTg_nm, oE_add, oE_sub, oE_mul, oE_fdiv, oE_mod, oE_pow, oE_eq, oE_ne, oE_lt, oE_le, oE_gt, oE_ge, oE_idx, oE_inn, oE_nin, Res.bind_ok, Res.bind_exc, ite_tt, ite_ff, if_true, if_false, List.map_cons, List.map_nil, List.length_cons, List.length_nil, Nat.zero_add, Nat.reduceAdd, Nat.reduceSub, List.replicate_succ, List.replicate_zero, List.cons_append, List.nil_append, List.getElem?_cons_zero, List.getElem?_cons_succ, List.set_cons_zero, List.set_cons_succ, retV, To_ok]
    · rintro k e ⟨x, rfl⟩
      simp [k, To_ok, Pre.refl]
    · rintro k e
      simp [k, To_ok, Pre.refl]
  · simp [q, exSs, eE_var, eE_cst, eE_tup, eE_lst, eE_tpl, eE_op, eE_neg, eE_isn, eE_ntn, eE_and, eE_or, eE_not, eE_ite, eE_slc, eE_fld, eE_call, eE_perm, eE_mk, eE_len, eE_int, eE_str, eE_b2, eE_all, eE_any, eE_isi, eE_rng, eE_m1, eE_dic, eA_nil, eA_cons, eO_non, eO_som, eQ_non, eQ_som, eS_val, eS_lsv, eS_rgl, eS_dsp, eS_lis, eS_srt, eI_val, eI_sq, eI_enm, eI_rng, eI_rngS, eI_prm, xS_pass, xS_brk, xS_cnt, xS_ret, xS_exp, xS_nm, xS_tg, xS_fld, xS_sub, xS_iff, xS_for, forB_nm, forB_pair, enc_nat, getV_ok, tru_bl, tru_non, idxI_nat, intV_int, intV_bl, szT0, szT1, szT2, szT3, szT4, szS0, szS1, szS2, szS3, szS4, szS5, setTg_nm, oE_add, oE_sub, oE_mul, oE_fdiv, oE_mod, oE_pow, oE_eq, oE_ne, oE_lt, oE_le, oE_gt, oE_ge, oE_idx, oE_inn, oE_nin, Res.bind_ok, Res.bind_exc, ite_tt, ite_ff, if_true, if_false, List.map_cons, List.map_nil, List.length_cons, List.length_nil, Nat.zero_add, Nat.reduceAdd, Nat.reduceSub, List.replicate_succ, List.replicate_zero, List.cons_append, List.nil_append, List.getElem?_cons_zero, List.getElem?_cons_succ, List.set_cons_zero, List.set_cons_succ, retV, lt_nat, le_nat, gt_nat, ge_nat, add_nat, sub_nat, eq_nat, ne_nat, eq_N, ne_N, eq_P, ne_P, eq_L, ne_L, inV_N, ninV_N, lenV_enc, sqT_enc, sqD_enc, itS_enc, itE_enc, isi_enc, isi_int, isi_intb, isi_lt, tru_enc, slc_take, slc_drop, chk_none, setTg_pair, tgR_pair, idx_N, idx_P, To_ok, Pre.refl]
/-- as the program looks -/
def shapeB (r : Nat) (p : List (List Nat)) : Bool := ((List.range p.length).zip p).all fun q => decide (q.2.length = q.1) && q.2.all fun t => decide (t < r)
theorem is_shape_pic {G : Prg} (D : D_is_shape G) (d : Nat) (p : List (List Nat)) (r : Nat) (h : GH) : callF G (d + 4) n_is_shape [enc p, I r] h = .ok (.bl (shapeB r p)) h := by
  refine call_pure D.f rfl rfl rfl ?_
  dsimp! [exSs, retV, F_is_shape, lt_nat, le_nat, gt_nat, ge_nat, add_nat, sub_nat, eq_nat, ne_nat, eq_N, ne_N, eq_P, ne_P, eq_L, ne_L, inV_N, ninV_N, lenV_enc, sqT_enc, sqD_enc, itS_enc, itE_enc, isi_enc, isi_int, isi_intb, isi_lt, tru_enc, slc_take, slc_drop, chk_none, setTg_pair, tgR_pair, idx_N, idx_P, Bool.not_true, decide_true, To_bind]
  refine forL_check enc (fun e => ∃ x y, e = [some (enc p), some (I r), x, y]) (fun q => decide (q.2.length = q.1) && q.2.all fun t => decide (t < r)) (.bl false) ⟨_, _, rfl⟩ ?_ ?_ ?_
  · rintro t ht e ⟨x, y, rfl⟩
    dsimp! [exSs, retV, lt_nat, le_nat, gt_nat, ge_nat, add_nat, sub_nat, eq_nat, ne_nat, eq_N, ne_N, eq_P, ne_P, eq_L, ne_L, inV_N, ninV_N, lenV_enc, sqT_enc, sqD_enc, itS_enc, itE_enc, isi_enc, isi_int, isi_intb, isi_lt, tru_enc, slc_take, slc_drop, chk_none, setTg_pair, tgR_pair, idx_N, idx_P, enc_nat, is_row_nat D.is_row]
    cases decide (t.2.length = t.1) && t.2.all fun t => decide (t < r) <;> simp [exSs, eE_var, eE_cst, eE_tup, eE_lst, eE_tpl, eE_op, eE_neg, eE_isn, eE_ntn, eE_and, eE_or, eE_not, eE_ite, eE_slc, eE_fld, eE_call, eE_perm, eE_mk, eE_len, eE_int, eE_str, eE_b2, eE_all, eE_any, eE_isi, eE_rng, eE_m1, eE_dic, eA_nil, eA_cons, eO_non, eO_som, eQ_non, eQ_som, eS_val, eS_lsv, eS_rgl, eS_dsp, eS_lis, eS_srt, eI_val, eI_sq, eI_enm, eI_rng, eI_rngS, eI_prm, xS_pass, xS_brk, xS_cnt, xS_ret, xS_exp, xS_nm, xS_tg, xS_fld, xS_sub, xS_iff, xS_for, forB_nm, forB_pair, enc_nat, getV_ok, tru_bl, tru_non, idxI_nat, intV_int, intV_bl, szT0, szT1, szT2, szT3, szT4, szS0, szS1, szS2, szS3, szS4, szS5, setTg_nm, oE_add, oE_sub, oE_mul, oE_fdiv, oE_mod, oE_pow, oE_eq, oE_ne, oE_lt, oE_le, oE_gt, oE_ge, oE_idx, oE_inn, oE_nin, Res.bind_ok, Res.bind_exc, ite_tt, ite_ff, if_true, if_false, List.map_cons, List.map_nil, List.length_cons, List.length_nil, Nat.zero_add, Nat.reduceAdd, Nat.reduceSub, List.replicate_succ, List.replicate_zero, List.cons_append, List.nil_append, List.getElem?_cons_zero, List.getElem?_cons_succ, List.set_cons_zero, List.set_cons_succ, retV, To_ok]
  · rintro k e ⟨x, y, rfl⟩
    dsimp! [exSs, retV, To_ok]
    exact ⟨congrArg _ (congrArg _ k.symm), .refl h⟩
  · rintro k e
    dsimp! [exSs, retV, To_ok]
    exact ⟨congrArg _ (congrArg _ k.symm), .refl h⟩
theorem shape_iff {r : Nat} {p : List (List Nat)} : shapeB r p = true ↔ WfP r p := by
  unfold shapeB WfP
  rw [List.all_eq_true]
  constructor
  · intro h j hj
    have := h (j, p.getD j []) (by
      rw [List.mem_iff_getElem]
      exact ⟨j, by simp [hj], by simp [hj]⟩)
    simpa using this
  · intro h q hq
    obtain ⟨j, hj, rfl⟩ := List.mem_iff_getElem.mp hq
    have hj2 : j < p.length := by simpa using hj
    have := h j hj2
    simp only [List.getElem_zip, List.getElem_range, Bool.and_eq_true, decide_eq_true_eq, List.all_eq_true]
    simpa [hj2] using this

/-! ### cuts -/
def tieIn (turn : List Nat) (p : List (List Nat)) (a b : Nat) : Nat := if a < b then (p.getD b []).getD a 0 else turn.getD ((p.getD a []).getD b 0) 0
theorem tie_in_sp {G : Prg} (D : D_tie_in G) (d : Nat) {r : Nat} {turn : List Nat} {p : List (List Nat)} (w : WfP r p) (ht : turn.length = r) {a b : Nat} (ha : a < p.length) (hb : b < p.length) (ab : a ≠ b) (h : GH) :
    callF G (d + 1) n_tie_in [enc turn, enc p, I a, I b] h = .ok (I (tieIn turn p a b)) h := by
  refine call_pure D.f rfl rfl rfl ?_
  dsimp! [exSs, retV, F_tie_in, lt_nat, le_nat, gt_nat, ge_nat, add_nat, sub_nat, eq_nat, ne_nat, eq_N, ne_N, eq_P, ne_P, eq_L, ne_L, inV_N, ninV_N, lenV_enc, sqT_enc, sqD_enc, itS_enc, itE_enc, isi_enc, isi_int, isi_intb, isi_lt, tru_enc, slc_take, slc_drop, chk_none, setTg_pair, tgR_pair, idx_N, idx_P]
  by_cases q : a < b
  · dsimp! [exSs, retV, q, decide_true, idx_P hb, idx_N (show a < (p.getD b []).length by rw [w.len hb]; exact q), To_ok, tieIn]
    exact ⟨trivial, .refl h⟩
  · have q2 : b < a := by omega
    dsimp! [exSs, retV, q, decide_false, idx_P ha, idx_N (show b < (p.getD a []).length by rw [w.len ha]; exact q2), idx_N (show (p.getD a []).getD b 0 < turn.length by rw [ht]; exact w.lt ha q2), To_ok, tieIn]
    exact ⟨trivial, .refl h⟩
def rowTo (turn : List Nat) (p : List (List Nat)) (places : List Nat) (pt : Nat) : List Nat := places.map fun x => tieIn turn p x pt
theorem row_to_sp {G : Prg} (D : D_row_to G) (d : Nat) {r : Nat} {turn : List Nat} {p : List (List Nat)} (w : WfP r p) (ht : turn.length = r) {places : List Nat} {pt : Nat} (hl : places.length ≤ szL) (hp : ∀ x ∈ places, x < p.length ∧ x ≠ pt) (hq : pt < p.length) (h : GH) :
    callF G (d + 2) n_row_to [enc turn, enc p, enc places, I pt] h = .ok (enc (rowTo turn p places pt)) h := by
  refine call_pure D.f rfl rfl (Enc.noref _ _) ?_
  simp only [F_row_to, exSs, exS, evE]
  rw [evS_map places enc (fun x => I (tieIn turn p x pt)) (gd := none) (h1 := h) (by dsimp! [exSs, retV, lt_nat, le_nat, gt_nat, ge_nat, add_nat, sub_nat, eq_nat, ne_nat, eq_N, ne_N, eq_P, ne_P, eq_L, ne_L, inV_N, ninV_N, lenV_enc, sqT_enc, sqD_enc, itS_enc, itE_enc, isi_enc, isi_int, isi_intb, isi_lt, tru_enc, slc_take, slc_drop, chk_none, setTg_pair, tgR_pair, idx_N, idx_P]) rfl hl]
  · dsimp! [exSs, retV, To_ok]
    exact ⟨by simp only [rowTo, enc_list, List.map_map]; rfl, .refl h⟩
  · intro x hx
    refine ⟨_, rfl, ?_⟩
    dsimp! [exSs, retV, wipeE, enc_nat, tie_in_sp D.tie_in d w ht (hp x hx).1 hq (hp x hx).2]
def cutP (turn : List Nat) (p : List (List Nat)) (places : List Nat) : List (List Nat) := (List.range places.length).map fun k => (List.range k).map fun i => tieIn turn p (places.getD i 0) (places.getD k 0)
theorem cutP_zip (turn : List Nat) (p : List (List Nat)) (places : List Nat) : cutP turn p places = ((List.range places.length).zip places).map fun q => rowTo turn p (places.take q.1) q.2 := by
  unfold cutP rowTo
  refine List.ext_getElem (by simp) fun k h1 h2 => ?_
  simp only [List.length_map, List.length_range] at h1
  simp only [List.getElem_map, List.getElem_range, List.getElem_zip]
  refine List.ext_getElem (by simp; omega) fun i h3 h4 => ?_
  simp only [List.length_map, List.length_range] at h3
  simp [List.getElem?_eq_getElem (show i < places.length by omega), List.getElem?_eq_getElem h1]
/-- unlike places of a picture -/
structure Plc (n : Nat) (places : List Nat) : Prop where
  lt : ∀ x ∈ places, x < n
  nd : places.Nodup
theorem nodup_len : ∀ {n : Nat} {l : List Nat}, l.Nodup → (∀ x ∈ l, x < n) → l.length ≤ n
  | 0, l, _, h => by
    cases l with
    | nil => exact Nat.le_refl 0
    | cons a l => exact absurd (h a (List.mem_cons_self ..)) (by omega)
  | n + 1, l, nd, h => by
    have h1 := nodup_len (n := n) (nd.erase n) fun x hx => by
      have h2 := h x (List.mem_of_mem_erase hx)
      have h3 := (nd.mem_erase_iff.mp hx).1
      omega
    rw [List.length_erase] at h1
    split at h1 <;> omega
theorem Plc.len {n : Nat} {places : List Nat} (w : Plc n places) : places.length ≤ n := nodup_len w.nd w.lt
theorem nodup_at {l : List Nat} (nd : l.Nodup) {i j : Nat} (hi : i < l.length) (hj : j < l.length) (e : l[i] = l[j]) : i = j := by
  have h := List.pairwise_iff_getElem.mp nd
  rcases Nat.lt_trichotomy i j with q | q | q
  · exact absurd e (h i j hi hj q)
  · exact q
  · exact absurd e.symm (h j i hj hi q)
theorem zip_take {places : List Nat} (nd : places.Nodup) {q : Nat × Nat} (hq : q ∈ (List.range places.length).zip places) : q.2 ∈ places ∧ (∀ x ∈ places.take q.1, x ∈ places ∧ x ≠ q.2) := by
  obtain ⟨j, hj, rfl⟩ := List.mem_iff_getElem.mp hq
  have hj2 : j < places.length := by simpa using hj
  simp only [List.getElem_zip, List.getElem_range]
  refine ⟨List.getElem_mem _, fun x hx => ⟨List.mem_of_mem_take hx, ?_⟩⟩
  rintro rfl
  obtain ⟨i, hi, e⟩ := List.mem_iff_getElem.mp hx
  rw [List.getElem_take] at e
  simp only [List.length_take] at hi
  have := nodup_at nd (by omega) hj2 e
  omega
theorem cut_sp {G : Prg} (D : D_cut G) (d : Nat) {r : Nat} {turn : List Nat} {p : List (List Nat)} (w : WfP r p) (ht : turn.length = r) {places : List Nat} (hp : Plc p.length places) (hl : places.length ≤ szL) (h : GH) :
    callF G (d + 3) n_cut [enc turn, enc p, enc places] h = .ok (enc (cutP turn p places)) h := by
  refine call_pure D.f rfl rfl (Enc.noref _ _) ?_
  simp only [F_cut, exSs, exS, evE]
  rw [evS_map ((List.range places.length).zip places) enc (fun q => enc (rowTo turn p (places.take q.1) q.2)) (gd := none) (h1 := h) (by dsimp! [exSs, retV, lt_nat, le_nat, gt_nat, ge_nat, add_nat, sub_nat, eq_nat, ne_nat, eq_N, ne_N, eq_P, ne_P, eq_L, ne_L, inV_N, ninV_N, lenV_enc, sqT_enc, sqD_enc, itS_enc, itE_enc, isi_enc, isi_int, isi_intb, isi_lt, tru_enc, slc_take, slc_drop, chk_none, setTg_pair, tgR_pair, idx_N, idx_P]) rfl (by simp; omega)]
  · dsimp! [exSs, retV, To_ok]
    exact ⟨by simp only [cutP_zip, enc_list, List.map_map]; rfl, .refl h⟩
  · intro q hq
    obtain ⟨h1, h2⟩ := zip_take hp.nd hq
    refine ⟨_, setTg_pair _ _ _ _, ?_⟩
    dsimp! [exSs, retV, wipeE, enc_nat, lt_nat, le_nat, gt_nat, ge_nat, add_nat, sub_nat, eq_nat, ne_nat, eq_N, ne_N, eq_P, ne_P, eq_L, ne_L, inV_N, ninV_N, lenV_enc, sqT_enc, sqD_enc, itS_enc, itE_enc, isi_enc, isi_int, isi_intb, isi_lt, tru_enc, slc_take, slc_drop, chk_none, setTg_pair, tgR_pair, idx_N, idx_P]
    rw [row_to_sp D.row_to d w ht (by simp only [List.length_take]; omega) (fun x hx => ⟨hp.lt x (h2 x hx).1, (h2 x hx).2⟩) (hp.lt _ h1)]
theorem flat_sp {G : Prg} (D : D_flat G) (d : Nat) (p : List (List Nat)) (hl : p.flatten.length ≤ szL) (h : GH) : callF G (d + 1) n_flat [enc p] h = .ok (enc p.flatten) h := by
  refine call_pure D.f rfl rfl (Enc.noref _ _) ?_
  simp only [F_flat, exSs, exS, evE]
  rw [evS_two p enc (fun row => row) enc (fun _ t => enc t) (gd := none) (h := h) (by dsimp! [exSs, retV, lt_nat, le_nat, gt_nat, ge_nat, add_nat, sub_nat, eq_nat, ne_nat, eq_N, ne_N, eq_P, ne_P, eq_L, ne_L, inV_N, ninV_N, lenV_enc, sqT_enc, sqD_enc, itS_enc, itE_enc, isi_enc, isi_int, isi_intb, isi_lt, tru_enc, slc_take, slc_drop, chk_none, setTg_pair, tgR_pair, idx_N, idx_P]) rfl (by rw [List.flatMap_id']; exact hl)]
  · dsimp! [exSs, retV, To_ok]
    exact ⟨by simp only [enc_list, List.flatten_eq_flatMap, List.map_flatMap]; rfl, .refl h⟩
  · intro row hr
    refine ⟨_, none, rfl, ?_, rfl, fun t ht => ⟨_, rfl, ?_⟩⟩
    · dsimp! [exSs, retV, wipeE, lt_nat, le_nat, gt_nat, ge_nat, add_nat, sub_nat, eq_nat, ne_nat, eq_N, ne_N, eq_P, ne_P, eq_L, ne_L, inV_N, ninV_N, lenV_enc, sqT_enc, sqD_enc, itS_enc, itE_enc, isi_enc, isi_int, isi_intb, isi_lt, tru_enc, slc_take, slc_drop, chk_none, setTg_pair, tgR_pair, idx_N, idx_P]
    · dsimp! [exSs, retV, wipeE]
end Pv
end Pp_C1
section Pp_C2
set_option Elab.async false
set_option linter.all false
set_option maxRecDepth 10000
namespace Pv
open PySem (Str)
open GV
open Enc (enc)
local macro_rules
  | `(tactic| simp! [$ls,*]) => `(tactic| try simp only [eE_var, eE_cst, eE_tup, eE_lst, eE_tpl, eE_op, eE_neg, eE_isn, eE_ntn, eE_and, eE_or, eE_not, eE_ite, eE_slc, eE_fld, eE_call, eE_perm, eE_mk, eE_len, eE_int, eE_str, eE_b2, eE_all, eE_any, eE_isi, eE_rng, eE_m1, eE_dic, eA_nil, eA_cons, eO_non, eO_som, eQ_non, eQ_som, eS_val, eS_lsv, eS_rgl, eS_dsp, eS_lis, eS_srt, eI_val, eI_sq, eI_enm, eI_rng, eI_rngS, eI_prm, xS_pass, xS_brk, xS_cnt, xS_ret, xS_exp, xS_nm, xS_tg, xS_fld, xS_sub, xS_iff, xS_for, forB_nm, forB_pair, enc_nat, getV_ok, tru_bl, tru_non, idxI_nat, intV_int, intV_bl, szT0, szT1, szT2, szT3, szT4, szS0, szS1, szS2, szS3, szS4, szS5, setTg_nm, oE_add, oE_sub, oE_mul, oE_fdiv, oE_mod, oE_pow, oE_eq, oE_ne, oE_lt, oE_le, oE_gt, oE_ge, oE_idx, oE_inn, oE_nin, Res.bind_ok, Res.bind_exc, ite_tt, ite_ff, if_true, if_false, List.map_cons, List.map_nil, List.length_cons, List.length_nil, Nat.zero_add, Nat.reduceAdd, Nat.reduceSub, List.replicate_succ, List.replicate_zero, List.cons_append, List.nil_append, List.getElem?_cons_zero, List.getElem?_cons_succ, List.set_cons_zero, List.set_cons_succ, retV, To_ok, To_bind, Kn_nxt, Kn_ret, Kn_brk, Kn_cnt, $ls,*])
local macro_rules
  | `(tactic| dsimp! [$ls,*]) => `(tactic| simp only [eE_var, eE_cst, eE_tup, eE_lst, eE_tpl, eE_op, eE_neg, eE_isn, eE_ntn, eE_and, eE_or, eE_not, eE_ite, eE_slc, eE_fld, eE_call, eE_perm, eE_mk, eE_len, eE_int, eE_str, eE_b2, eE_all, eE_any, eE_isi, eE_rng, eE_m1, eE_dic, eA_nil, eA_cons, eO_non, eO_som, eQ_non, eQ_som, eS_val, eS_lsv, eS_rgl, eS_dsp, eS_lis, eS_srt, eI_val, eI_sq, eI_enm, eI_rng, eI_rngS, eI_prm, xS_pass, xS_brk, xS_cnt, xS_ret, xS_exp, xS_nm, xS_tg, xS_fld, xS_sub, xS_iff, xS_for, forB_nm, forB_pair, enc_nat, getV_ok, tru_bl, tru_non, idxI_nat, intV_int, intV_bl, szT0, szT1, szT2, szT3, szT4, szS0, szS1, szS2, szS3, szS4, szS5, setTg_nm, oE_add, oE_sub, oE_mul, oE_fdiv, oE_mod, oE_pow, oE_eq, oE_ne, oE_lt, oE_le, oE_gt, oE_ge, oE_idx, oE_inn, oE_nin, Res.bind_ok, Res.bind_exc, ite_tt, ite_ff, if_true, if_false, List.map_cons, List.map_nil, List.length_cons, List.length_nil, Nat.zero_add, Nat.reduceAdd, Nat.reduceSub, List.replicate_succ, List.replicate_zero, List.cons_append, List.nil_append, List.getElem?_cons_zero, List.getElem?_cons_succ, List.set_cons_zero, List.set_cons_succ, $ls,*])
local macro_rules
  | `(tactic| simp_all! [$ls,*]) => `(tactic| simp only [List.map_cons, List.map_nil, List.length_cons, List.length_nil, Nat.zero_add, Nat.reduceAdd, Nat.reduceSub, List.replicate_succ, List.replicate_zero, List.cons_append, List.nil_append, List.getElem?_cons_zero, List.getElem?_cons_succ, List.set_cons_zero, List.set_cons_succ, $ls,*])
/-! ### the flow of a law -/
theorem idx_ref {n : Nat} {h : GH} {xs : List GV} (e : h[n]? = some (.lst xs)) (k : Nat) : opIdx (.ref n) (I k) h = match xs[k]? with
    | some v => .ok v h
    | none => .bad := by
  show (match h[n]? with | some (.lst xs) => (match L2.atI xs (k : Int) with | some v => Res.ok v h | none => .bad) | some (.dct kvs) => _ | _ => .bad) = _
  rw [e]
  show (match L2.atI xs (k : Int) with | some v => Res.ok v h | none => .bad) = _
  rw [atI_nat]
theorem add_int (a b : Int) (h : GH) : opAdd (.int a) (.int b) h = .ok (.int (a + b)) h := rfl
theorem sub_int (a b : Int) (h : GH) : opSub (.int a) (.int b) h = .ok (.int (a - b)) h := rfl
theorem mul_int {a b : Int} (q : -1000000 < b ∧ b < 1000000) (h : GH) : opMul (.int a) (.int b) h = .ok (.int (a * b)) h := by
  unfold opMul
  simp only
  rw [if_pos (.inr (by simp only [two64]; omega))]
theorem mod_int {a b : Int} (q : b ≠ 0) (h : GH) : opMod (.int a) (.int b) h = .ok (.int (a.fmod b)) h := by
  unfold opMod
  simp only
  rw [if_pos q]
theorem fdiv_int {a b : Int} (q : b ≠ 0) (q2 : b.natAbs < 1073741824) (h : GH) : opFdiv (.int a) (.int b) h = .ok (.int (a.fdiv b)) h := by
  unfold opFdiv
  simp only
  rw [if_pos ⟨q, q2⟩]
theorem pow_int {a b : Nat} (q : b ≤ 1000) (q2 : a < 1000000) (h : GH) : opPow (I a) (I b) h = .ok (.int ((a : Int) ^ b)) h := by
  unfold opPow
  simp only
  rw [if_pos (by omega)]
  simp
theorem ge_int (a b : Int) (h : GH) : opGe (.int a) (.int b) h = .ok (GV.bl (decide (b ≤ a))) h := rfl
theorem gt_int (a b : Int) (h : GH) : opGt (.int a) (.int b) h = .ok (GV.bl (decide (b < a))) h := rfl
theorem lt_int (a b : Int) (h : GH) : opLt (.int a) (.int b) h = .ok (GV.bl (decide (a < b))) h := rfl
structure FlowAt (h : GH) (f c : Nat) : Prop where
  ne : f ≠ c
  at_ : ∃ (cells : List Int) (at_ : Nat) (seed told : Int) (left : Nat), h[c]? = some (.lst (cells.map .int)) ∧ h[f]? = some (.lst [.ref c, I at_, .int seed, .int told, I left])
theorem FlowAt.mod {S : List Nat} {h h1 : GH} {f c : Nat} (p : FlowAt h f c) (m : Mod S h h1) (hf : f ∉ S) (hc : c ∉ S) : FlowAt h1 f c := by
  obtain ⟨ne, cells, at_, seed, told, left, e1, e2⟩ := p
  exact ⟨ne, cells, at_, seed, told, left, m.get e1 hc, m.get e2 hf⟩
theorem fmod_nat (x : Int) {m : Nat} (hm : 0 < m) : ∃ k, k < m ∧ GV.int (x.fmod (m : Int)) = I k := by
  have h1 := Int.fmod_nonneg_of_pos x (b := (m : Int)) (by omega)
  have h2 := Int.fmod_lt_of_pos x (b := (m : Int)) (by omega)
  exact ⟨(x.fmod m).toNat, by omega, by rw [GV.int.injEq]; omega⟩
/-- .. while it is drawn from -/
structure FS (h0 h : GH) (f c : Nat) (cells : List Int) (at_ : Nat) (seed told : Int) (left : Nat) : Prop where
  hc : h[c]? = some (.lst (cells.map .int))
  hf : h[f]? = some (.lst [.ref c, I at_, .int seed, .int told, I left])
  ne : f ≠ c
  mod : Mod [f] h0 h
section
variable {h0 h : GH} {f c : Nat} {cells : List Int} {at_ : Nat} {seed told : Int} {left : Nat}
theorem FS.put (p : FS h0 h f c cells at_ seed told left) {k : Nat} {v : GV} {at2 : Nat} {seed2 told2 : Int} {left2 : Nat} (hk : k < 5) (e : [GV.ref c, I at_, .int seed, .int told, I left].set k v = [.ref c, I at2, .int seed2, .int told2, I left2]) :
    ∃ h', (∀ env, setR (.ref f) (I k) v env h = .ok env h') ∧ FS h0 h' f c cells at2 seed2 told2 left2 :=
  ⟨_, fun env => setR_lst p.hf hk, by rw [get_ne p.ne.symm, p.hc], by rw [get_put (lt_of_get p.hf), e], p.ne, p.mod.set (.inl (List.mem_singleton.mpr rfl)) _⟩
theorem FS.flow (p : FS h0 h f c cells at_ seed told left) : FlowAt h f c := ⟨p.ne, cells, at_, seed, told, left, p.hc, p.hf⟩
end
theorem next_sp {G : Prg} (D : D__law_next G) (d : Nat) {f c m : Nat} (hm : 0 < m) (hm2 : m < 1000000) {h : GH} (F : FlowAt h f c) :
    To (callF G (d + 1) n__law_next [.ref f, I m] h) fun v h1 => ∃ k, k < m ∧ v = I k ∧ FlowAt h1 f c ∧ Mod [f] h h1 := by
  obtain ⟨ne, cells, at_, seed, told, left, e1, e2⟩ := F
  have p : FS h h f c cells at_ seed told left := ⟨e1, e2, ne, .refl _ h⟩
  clear e1 e2 ne
  have m0 : (m : Int) ≠ 0 := by omega
  refine call_to D.f rfl rfl ?_
  simp only [F__law_next, List.map_cons, List.map_nil, List.length_cons, List.length_nil, Nat.zero_add, Nat.reduceAdd, Nat.reduceSub, List.replicate_succ, List.replicate_zero, List.cons_append, List.nil_append]
  refine seq_mid (fun q h1 => ∃ x at2 seed2 told2 left2, q = (.nxt, [some (.ref f), some (I m), x, none]) ∧ FS h h1 f c cells at2 seed2 told2 left2) ?_ ?_
  · have hR : ∀ (x : Option GV) (h1 : GH) (at2 : Nat) (seed2 told2 : Int) (left2 : Nat), FS h h1 f c cells at2 seed2 told2 left2 → ∃ y at3 seed3 told3 left3, ((Fl.nxt, [some (.ref f), some (I m), x, none]) : Fl × Env) = (.nxt, [some (.ref f), some (I m), y, none]) ∧ FS h h1 f c cells at3 seed3 told3 left3 := fun x h1 a b c d p => ⟨x, a, b, c, d, rfl, p⟩
    dsimp! [idx_ref p.hf, eq_nat]
    by_cases q0 : left = 0
    · by_cases q1 : at_ < cells.length
      · dsimp! [q0, decide_true, lenV_ref p.hc, idx_ref p.hf, lt_nat, List.length_map, q1]
        refine seq_to ?_
        simp! [idx_ref p.hf, idx_ref p.hc, List.getElem?_map, List.getElem?_eq_getElem q1, Option.map_some]
        refine seq_to ?_
        obtain ⟨h1, s1, p1⟩ := p.put (k := 1) (v := I (at_ + 1)) (by omega) rfl
        simp! [idx_ref p.hf, add_nat, s1]
        refine seq_to ?_
        simp! [pow_int (show 18 ≤ 1000 by omega) (show 10 < 1000000 by omega), ge_int]
        by_cases q2 : ((10 : Nat) : Int) ^ 18 ≤ cells[at_]
        · simp! [q2, decide_true]
          refine seq_to ?_
          obtain ⟨h2, s2, p2⟩ := p1.put (k := 3) (v := .int (cells[at_] - ((10 : Nat) : Int) ^ 18)) (by omega) rfl
          simp! [pow_int (show 18 ≤ 1000 by omega) (show 10 < 1000000 by omega), sub_int, s2]
          refine seq_to ?_
          obtain ⟨h3, s3, p3⟩ := p2.put (k := 4) (v := I 60) (by omega) rfl
          simp! [s3]
          exact nil_to (nil_to (hR _ _ _ _ _ _ p3))
        · simp! [q2, decide_false]
          refine seq_to ?_
          obtain ⟨h2, s2, p2⟩ := p1.put (k := 2) (v := .int ((seed * (48271 : Nat) + cells[at_] * (69621 : Nat) + (11 : Nat)).fmod (2147483647 : Nat))) (by omega) rfl
          simp! [idx_ref p1.hf, mul_int (show -1000000 < ((48271 : Nat) : Int) ∧ ((48271 : Nat) : Int) < 1000000 by omega), mul_int (show -1000000 < ((69621 : Nat) : Int) ∧ ((69621 : Nat) : Int) < 1000000 by omega), add_int, mod_int (show ((2147483647 : Nat) : Int) ≠ 0 by omega), s2]
          exact nil_to (nil_to (hR _ _ _ _ _ _ p2))
      · dsimp! [q0, decide_true, lenV_ref p.hc, idx_ref p.hf, lt_nat, List.length_map, q1, decide_false]
        exact nil_to (hR _ _ _ _ _ _ p)
    · dsimp! [q0, decide_false]
      exact nil_to (hR _ _ _ _ _ _ p)
  rintro _ h1 ⟨x, at2, seed2, told2, left2, rfl, p1⟩
  clear p
  try rw [Kn_nxt]
  refine seq_to ?_
  simp! [idx_ref p1.hf, gt_nat]
  by_cases q0 : 0 < left2
  · simp! [q0, decide_true]
    refine seq_to ?_
    obtain ⟨h2, s2, p2⟩ := p1.put (k := 4) (v := I (left2 - 1)) (by omega) rfl
    simp! [idx_ref p1.hf, sub_nat (show 1 ≤ left2 by omega), s2]
    refine seq_to ?_
    simp! [idx_ref p2.hf, mod_int m0]
    refine seq_to ?_
    obtain ⟨h3, s3, p3⟩ := p2.put (k := 3) (v := .int (told2.fdiv m)) (by omega) rfl
    simp! [idx_ref p2.hf, fdiv_int m0 (show (m : Int).natAbs < 1073741824 by omega), s3]
    refine seq_to ?_
    simp! []
    obtain ⟨k, hk, e⟩ := fmod_nat told2 hm
    exact ⟨_, rfl, k, hk, e, p3.flow, p3.mod⟩
  · simp! [q0, decide_false]
    refine nil_to ?_
    try rw [Kn_nxt]
    refine seq_to ?_
    obtain ⟨h2, s2, p2⟩ := p1.put (k := 2) (v := .int ((seed2 * (69621 : Nat) + (13 : Nat)).fmod (2147483647 : Nat))) (by omega) rfl
    simp! [idx_ref p1.hf, mul_int (show -1000000 < ((69621 : Nat) : Int) ∧ ((69621 : Nat) : Int) < 1000000 by omega), add_int, mod_int (show ((2147483647 : Nat) : Int) ≠ 0 by omega), s2]
    refine seq_to ?_
    simp! [idx_ref p2.hf, fdiv_int (show ((131 : Nat) : Int) ≠ 0 by omega) (show ((131 : Nat) : Int).natAbs < 1073741824 by omega), mod_int m0]
    obtain ⟨k, hk, e⟩ := fmod_nat (((seed2 * (69621 : Nat) + (13 : Nat)).fmod (2147483647 : Nat)).fdiv (131 : Nat)) hm
    exact ⟨_, rfl, k, hk, e, p2.flow, p2.mod⟩
end Pv
end Pp_C2
section Pp_C3
set_option Elab.async false
set_option linter.all false
set_option maxRecDepth 10000
namespace Pv
open PySem (Str)
open GV
open Enc (enc)
local macro_rules
  | `(tactic| simp! [$ls,*]) => `(tactic| try simp only [eE_var, eE_cst, eE_tup, eE_lst, eE_tpl, eE_op, eE_neg, eE_isn, eE_ntn, eE_and, eE_or, eE_not, eE_ite, eE_slc, eE_fld, eE_call, eE_perm, eE_mk, eE_len, eE_int, eE_str, eE_b2, eE_all, eE_any, eE_isi, eE_rng, eE_m1, eE_dic, eA_nil, eA_cons, eO_non, eO_som, eQ_non, eQ_som, eS_val, eS_lsv, eS_rgl, eS_dsp, eS_lis, eS_srt, eI_val, eI_sq, eI_enm, eI_rng, eI_rngS, eI_prm, xS_pass, xS_brk, xS_cnt, xS_ret, xS_exp, xS_nm, xS_tg, xS_fld, xS_sub, xS_iff, xS_for, forB_nm, forB_pair, enc_nat, getV_ok, tru_bl, tru_non, idxI_nat, intV_int, intV_bl, szT0, szT1, szT2, szT3, szT4, szS0, szS1, szS2, szS3, szS4, szS5, setTg_nm, oE_add, oE_sub, oE_mul, oE_fdiv, oE_mod, oE_pow, oE_eq, oE_ne, oE_lt, oE_le, oE_gt, oE_ge, oE_idx, oE_inn, oE_nin, Res.bind_ok, Res.bind_exc, ite_tt, ite_ff, if_true, if_false, List.map_cons, List.map_nil, List.length_cons, List.length_nil, Nat.zero_add, Nat.reduceAdd, Nat.reduceSub, List.replicate_succ, List.replicate_zero, List.cons_append, List.nil_append, List.getElem?_cons_zero, List.getElem?_cons_succ, List.set_cons_zero, List.set_cons_succ, retV, To_ok, To_bind, Kn_nxt, Kn_ret, Kn_brk, Kn_cnt, $ls,*])
local macro_rules
  | `(tactic| dsimp! [$ls,*]) => `(tactic| simp only [eE_var, eE_cst, eE_tup, eE_lst, eE_tpl, eE_op, eE_neg, eE_isn, eE_ntn, eE_and, eE_or, eE_not, eE_ite, eE_slc, eE_fld, eE_call, eE_perm, eE_mk, eE_len, eE_int, eE_str, eE_b2, eE_all, eE_any, eE_isi, eE_rng, eE_m1, eE_dic, eA_nil, eA_cons, eO_non, eO_som, eQ_non, eQ_som, eS_val, eS_lsv, eS_rgl, eS_dsp, eS_lis, eS_srt, eI_val, eI_sq, eI_enm, eI_rng, eI_rngS, eI_prm, xS_pass, xS_brk, xS_cnt, xS_ret, xS_exp, xS_nm, xS_tg, xS_fld, xS_sub, xS_iff, xS_for, forB_nm, forB_pair, enc_nat, getV_ok, tru_bl, tru_non, idxI_nat, intV_int, intV_bl, szT0, szT1, szT2, szT3, szT4, szS0, szS1, szS2, szS3, szS4, szS5, setTg_nm, oE_add, oE_sub, oE_mul, oE_fdiv, oE_mod, oE_pow, oE_eq, oE_ne, oE_lt, oE_le, oE_gt, oE_ge, oE_idx, oE_inn, oE_nin, Res.bind_ok, Res.bind_exc, ite_tt, ite_ff, if_true, if_false, List.map_cons, List.map_nil, List.length_cons, List.length_nil, Nat.zero_add, Nat.reduceAdd, Nat.reduceSub, List.replicate_succ, List.replicate_zero, List.cons_append, List.nil_append, List.getElem?_cons_zero, List.getElem?_cons_succ, List.set_cons_zero, List.set_cons_succ, $ls,*])
local macro_rules
  | `(tactic| simp_all! [$ls,*]) => `(tactic| simp only [List.map_cons, List.map_nil, List.length_cons, List.length_nil, Nat.zero_add, Nat.reduceAdd, Nat.reduceSub, List.replicate_succ, List.replicate_zero, List.cons_append, List.nil_append, List.getElem?_cons_zero, List.getElem?_cons_succ, List.set_cons_zero, List.set_cons_succ, $ls,*])
theorem getD_set (L : List Nat) (i v j : Nat) : (L.set i v).getD j 0 = if i = j ∧ i < L.length then v else L.getD j 0 := by
  simp only [List.getD_eq_getElem?_getD, List.getElem?_set]
  by_cases e : i = j
  · subst e
    by_cases q : i < L.length
    · simp [q]
    · simp [q, List.getElem?_eq_none (show L.length ≤ i by omega)]
  · simp [e]
/-- there and back -/
structure IsTurn (r : Nat) (L : List Nat) : Prop where
  len : L.length = r
  lt : ∀ t, t < r → L.getD t 0 < r
  inv : ∀ t, t < r → L.getD (L.getD t 0) 0 = t
theorem IsTurn.range (r : Nat) : IsTurn r (List.range r) := by
  have e : ∀ t, t < r → (List.range r).getD t 0 = t := fun t ht => by simp [ht]
  exact ⟨List.length_range, fun t ht => by rw [e t ht]; exact ht, fun t ht => by rw [e t ht, e t ht]⟩
theorem IsTurn.swap {r : Nat} {L : List Nat} (w : IsTurn r L) {t u : Nat} (ht : t < r) (hu : u < r) (et : L.getD t 0 = t) (eu : L.getD u 0 = u) : IsTurn r ((L.set t u).set u t) := by
  have l1 : t < L.length := by rw [w.len]; exact ht
  have l2 : u < L.length := by rw [w.len]; exact hu
  have g : ∀ s, ((L.set t u).set u t).getD s 0 = if u = s then t else if t = s then u else L.getD s 0 := fun s => by
    rw [getD_set, getD_set]
    simp only [List.length_set, l1, l2, and_true]
  refine ⟨by rw [List.length_set, List.length_set, w.len], fun s hs => ?_, fun s hs => ?_⟩
  · rw [g]
    have := w.lt s hs
    split
    · exact ht
    · split
      · exact hu
      · exact this
  · have hi := w.inv s hs
    rw [g s]
    by_cases q1 : u = s
    · subst q1
      rw [if_pos rfl, g]
      by_cases q2 : u = t
      · simp [q2]
      · rw [if_neg q2, if_pos rfl]
    · rw [if_neg q1]
      by_cases q2 : t = s
      · subst q2
        rw [if_pos rfl, g, if_pos rfl]
      · rw [if_neg q2, g]
        have n1 : ¬ u = L.getD s 0 := fun e => by
          rw [← e, eu] at hi
          exact q1 hi
        have n2 : ¬ t = L.getD s 0 := fun e => by
          rw [← e, et] at hi
          exact q2 hi
        rw [if_neg n1, if_neg n2]
        exact hi
theorem map_get {A : Type} (L : List A) (g : A → GV) (x : A) {k : Nat} (hk : k < L.length) : (L.map g)[k]? = some (g (L.getD k x)) := by simp [hk]
theorem get_I {L : List Nat} {k : Nat} (hk : k < L.length) : (L.map I)[k]? = some (I (L.getD k 0)) := map_get L I 0 hk
def TurnJ (f c r : Nat) (h : GH) (rest : List Nat) (e : Env) (h1 : GH) : Prop := (∀ t ∈ rest, t < r) ∧ ∃ x y L, e = [some (.ref f), some (I r), some (.ref h.length), x, y] ∧ IsTurn r L ∧ h1[h.length]? = some (.lst (L.map I)) ∧ FlowAt h1 f c ∧ Mod [f] h h1
theorem FlowAt.lt {h : GH} {f c : Nat} (F : FlowAt h f c) : f < h.length ∧ c < h.length := by
  obtain ⟨_, _, _, _, _, _, e1, e2⟩ := F
  exact ⟨lt_of_get e2, lt_of_get e1⟩
theorem FlowAt.push {h g : GH} {f c : Nat} (F : FlowAt h f c) : FlowAt (h ++ g) f c := F.mod (S := []) ((Mod.refl [] h).push _) (by simp) (by simp)
theorem FlowAt.set {h : GH} {f c n : Nat} {o : GO} (F : FlowAt h f c) (n1 : f ≠ n) (n2 : c ≠ n) : FlowAt (h.set n o) f c := F.mod (S := [n]) ((Mod.refl _ h).set (.inl (by simp)) _) (by simpa using n1) (by simpa using n2)
theorem turn_sp {G : Prg} (D : D__law_turn G) (d : Nat) {f c r : Nat} (hr : r < 1000) {h : GH} (F : FlowAt h f c) :
    To (callF G (d + 2) n__law_turn [.ref f, I r] h) fun v h1 => ∃ n L, v = .ref n ∧ h1[n]? = some (.lst (L.map I)) ∧ h.length ≤ n ∧ IsTurn r L ∧ FlowAt h1 f c ∧ Mod [f] h h1 := by
  refine call_to D.f rfl rfl ?_
  obtain ⟨hf, hc⟩ := F.lt
  simp_all! [F__law_turn]
  refine seq_to ?_
  simp! [rngQ_nat (show r ≤ 1000000 by omega)]
  refine seq_to ?_
  simp! [rngR_nat (show r ≤ 1000000 by omega)]
  refine forL_to I (TurnJ f c r h) (fun _ _ _ _ => rfl) ?_ ?_ _ _ _ ?_
  · rintro t rest e h1 ⟨hrest, x, y, L, rfl, w, e1, F1, M1⟩
    have ht := hrest t (List.mem_cons_self ..)
    dsimp! []
    refine seq_to ?_
    simp! [sub_nat (show t ≤ r by omega)]
    refine (next_sp D._law_next d (by omega) (by omega) F1).mono ?_
    rintro _ h2 ⟨k, hk, rfl, F2, M2⟩
    simp! [add_nat]
    have e2 : h2[h.length]? = some (.lst (L.map I)) := M2.get e1 (by simp; omega)
    have M12 := M1.trans M2
    refine seq_to ?_
    have l1 : t < L.length := by rw [w.len]; exact ht
    have l2 : t + k < L.length := by rw [w.len]; omega
    simp! [idx_ref e2, get_I l1, get_I l2, eq_nat]
    have fin : ∀ Q, Kn (callF G (d + 1)) .nil (Lp (TurnJ f c r h) Q rest) (.nxt, [some (.ref f), some (I r), some (.ref h.length), some (I t), some (I (t + k))]) h2 := fun Q => nil_to ⟨fun t ht => hrest t (List.mem_cons_of_mem _ ht), _, _, L, rfl, w, e2, F2, M12⟩
    by_cases q1 : L.getD t 0 = t
    · simp! [q1, decide_true, idx_ref e2, get_I l2, eq_nat]
      by_cases q2 : L.getD (t + k) 0 = t + k
      · simp! [q2, decide_true]
        refine seq_to ?_
        simp! [setR_lst e2 (show t < (L.map I).length by rw [List.length_map]; exact l1), ← List.map_set]
        have hl := lt_of_get e2
        have e3 : (h2.set h.length (.lst ((L.set t (t + k)).map I)))[h.length]? = some (.lst ((L.set t (t + k)).map I)) := get_put hl
        have M3 : Mod [f] h (h2.set h.length (.lst ((L.set t (t + k)).map I))) := M12.set (.inr (Nat.le_refl _)) _
        have F3 : FlowAt (h2.set h.length (.lst ((L.set t (t + k)).map I))) f c := F2.set (by omega) (by omega)
        generalize h2.set h.length (.lst ((L.set t (t + k)).map I)) = h3 at e3 M3 F3
        refine seq_to ?_
        simp! [setR_lst e3 (show t + k < ((L.set t (t + k)).map I).length by rw [List.length_map, List.length_set]; exact l2), ← List.map_set]
        refine nil_to (nil_to ⟨fun t ht => hrest t (List.mem_cons_of_mem _ ht), _, _, _, rfl, w.swap ht (by omega) q1 q2, get_put (lt_of_get e3), F3.set (by omega) (by omega), M3.set (.inr (Nat.le_refl _)) _⟩)
      · simp! [q2, decide_false]
        exact nil_to (fin _)
    · simp! [q1, decide_false]
      exact nil_to (fin _)
  · rintro e h1 ⟨-, x, y, L, rfl, w, e1, F1, M1⟩
    try rw [Kn_nxt]
    refine seq_to ?_
    simp! []
    exact ⟨_, rfl, _, L, rfl, e1, Nat.le_refl _, w, F1, M1⟩
  · exact ⟨fun t ht => List.mem_range.mp ht, none, none, List.range r, rfl, .range r, get_push, F.push, (Mod.refl [f] h).push _⟩
theorem app_lst {n : Nat} {h : GH} {xs : List GV} (e : h[n]? = some (.lst xs)) (v : GV) (hl : xs.length < szL) : evM1 .append (.ref n) v h = .ok .non (h.set n (.lst (xs ++ [v]))) := by
  unfold evM1
  simp only [e]
  rw [if_pos hl]
theorem isLst_ref {n : Nat} {h : GH} {xs : List GV} (e : h[n]? = some (.lst xs)) : isLst (.ref n) h = true := by
  unfold isLst
  simp only [e]
theorem WfP.snoc {r : Nat} {p : List (List Nat)} (w : WfP r p) {l : List Nat} (hl : l.length = p.length) (ht : ∀ t ∈ l, t < r) : WfP r (p ++ [l]) := by
  intro j hj
  by_cases q : j < p.length
  · rw [show (p ++ [l]).getD j [] = p.getD j [] by simp [q, List.getElem?_append_left]]
    exact w j q
  · have : j = p.length := by simp at hj; omega
    subst this
    rw [show (p ++ [l]).getD p.length [] = l by simp]
    exact ⟨hl, ht⟩
def PicJ (f c r n : Nat) (h : GH) (k : Nat) (e : Env) (h1 : GH) : Prop := ∃ x y p, e = [some (.ref f), some (I r), some (I n), some (.ref h.length), x, y] ∧ p.length = k ∧ WfP r p ∧ h1[h.length]? = some (.lst (p.map enc)) ∧ FlowAt h1 f c ∧ Mod [f] h h1
theorem picture_sp {G : Prg} (D : D__law_picture G) (d : Nat) {f c r n : Nat} (r0 : 0 < r) (hr : r < 1000) (hn : n < 1000) {h : GH} (F : FlowAt h f c) :
    To (callF G (d + 2) n__law_picture [.ref f, I r, I n] h) fun v h1 => ∃ p, v = enc p ∧ WfP r p ∧ p.length = n ∧ FlowAt h1 f c ∧ Mod [f] h h1 := by
  refine call_to D.f rfl rfl ?_
  obtain ⟨hf, hc⟩ := F.lt
  simp_all! [F__law_picture]
  refine seq_to ?_
  simp! []
  refine seq_to ?_
  simp! [rngR_nat (show n ≤ 1000000 by omega)]
  refine forL_range (PicJ f c r n h) n ?_ ?_ ⟨none, none, [], rfl, rfl, fun j hj => absurd hj (by simp), get_push, F.push, (Mod.refl [f] h).push _⟩
  · rintro k hk e h1 ⟨x, y, p, rfl, hp, w, e1, F1, M1⟩
    dsimp! []
    refine seq_to ?_
    simp! [isLst_ref e1]
    refine evS_to (gd := none) (h1 := h1) (List.range k) I (fun rest acc h2 => ∃ l : List Nat, acc = l.map I ∧ l.length + rest.length = k ∧ (∀ t ∈ l, t < r) ∧ h2[h.length]? = some (.lst (p.map enc)) ∧ FlowAt h2 f c ∧ Mod [f] h h2) (by dsimp! [rngR_nat (show k ≤ 1000000 by omega)]) (fun _ _ _ _ => rfl) (by have := szv; simp; omega) ?_ ⟨[], rfl, by simp, by simp, e1, F1, M1⟩ ?_
    · rintro i rest acc h2 ⟨l, rfl, hl, ht, e2, F2, M2⟩
      refine ⟨_, rfl, ?_⟩
      dsimp! [wipeE]
      refine (next_sp D._law_next d r0 (by omega) F2).mono ?_
      rintro _ h3 ⟨q, hq, rfl, F3, M3⟩
      refine ⟨l ++ [q], by simp, by simp at hl ⊢; omega, ?_, M3.get e2 (by simp; omega), F3, M2.trans M3⟩
      intro t ht2
      rcases List.mem_append.mp ht2 with z | z
      · exact ht t z
      · rw [List.mem_singleton.mp z]; exact hq
    · rintro acc h2 ⟨l, rfl, hl, ht, e2, F2, M2⟩
      simp! [app_lst e2 _ (show (p.map enc).length < szL by have := szv; rw [List.length_map, hp]; omega)]
      have hl2 := lt_of_get e2
      refine nil_to ⟨_, _, p ++ [l], rfl, by simp [hp], w.snoc (by simp at hl; omega) ht, ?_, F2.set (by omega) (by omega), M2.set (.inr (Nat.le_refl _)) _⟩
      rw [get_put hl2, List.map_append]
      rfl
  · rintro e h1 ⟨x, y, p, rfl, hp, w, e1, F1, M1⟩
    try rw [Kn_nxt]
    refine seq_to ?_
    simp! [sqT_ref e1]
    exact ⟨_, rfl, p, rfl, w, hp, F1, M1⟩
end Pv
end Pp_C3
section Pp_C4
set_option Elab.async false
set_option linter.all false
set_option maxRecDepth 10000
namespace Pv
open PySem (Str)
open GV
open Enc (enc)
local macro_rules
  | `(tactic| simp! [$ls,*]) => `(tactic| try simp only [eE_var, eE_cst, eE_tup, eE_lst, eE_tpl, eE_op, eE_neg, eE_isn, eE_ntn, eE_and, eE_or, eE_not, eE_ite, eE_slc, eE_fld, eE_call, eE_perm, eE_mk, eE_len, eE_int, eE_str, eE_b2, eE_all, eE_any, eE_isi, eE_rng, eE_m1, eE_dic, eA_nil, eA_cons, eO_non, eO_som, eQ_non, eQ_som, eS_val, eS_lsv, eS_rgl, eS_dsp, eS_lis, eS_srt, eI_val, eI_sq, eI_enm, eI_rng, eI_rngS, eI_prm, xS_pass, xS_brk, xS_cnt, xS_ret, xS_exp, xS_nm, xS_tg, xS_fld, xS_sub, xS_iff, xS_for, forB_nm, forB_pair, enc_nat, getV_ok, tru_bl, tru_non, idxI_nat, intV_int, intV_bl, szT0, szT1, szT2, szT3, szT4, szS0, szS1, szS2, szS3, szS4, szS5, setTg_nm, oE_add, oE_sub, oE_mul, oE_fdiv, oE_mod, oE_pow, oE_eq, oE_ne, oE_lt, oE_le, oE_gt, oE_ge, oE_idx, oE_inn, oE_nin, Res.bind_ok, Res.bind_exc, ite_tt, ite_ff, if_true, if_false, List.map_cons, List.map_nil, List.length_cons, List.length_nil, Nat.zero_add, Nat.reduceAdd, Nat.reduceSub, List.replicate_succ, List.replicate_zero, List.cons_append, List.nil_append, List.getElem?_cons_zero, List.getElem?_cons_succ, List.set_cons_zero, List.set_cons_succ, retV, To_ok, To_bind, Kn_nxt, Kn_ret, Kn_brk, Kn_cnt, $ls,*])
local macro_rules
  | `(tactic| dsimp! [$ls,*]) => `(tactic| simp only [eE_var, eE_cst, eE_tup, eE_lst, eE_tpl, eE_op, eE_neg, eE_isn, eE_ntn, eE_and, eE_or, eE_not, eE_ite, eE_slc, eE_fld, eE_call, eE_perm, eE_mk, eE_len, eE_int, eE_str, eE_b2, eE_all, eE_any, eE_isi, eE_rng, eE_m1, eE_dic, eA_nil, eA_cons, eO_non, eO_som, eQ_non, eQ_som, eS_val, eS_lsv, eS_rgl, eS_dsp, eS_lis, eS_srt, eI_val, eI_sq, eI_enm, eI_rng, eI_rngS, eI_prm, xS_pass, xS_brk, xS_cnt, xS_ret, xS_exp, xS_nm, xS_tg, xS_fld, xS_sub, xS_iff, xS_for, forB_nm, forB_pair, enc_nat, getV_ok, tru_bl, tru_non, idxI_nat, intV_int, intV_bl, szT0, szT1, szT2, szT3, szT4, szS0, szS1, szS2, szS3, szS4, szS5, setTg_nm, oE_add, oE_sub, oE_mul, oE_fdiv, oE_mod, oE_pow, oE_eq, oE_ne, oE_lt, oE_le, oE_gt, oE_ge, oE_idx, oE_inn, oE_nin, Res.bind_ok, Res.bind_exc, ite_tt, ite_ff, if_true, if_false, List.map_cons, List.map_nil, List.length_cons, List.length_nil, Nat.zero_add, Nat.reduceAdd, Nat.reduceSub, List.replicate_succ, List.replicate_zero, List.cons_append, List.nil_append, List.getElem?_cons_zero, List.getElem?_cons_succ, List.set_cons_zero, List.set_cons_succ, $ls,*])
local macro_rules
  | `(tactic| simp_all! [$ls,*]) => `(tactic| simp only [List.map_cons, List.map_nil, List.length_cons, List.length_nil, Nat.zero_add, Nat.reduceAdd, Nat.reduceSub, List.replicate_succ, List.replicate_zero, List.cons_append, List.nil_append, List.getElem?_cons_zero, List.getElem?_cons_succ, List.set_cons_zero, List.set_cons_succ, $ls,*])
/-- a list or tuple of numbers -/
def Seq (v : GV) (L : List Nat) (h : GH) : Prop := ∀ k, k < L.length → opIdx v (I k) h = .ok (I (L.getD k 0)) h
theorem Seq.tup (L : List Nat) (h : GH) : Seq (enc L) L h := fun k hk => idx_N hk
theorem Seq.lst {L : List Nat} {h : GH} {n : Nat} (e : h[n]? = some (.lst (L.map I))) : Seq (.ref n) L h := fun k hk => by rw [idx_ref e, get_I hk]
theorem law_tie_sp {G : Prg} (D : D__law_tie_k51 G) (d : Nat) {r : Nat} {tv : GV} {turn : List Nat} {p : List (List Nat)} {h : GH} (hv : Seq tv turn h) (w : WfP r p) (ht : turn.length = r) {a b : Nat} (ha : a < p.length) (hb : b < p.length) (ab : a ≠ b) :
    callF G (d + 1) n__law_tie [tv, enc p, I a, I b] h = .ok (I (tieIn turn p a b)) h := by
  refine call_pure D.f rfl rfl rfl ?_
  dsimp! [exSs, retV, F__law_tie_k51, lt_nat, le_nat, gt_nat, ge_nat, add_nat, sub_nat, eq_nat, ne_nat, eq_N, ne_N, eq_P, ne_P, eq_L, ne_L, inV_N, ninV_N, lenV_enc, sqT_enc, sqD_enc, itS_enc, itE_enc, isi_enc, isi_int, isi_intb, isi_lt, tru_enc, slc_take, slc_drop, chk_none, setTg_pair, tgR_pair, idx_N, idx_P]
  by_cases q : a < b
  · dsimp! [exSs, retV, q, decide_true, idx_P hb, idx_N (show a < (p.getD b []).length by rw [w.len hb]; exact q), To_ok, tieIn]
    exact ⟨trivial, .refl h⟩
  · have q2 : b < a := by omega
    dsimp! [exSs, retV, q, decide_false, idx_P ha, idx_N (show b < (p.getD a []).length by rw [w.len ha]; exact q2), hv _ (show (p.getD a []).getD b 0 < turn.length by rw [ht]; exact w.lt ha q2), To_ok, tieIn]
    exact ⟨trivial, .refl h⟩
theorem Plc.at_ {n : Nat} {places : List Nat} (w : Plc n places) {i : Nat} (hi : i < places.length) : places.getD i 0 < n := by
  rw [List.getD_eq_getElem?_getD, List.getElem?_eq_getElem hi]
  exact w.lt _ (List.getElem_mem _)
theorem Plc.ne {n : Nat} {places : List Nat} (w : Plc n places) {i j : Nat} (hi : i < places.length) (hj : j < places.length) (ij : i ≠ j) : places.getD i 0 ≠ places.getD j 0 := by
  rw [List.getD_eq_getElem?_getD, List.getD_eq_getElem?_getD, List.getElem?_eq_getElem hi, List.getElem?_eq_getElem hj]
  exact fun e => ij (nodup_at w.nd hi hj e)
def PcJ (tv : GV) (turn : List Nat) (p : List (List Nat)) (places : List Nat) (h : GH) (k : Nat) (e : Env) (h1 : GH) : Prop := ∃ x y, e = [some tv, some (enc p), some (enc places), some (.ref h.length), x, y] ∧ h1 = h ++ [.lst (((List.range k).map fun k => (List.range k).map fun i => tieIn turn p (places.getD i 0) (places.getD k 0)).map enc)]
theorem Seq.push {v : GV} {L : List Nat} {h g : GH} (s : Seq v L h) : Seq v L (h ++ g) := by
  intro k hk
  have e := s k hk
  cases v with
  | tup xs =>
    simp only [opIdx] at e ⊢
    split at e
    · rename_i v q
      cases e
      rfl
    · cases e
  | str x =>
    simp only [opIdx] at e ⊢
    split at e
    · split at e
      · cases e
      · cases e
    · cases e
  | ref n =>
    simp only [opIdx] at e ⊢
    cases q : h[n]? with
    | none => rw [q] at e; cases e
    | some o =>
      rw [q] at e
      rw [get_app q]
      cases o with
      | lst xs =>
        simp only at e ⊢
        cases q2 : L2.atI xs (k : Int) with
        | none => rw [q2] at e; cases e
        | some v => rw [q2] at e; cases e; rfl
      | dct kvs =>
        simp only at e ⊢
        by_cases q2 : keyOk kvs (.int (k : Int)) = true
        · simp only [q2, if_true] at e ⊢
          cases q3 : look kvs (.int (k : Int)) with
          | none => rw [q3] at e; cases e
          | some v => rw [q3] at e; cases e; rfl
        · simp only [q2] at e
          cases e
      | ins c fs => cases e
  | _ => cases e
theorem law_piece_sp {G : Prg} (D : D__law_piece_k51 G) (d : Nat) {r : Nat} {tv : GV} {turn : List Nat} {p : List (List Nat)} {h : GH} (hv : Seq tv turn h) (w : WfP r p) (ht : turn.length = r) {places : List Nat} (hp : Plc p.length places) (hl : places.length ≤ 1000) :
    callF G (d + 2) n__law_piece [tv, enc p, enc places] h = .ok (enc (cutP turn p places)) h := by
  refine call_pure D.f rfl rfl (Enc.noref _ _) ?_
  simp_all! [F__law_piece_k51]
  refine seq_to ?_
  simp! []
  refine seq_to ?_
  simp! [lenV_enc, rngR_nat (show places.length ≤ 1000000 by omega)]
  refine forL_range (PcJ tv turn p places h) places.length ?_ ?_ ⟨none, none, rfl, rfl⟩
  · rintro k hk e h1 ⟨x, y, rfl, rfl⟩
    dsimp! []
    refine seq_to ?_
    have e1 : ∀ xs, (h ++ [GO.lst xs])[h.length]? = some (.lst xs) := fun xs => get_push
    have hz := szv
    dsimp! [isLst_ref (e1 _)]
    rw [evS_map (List.range k) I (fun i => I (tieIn turn p (places.getD i 0) (places.getD k 0))) (gd := none) (h1 := h ++ [.lst (((List.range k).map fun k => (List.range k).map fun i => tieIn turn p (places.getD i 0) (places.getD k 0)).map enc)]) (by dsimp! [rngR_nat (show k ≤ 1000000 by omega)]) rfl (by simp; omega)]
    · simp! [app_lst (e1 _) _ (show (((List.range k).map fun k => (List.range k).map fun i => tieIn turn p (places.getD i 0) (places.getD k 0)).map enc).length < szL by simp; omega)]
      refine nil_to ⟨_, _, rfl, ?_⟩
      rw [List.set_append_right _ _ (by omega)]
      simp [List.range_succ, enc_list, enc_nat, Function.comp_def]
    · intro i hi
      have hi := List.mem_range.mp hi
      refine ⟨_, rfl, ?_⟩
      dsimp! [wipeE, idx_N hk, idx_N (show i < places.length by omega)]
      rw [law_tie_sp D._law_tie d hv.push w ht (hp.at_ (by omega)) (hp.at_ hk) (hp.ne (by omega) hk (by omega))]
  · rintro e h1 ⟨x, y, rfl, rfl⟩
    try rw [Kn_nxt]
    refine seq_to ?_
    simp! [sqT_ref (get_push (h := h))]
    exact ⟨rfl, (Pre.refl h).push _⟩

/-! ### orders -/
def ordIn (k : Nat) (o : List Nat) : List (List Nat) := (List.range (k + 1)).map fun at_ => o.take at_ ++ [k] ++ o.drop at_
def orders : Nat → List (List Nat)
  | 0 => [[]]
  | k + 1 => (orders k).flatMap (ordIn k)
theorem orders_len : ∀ {k : Nat} {o : List Nat}, o ∈ orders k → o.length = k
  | 0, o, h => by rw [List.mem_singleton.mp h]; rfl
  | k + 1, o, h => by
    obtain ⟨o2, h2, h3⟩ := List.mem_flatMap.mp h
    obtain ⟨at_, h4, rfl⟩ := List.mem_map.mp h3
    have := orders_len h2
    have := List.mem_range.mp h4
    simp
    omega
theorem orders_many {k : Nat} (hk : k ≤ 4) : (orders k).length ≤ 24 := by
  match k, hk with
  | 0, _ => decide
  | 1, _ => decide
  | 2, _ => decide
  | 3, _ => decide
  | 4, _ => decide
theorem orders_plc {k : Nat} (hk : k ≤ 4) : ∀ o ∈ orders k, Plc k o := by
  have : ∀ o ∈ orders k, (∀ x ∈ o, x < k) ∧ o.Nodup := by
    match k, hk with
    | 0, _ => decide
    | 1, _ => decide
    | 2, _ => decide
    | 3, _ => decide
    | 4, _ => decide +kernel
  exact fun o h => ⟨(this o h).1, (this o h).2⟩
theorem orders_pre {k : Nat} (hk : k + 1 ≤ 4) (i : Nat) {j : Nat} (hi : i < (orders k).length) (hj : j ≤ k) : (((orders k).take i).flatMap (ordIn k) ++ (List.range j).map fun at_ => (orders k)[i].take at_ ++ [k] ++ (orders k)[i].drop at_).length ≤ 24 := by
  have h1 := orders_many hk
  have e : orders (k + 1) = ((orders k).take i).flatMap (ordIn k) ++ (ordIn k (orders k)[i] ++ ((orders k).drop (i + 1)).flatMap (ordIn k)) := by
    rw [← List.flatMap_cons, ← List.flatMap_append, ← List.drop_eq_getElem_cons hi, List.take_append_drop]
    rfl
  rw [e, List.length_append, List.length_append] at h1
  have h2 : (ordIn k (orders k)[i]).length = k + 1 := by simp [ordIn]
  rw [List.length_append, List.length_map, List.length_range]
  omega
def OrJ (m : Nat) (h : GH) (k : Nat) (e : Env) (h1 : GH) : Prop := ∃ x y z w n, e = [some (I m), some (.ref n), x, y, z, w] ∧ h.length ≤ n ∧ h1[n]? = some (.lst ((orders k).map enc)) ∧ Pre h h1
def OrK (m : Nat) (h1 : GH) (k n : Nat) (i : Nat) (e : Env) (h2 : GH) : Prop := ∃ x y, e = [some (I m), some (.ref n), some (I k), some (.ref h1.length), x, y] ∧ h2[n]? = some (.lst ((orders k).map enc)) ∧ h2[h1.length]? = some (.lst ((((orders k).take i).flatMap (ordIn k)).map enc)) ∧ Pre h1 h2
def OrL (m : Nat) (h1 : GH) (k n i : Nat) (o : List Nat) (j : Nat) (e : Env) (h2 : GH) : Prop := ∃ y, e = [some (I m), some (.ref n), some (I k), some (.ref h1.length), some (enc o), y] ∧ h2[n]? = some (.lst ((orders k).map enc)) ∧ h2[h1.length]? = some (.lst ((((orders k).take i).flatMap (ordIn k) ++ (List.range j).map fun at_ => o.take at_ ++ [k] ++ o.drop at_).map enc)) ∧ Pre h1 h2
theorem add_enc3 {a b : List Nat} {h : GH} (q : a.length + b.length ≤ szL) : opAdd (enc a) (enc b) h = .ok (enc (a ++ b)) h := add_enc q
theorem tup1 (k : Nat) : GV.tup [I k] = enc [k] := rfl
theorem orders_sp {G : Prg} (D : D__law_orders_k51 G) (d : Nat) {m : Nat} (hm : m ≤ 4) (h : GH) :
    To (callF G (d + 1) n__law_orders [I m] h) fun v h1 => ∃ n, v = .ref n ∧ h.length ≤ n ∧ h1[n]? = some (.lst ((orders m).map enc)) ∧ Pre h h1 := by
  refine call_to D.f rfl rfl ?_
  simp_all! [F__law_orders_k51]
  refine seq_to ?_
  simp! []
  refine seq_to ?_
  simp! [rngR_nat (show m ≤ 1000000 by omega)]
  refine forL_range (OrJ m h) m ?_ ?_ ⟨none, none, none, none, h.length, rfl, Nat.le_refl _, get_push, (Pre.refl h).push _⟩
  · rintro k hk e h1 ⟨x, y, z, w, n, rfl, hn, e1, M1⟩
    have hn2 := lt_of_get e1
    dsimp! []
    refine seq_to ?_
    simp! []
    refine seq_to ?_
    simp! [itS_ref (get_app e1)]
    refine forL_at enc (OrK m h1 k n) (orders k) ?_ ?_ ?_ ⟨z, w, rfl, get_app e1, get_push, (Pre.refl h1).push _⟩
    · rintro i e h2 ⟨x, y, rfl, e2, -, -⟩
      exact chk_some e2
    · rintro i hi e h2 ⟨x, y, rfl, e2, e3, M2⟩
      dsimp! []
      refine seq_to ?_
      simp! [add_nat, rngR_nat (show k + 1 ≤ 1000000 by omega)]
      refine forL_range (OrL m h1 k n i (orders k)[i]) (k + 1) ?_ ?_ ⟨y, rfl, e2, by simpa using e3, M2⟩
      · rintro j hj e h3 ⟨y, rfl, e4, e5, M3⟩
        have ho : (orders k)[i].length = k := orders_len (List.getElem_mem _)
        have hs := orders_pre (k := k) (by omega) i hi (show j ≤ k by omega)
        dsimp! []
        refine seq_to ?_
        dsimp! [isLst_ref e5, slc_take, slc_drop, tup1, add_enc3 (show ((orders k)[i].take j).length + [k].length ≤ szL by have := szv; simp; omega), add_enc3 (show ((orders k)[i].take j ++ [k]).length + ((orders k)[i].drop j).length ≤ szL by have := szv; simp; omega), app_lst e5 _ (by have := szv; rw [List.length_map]; omega)]
        simp! []
        refine nil_to ⟨_, rfl, ?_, ?_, M3.set (.inr (Nat.le_refl _)) _⟩
        · rw [get_ne (by omega), e4]
        · rw [get_put (lt_of_get e5), List.range_succ]
          simp
      · rintro e h3 ⟨y, rfl, e4, e5, M3⟩
        try rw [Kn_nxt]
        refine nil_to ⟨_, _, rfl, e4, ?_, M3⟩
        rw [e5]
        congr 3
        rw [List.take_succ_eq_append_getElem hi, List.flatMap_append]
        simp [ordIn]
    · rintro e h2 ⟨x, y, rfl, e2, e3, M2⟩
      try rw [Kn_nxt]
      refine seq_to ?_
      simp! []
      refine nil_to ⟨_, _, _, _, h1.length, rfl, by have := M1.len; omega, ?_, M1.trans M2⟩
      rw [e3, List.take_length]
      rfl
  · rintro e h1 ⟨x, y, z, w, n, rfl, hn, e1, M1⟩
    try rw [Kn_nxt]
    refine seq_to ?_
    simp! []
    exact ⟨_, rfl, n, rfl, hn, e1, M1⟩
end Pv
end Pp_C4
section Pp_C5
set_option Elab.async false
set_option linter.all false
set_option maxRecDepth 10000
namespace Pv
open PySem (Str)
open GV
open Enc (enc)
local macro_rules
  | `(tactic| simp! [$ls,*]) => `(tactic| try simp only [eE_var, eE_cst, eE_tup, eE_lst, eE_tpl, eE_op, eE_neg, eE_isn, eE_ntn, eE_and, eE_or, eE_not, eE_ite, eE_slc, eE_fld, eE_call, eE_perm, eE_mk, eE_len, eE_int, eE_str, eE_b2, eE_all, eE_any, eE_isi, eE_rng, eE_m1, eE_dic, eA_nil, eA_cons, eO_non, eO_som, eQ_non, eQ_som, eS_val, eS_lsv, eS_rgl, eS_dsp, eS_lis, eS_srt, eI_val, eI_sq, eI_enm, eI_rng, eI_rngS, eI_prm, xS_pass, xS_brk, xS_cnt, xS_ret, xS_exp, xS_nm, xS_tg, xS_fld, xS_sub, xS_iff, xS_for, forB_nm, forB_pair, enc_nat, getV_ok, tru_bl, tru_non, idxI_nat, intV_int, intV_bl, szT0, szT1, szT2, szT3, szT4, szS0, szS1, szS2, szS3, szS4, szS5, setTg_nm, oE_add, oE_sub, oE_mul, oE_fdiv, oE_mod, oE_pow, oE_eq, oE_ne, oE_lt, oE_le, oE_gt, oE_ge, oE_idx, oE_inn, oE_nin, Res.bind_ok, Res.bind_exc, ite_tt, ite_ff, if_true, if_false, List.map_cons, List.map_nil, List.length_cons, List.length_nil, Nat.zero_add, Nat.reduceAdd, Nat.reduceSub, List.replicate_succ, List.replicate_zero, List.cons_append, List.nil_append, List.getElem?_cons_zero, List.getElem?_cons_succ, List.set_cons_zero, List.set_cons_succ, retV, To_ok, To_bind, Kn_nxt, Kn_ret, Kn_brk, Kn_cnt, $ls,*])
local macro_rules
  | `(tactic| dsimp! [$ls,*]) => `(tactic| simp only [eE_var, eE_cst, eE_tup, eE_lst, eE_tpl, eE_op, eE_neg, eE_isn, eE_ntn, eE_and, eE_or, eE_not, eE_ite, eE_slc, eE_fld, eE_call, eE_perm, eE_mk, eE_len, eE_int, eE_str, eE_b2, eE_all, eE_any, eE_isi, eE_rng, eE_m1, eE_dic, eA_nil, eA_cons, eO_non, eO_som, eQ_non, eQ_som, eS_val, eS_lsv, eS_rgl, eS_dsp, eS_lis, eS_srt, eI_val, eI_sq, eI_enm, eI_rng, eI_rngS, eI_prm, xS_pass, xS_brk, xS_cnt, xS_ret, xS_exp, xS_nm, xS_tg, xS_fld, xS_sub, xS_iff, xS_for, forB_nm, forB_pair, enc_nat, getV_ok, tru_bl, tru_non, idxI_nat, intV_int, intV_bl, szT0, szT1, szT2, szT3, szT4, szS0, szS1, szS2, szS3, szS4, szS5, setTg_nm, oE_add, oE_sub, oE_mul, oE_fdiv, oE_mod, oE_pow, oE_eq, oE_ne, oE_lt, oE_le, oE_gt, oE_ge, oE_idx, oE_inn, oE_nin, Res.bind_ok, Res.bind_exc, ite_tt, ite_ff, if_true, if_false, List.map_cons, List.map_nil, List.length_cons, List.length_nil, Nat.zero_add, Nat.reduceAdd, Nat.reduceSub, List.replicate_succ, List.replicate_zero, List.cons_append, List.nil_append, List.getElem?_cons_zero, List.getElem?_cons_succ, List.set_cons_zero, List.set_cons_succ, $ls,*])
local macro_rules
  | `(tactic| simp_all! [$ls,*]) => `(tactic| simp only [List.map_cons, List.map_nil, List.length_cons, List.length_nil, Nat.zero_add, Nat.reduceAdd, Nat.reduceSub, List.replicate_succ, List.replicate_zero, List.cons_append, List.nil_append, List.getElem?_cons_zero, List.getElem?_cons_succ, List.set_cons_zero, List.set_cons_succ, $ls,*])
/-! ### dicts that hold True for each key -/
section
variable {A : Type} [Enc A] [DecidableEq A]
def kvT (S : List (List A)) : List (GV × GV) := S.map fun p => (enc p, .bl true)
def ins {B : Type} [DecidableEq B] (S : List B) (p : B) : List B := if p ∈ S then S else S ++ [p]
theorem mem_ins {B : Type} [DecidableEq B] {S : List B} {p x : B} : x ∈ ins S p ↔ x ∈ S ∨ x = p := by
  unfold ins
  split
  · exact ⟨.inl, fun h => h.elim id fun e => e ▸ ‹_›⟩
  · simp
theorem mem_insL {B : Type} [DecidableEq B] {x : B} : ∀ {l S : List B}, x ∈ l.foldl ins S ↔ x ∈ S ∨ x ∈ l
  | [], S => by simp
  | p :: l, S => by
    rw [List.foldl_cons, mem_insL, mem_ins, List.mem_cons, or_assoc]
theorem len_ins {B : Type} [DecidableEq B] {S : List B} {p : B} : (ins S p).length ≤ S.length + 1 := by
  unfold ins
  split <;> simp
theorem len_insL {B : Type} [DecidableEq B] : ∀ {l S : List B}, (l.foldl ins S).length ≤ S.length + l.length
  | [], S => by simp
  | p :: l, S => by
    have h1 := len_insL (l := l) (S := ins S p)
    have h2 := len_ins (S := S) (p := p)
    rw [List.foldl_cons, List.length_cons]
    omega
theorem nodup_ins {B : Type} [DecidableEq B] {S : List B} {p : B} (h : S.Nodup) : (ins S p).Nodup := by
  unfold ins
  split
  · exact h
  · rename_i q
    rw [List.nodup_append]
    refine ⟨h, by simp, fun a ha b hb e => ?_⟩
    rw [List.mem_singleton.mp hb] at e
    exact q (e ▸ ha)
theorem nodup_insL {B : Type} [DecidableEq B] : ∀ {l S : List B}, S.Nodup → (l.foldl ins S).Nodup
  | [], S, h => h
  | p :: l, S, h => nodup_insL (l := l) (nodup_ins h)
theorem look_kvT (S : List (List A)) (p : List A) : look (kvT S) (enc p) = if p ∈ S then some (.bl true) else none := by
  unfold look kvT
  induction S with
  | nil => simp
  | cons q S ih =>
    rw [List.map_cons, List.find?_cons]
    by_cases e : q = p
    · subst e
      simp
    · have : decide (num (enc q) = num (enc p)) = false := decide_eq_false fun z => e ((enc_num q p).mp z)
      simp only [this]
      rw [ih]
      simp [List.mem_cons, Ne.symm e, show ¬ p = q from fun z => e z.symm]
theorem put_kvT (S : List (List A)) (p : List A) : put (kvT S) (enc p) (.bl true) = kvT (ins S p) := by
  unfold put ins
  rw [look_kvT]
  by_cases e : p ∈ S
  · simp only [e, if_true, Option.isSome_some]
    unfold kvT
    rw [List.map_map]
    refine List.map_congr_left fun q _ => ?_
    simp only [Function.comp]
    split <;> rfl
  · simp only [e, if_false, Option.isSome_none]
    unfold kvT
    simp
theorem keyT_enc (hd : Enc.dep A ≤ 6) (p : List A) : keyT (enc p) = true := by
  show oksN 6 (p.map enc) = true
  rw [oksN_all, List.all_map, List.all_eq_true]
  exact fun x _ => Enc.ok x 6 hd
theorem keyOk_kvT (hd : Enc.dep A ≤ 6) (S : List (List A)) (p : List A) : keyOk (kvT S) (enc p) = true := by
  unfold keyOk
  rw [keyT_enc hd]
  have : (kvT S).all (fun p => keyT p.1) = true := by
    unfold kvT
    rw [List.all_map, List.all_eq_true]
    exact fun x _ => keyT_enc hd x
  rw [this]
  rfl
theorem len_kvT (S : List (List A)) : (kvT S).length = S.length := by simp [kvT]
theorem in_kvT (hd : Enc.dep A ≤ 6) {S : List (List A)} {n : Nat} {h : GH} (e : h[n]? = some (.dct (kvT S))) (p : List A) : opIn (enc p) (.ref n) h = some (decide (p ∈ S)) := by
  unfold opIn
  simp only [e, keyOk_kvT hd, if_true, look_kvT]
  congr 1
  by_cases q : p ∈ S <;> simp [q]
theorem setR_kvT (hd : Enc.dep A ≤ 6) {S : List (List A)} {n : Nat} {h : GH} {env : Env} (e : h[n]? = some (.dct (kvT S))) (p : List A) (hl : S.length < szL) : setR (.ref n) (enc p) (.bl true) env h = .ok env (h.set n (.dct (kvT (ins S p)))) := by
  rw [setR_dct e (keyOk_kvT hd S p) (by rw [len_kvT]; exact hl), put_kvT]
end
def badL (turn : List Nat) (bs : List (List (List Nat))) : List (List (List Nat)) := bs.flatMap fun bar => (orders bar.length).map (cutP turn bar)
def badS (turn : List Nat) (bs : List (List (List Nat))) : List (List (List Nat)) := (badL turn bs).foldl ins []
theorem flat_len {A B : Type} (f : A → List B) (c : Nat) : ∀ (l : List A), (∀ x ∈ l, (f x).length ≤ c) → (l.flatMap f).length ≤ c * l.length
  | [], _ => by simp
  | x :: l, h => by
    have h1 := flat_len f c l fun y hy => h y (List.mem_cons_of_mem _ hy)
    have h2 := h x (List.mem_cons_self ..)
    rw [List.flatMap_cons, List.length_append, List.length_cons, Nat.mul_add]
    omega
theorem badL_succ (turn : List Nat) (bs : List (List (List Nat))) {k : Nat} (hk : k < bs.length) : badL turn (bs.take (k + 1)) = badL turn (bs.take k) ++ (orders bs[k].length).map (cutP turn bs[k]) := by
  rw [List.take_succ_eq_append_getElem hk]
  simp only [badL, List.flatMap_append, List.flatMap_singleton]
/-- bars as they are drawn -/
def Bars (r : Nat) (bs : List (List (List Nat))) : Prop := ∀ bar ∈ bs, WfP r bar ∧ (bar.length = 3 ∨ bar.length = 4)
def BdJ (tn bn : Nat) (turn : List Nat) (bs : List (List (List Nat))) (h : GH) (k : Nat) (e : Env) (h1 : GH) : Prop := ∃ x y, e = [some (.ref tn), some (.ref bn), some (.ref h.length), x, y] ∧ h1[h.length]? = some (.dct (kvT ((badL turn (bs.take k)).foldl ins []))) ∧ Pre h h1
def BdK (tn bn : Nat) (turn : List Nat) (bs : List (List (List Nat))) (h : GH) (k on : Nat) (bar : List (List Nat)) (i : Nat) (e : Env) (h1 : GH) : Prop := ∃ y, e = [some (.ref tn), some (.ref bn), some (.ref h.length), some (enc bar), y] ∧ h1[h.length]? = some (.dct (kvT ((badL turn (bs.take k) ++ ((orders bar.length).take i).map (cutP turn bar)).foldl ins []))) ∧ h1[on]? = some (.lst ((orders bar.length).map enc)) ∧ Pre h h1
theorem law_bad_sp {G : Prg} (D : D__law_bad G) (d : Nat) {r tn bn : Nat} {turn : List Nat} {bs : List (List (List Nat))} {h : GH} (ht : turn.length = r) (hb : Bars r bs) (hl : bs.length ≤ 1000) (e1 : h[tn]? = some (.lst (turn.map I))) (e2 : h[bn]? = some (.lst (bs.map enc))) :
    To (callF G (d + 3) n__law_bad [.ref tn, .ref bn] h) fun v h1 => ∃ n, v = .ref n ∧ h.length ≤ n ∧ h1[n]? = some (.dct (kvT (badS turn bs))) ∧ Pre h h1 := by
  refine call_to D.f rfl rfl ?_
  simp_all! [F__law_bad]
  refine seq_to ?_
  simp! []
  refine seq_to ?_
  simp! [itS_ref (get_app e2)]
  have bl : ∀ k, (badL turn (bs.take k)).length ≤ 24 * k := fun k => by
    have h1 := flat_len (fun bar => (orders bar.length).map (cutP turn bar)) 24 (bs.take k) fun bar hbar => by
      rw [List.length_map]
      exact orders_many (by have := (hb bar (List.mem_of_mem_take hbar)).2; omega)
    have h2 : (bs.take k).length ≤ k := by rw [List.length_take]; omega
    exact Nat.le_trans h1 (Nat.mul_le_mul_left _ h2)
  refine forL_at enc (BdJ tn bn turn bs h) bs (fun k e h1 ⟨x, y, _, e3, p⟩ => chk_some (p.get e2)) ?_ ?_ ⟨none, none, rfl, get_push, (Pre.refl h).push _⟩
  · rintro k hk e h1 ⟨x, y, rfl, e3, P1⟩
    obtain ⟨w, wl⟩ := hb _ (List.getElem_mem hk)
    have w4 : bs[k].length ≤ 4 := by omega
    dsimp! []
    refine seq_to ?_
    simp! [lenV_enc]
    refine (orders_sp D._law_orders _ w4 h1).mono ?_
    rintro _ h2 ⟨on, rfl, hon, e4, P2⟩
    simp! [itS_ref e4]
    have hn := lt_of_get e3
    have P12 := P1.trans P2
    refine forL_at enc (BdK tn bn turn bs h k on bs[k]) (orders bs[k].length) (fun k e h1 ⟨y, _, _, e5, _⟩ => chk_some e5) ?_ ?_ ⟨y, rfl, by simpa using P2.get e3, e4, P12⟩
    · rintro i hi e h3 ⟨y, rfl, e5, e6, P3⟩
      have pl := orders_plc w4 _ (List.getElem_mem hi)
      have hz : ((badL turn (bs.take k) ++ ((orders bs[k].length).take i).map (cutP turn bs[k])).foldl ins []).length < szL := by
        have h5 := len_insL (l := badL turn (bs.take k) ++ ((orders bs[k].length).take i).map (cutP turn bs[k])) (S := [])
        have h6 := orders_many w4
        have h7 := bl k
        rw [List.length_append, List.length_map, List.length_take] at h5
        have := szv
        simp only [List.length_nil] at h5
        omega
      dsimp! []
      refine seq_to ?_
      simp! [law_piece_sp D._law_piece _ (Seq.lst (P3.get e1)) w ht pl (by have := pl.len; omega), setR_kvT (show Enc.dep (List Nat) ≤ 6 by decide) e5 _ hz]
      refine nil_to ⟨_, rfl, ?_, ?_, P3.set (.inr (Nat.le_refl _)) _⟩
      · rw [get_put (lt_of_get e5), List.take_succ_eq_append_getElem hi, List.map_append, ← List.append_assoc, List.foldl_append (l' := List.map _ [_])]
        rfl
      · rw [get_ne (by omega), e6]
    · rintro e h3 ⟨y, rfl, e5, e6, P3⟩
      try rw [Kn_nxt]
      refine nil_to ⟨_, _, rfl, ?_, P3⟩
      rw [e5, List.take_length, badL_succ]
  · rintro e h1 ⟨x, y, rfl, e3, P1⟩
    try rw [Kn_nxt]
    refine seq_to ?_
    simp! []
    rw [List.take_length] at e3
    exact ⟨_, rfl, _, rfl, Nat.le_refl _, e3, P1⟩
theorem cut63 (ns : List Int) (h : ns.length ≤ 63) : cutG (ns.map GV.int) none (some ((63 : Nat) : Int)) = ns.map .int := by
  unfold cutG
  rw [HT.sIx_none, sIx_nat, List.length_map, List.drop_zero, Nat.min_eq_right h, Nat.sub_zero, List.take_of_length_le (by simp)]
theorem flow_sp {G : Prg} (D : D__law_flow G) (d : Nat) (ns : List Int) (hn : ns.length ≤ 63) (h : GH) :
    To (callF G (d + 1) n__law_flow [.frl (ns.map .int)] h) fun v h1 => ∃ f c, v = .ref f ∧ h.length ≤ f ∧ FlowAt h1 f c ∧ Pre h h1 := by
  refine call_to D.f rfl rfl ?_
  simp_all! [F__law_flow]
  refine seq_to ?_
  have e0 : opSlc (.frl (ns.map .int)) none (some ((63 : Nat) : Int)) h = .ok (.ref h.length) (h ++ [.lst (ns.map .int)]) := by
    show Res.ok (GV.ref h.length) (h ++ [GO.lst (cutG (ns.map GV.int) none (some ((63 : Nat) : Int)))]) = _
    rw [cut63 ns hn]
  have e1 : ∀ g : GH, (h ++ [GO.lst (ns.map .int)] ++ g)[h.length]? = some (.lst (ns.map .int)) := fun g => get_app get_push
  simp only [xS_nm, eE_lst]
  rw [evS_map ns GV.int GV.int (gd := some (h.length, ns.map .int)) (h1 := h ++ [.lst (ns.map .int)]) (by dsimp! [e0, itS_ref (get_push (h := h))]) (chk_some get_push) (by have := szv; omega) (fun x _ => ⟨_, rfl, by dsimp! [wipeE]⟩)]
  simp! []
  have hc : (h ++ [GO.lst (ns.map .int)] ++ [GO.lst (ns.map .int)])[(h ++ [GO.lst (ns.map .int)]).length]? = some (.lst (ns.map .int)) := get_push
  have P : Pre h (h ++ [GO.lst (ns.map .int)] ++ [GO.lst (ns.map .int)]) := ((Pre.refl h).push _).push _
  have hcl : h.length ≤ (h ++ [GO.lst (ns.map .int)]).length := by simp
  generalize (h ++ [GO.lst (ns.map .int)]).length = c at hc hcl
  generalize h ++ [GO.lst (ns.map .int)] ++ [GO.lst (ns.map .int)] = h2 at hc P
  refine seq_to ?_
  simp! [lenV_ref hc, add_nat, List.length_map]
  refine seq_to ?_
  simp! [itS_ref hc]
  refine forL_to GV.int (fun _ e h3 => h3 = h2 ∧ ∃ x s, e = [some (.frl (ns.map .int)), some (.ref c), some (.int s), x]) (by rintro r e h3 ⟨rfl, _⟩; exact chk_some hc) ?_ ?_ _ _ _ ⟨rfl, _, _, rfl⟩
  · rintro x r e h3 ⟨rfl, y, s, rfl⟩
    dsimp! []
    refine seq_to ?_
    simp! [mul_int (show -1000000 < ((48271 : Nat) : Int) ∧ ((48271 : Nat) : Int) < 1000000 by omega), add_int, mod_int (show ((2147483647 : Nat) : Int) ≠ 0 by omega)]
    exact nil_to ⟨rfl, _, _, rfl⟩
  · rintro e h3 ⟨rfl, x, s, rfl⟩
    try rw [Kn_nxt]
    refine seq_to ?_
    simp! []
    exact ⟨_, rfl, _, c, rfl, P.len, ⟨by have := lt_of_get hc; omega, ns, 0, s, 0, 0, get_app hc, get_push⟩, P.push _⟩

/-! ### the table of a law -/
structure KitAt (h : GH) (k : Nat) (r : Nat) (turn : List Nat) (bs : List (List (List Nat))) (wide : Bool) (tn bn dn : Nat) : Prop where
  k : h[k]? = some (.lst [I r, .ref tn, .ref bn, .ref dn, .bl wide])
  t : h[tn]? = some (.lst (turn.map I))
  b : h[bn]? = some (.lst (bs.map enc))
  d : h[dn]? = some (.dct (kvT (badS turn bs)))
theorem KitAt.mod {S : List Nat} {h h1 : GH} {k r : Nat} {turn : List Nat} {bs : List (List (List Nat))} {wide : Bool} {tn bn dn : Nat} (K : KitAt h k r turn bs wide tn bn dn) (m : Mod S h h1) (n1 : k ∉ S) (n2 : tn ∉ S) (n3 : bn ∉ S) (n4 : dn ∉ S) : KitAt h1 k r turn bs wide tn bn dn :=
  ⟨m.get K.k n1, m.get K.t n2, m.get K.b n3, m.get K.d n4⟩
/-- what is drawn -/
structure KitOk (most r : Nat) (turn : List Nat) (bs : List (List (List Nat))) (wide : Bool) : Prop where
  r0 : 1 ≤ r
  r4 : r ≤ 4
  turn : IsTurn r turn
  bars : Bars r bs
  len : bs.length ≤ most * r
  wide : wide = bs.any fun b => decide (b.length = 4)
  four : ∀ b ∈ bs, b.length = 4 → r < 3
def TbJ (most f c r tn : Nat) (turn : List Nat) (h : GH) (k : Nat) (e : Env) (h1 : GH) : Prop := ∃ x bn bs wide, e = [some (.ref f), some (I most), some (I r), some (.ref tn), some (.ref bn), some (.bl wide), x] ∧ bs.length = k ∧ Bars r bs ∧ wide = bs.any (fun b => decide (b.length = 4)) ∧ (∀ b ∈ bs, b.length = 4 → r < 3) ∧ h.length ≤ tn ∧ h.length ≤ bn ∧ tn ≠ bn ∧
  h1[tn]? = some (.lst (turn.map I)) ∧ h1[bn]? = some (.lst (bs.map enc)) ∧ FlowAt h1 f c ∧ Mod [f] h h1
theorem Bars.snoc {r : Nat} {bs : List (List (List Nat))} (w : Bars r bs) {p : List (List Nat)} (wp : WfP r p) (hp : p.length = 3 ∨ p.length = 4) : Bars r (bs ++ [p]) := by
  intro b hb
  rcases List.mem_append.mp hb with z | z
  · exact w b z
  · rw [List.mem_singleton.mp z]
    exact ⟨wp, hp⟩
theorem table_sp {G : Prg} (D : D__law_table G) (d : Nat) {f c most : Nat} (hm : most ≤ 50) {h : GH} (F : FlowAt h f c) :
    To (callF G (d + 4) n__law_table [.ref f, I most] h) fun v h1 => ∃ k r turn bs wide tn bn dn, v = .ref k ∧ h.length ≤ k ∧ h.length ≤ tn ∧ h.length ≤ bn ∧ h.length ≤ dn ∧ KitAt h1 k r turn bs wide tn bn dn ∧ KitOk most r turn bs wide ∧ FlowAt h1 f c ∧ Mod [f] h h1 := by
  refine call_to D.f rfl rfl ?_
  obtain ⟨hf, hc⟩ := F.lt
  simp_all! [F__law_table]
  refine seq_to ?_
  simp! []
  refine (next_sp D._law_next _ (by omega) (by omega) F).mono ?_
  rintro _ h1 ⟨r0, hr0, rfl, F1, M1⟩
  simp! [add_nat]
  have hr : ∃ r, r = 1 + r0 ∧ 1 ≤ r ∧ r ≤ 4 := ⟨_, rfl, by omega, by omega⟩
  obtain ⟨r, er, hr1, hr4⟩ := hr
  rw [← er]
  refine seq_to ?_
  simp! []
  refine (turn_sp D._law_turn _ (show r < 1000 by omega) F1).mono ?_
  rintro _ h2 ⟨tn, turn, rfl, e2, htn, wt, F2, M2⟩
  simp! []
  have M12 := M1.trans M2
  have htn2 := lt_of_get e2
  have htn1 : h.length ≤ tn := Nat.le_trans M1.len htn
  refine seq_to ?_
  simp! []
  refine seq_to ?_
  simp! []
  refine seq_to ?_
  simp! [mul_nat (show r < 1000000 by omega), add_nat]
  have hmr : most * r ≤ 200 := Nat.le_trans (Nat.mul_le_mul hm hr4) (by decide)
  refine (next_sp D._law_next _ (by omega) (by omega) F2.push).mono ?_
  rintro _ h3 ⟨n, hn, rfl, F3, M3⟩
  have M23 := (M12.push [.lst []]).trans M3
  simp! [rngR_nat (show n ≤ 1000000 by omega)]
  have f2 := F2.lt
  refine forL_range (TbJ most f c r tn turn h) n ?_ ?_ ⟨none, h2.length, [], false, rfl, rfl, (fun _ hb => nomatch hb), rfl, (fun _ hb => nomatch hb), htn1, Nat.le_trans htn1 (by omega), by omega, M3.get (get_app e2) (by simp; omega), M3.get get_push (by simp; omega), F3, M23⟩
  · rintro k hk e h4 ⟨x, bn, bs, wide, rfl, hl, wb, ew, w4, q1, q2, q3, e3, e4, F4, M4⟩
    dsimp! []
    refine seq_to ?_
    simp! [lt_nat]
    -- a bar of so many points
    have add : ∀ (h5 : GH) (m : Nat) (wd : Bool), (m = 3 ∧ wd = wide ∨ m = 4 ∧ wd = true ∧ r < 3) → FlowAt h5 f c → Mod [f] h4 h5 → ∀ (R : GV → GH → Prop), (∀ h6 p, WfP r p → p.length = m → h6[bn]? = some (.lst (bs.map enc)) → FlowAt h6 f c → Mod [f] h h6 → h6[tn]? = some (.lst (turn.map I)) → R (enc p) h6) → To (callF G (d + 3) n__law_picture [.ref f, I r, I m] h5) R := by
      intro h5 m wd hm F5 M5 R hR
      refine (picture_sp D._law_picture _ (show 0 < r by omega) (show r < 1000 by omega) (show m < 1000 by omega) F5).mono ?_
      rintro _ h6 ⟨p, rfl, wp, hp, F6, M6⟩
      exact hR h6 p wp hp (M6.get (M5.get e4 (by simp; omega)) (by simp; omega)) F6 ((M4.trans M5).trans M6) (M6.get (M5.get e3 (by simp; omega)) (by simp; omega))
    have three : ∀ h5, FlowAt h5 f c → Mod [f] h4 h5 → h5[bn]? = some (.lst (bs.map enc)) → ∀ Q, To (exSs (callF G (d + 3)) (.cons (.exp (.m1 .append (.var 4) (.call n__law_picture (.cons (.var 0) (.cons (.var 2) (.cons (.cst (I 3)) .nil)))))) .nil) [some (.ref f), some (I most), some (I r), some (.ref tn), some (.ref bn), some (.bl wide), some (I k)] h5) (Kn (callF G (d + 3)) .nil (Ln (TbJ most f c r tn turn h) Q (k + 1))) := by
      intro h5 F5 M5 e5 Q
      refine seq_to ?_
      simp! [isLst_ref e5]
      refine add h5 3 wide (.inl ⟨rfl, rfl⟩) F5 M5 _ fun h6 p wp hp e6 F6 M6 e7 => ?_
      simp! [app_lst e6 _ (show (bs.map enc).length < szL by have := szv; rw [List.length_map]; omega)]
      refine nil_to (nil_to ⟨_, bn, bs ++ [p], wide, rfl, by simp [hl], wb.snoc wp (.inl hp), by rw [List.any_append, ← ew]; simp [hp], ?_, q1, q2, q3, ?_, ?_, F6.set (by omega) (by omega), M6.set (.inr q2) _⟩)
      · intro b hb hb4
        rcases List.mem_append.mp hb with z | z
        · exact w4 b z hb4
        · rw [List.mem_singleton.mp z] at hb4; omega
      · rw [get_ne (by omega), e7]
      · rw [get_put (lt_of_get e6), List.map_append]; rfl
    by_cases c3 : r < 3
    · simp! [c3, decide_true]
      refine (next_sp D._law_next _ (by omega) (by omega) F4).mono ?_
      rintro _ h5 ⟨z, hz, rfl, F5, M5⟩
      simp! [eq_nat]
      have e5 := M5.get e4 (show bn ∉ [f] by simp; omega)
      by_cases cz : z = 0
      · simp! [cz, decide_true]
        refine seq_to ?_
        simp! [isLst_ref e5]
        refine add h5 4 true (.inr ⟨rfl, rfl, c3⟩) F5 M5 _ fun h6 p wp hp e6 F6 M6 e7 => ?_
        simp! [app_lst e6 _ (show (bs.map enc).length < szL by have := szv; rw [List.length_map]; omega)]
        refine seq_to ?_
        simp! []
        refine nil_to (nil_to ⟨_, bn, bs ++ [p], true, rfl, by simp [hl], wb.snoc wp (.inr hp), by rw [List.any_append]; simp [hp], fun _ _ _ => c3, q1, q2, q3, ?_, ?_, F6.set (by omega) (by omega), M6.set (.inr q2) _⟩)
        · rw [get_ne (by omega), e7]
        · rw [get_put (lt_of_get e6), List.map_append]; rfl
      · simp! [cz, decide_false]
        exact three h5 F5 M5 e5 _
    · simp! [c3, decide_false]
      exact three h4 F4 (.refl _ _) e4 _
  · rintro e h4 ⟨x, bn, bs, wide, rfl, hl, wb, ew, w4, q1, q2, q3, e3, e4, F4, M4⟩
    try rw [Kn_nxt]
    refine seq_to ?_
    simp! []
    refine (law_bad_sp D._law_bad _ wt.len wb (by omega) e3 e4).mono ?_
    rintro _ h5 ⟨dn, rfl, hd, e5, P5⟩
    simp! []
    have l4 := M4.len
    exact ⟨_, rfl, _, r, turn, bs, wide, tn, bn, dn, rfl, by have := P5.len; omega, q1, q2, by omega, ⟨get_push, get_app (P5.get e3), get_app (P5.get e4), get_app e5⟩, ⟨hr1, hr4, wt, wb, by omega, ew, w4⟩, (F4.mod P5 (by simp) (by simp)).push, ((M4.trans P5.mod).push _)⟩
end Pv
end Pp_C5
section Pp_C6
set_option Elab.async false
set_option linter.all false
set_option maxRecDepth 10000
namespace Pv
open PySem (Str)
open GV
open Enc (enc)
/-! ### what is sorted -/
class Ord' (A : Type) [Enc A] where
  lt : A → A → Bool
  irr : ∀ a, lt a a = false
  tr : ∀ a b c, lt a b = true → lt b c = true → lt a c = true
  tot : ∀ a b, lt a b = false → lt b a = false → a = b
  alk : ∀ a b : A, PySem.W.alike (dat (enc a)) (dat (enc b)) = true
  eqv : ∀ a b : A, (PySem.PyData.eqv (dat (enc a)) (dat (enc b)) = true) ↔ a = b
  dlt : ∀ a b : A, PySem.W.dataLt (dat (enc a)) (dat (enc b)) = lt a b
instance : Ord' Nat where
  lt := fun a b => decide (a < b)
  irr := fun a => by simp
  tr := fun a b c h1 h2 => by
    simp only [decide_eq_true_eq] at *
    omega
  tot := fun a b h1 h2 => by
    simp only [decide_eq_false_iff_not] at *
    omega
  alk := fun a b => rfl
  eqv := fun a b => by
    show (PySem.PyData.eqv (.int a) (.int b) = true) ↔ _
    simp only [PySem.PyData.eqv, decide_eq_true_eq, beq_iff_eq]
    exact Int.ofNat_inj
  dlt := fun a b => by
    show PySem.W.dataLt (.int a) (.int b) = _
    rw [PySem.W.dataLt_int]
    simp
section
variable {A : Type} [Enc A] [Ord' A]
def lexB : List A → List A → Bool
  | [], [] => false
  | [], _ :: _ => true
  | _ :: _, [] => false
  | a :: l, b :: m => Ord'.lt a b || (!Ord'.lt b a && lexB l m)
theorem lexB_irr : ∀ l : List A, lexB l l = false
  | [] => rfl
  | a :: l => by simp [lexB, Ord'.irr, lexB_irr l]
theorem lexB_tr : ∀ a b c : List A, lexB a b = true → lexB b c = true → lexB a c = true
  | [], [], c, h, _ => by simp [lexB] at h
  | [], _ :: _, [], _, h => by simp [lexB] at h
  | [], _ :: _, _ :: _, _, _ => rfl
  | _ :: _, [], c, h, _ => by simp [lexB] at h
  | _ :: _, _ :: _, [], _, h => by simp [lexB] at h
  | a :: l, b :: m, c :: n, h1, h2 => by
    simp only [lexB, Bool.or_eq_true, Bool.and_eq_true, Bool.not_eq_true'] at *
    rcases h1 with h1 | ⟨h1, h1'⟩
    · rcases h2 with h2 | ⟨h2, h2'⟩
      · exact .inl (Ord'.tr _ _ _ h1 h2)
      · left
        cases q : Ord'.lt b c with
        | true => exact Ord'.tr _ _ _ h1 q
        | false => rw [← Ord'.tot b c q h2]; exact h1
    · rcases h2 with h2 | ⟨h2, h2'⟩
      · left
        cases q : Ord'.lt a b with
        | true => exact Ord'.tr _ _ _ q h2
        | false => rw [Ord'.tot a b q h1]; exact h2
      · cases q : Ord'.lt a b with
        | true =>
          left
          cases q2 : Ord'.lt b c with
          | true => exact Ord'.tr _ _ _ q q2
          | false => rw [← Ord'.tot b c q2 h2]; exact q
        | false =>
          have e := Ord'.tot a b q h1
          subst e
          exact .inr ⟨h2, lexB_tr l m n h1' h2'⟩
theorem lexB_tot : ∀ a b : List A, lexB a b = false → lexB b a = false → a = b
  | [], [], _, _ => rfl
  | [], _ :: _, h, _ => by simp [lexB] at h
  | _ :: _, [], _, h => by simp [lexB] at h
  | a :: l, b :: m, h1, h2 => by
    simp only [lexB, Bool.or_eq_false_iff, Bool.and_eq_false_iff, Bool.not_eq_false'] at *
    have e := Ord'.tot a b h1.1 h2.1
    subst e
    rcases h1.2 with q | q
    · rw [h1.1] at q; cases q
    · rcases h2.2 with z | z
      · rw [h1.1] at z; cases z
      · rw [lexB_tot l m q z]
theorem dats_map (xs : List GV) : dats xs = xs.map dat := by
  induction xs with
  | nil => rfl
  | cons x xs ih => rw [dats, ih]; rfl
theorem alikeAll_enc : ∀ l m : List A, PySem.W.alikeAll ((l.map enc).map dat) ((m.map enc).map dat) = true
  | [], _ => by simp [PySem.W.alikeAll]
  | _ :: _, [] => by simp [PySem.W.alikeAll]
  | a :: l, b :: m => by
    simp only [List.map_cons, PySem.W.alikeAll, Ord'.alk, alikeAll_enc l m, Bool.and_self]
theorem eqvAll_enc : ∀ l m : List A, (PySem.PyData.eqvAll ((l.map enc).map dat) ((m.map enc).map dat) = true) ↔ l = m
  | [], [] => by simp [PySem.PyData.eqvAll]
  | [], _ :: _ => by simp [PySem.PyData.eqvAll]
  | _ :: _, [] => by simp [PySem.PyData.eqvAll]
  | a :: l, b :: m => by
    simp only [List.map_cons, PySem.PyData.eqvAll, Bool.and_eq_true, Ord'.eqv, eqvAll_enc l m, List.cons.injEq]
theorem toksAll_enc : ∀ l m : List A, PyProof.Rows.lexLt PyProof.Rows.itemOrd (PySem.W.keyToksAll ((l.map enc).map dat)) (PySem.W.keyToksAll ((m.map enc).map dat)) = lexB l m
  | [], [] => by
    simp only [List.map_nil, PySem.W.keyToksAll, lexB]
    exact PyProof.Rows.itemOrd.irrefl _ |> fun h => by
      rw [PyProof.Rows.lex_cons, h]
      rfl
  | [], b :: m => by
    simp only [List.map_nil, List.map_cons, PySem.W.keyToksAll, lexB]
    rw [PyProof.Rows.lex_cons]
    rfl
  | a :: l, [] => by
    simp only [List.map_nil, List.map_cons, PySem.W.keyToksAll, lexB]
    rw [PyProof.Rows.lex_cons]
    rfl
  | a :: l, b :: m => by
    simp only [List.map_cons, lexB]
    by_cases e : a = b
    · subst e
      rw [PySem.W.dataLt_all_yes (Ord'.alk a a) ((Ord'.eqv a a).mpr rfl), toksAll_enc l m, Ord'.irr]
      rfl
    · have n : PySem.PyData.eqv (dat (enc a)) (dat (enc b)) = false := by
        cases q : PySem.PyData.eqv (dat (enc a)) (dat (enc b)) with
        | true => exact absurd ((Ord'.eqv a b).mp q) e
        | false => rfl
      rw [PySem.W.dataLt_all_no (Ord'.alk a b) n, Ord'.dlt]
      cases q : Ord'.lt a b with
      | true => rfl
      | false =>
        cases q2 : Ord'.lt b a with
        | true => rfl
        | false => exact absurd (Ord'.tot a b q q2) e
instance : Ord' (List A) where
  lt := lexB
  irr := lexB_irr
  tr := lexB_tr
  tot := lexB_tot
  alk := fun a b => by
    show PySem.W.alike (.tuple (dats (a.map enc))) (.tuple (dats (b.map enc))) = true
    rw [dats_map, dats_map]
    simp only [PySem.W.alike, alikeAll_enc]
  eqv := fun a b => by
    show (PySem.PyData.eqv (.tuple (dats (a.map enc))) (.tuple (dats (b.map enc))) = true) ↔ _
    rw [dats_map, dats_map]
    simp only [PySem.PyData.eqv, eqvAll_enc]
  dlt := fun a b => by
    show PySem.W.dataLt (.tuple (dats (a.map enc))) (.tuple (dats (b.map enc))) = _
    rw [dats_map, dats_map, PySem.W.dataLt_tuple, toksAll_enc]
end
def pairB {A B : Type} [Enc A] [Ord' A] [Enc B] [Ord' B] (p q : A × B) : Bool := Ord'.lt p.1 q.1 || (!Ord'.lt q.1 p.1 && Ord'.lt p.2 q.2)
instance {A B : Type} [Enc A] [Ord' A] [Enc B] [Ord' B] : Ord' (A × B) where
  lt := pairB
  irr := fun a => by simp [pairB, Ord'.irr]
  tr := fun a b c h1 h2 => by
    simp only [pairB, Bool.or_eq_true, Bool.and_eq_true, Bool.not_eq_true'] at *
    rcases h1 with h1 | ⟨h1, h1'⟩
    · rcases h2 with h2 | ⟨h2, h2'⟩
      · exact .inl (Ord'.tr _ _ _ h1 h2)
      · left
        cases q : Ord'.lt b.1 c.1 with
        | true => exact Ord'.tr _ _ _ h1 q
        | false => rw [← Ord'.tot _ _ q h2]; exact h1
    · rcases h2 with h2 | ⟨h2, h2'⟩
      · left
        cases q : Ord'.lt a.1 b.1 with
        | true => exact Ord'.tr _ _ _ q h2
        | false => rw [Ord'.tot _ _ q h1]; exact h2
      · cases q : Ord'.lt a.1 b.1 with
        | true =>
          left
          cases q2 : Ord'.lt b.1 c.1 with
          | true => exact Ord'.tr _ _ _ q q2
          | false => rw [← Ord'.tot _ _ q2 h2]; exact q
        | false =>
          have e := Ord'.tot _ _ q h1
          right
          rw [e]
          exact ⟨h2, Ord'.tr _ _ _ h1' h2'⟩
  tot := fun a b h1 h2 => by
    simp only [pairB, Bool.or_eq_false_iff, Bool.and_eq_false_iff, Bool.not_eq_false'] at *
    have e := Ord'.tot _ _ h1.1 h2.1
    refine Prod.ext e (Ord'.tot _ _ ?_ ?_)
    · rcases h1.2 with q | q
      · rw [h2.1] at q; cases q
      · exact q
    · rcases h2.2 with q | q
      · rw [h1.1] at q; cases q
      · exact q
  alk := fun a b => by
    show PySem.W.alike (.tuple (dats [enc a.1, enc a.2])) (.tuple (dats [enc b.1, enc b.2])) = true
    simp only [dats, PySem.W.alike, PySem.W.alikeAll, Ord'.alk, Bool.and_self]
  eqv := fun a b => by
    show (PySem.PyData.eqv (.tuple (dats [enc a.1, enc a.2])) (.tuple (dats [enc b.1, enc b.2])) = true) ↔ _
    simp only [dats, PySem.PyData.eqv, PySem.PyData.eqvAll, Bool.and_true, Bool.and_eq_true, Ord'.eqv]
    exact ⟨fun h => Prod.ext h.1 h.2, fun h => by rw [h]; exact ⟨rfl, rfl⟩⟩
  dlt := fun a b => by
    show PySem.W.dataLt (.tuple (dats [enc a.1, enc a.2])) (.tuple (dats [enc b.1, enc b.2])) = _
    rw [PySem.W.dataLt_tuple]
    simp only [dats, pairB]
    have step : ∀ {X : Type} [Enc X] [Ord' X] (x y : X) (r t : List PySem.PyData) (k : Bool), (PyProof.Rows.lexLt PyProof.Rows.itemOrd (PySem.W.keyToksAll r) (PySem.W.keyToksAll t) = k) → PyProof.Rows.lexLt PyProof.Rows.itemOrd (PySem.W.keyToksAll (dat (enc x) :: r)) (PySem.W.keyToksAll (dat (enc y) :: t)) = (Ord'.lt x y || (!Ord'.lt y x && k)) := by
      intro X _ _ x y r t k hk
      by_cases e : x = y
      · subst e
        rw [PySem.W.dataLt_all_yes (Ord'.alk x x) ((Ord'.eqv x x).mpr rfl), hk, Ord'.irr]
        rfl
      · have n : PySem.PyData.eqv (dat (enc x)) (dat (enc y)) = false := by
          cases q : PySem.PyData.eqv (dat (enc x)) (dat (enc y)) with
          | true => exact absurd ((Ord'.eqv x y).mp q) e
          | false => rfl
        rw [PySem.W.dataLt_all_no (Ord'.alk x y) n, Ord'.dlt]
        cases q : Ord'.lt x y with
        | true => rfl
        | false =>
          cases q2 : Ord'.lt y x with
          | true => rfl
          | false => exact absurd (Ord'.tot x y q q2) e
    rw [step a.1 b.1 _ _ _ (step a.2 b.2 [] [] false (toksAll_enc (A := Nat) [] []))]
    simp
section
variable {A : Type} [Enc A] [Ord' A]
def le' (a b : A) : Bool := !Ord'.lt b a
def sortE (xs : List A) : List A := xs.mergeSort le'
def sortK {B : Type} (key : B → A) (xs : List B) : List B := xs.mergeSort fun a b => le' (key a) (key b)
theorem leD_enc (a b : A) : leD (enc a) (enc b) = le' a b := by
  unfold leD le'
  rw [Ord'.dlt]
/-- tuples that are not empty, or none -/
class SrtE (A : Type) [Enc A] where
  P : A → Prop
  ok : ∀ xs : List A, (∀ x ∈ xs, P x) → (((xs.map enc).all fun a => match a with | .tup (_ :: _) => true | _ => false) || ((xs.map enc).all fun a => match a with | .non => false | .tup _ => false | _ => true)) = true
instance : SrtE Nat where
  P := fun _ => True
  ok := fun xs _ => by
    rw [Bool.or_eq_true]
    right
    rw [List.all_map, List.all_eq_true]
    intro x _
    rfl
instance {B : Type} [Enc B] : SrtE (List B) where
  P := fun x => x ≠ []
  ok := fun xs h => by
    rw [Bool.or_eq_true]
    left
    rw [List.all_map, List.all_eq_true]
    intro x hx
    have := h x hx
    cases x with
    | nil => exact absurd rfl this
    | cons a l => rfl
instance {B C : Type} [Enc B] [Enc C] : SrtE (B × C) where
  P := fun _ => True
  ok := fun xs _ => by
    rw [Bool.or_eq_true]
    left
    rw [List.all_map, List.all_eq_true]
    intro x _
    rfl
theorem srtOk_enc [SrtE A] (hd : Enc.dep A ≤ 30) (xs : List A) (hp : ∀ x ∈ xs, SrtE.P x) : srtOk (xs.map enc) = true := by
  unfold srtOk
  rw [Bool.and_eq_true]
  refine ⟨?_, SrtE.ok xs hp⟩
  rw [Bool.and_eq_true]
  constructor
  · rw [oksN_all, List.all_map, List.all_eq_true]
    exact fun x _ => Enc.ok x 30 hd
  · rw [List.all_map, List.all_eq_true]
    intro x _
    show ((xs.map enc).all fun b => PySem.W.alike (dat (enc x)) (dat b)) = true
    rw [List.all_map, List.all_eq_true]
    exact fun y _ => Ord'.alk x y
theorem sort_enc (xs : List A) : (xs.map enc).mergeSort leD = (sortE xs).map enc := by
  unfold sortE
  rw [List.map_mergeSort (s := leD)]
  intro a _ b _
  exact (leD_enc a b).symm
theorem srt_ok [SrtE A] {cl : Calls} {s : Sq} {env : Env} {h h1 : GH} (hd : Enc.dep A ≤ 30) {xs : List A} (hp : ∀ x ∈ xs, SrtE.P x) (e : evS cl s env h = .ok (xs.map enc) h1) : evS cl (.srt s) env h = .ok ((sortE xs).map enc) h1 := by
  rw [eS_srt, e, Res.bind_ok, if_pos (srtOk_enc hd xs hp), sort_enc]
theorem srk_ok [SrtE A] {B : Type} [Enc B] {cl : Calls} {s : Sq} {f : Nat} {env : Env} {h h1 : GH} (hd : Enc.dep A ≤ 30) {xs : List B} (key : B → A) (hp : ∀ x ∈ xs, SrtE.P (key x)) (hl : xs.length ≤ szL) (e : evS cl s env h = .ok (xs.map enc) h1) (hk : ∀ x ∈ xs, cl f [enc x] h1 = .ok (enc (key x)) h1) :
    evS cl (.srk s f) env h = .ok ((sortK key xs).map enc) h1 := by
  rw [evS, e, Res.bind_ok]
  rw [cmpL_flat (gd := none) enc (fun x => [(enc (key x), enc x)]) rfl xs [] (by rw [flat_one]; simpa using hl) (fun x hx acc _ => by rw [hk x hx, Res.bind_ok])]
  rw [flat_one, List.nil_append]
  show (if srtOk ((xs.map fun x => (enc (key x), enc x)).map (·.1)) = true then Res.ok (srtBy (xs.map fun x => (enc (key x), enc x))) h1 else .bad) = _
  have e1 : (xs.map fun x => (enc (key x), enc x)).map (·.1) = (xs.map key).map enc := by simp
  rw [e1, if_pos (srtOk_enc hd _ fun x hx => by
    obtain ⟨y, hy, rfl⟩ := List.mem_map.mp hx
    exact hp y hy)]
  unfold srtBy sortK
  congr 1
  rw [← List.map_mergeSort (r := fun a b => le' (key a) (key b)) (f := fun x => (enc (key x), enc x)) (s := fun p q => leD p.1 q.1) fun a _ b _ => (leD_enc _ _).symm, List.map_map]
  rfl
theorem mem_sortK {B : Type} {key : B → A} {xs : List B} {x : B} : x ∈ sortK key xs ↔ x ∈ xs := List.mem_mergeSort
theorem len_sortK {B : Type} {key : B → A} {xs : List B} : (sortK key xs).length = xs.length := List.length_mergeSort xs
theorem mem_sortE {xs : List A} {x : A} : x ∈ sortE xs ↔ x ∈ xs := List.mem_mergeSort
theorem len_sortE {xs : List A} : (sortE xs).length = xs.length := List.length_mergeSort xs
end
end Pv
end Pp_C6
section Pp_C7
set_option Elab.async false
set_option linter.all false
set_option maxRecDepth 10000
namespace Pv
open PySem (Str)
open GV
open Enc (enc)
local macro_rules
  | `(tactic| simp! [$ls,*]) => `(tactic| try simp only [eE_var, eE_cst, eE_tup, eE_lst, eE_tpl, eE_op, eE_neg, eE_isn, eE_ntn, eE_and, eE_or, eE_not, eE_ite, eE_slc, eE_fld, eE_call, eE_perm, eE_mk, eE_len, eE_int, eE_str, eE_b2, eE_all, eE_any, eE_isi, eE_rng, eE_m1, eE_dic, eA_nil, eA_cons, eO_non, eO_som, eQ_non, eQ_som, eS_val, eS_lsv, eS_rgl, eS_dsp, eS_lis, eS_srt, eI_val, eI_sq, eI_enm, eI_rng, eI_rngS, eI_prm, xS_pass, xS_brk, xS_cnt, xS_ret, xS_exp, xS_nm, xS_tg, xS_fld, xS_sub, xS_iff, xS_for, forB_nm, forB_pair, enc_nat, getV_ok, tru_bl, tru_non, idxI_nat, intV_int, intV_bl, szT0, szT1, szT2, szT3, szT4, szS0, szS1, szS2, szS3, szS4, szS5, setTg_nm, oE_add, oE_sub, oE_mul, oE_fdiv, oE_mod, oE_pow, oE_eq, oE_ne, oE_lt, oE_le, oE_gt, oE_ge, oE_idx, oE_inn, oE_nin, Res.bind_ok, Res.bind_exc, ite_tt, ite_ff, if_true, if_false, List.map_cons, List.map_nil, List.length_cons, List.length_nil, Nat.zero_add, Nat.reduceAdd, Nat.reduceSub, List.replicate_succ, List.replicate_zero, List.cons_append, List.nil_append, List.getElem?_cons_zero, List.getElem?_cons_succ, List.set_cons_zero, List.set_cons_succ, retV, To_ok, To_bind, Kn_nxt, Kn_ret, Kn_brk, Kn_cnt, $ls,*])
local macro_rules
  | `(tactic| dsimp! [$ls,*]) => `(tactic| simp only [eE_var, eE_cst, eE_tup, eE_lst, eE_tpl, eE_op, eE_neg, eE_isn, eE_ntn, eE_and, eE_or, eE_not, eE_ite, eE_slc, eE_fld, eE_call, eE_perm, eE_mk, eE_len, eE_int, eE_str, eE_b2, eE_all, eE_any, eE_isi, eE_rng, eE_m1, eE_dic, eA_nil, eA_cons, eO_non, eO_som, eQ_non, eQ_som, eS_val, eS_lsv, eS_rgl, eS_dsp, eS_lis, eS_srt, eI_val, eI_sq, eI_enm, eI_rng, eI_rngS, eI_prm, xS_pass, xS_brk, xS_cnt, xS_ret, xS_exp, xS_nm, xS_tg, xS_fld, xS_sub, xS_iff, xS_for, forB_nm, forB_pair, enc_nat, getV_ok, tru_bl, tru_non, idxI_nat, intV_int, intV_bl, szT0, szT1, szT2, szT3, szT4, szS0, szS1, szS2, szS3, szS4, szS5, setTg_nm, oE_add, oE_sub, oE_mul, oE_fdiv, oE_mod, oE_pow, oE_eq, oE_ne, oE_lt, oE_le, oE_gt, oE_ge, oE_idx, oE_inn, oE_nin, Res.bind_ok, Res.bind_exc, ite_tt, ite_ff, if_true, if_false, List.map_cons, List.map_nil, List.length_cons, List.length_nil, Nat.zero_add, Nat.reduceAdd, Nat.reduceSub, List.replicate_succ, List.replicate_zero, List.cons_append, List.nil_append, List.getElem?_cons_zero, List.getElem?_cons_succ, List.set_cons_zero, List.set_cons_succ, $ls,*])
local macro_rules
  | `(tactic| simp_all! [$ls,*]) => `(tactic| simp only [List.map_cons, List.map_nil, List.length_cons, List.length_nil, Nat.zero_add, Nat.reduceAdd, Nat.reduceSub, List.replicate_succ, List.replicate_zero, List.cons_append, List.nil_append, List.getElem?_cons_zero, List.getElem?_cons_succ, List.set_cons_zero, List.set_cons_succ, $ls,*])
/-! ### least shapes -/
abbrev LSt := Option (List Nat) × List (List Nat)
def lsBest (row : List Nat) (st : LSt) : List Nat × List (List Nat) := match st.1 with
  | none => (row, [])
  | some b => if lexB row b = true then (row, []) else (b, st.2)
def lsStep (turn : List Nat) (p : List (List Nat)) (pl : List Nat) (st : LSt) (pt : Nat) : LSt :=
  if pt ∈ pl then st else
    (some (lsBest (rowTo turn p pl pt) st).1, if rowTo turn p pl pt = (lsBest (rowTo turn p pl pt) st).1 then (lsBest (rowTo turn p pl pt) st).2 ++ [pl ++ [pt]] else (lsBest (rowTo turn p pl pt) st).2)
def lsFold (turn : List Nat) (p : List (List Nat)) (n : Nat) (st : LSt) (pl : List Nat) : LSt := (List.range n).foldl (lsStep turn p pl) st
def lsRound (turn : List Nat) (p : List (List Nat)) (n : Nat) (starts : List (List Nat)) : LSt := starts.foldl (lsFold turn p n) (none, [])
def lsRun (turn : List Nat) (p : List (List Nat)) (n : Nat) : Nat → List (List Nat) × List (List Nat)
  | 0 => ([[]], [])
  | k + 1 => ((lsRound turn p n (lsRun turn p n k).1).2, (lsRun turn p n k).2 ++ [((lsRound turn p n (lsRun turn p n k).1).1).getD []])
def leastShape (turn : List Nat) (p : List (List Nat)) : List (List Nat) := (lsRun turn p p.length p.length).2
/-- what is kept comes of the starts, and has the best row -/
def LsOk (turn : List Nat) (p : List (List Nat)) (n : Nat) (starts : List (List Nat)) (st : LSt) : Prop := (st.1 = none → st.2 = []) ∧ ∀ b, st.1 = some b → st.2 ≠ [] ∧ ∀ q ∈ st.2, ∃ pl pt, pl ∈ starts ∧ q = pl ++ [pt] ∧ pt ∉ pl ∧ pt < n ∧ rowTo turn p pl pt = b
theorem lsStep_ok {turn : List Nat} {p : List (List Nat)} {n : Nat} {starts : List (List Nat)} {st : LSt} (h : LsOk turn p n starts st) {pl : List Nat} (hpl : pl ∈ starts) {pt : Nat} (hpt : pt < n) : LsOk turn p n starts (lsStep turn p pl st pt) ∧ ((st.1.isSome = true ∨ pt ∉ pl) → (lsStep turn p pl st pt).1.isSome = true) := by
  unfold lsStep
  by_cases hin : pt ∈ pl
  · rw [if_pos hin]
    exact ⟨h, fun z => z.resolve_right fun q => q hin⟩
  · rw [if_neg hin]
    refine ⟨?_, fun _ => rfl⟩
    have me : ∃ pl' pt', pl' ∈ starts ∧ pl ++ [pt] = pl' ++ [pt'] ∧ pt' ∉ pl' ∧ pt' < n ∧ rowTo turn p pl' pt' = rowTo turn p pl pt := ⟨pl, pt, hpl, rfl, hin, hpt, rfl⟩
    obtain ⟨o, kept⟩ := st
    cases o with
    | none =>
      refine ⟨nofun, fun b hb => ?_⟩
      simp only [lsBest, if_true, List.nil_append] at hb ⊢
      cases hb
      refine ⟨by simp, fun q hq => ?_⟩
      rw [List.mem_singleton.mp hq]
      exact me
    | some b0 =>
      obtain ⟨h1, h2⟩ := h.2 b0 rfl
      by_cases hl : lexB (rowTo turn p pl pt) b0 = true
      · simp only [lsBest, hl, if_true, List.nil_append]
        refine ⟨nofun, fun b hb => ?_⟩
        cases hb
        refine ⟨by simp, fun q hq => ?_⟩
        rw [List.mem_singleton.mp hq]
        exact me
      · simp only [lsBest, hl, Bool.false_eq_true, if_false]
        refine ⟨nofun, fun b hb => ?_⟩
        cases hb
        by_cases he : rowTo turn p pl pt = b0
        · simp only [he, if_true]
          refine ⟨by simp, fun q hq => ?_⟩
          rcases List.mem_append.mp hq with z | z
          · exact h2 q z
          · rw [List.mem_singleton.mp z, ← he]
            exact me
        · simp only [he, if_false]
          exact ⟨h1, h2⟩
theorem lsFold_ok {turn : List Nat} {p : List (List Nat)} {n : Nat} {starts : List (List Nat)} {pl : List Nat} (hpl : pl ∈ starts) : ∀ (pts : List Nat), (∀ x ∈ pts, x < n) → ∀ {st : LSt}, LsOk turn p n starts st → LsOk turn p n starts (pts.foldl (lsStep turn p pl) st) ∧ ((st.1.isSome = true ∨ ∃ x ∈ pts, x ∉ pl) → (pts.foldl (lsStep turn p pl) st).1.isSome = true)
  | [], _, st, h => ⟨h, fun z => z.elim id fun ⟨x, hx, _⟩ => nomatch hx⟩
  | x :: pts, hx, st, h => by
    obtain ⟨a, b⟩ := lsStep_ok h hpl (hx x (List.mem_cons_self ..))
    obtain ⟨c, d⟩ := lsFold_ok hpl pts (fun y hy => hx y (List.mem_cons_of_mem _ hy)) a
    refine ⟨c, fun z => d ?_⟩
    rcases z with z | ⟨y, hy, z⟩
    · exact .inl (b (.inl z))
    · rcases List.mem_cons.mp hy with rfl | hy
      · exact .inl (b (.inr z))
      · exact .inr ⟨y, hy, z⟩
theorem free_pt {n : Nat} {pl : List Nat} (h : Plc n pl) (hl : pl.length < n) : ∃ x ∈ List.range n, x ∉ pl := by
  by_cases q : ∃ x ∈ List.range n, x ∉ pl
  · exact q
  · have all : ∀ x, x < n → x ∈ pl := fun x hx => by
      by_cases z : x ∈ pl
      · exact z
      · exact absurd ⟨x, List.mem_range.mpr hx, z⟩ q
    have : ∀ (m : Nat) (l : List Nat), (∀ x, x < m → x ∈ l) → m ≤ l.length := by
      intro m
      induction m with
      | zero => intro l _; omega
      | succ m ih =>
        intro l hl
        have h1 := ih (l.erase m) fun x hx => (List.mem_erase_of_ne (by omega)).mpr (hl x (by omega))
        rw [List.length_erase, if_pos (hl m (by omega))] at h1
        have := List.length_pos_of_mem (hl m (by omega))
        omega
    have := this n pl all
    omega
theorem lsRound_ok {turn : List Nat} {p : List (List Nat)} {n k : Nat} {starts : List (List Nat)} (hs : ∀ pl ∈ starts, Plc n pl ∧ pl.length = k) (hk : k < n) (h0 : starts ≠ []) : LsOk turn p n starts (lsRound turn p n starts) ∧ (lsRound turn p n starts).1.isSome = true := by
  have gen : ∀ (l : List (List Nat)), (∀ pl ∈ l, pl ∈ starts) → ∀ {st : LSt}, LsOk turn p n starts st → LsOk turn p n starts (l.foldl (lsFold turn p n) st) ∧ ((st.1.isSome = true ∨ l ≠ []) → (l.foldl (lsFold turn p n) st).1.isSome = true) := by
    intro l
    induction l with
    | nil => exact fun _ st h => ⟨h, fun z => z.elim id fun q => absurd rfl q⟩
    | cons pl l ih =>
      intro hl st h
      have hpl := hl pl (List.mem_cons_self ..)
      obtain ⟨a, b⟩ := lsFold_ok hpl (List.range n) (fun x hx => List.mem_range.mp hx) h
      obtain ⟨c, d⟩ := ih (fun q hq => hl q (List.mem_cons_of_mem _ hq)) a
      exact ⟨c, fun _ => d (.inl (b (.inr (free_pt (hs pl hpl).1 (by have := (hs pl hpl).2; omega)))))⟩
  obtain ⟨a, b⟩ := gen starts (fun _ h => h) (st := (none, [])) ⟨fun _ => rfl, nofun⟩
  exact ⟨a, b (.inr h0)⟩
theorem Plc.snoc {n : Nat} {pl : List Nat} (h : Plc n pl) {pt : Nat} (h1 : pt < n) (h2 : pt ∉ pl) : Plc n (pl ++ [pt]) :=
  ⟨fun x hx => (List.mem_append.mp hx).elim (h.lt x) fun z => by rw [List.mem_singleton.mp z]; exact h1, by
    rw [List.nodup_append]
    refine ⟨h.nd, by simp, fun a ha b hb e => ?_⟩
    rw [List.mem_singleton.mp hb] at e
    exact h2 (e ▸ ha)⟩
theorem cutP_snoc (turn : List Nat) (p : List (List Nat)) (pl : List Nat) (pt : Nat) : cutP turn p (pl ++ [pt]) = cutP turn p pl ++ [rowTo turn p pl pt] := by
  unfold cutP
  rw [List.length_append, List.length_singleton, List.range_succ, List.map_append, List.map_singleton]
  congr 1
  · refine List.map_congr_left fun k hk => List.map_congr_left fun i hi => ?_
    have hk := List.mem_range.mp hk
    have hi := List.mem_range.mp hi
    simp [List.getElem?_append_left hk, List.getElem?_append_left (show i < pl.length by omega)]
  · congr 1
    unfold rowTo
    refine List.ext_getElem (by simp) fun i h1 h2 => ?_
    simp only [List.length_map, List.length_range] at h1
    simp [List.getElem?_append_left h1, List.getElem?_eq_getElem h1]
theorem lsRun_ok (turn : List Nat) (p : List (List Nat)) (n : Nat) : ∀ k, k ≤ n → (lsRun turn p n k).1 ≠ [] ∧ ∀ pl ∈ (lsRun turn p n k).1, Plc n pl ∧ pl.length = k ∧ cutP turn p pl = (lsRun turn p n k).2
  | 0, _ => ⟨by simp [lsRun], fun pl h => by
    rw [List.mem_singleton.mp h]
    exact ⟨⟨nofun, List.nodup_nil⟩, rfl, rfl⟩⟩
  | k + 1, hk => by
    obtain ⟨a, b⟩ := lsRun_ok turn p n k (by omega)
    obtain ⟨c, d⟩ := lsRound_ok (turn := turn) (p := p) (n := n) (k := k) (fun pl h => ⟨(b pl h).1, (b pl h).2.1⟩) (by omega) a
    obtain ⟨bst, hb⟩ := Option.isSome_iff_exists.mp d
    obtain ⟨e, f⟩ := c.2 bst hb
    refine ⟨e, fun q hq => ?_⟩
    obtain ⟨pl, pt, h1, rfl, h2, h3, h4⟩ := f q hq
    obtain ⟨g1, g2, g3⟩ := b pl h1
    refine ⟨g1.snoc h3 h2, by rw [List.length_append, g2]; rfl, ?_⟩
    rw [cutP_snoc, g3, h4]
    simp only [lsRun, hb, Option.getD_some]
/-- the least shape is a cut with all points -/
theorem leastShape_cut (turn : List Nat) (p : List (List Nat)) : ∃ pl, Plc p.length pl ∧ pl.length = p.length ∧ leastShape turn p = cutP turn p pl := by
  obtain ⟨a, b⟩ := lsRun_ok turn p p.length p.length (Nat.le_refl _)
  obtain ⟨pl, l, e⟩ := List.exists_cons_of_ne_nil a
  obtain ⟨h1, h2, h3⟩ := b pl (by rw [e]; exact List.mem_cons_self ..)
  exact ⟨pl, h1, h2, h3.symm⟩
theorem cutP_len (turn : List Nat) (p : List (List Nat)) (pl : List Nat) : (cutP turn p pl).length = pl.length := by simp [cutP]
theorem tieIn_lt {r : Nat} {turn : List Nat} {p : List (List Nat)} (w : WfP r p) (t : IsTurn r turn) {a b : Nat} (ha : a < p.length) (hb : b < p.length) (ab : a ≠ b) : tieIn turn p a b < r := by
  unfold tieIn
  split
  · exact w.lt hb (by omega)
  · exact t.lt _ (w.lt ha (by omega))
theorem cutP_wf {r : Nat} {turn : List Nat} {p : List (List Nat)} (w : WfP r p) (t : IsTurn r turn) {pl : List Nat} (h : Plc p.length pl) : WfP r (cutP turn p pl) := by
  intro j hj
  rw [cutP_len] at hj
  have e : (cutP turn p pl).getD j [] = (List.range j).map fun i => tieIn turn p (pl.getD i 0) (pl.getD j 0) := by
    unfold cutP
    simp [hj]
  rw [e]
  refine ⟨by simp, fun x hx => ?_⟩
  obtain ⟨i, hi, rfl⟩ := List.mem_map.mp hx
  have hi := List.mem_range.mp hi
  exact tieIn_lt w t (h.at_ (by omega)) (h.at_ hj) (h.ne (by omega) hj (by omega))
theorem leastShape_wf {r : Nat} {turn : List Nat} {p : List (List Nat)} (w : WfP r p) (t : IsTurn r turn) : WfP r (leastShape turn p) ∧ (leastShape turn p).length = p.length := by
  obtain ⟨pl, h1, h2, e⟩ := leastShape_cut turn p
  rw [e]
  exact ⟨cutP_wf w t h1, by rw [cutP_len, h2]⟩

theorem lsBest_len (row : List Nat) (st : LSt) : (lsBest row st).2.length ≤ st.2.length := by
  unfold lsBest
  split
  · simp
  · split <;> simp
theorem lsStep_len (turn : List Nat) (p : List (List Nat)) (pl : List Nat) (st : LSt) (pt : Nat) : (lsStep turn p pl st pt).2.length ≤ st.2.length + 1 := by
  have := lsBest_len (rowTo turn p pl pt) st
  unfold lsStep
  split
  · omega
  · simp only
    split
    · rw [List.length_append, List.length_singleton]; omega
    · omega
theorem lsSteps_len (turn : List Nat) (p : List (List Nat)) (pl : List Nat) : ∀ (pts : List Nat) (st : LSt), (pts.foldl (lsStep turn p pl) st).2.length ≤ st.2.length + pts.length
  | [], st => by simp
  | x :: pts, st => by
    have h1 := lsSteps_len turn p pl pts (lsStep turn p pl st x)
    have h2 := lsStep_len turn p pl st x
    rw [List.foldl_cons, List.length_cons]
    omega
theorem lsFolds_len (turn : List Nat) (p : List (List Nat)) (n : Nat) : ∀ (l : List (List Nat)) (st : LSt), (l.foldl (lsFold turn p n) st).2.length ≤ st.2.length + n * l.length
  | [], st => by simp
  | pl :: l, st => by
    have h1 := lsFolds_len turn p n l (lsFold turn p n st pl)
    have h2 := lsSteps_len turn p pl (List.range n) st
    rw [List.foldl_cons, List.length_cons, Nat.mul_add]
    rw [List.length_range] at h2
    change (lsFold turn p n st pl).2.length ≤ _ at h2
    omega
theorem lsRun_len (turn : List Nat) (p : List (List Nat)) (n : Nat) : ∀ k, (lsRun turn p n k).1.length ≤ n ^ k ∧ (lsRun turn p n k).2.length = k
  | 0 => ⟨by simp [lsRun], rfl⟩
  | k + 1 => by
    obtain ⟨h1, h2⟩ := lsRun_len turn p n k
    refine ⟨?_, by simp [lsRun, h2]⟩
    have h3 := lsFolds_len turn p n (lsRun turn p n k).1 (none, [])
    have h4 := Nat.mul_le_mul_left n h1
    rw [Nat.pow_succ, Nat.mul_comm]
    simp only [List.length_nil, Nat.zero_add] at h3
    exact Nat.le_trans h3 h4
theorem pow_small {n k : Nat} (hn : n ≤ 6) (hk : k < n) : n * n ^ k ≤ 46656 := by
  have h1 : n * n ^ k ≤ 6 * 6 ^ k := Nat.mul_le_mul hn (Nat.pow_le_pow_left hn k)
  have h2 : 6 ^ k ≤ 6 ^ 5 := Nat.pow_le_pow_right (by omega) (by omega)
  omega

/-! ### least_shape as it runs -/
def fullRow (turn : List Nat) (p : List (List Nat)) (n b : Nat) : List GV := (List.range n).map fun a => if a = b then .non else I (tieIn turn p a b)
def FullAt (turn : List Nat) (p : List (List Nat)) (n fr : Nat) (h : GH) : Prop := ∃ acc, h[fr]? = some (.lst acc) ∧ ∀ b, b < n → ∃ m, acc[b]? = some (.ref m) ∧ h[m]? = some (.lst (fullRow turn p n b))
theorem FullAt.pre {turn : List Nat} {p : List (List Nat)} {n fr : Nat} {h h1 : GH} (F : FullAt turn p n fr h) (P : Pre h h1) : FullAt turn p n fr h1 := by
  obtain ⟨acc, e1, e2⟩ := F
  refine ⟨acc, P.get e1, fun b hb => ?_⟩
  obtain ⟨m, e3, e4⟩ := e2 b hb
  exact ⟨m, e3, P.get e4⟩
def encO : Option (List Nat) → GV
  | none => .non
  | some b => enc b
theorem lex_int : ∀ a b : List Nat, HT.lexLt (a.map fun k : Nat => (k : Int)) (b.map fun k : Nat => (k : Int)) = lexB a b
  | [], [] => rfl
  | [], _ :: _ => rfl
  | _ :: _, [] => rfl
  | a :: l, b :: m => by
    rw [List.map_cons, List.map_cons, HT.lexLt_cons, lex_int l m]
    show _ = (decide (a < b) || (!decide (b < a) && lexB l m))
    by_cases e : a = b
    · simp [e]
    · rw [if_neg (by omega)]
      by_cases q : a < b
      · simp [q]
      · simp [q, show b < a by omega]
theorem intsOf_enc (l : List Nat) : intsOf (l.map enc) = some (l.map fun k : Nat => (k : Int)) := by
  induction l with
  | nil => rfl
  | cons a l ih =>
    show (intsOf (l.map enc)).map ((a : Int) :: ·) = _
    rw [ih]
    rfl
theorem lt_tup (a b : List Nat) (h : GH) : opLt (enc a) (enc b) h = .ok (GV.bl (lexB a b)) h := by
  unfold opLt
  simp only [enc_list, intsOf_enc, lex_int]
def LsJ (turn : List Nat) (p : List (List Nat)) (fr rn : Nat) (hF : GH) (k : Nat) (e : Env) (h1 : GH) : Prop := ∃ x6 x7 x8 x9 x11 x13 sn, e = [some (enc turn), some (enc p), some (.rng ((0 : Nat) : Int) (p.length : Int)), some (.ref fr), some (.ref sn), some (.ref rn), x6, x7, x8, x9, none, x11, none, x13, none] ∧ Pre hF h1 ∧ hF.length ≤ sn ∧ hF.length ≤ rn ∧ sn ≠ rn ∧
  h1[sn]? = some (.lst ((lsRun turn p p.length k).1.map enc)) ∧ h1[rn]? = some (.lst ((lsRun turn p p.length k).2.map enc))
def LsK (turn : List Nat) (p : List (List Nat)) (fr rn sn k : Nat) (hF : GH) (i : Nat) (e : Env) (h1 : GH) : Prop := ∃ x6 x9 x11 x13 kn, e = [some (enc turn), some (enc p), some (.rng ((0 : Nat) : Int) (p.length : Int)), some (.ref fr), some (.ref sn), some (.ref rn), x6, some (encO (((lsRun turn p p.length k).1.take i).foldl (lsFold turn p p.length) (none, [])).1), some (.ref kn), x9, none, x11, none, x13, none] ∧ Pre hF h1 ∧ hF.length ≤ sn ∧ hF.length ≤ rn ∧ hF.length ≤ kn ∧ sn ≠ rn ∧ kn ≠ rn ∧ kn ≠ sn ∧
  h1[sn]? = some (.lst ((lsRun turn p p.length k).1.map enc)) ∧ h1[rn]? = some (.lst ((lsRun turn p p.length k).2.map enc)) ∧ h1[kn]? = some (.lst ((((lsRun turn p p.length k).1.take i).foldl (lsFold turn p p.length) (none, [])).2.map enc))
def LsL (turn : List Nat) (p : List (List Nat)) (fr rn sn k : Nat) (hF : GH) (pl : List Nat) (st : LSt) (j : Nat) (e : Env) (h1 : GH) : Prop := ∃ x6 x11 x13 kn, e = [some (enc turn), some (enc p), some (.rng ((0 : Nat) : Int) (p.length : Int)), some (.ref fr), some (.ref sn), some (.ref rn), x6, some (encO ((List.range j).foldl (lsStep turn p pl) st).1), some (.ref kn), some (enc pl), none, x11, none, x13, none] ∧ Pre hF h1 ∧ hF.length ≤ sn ∧ hF.length ≤ rn ∧ hF.length ≤ kn ∧ sn ≠ rn ∧ kn ≠ rn ∧ kn ≠ sn ∧
  h1[sn]? = some (.lst ((lsRun turn p p.length k).1.map enc)) ∧ h1[rn]? = some (.lst ((lsRun turn p p.length k).2.map enc)) ∧ h1[kn]? = some (.lst (((List.range j).foldl (lsStep turn p pl) st).2.map enc))
theorem eq_natE (a b : Nat) (h : GH) : opEq (I a) (I b) h = .ok (GV.bl (decide (a = b))) h := eq_nat a b h
theorem full_sp {G : Prg} (Dt : D_tie_in G) (d : Nat) {r : Nat} {turn : List Nat} {p : List (List Nat)} (w : WfP r p) (ht : turn.length = r) (hn : p.length ≤ 1000) {e : Env} (h : GH) (Q : Fl × Env → GH → Prop) {x3 x4 x5 x6 x7 x8 x9 x11 x13 : Option GV}
    (hQ : ∀ fr h1, Pre h h1 → FullAt turn p p.length fr h1 → Q (.nxt, [some (enc turn), some (enc p), some (.rng ((0 : Nat) : Int) (p.length : Int)), some (.ref fr), x4, x5, x6, x7, x8, x9, none, x11, none, x13, none]) h1) :
    To (exS (callF G (d + 1)) (.asg (.nm 3) (.lst (.cmp [10] (.one (.nm 10) (.val (.var 2)) .non) (.lst (.cmp [12] (.one (.nm 12) (.val (.var 2)) .non) (.ite (.op .eq (.var 12) (.var 10)) (.cst .non) (.call n_tie_in (.cons (.var 0) (.cons (.var 1) (.cons (.var 12) (.cons (.var 10) .nil))))))))))) [some (enc turn), some (enc p), some (.rng ((0 : Nat) : Int) (p.length : Int)), x3, x4, x5, x6, x7, x8, x9, none, x11, none, x13, none] h) Q := by
  have hz := szv
  simp only [xS_nm, eE_lst, To_bind]
  refine evS_at (gd := none) (h1 := h) (List.range p.length) I (fun k acc h1 => acc.length = k ∧ Pre h h1 ∧ ∀ b, b < k → ∃ m, acc[b]? = some (.ref m) ∧ h1[m]? = some (.lst (fullRow turn p p.length b))) (by dsimp! [itS_rng (show p.length ≤ 1000000 by omega)]) (fun _ _ _ _ => rfl) (by simp; omega) ?_ ⟨rfl, .refl h, nofun⟩ ?_
  · rintro k hk acc h1 ⟨hl, P, F⟩
    have hk : k < p.length := by simpa using hk
    rw [List.getElem_range]
    refine ⟨_, setTg_nm _ _ _, ?_⟩
    simp_all! [wipeE, eE_lst]
    rw [evS_map (List.range p.length) I (fun a => if a = k then .non else I (tieIn turn p a k)) (gd := none) (h1 := h1) (by dsimp! [itS_rng (show p.length ≤ 1000000 by omega)]) rfl (by simp; omega)]
    · simp! []
      refine ⟨by simp [hl], P.push _, fun b hb => ?_⟩
      by_cases q : b < k
      · obtain ⟨m, e1, e2⟩ := F b q
        exact ⟨m, by rw [List.getElem?_append_left (by omega), e1], get_app e2⟩
      · have : b = k := by omega
        subst this
        exact ⟨h1.length, by rw [← hl]; simp, get_push⟩
    · intro a ha
      have ha := List.mem_range.mp ha
      refine ⟨_, setTg_nm _ _ _, ?_⟩
      dsimp! [wipeE, eq_nat]
      by_cases q : a = k
      · dsimp! [q, decide_true]
      · dsimp! [q, decide_false, Bool.false_eq_true, tie_in_sp Dt d w ht ha hk q]
  · rintro acc h1 ⟨hl, P, F⟩
    simp! []
    refine hQ _ _ (P.push _) ⟨acc, get_push, fun b hb => ?_⟩
    obtain ⟨m, e1, e2⟩ := F b (by simpa using hb)
    exact ⟨m, e1, get_app e2⟩
theorem fullRow_get {turn : List Nat} {p : List (List Nat)} {n a b : Nat} (ha : a < n) (ab : a ≠ b) : (fullRow turn p n b)[a]? = some (I (tieIn turn p a b)) := by
  unfold fullRow
  simp [ha, ab]
theorem least_shape_sp {G : Prg} (D : D_least_shape G) (d : Nat) {r : Nat} {turn : List Nat} {p : List (List Nat)} (w : WfP r p) (ht : turn.length = r) (hn : p.length ≤ 6) (h : GH) :
    callF G (d + 2) n_least_shape [enc turn, enc p] h = .ok (enc (leastShape turn p)) h := by
  have hz := szv
  refine call_pure D.f rfl rfl (Enc.noref _ _) ?_
  simp_all! [F_least_shape]
  refine seq_to ?_
  simp! [lenV_enc, rngV_nat (show 0 ≤ 1000000 by omega) (show p.length ≤ 1000000 by omega)]
  refine seq_to ?_
  refine full_sp D.tie_in d w ht (by omega) (e := []) h _ fun fr hF PF FF => ?_
  try rw [Kn_nxt]
  refine seq_to ?_
  simp! []
  refine seq_to ?_
  simp! []
  refine seq_to ?_
  simp! [itS_rng (show p.length ≤ 1000000 by omega)]
  refine forL_range (LsJ turn p fr (hF ++ [GO.lst [.tup []]]).length hF) p.length ?_ ?_ ⟨_, _, _, _, _, _, hF.length, rfl, ((Pre.refl hF).push _).push _, Nat.le_refl _, by simp, by simp, get_app get_push, get_push⟩
  · rintro k hk e h1 ⟨x6, x7, x8, x9, x11, x13, sn, rfl, P1, q1, q2, q3, e1, e2⟩
    obtain ⟨st0, stok⟩ := lsRun_ok turn p p.length k (by omega)
    have rok := lsRound_ok (turn := turn) (p := p) (n := p.length) (k := k) (fun pl h => ⟨(stok pl h).1, (stok pl h).2.1⟩) hk st0
    generalize hrn : (hF ++ [GO.lst [.tup []]]).length = rn at q2 q3 e2 ⊢
    dsimp! []
    refine seq_to ?_
    simp! []
    refine seq_to ?_
    simp! []
    refine seq_to ?_
    simp! [itS_ref (get_app e1)]
    have s1 := lt_of_get e1
    have s2 := lt_of_get e2
    refine forL_at enc (LsK turn p fr rn sn k hF) (lsRun turn p p.length k).1 ?_ ?_ ?_ ⟨_, _, _, _, h1.length, rfl, P1.push _, q1, q2, P1.len, q3, by omega, by omega, get_app e1, get_app e2, get_push⟩
    · rintro i e h2 ⟨_, _, _, _, _, _, _, _, _, _, _, _, _, e3, _⟩
      exact chk_some e3
    · rintro i hi e h2 ⟨x6, x9, x11, x13, kn, rfl, P2, _, _, q4, _, q5, q6, e3, e4, e5⟩
      obtain ⟨plok, pll, -⟩ := stok _ (List.getElem_mem hi)
      dsimp! []
      refine seq_to ?_
      simp! [itS_rng (show p.length ≤ 1000000 by omega)]
      generalize hst : ((lsRun turn p p.length k).1.take i).foldl (lsFold turn p p.length) (none, []) = st at e5 ⊢
      refine forL_range (LsL turn p fr rn sn k hF (lsRun turn p p.length k).1[i] st) p.length ?_ ?_ ⟨_, _, _, kn, rfl, P2, q1, q2, q4, q3, q5, q6, e3, e4, e5⟩
      · rintro j hj e h3 ⟨x6, x11, x13, kn, rfl, P3, _, _, q4, _, q5, q6, e3, e4, e5⟩
        generalize hpl : (lsRun turn p p.length k).1[i] = pl at plok pll e5 ⊢
        generalize hst2 : (List.range j).foldl (lsStep turn p pl) st = st2 at e5 ⊢
        have nxt : (List.range (j + 1)).foldl (lsStep turn p pl) st = lsStep turn p pl st2 j := by
          rw [List.range_succ, List.foldl_append, hst2]
          rfl
        dsimp! []
        refine seq_to ?_
        simp! [ninV_N]
        by_cases hin : j ∈ pl
        · simp! [hin, decide_true, Bool.not_true, Bool.false_eq_true]
          refine nil_to (nil_to ⟨x6, some (I j), x13, kn, ?_, P3, q1, q2, q4, q3, q5, q6, e3, e4, ?_⟩)
          · rw [nxt, lsStep, if_pos hin]
          · rw [nxt, lsStep, if_pos hin, e5]
        · simp! [hin, decide_false, Bool.not_false]
          refine seq_to ?_
          obtain ⟨acc, f1, f2⟩ := FF.pre P3
          obtain ⟨m, f3, f4⟩ := f2 j hj
          rw [xS_nm, eE_tpl, evS_map pl enc (fun x => I (tieIn turn p x j)) (gd := none) (h1 := h3) (by dsimp! [itS_enc]) rfl (by omega)]
          · have rowe : GV.tup (pl.map fun x => I (tieIn turn p x j)) = enc (rowTo turn p pl j) := by
              simp only [rowTo, enc_list, List.map_map]
              rfl
            simp! [rowe]
            generalize hrow : rowTo turn p pl j = row at nxt ⊢
            -- the best row so far
            refine seq_mid (fun q h4 => ∃ kn', q = (.nxt, [some (enc turn), some (enc p), some (.rng ((0 : Nat) : Int) (p.length : Int)), some (.ref fr), some (.ref sn), some (.ref rn), x6, some (enc (lsBest row st2).1), some (.ref kn'), some (enc pl), none, some (I j), none, some (enc row), none]) ∧ Pre hF h4 ∧ hF.length ≤ kn' ∧ kn' ≠ rn ∧ kn' ≠ sn ∧ h4[sn]? = some (.lst ((lsRun turn p p.length k).1.map enc)) ∧ h4[rn]? = some (.lst ((lsRun turn p p.length k).2.map enc)) ∧ h4[kn']? = some (.lst ((lsBest row st2).2.map enc))) ?_ ?_
            · have s5 := lt_of_get e5
              have s3 := lt_of_get e3
              have s4 := lt_of_get e4
              have w1 : Pre hF (h3 ++ [GO.lst []]) := P3.push _
              have w2 : hF.length ≤ h3.length := P3.len
              have w6 : (h3 ++ [GO.lst []])[sn]? = some (.lst ((lsRun turn p p.length k).1.map enc)) := get_app e3
              have w7 : (h3 ++ [GO.lst []])[rn]? = some (.lst ((lsRun turn p p.length k).2.map enc)) := get_app e4
              have w8 : (h3 ++ [GO.lst []])[h3.length]? = some (.lst []) := get_push
              obtain ⟨o, kept⟩ := st2
              cases o with
              | none =>
                simp! [encO, decide_true]
                refine seq_to ?_
                simp! []
                refine seq_to ?_
                simp! []
                exact nil_to ⟨_, rfl, w1, w2, by omega, by omega, w6, w7, w8⟩
              | some b =>
                have nn : ¬ (enc b : GV) = .non := by rw [enc_list]; nofun
                simp! [encO, nn, decide_false, Bool.false_eq_true, lt_tup]
                cases hb : lexB row b with
                | true =>
                  simp! []
                  refine seq_to ?_
                  simp! []
                  refine seq_to ?_
                  simp! []
                  refine nil_to ⟨h3.length, ?_, w1, w2, by omega, by omega, w6, w7, ?_⟩
                  · simp only [lsBest, hb, if_true]
                  · rw [w8]
                    simp only [lsBest, hb, if_true]
                    rfl
                | false =>
                  simp! [Bool.false_eq_true]
                  refine nil_to ⟨kn, ?_, P3, q4, q5, q6, e3, e4, ?_⟩
                  · simp only [lsBest, hb, Bool.false_eq_true, if_false]
                  · rw [e5]
                    simp only [lsBest, hb, Bool.false_eq_true, if_false]
            · rintro _ h4 ⟨kn', rfl, P4, g4, g5, g6, e6, e7, e8⟩
              try rw [Kn_nxt]
              refine seq_to ?_
              simp! [eq_N]
              by_cases hb : row = (lsBest row st2).1
              · simp! [hb.symm, decide_true]
                refine seq_to ?_
                have lb : ((lsBest row st2).2.map enc).length < szL := by
                  have l1 := lsBest_len row st2
                  have l2 := lsSteps_len turn p pl (List.range j) st
                  have l3 := lsFolds_len turn p p.length ((lsRun turn p p.length k).1.take i) (none, [])
                  rw [hst2, List.length_range] at l2
                  rw [hst, List.length_take, Nat.min_eq_left (by omega)] at l3
                  have l4 := (lsRun_len turn p p.length k).1
                  have l5 : p.length * (i + 1) ≤ p.length * p.length ^ k := Nat.mul_le_mul_left _ (by omega)
                  have l6 := pow_small hn hk
                  rw [Nat.mul_add] at l5
                  rw [List.length_map]
                  simp only [List.length_nil] at l3
                  omega
                have tp : GV.tup [I j] = enc [j] := rfl
                simp! [isLst_ref e8, tp, add_enc (show pl.length + [j].length ≤ szL by simp; omega), app_lst e8 _ lb]
                refine nil_to (nil_to (nil_to ⟨x6, some (I j), some (enc row), kn', ?_, P4.set (.inr g4) _, q1, q2, g4, q3, g5, g6, ?_, ?_, ?_⟩))
                · rw [nxt, lsStep, if_neg hin, hrow]
                  simp only [encO, ← hb]
                · rw [get_ne (by omega), e6]
                · rw [get_ne (by omega), e7]
                · rw [get_put (lt_of_get e8), nxt, lsStep, if_neg hin, hrow, if_pos hb, List.map_append]
                  rfl
              · simp! [hb, decide_false, Bool.false_eq_true]
                refine nil_to (nil_to (nil_to ⟨x6, some (I j), some (enc row), kn', ?_, P4, q1, q2, g4, q3, g5, g6, e6, e7, ?_⟩))
                · rw [nxt, lsStep, if_neg hin, hrow]
                  rfl
                · rw [e8, nxt, lsStep, if_neg hin, hrow, if_neg hb]
          · intro x hx
            have hxn := plok.lt x hx
            have xj : x ≠ j := fun e => hin (e ▸ hx)
            refine ⟨_, setTg_nm _ _ _, ?_⟩
            dsimp! [wipeE, idx_ref f1, f3, idx_ref f4, fullRow_get hxn xj]
      · rintro e h3 ⟨x6, x11, x13, kn, rfl, P3, _, _, q4, _, q5, q6, e3, e4, e5⟩
        try rw [Kn_nxt]
        have fs : ((lsRun turn p p.length k).1.take (i + 1)).foldl (lsFold turn p p.length) (none, []) = (List.range p.length).foldl (lsStep turn p (lsRun turn p p.length k).1[i]) st := by
          rw [List.take_succ_eq_append_getElem hi, List.foldl_append, hst]
          rfl
        refine nil_to ⟨x6, some (enc (lsRun turn p p.length k).1[i]), x11, x13, kn, ?_, P3, q1, q2, q4, q3, q5, q6, e3, e4, ?_⟩
        · rw [fs]
        · rw [fs, e5]
    · rintro e h2 ⟨x6, x9, x11, x13, kn, rfl, P2, _, _, q4, _, q5, q6, e3, e4, e5⟩
      try rw [Kn_nxt]
      rw [List.take_length] at e5 ⊢
      change _ = some (GO.lst ((lsRound turn p p.length (lsRun turn p p.length k).1).2.map enc)) at e5
      change To (exSs _ _ [_, _, _, _, _, _, _, some (encO (lsRound turn p p.length (lsRun turn p p.length k).1).1), _, _, _, _, _, _, _] _) _
      obtain ⟨b, hb⟩ := Option.isSome_iff_exists.mp rok.2
      refine seq_to ?_
      simp! []
      refine seq_to ?_
      have rl : ((lsRun turn p p.length k).2.map enc).length < szL := by
        rw [List.length_map, (lsRun_len turn p p.length k).2]
        omega
      simp! [isLst_ref e4, app_lst e4 _ rl]
      refine nil_to ⟨_, _, _, _, _, _, kn, rfl, P2.set (.inr q2) _, q4, q2, q5, ?_, ?_⟩
      · rw [get_ne q5, e5]
        rfl
      · rw [get_put (lt_of_get e4)]
        simp only [lsRun, hb, Option.getD_some, List.map_append, encO]
        rfl
  · rintro e h1 ⟨x6, x7, x8, x9, x11, x13, sn, rfl, P1, q1, q2, q3, e1, e2⟩
    try rw [Kn_nxt]
    refine seq_to ?_
    simp! [sqT_ref e2]
    exact ⟨rfl, PF.trans P1⟩
end Pv
end Pp_C7
section Pp_C8
set_option Elab.async false
set_option linter.all false
set_option maxRecDepth 10000
namespace Pv
open PySem (Str)
open GV
open Enc (enc)
local macro_rules
  | `(tactic| simp! [$ls,*]) => `(tactic| try simp only [eE_var, eE_cst, eE_tup, eE_lst, eE_tpl, eE_op, eE_neg, eE_isn, eE_ntn, eE_and, eE_or, eE_not, eE_ite, eE_slc, eE_fld, eE_call, eE_perm, eE_mk, eE_len, eE_int, eE_str, eE_b2, eE_all, eE_any, eE_isi, eE_rng, eE_m1, eE_dic, eA_nil, eA_cons, eO_non, eO_som, eQ_non, eQ_som, eS_val, eS_lsv, eS_rgl, eS_dsp, eS_lis, eS_srt, eI_val, eI_sq, eI_enm, eI_rng, eI_rngS, eI_prm, xS_pass, xS_brk, xS_cnt, xS_ret, xS_exp, xS_nm, xS_tg, xS_fld, xS_sub, xS_iff, xS_for, forB_nm, forB_pair, enc_nat, getV_ok, tru_bl, tru_non, idxI_nat, intV_int, intV_bl, szT0, szT1, szT2, szT3, szT4, szS0, szS1, szS2, szS3, szS4, szS5, setTg_nm, oE_add, oE_sub, oE_mul, oE_fdiv, oE_mod, oE_pow, oE_eq, oE_ne, oE_lt, oE_le, oE_gt, oE_ge, oE_idx, oE_inn, oE_nin, Res.bind_ok, Res.bind_exc, ite_tt, ite_ff, if_true, if_false, List.map_cons, List.map_nil, List.length_cons, List.length_nil, Nat.zero_add, Nat.reduceAdd, Nat.reduceSub, List.replicate_succ, List.replicate_zero, List.cons_append, List.nil_append, List.getElem?_cons_zero, List.getElem?_cons_succ, List.set_cons_zero, List.set_cons_succ, retV, To_ok, To_bind, Kn_nxt, Kn_ret, Kn_brk, Kn_cnt, $ls,*])
local macro_rules
  | `(tactic| dsimp! [$ls,*]) => `(tactic| simp only [eE_var, eE_cst, eE_tup, eE_lst, eE_tpl, eE_op, eE_neg, eE_isn, eE_ntn, eE_and, eE_or, eE_not, eE_ite, eE_slc, eE_fld, eE_call, eE_perm, eE_mk, eE_len, eE_int, eE_str, eE_b2, eE_all, eE_any, eE_isi, eE_rng, eE_m1, eE_dic, eA_nil, eA_cons, eO_non, eO_som, eQ_non, eQ_som, eS_val, eS_lsv, eS_rgl, eS_dsp, eS_lis, eS_srt, eI_val, eI_sq, eI_enm, eI_rng, eI_rngS, eI_prm, xS_pass, xS_brk, xS_cnt, xS_ret, xS_exp, xS_nm, xS_tg, xS_fld, xS_sub, xS_iff, xS_for, forB_nm, forB_pair, enc_nat, getV_ok, tru_bl, tru_non, idxI_nat, intV_int, intV_bl, szT0, szT1, szT2, szT3, szT4, szS0, szS1, szS2, szS3, szS4, szS5, setTg_nm, oE_add, oE_sub, oE_mul, oE_fdiv, oE_mod, oE_pow, oE_eq, oE_ne, oE_lt, oE_le, oE_gt, oE_ge, oE_idx, oE_inn, oE_nin, Res.bind_ok, Res.bind_exc, ite_tt, ite_ff, if_true, if_false, List.map_cons, List.map_nil, List.length_cons, List.length_nil, Nat.zero_add, Nat.reduceAdd, Nat.reduceSub, List.replicate_succ, List.replicate_zero, List.cons_append, List.nil_append, List.getElem?_cons_zero, List.getElem?_cons_succ, List.set_cons_zero, List.set_cons_succ, $ls,*])
local macro_rules
  | `(tactic| simp_all! [$ls,*]) => `(tactic| simp only [List.map_cons, List.map_nil, List.length_cons, List.length_nil, Nat.zero_add, Nat.reduceAdd, Nat.reduceSub, List.replicate_succ, List.replicate_zero, List.cons_append, List.nil_append, List.getElem?_cons_zero, List.getElem?_cons_succ, List.set_cons_zero, List.set_cons_succ, $ls,*])
/-! ### a list or a tuple -/
def SeqV (v : GV) (xs : List GV) (h : GH) : Prop := v = .tup xs ∨ ∃ n, v = .ref n ∧ h[n]? = some (.lst xs)
theorem SeqV.enc {A : Type} [Enc A] (l : List A) (h : GH) : SeqV (enc l) (l.map enc) h := .inl rfl
theorem SeqV.ref {n : Nat} {xs : List GV} {h : GH} (e : h[n]? = some (.lst xs)) : SeqV (.ref n) xs h := .inr ⟨n, rfl, e⟩
theorem SeqV.mod {S : List Nat} {v : GV} {xs : List GV} {h h1 : GH} (s : SeqV v xs h) (m : Mod S h h1) (hv : ∀ n ∈ S, v ≠ .ref n) : SeqV v xs h1 := by
  rcases s with rfl | ⟨n, rfl, e⟩
  · exact .inl rfl
  · exact .inr ⟨n, rfl, m.get e fun z => hv n z rfl⟩
theorem SeqV.sqT {v : GV} {xs : List GV} {h : GH} (s : SeqV v xs h) : sqT v h = .ok xs h := by
  rcases s with rfl | ⟨n, rfl, e⟩
  · rfl
  · exact sqT_ref e
theorem SeqV.sqD {v : GV} {xs : List GV} {h : GH} (s : SeqV v xs h) : sqD v h = .ok xs h := by
  rcases s with rfl | ⟨n, rfl, e⟩
  · rfl
  · exact sqD_ref e
theorem SeqV.len {v : GV} {xs : List GV} {h : GH} (s : SeqV v xs h) : lenV v h = .ok (I xs.length) h := by
  rcases s with rfl | ⟨n, rfl, e⟩
  · rfl
  · exact lenV_ref e
theorem SeqV.tru {v : GV} {xs : List GV} {h : GH} (s : SeqV v xs h) : tru v h = .ok (!xs.isEmpty) h := by
  rcases s with rfl | ⟨n, rfl, e⟩
  · rfl
  · exact tru_ref e
theorem SeqV.isi {v : GV} {xs : List GV} {h : GH} (s : SeqV v xs h) : isiV [.list, .tuple] v h = .ok (.bl true) h := by
  rcases s with rfl | ⟨n, rfl, e⟩
  · rfl
  · exact isi_lt_ref e
theorem SeqV.itS {v : GV} {xs : List GV} {h : GH} (s : SeqV v xs h) : itS v h = .ok (xs, gdOf v xs) h := by
  rcases s with rfl | ⟨n, rfl, e⟩
  · rfl
  · exact itS_ref e
theorem SeqV.itE {v : GV} {xs : List GV} {h : GH} (s : SeqV v xs h) : itE v h = .ok (enmL xs, gdOf v xs) h := by
  rcases s with rfl | ⟨n, rfl, e⟩
  · rfl
  · exact itE_ref e
theorem SeqV.chk {v : GV} {xs : List GV} {h : GH} (s : SeqV v xs h) : chk (gdOf v xs) h = true := by
  rcases s with rfl | ⟨n, rfl, e⟩
  · rfl
  · exact chk_some e
theorem SeqV.idx {v : GV} {xs : List GV} {h : GH} (s : SeqV v xs h) {k : Nat} {x : GV} (e : xs[k]? = some x) : opIdx v (I k) h = .ok x h := by
  rcases s with rfl | ⟨n, rfl, q⟩
  · exact idx_tup e
  · exact idx_lst q e
theorem is_sequence_sp {G : Prg} (D : D_is_sequence G) (d : Nat) {v : GV} {xs : List GV} {h : GH} (s : SeqV v xs h) : callF G (d + 1) n_is_sequence [v] h = .ok (.bl true) h := by
  refine call_pure D.f rfl rfl rfl ?_
  dsimp! [exSs, retV, F_is_sequence, s.isi, To_ok]
  exact ⟨trivial, .refl h⟩
theorem check_turn_sp {G : Prg} (D : D_check_turn G) (d : Nat) {v : GV} {L : List Nat} {r : Nat} {h : GH} (s : SeqV v (L.map enc) h) (w : IsTurn r L) (r0 : 1 ≤ r) : callF G (d + 3) n_check_turn [v] h = .ok .non h := by
  refine call_pure D.f rfl rfl rfl ?_
  have ne : (L.map (enc : Nat → GV)).isEmpty = false := by
    have := w.len
    cases L with
    | nil => simp at this; omega
    | cons a l => rfl
  simp_all! [F_check_turn]
  refine seq_to ?_
  simp! [is_sequence_sp D.is_sequence _ s, s.tru, ne, Bool.not_true, Bool.not_false, Bool.false_eq_true]
  refine nil_to ?_
  try rw [Kn_nxt]
  have zl : ∀ q ∈ (List.range L.length).zip L, q.1 < r ∧ q.2 < r ∧ L.getD q.2 0 = q.1 := by
    intro q hq
    obtain ⟨j, hj, rfl⟩ := List.mem_iff_getElem.mp hq
    have hj2 : j < L.length := by simpa using hj
    have hr : j < r := by rw [← w.len]; exact hj2
    have e : L.getD j 0 = L[j] := by simp [hj2]
    simp only [List.getElem_zip, List.getElem_range]
    refine ⟨hr, ?_, ?_⟩
    · have := w.lt j hr
      rwa [e] at this
    · have := w.inv j hr
      rwa [e] at this
  refine seq_to ?_
  simp! [s.itE, enm_enc]
  refine forL_check enc (fun e => ∃ x y, e = [some v, x, y]) (fun _ => true) .non ⟨_, _, rfl⟩ ?_ ?_ ?_ s.chk
  · rintro q hq e ⟨x, y, rfl⟩
    obtain ⟨q1, q2, q3⟩ := zl q hq
    dsimp! []
    refine seq_to ?_
    simp! [s.len, List.length_map, w.len, is_below_nat D.is_below, q2, decide_true, Bool.not_true, Bool.false_eq_true]
    exact nil_to (nil_to ⟨rfl, .inl rfl, _, _, rfl⟩)
  · rintro - e ⟨x, y, rfl⟩
    try rw [Kn_nxt]
    refine seq_to ?_
    simp! [s.itE, enm_enc]
    refine forL_check enc (fun e => ∃ x y, e = [some v, x, y]) (fun _ => true) .non ⟨_, _, rfl⟩ ?_ ?_ ?_ s.chk
    · rintro q hq e ⟨x, y, rfl⟩
      obtain ⟨q1, q2, q3⟩ := zl q hq
      have e1 : (L.map (enc : Nat → GV))[q.2]? = some (I q.1) := by rw [map_get L enc 0 (by rw [w.len]; exact q2), q3]; rfl
      dsimp! []
      refine seq_to ?_
      simp! [s.idx e1, ne_nat, decide_true, Bool.not_true, Bool.false_eq_true]
      exact nil_to (nil_to ⟨rfl, .inl rfl, _, _, rfl⟩)
    · rintro - e ⟨x, y, rfl⟩
      try rw [Kn_nxt]
      exact nil_to ⟨rfl, .refl h⟩
    · intro k
      rw [List.all_eq_true.mpr fun _ _ => rfl] at k
      cases k
  · intro k
    rw [List.all_eq_true.mpr fun _ _ => rfl] at k
    cases k
theorem nin_34 (n : Nat) (h : GH) (hn : n = 3 ∨ n = 4) : ninV (I n) (.tup [I 3, I 4]) h = .ok (.bl false) h := by
  rw [show (GV.tup [I 3, I 4]) = enc [3, 4] from rfl, ninV_N]
  rcases hn with rfl | rfl <;> rfl
theorem check_bars_sp {G : Prg} (D : D_check_bars G) (d : Nat) {v : GV} {bs : List (List (List Nat))} {r : Nat} {h : GH} (s : SeqV v (bs.map enc) h) (w : Bars r bs) : callF G (d + 5) n_check_bars [v, I r] h = .ok .non h := by
  refine call_pure D.f rfl rfl rfl ?_
  simp_all! [F_check_bars]
  refine seq_to ?_
  simp! [is_sequence_sp D.is_sequence _ s, Bool.not_true, Bool.false_eq_true]
  refine nil_to ?_
  try rw [Kn_nxt]
  refine seq_to ?_
  simp! [s.itE, enm_enc]
  refine forL_check enc (fun e => ∃ x y, e = [some v, some (I r), x, y]) (fun _ => true) .non ⟨_, _, rfl⟩ ?_ ?_ ?_ s.chk
  · rintro q hq e ⟨x, y, rfl⟩
    obtain ⟨w1, w2⟩ := w q.2 (by
      obtain ⟨j, hj, rfl⟩ := List.mem_iff_getElem.mp hq
      simp)
    dsimp! []
    refine seq_to ?_
    simp! [is_shape_pic D.is_shape, shape_iff.mpr w1, Bool.not_true, Bool.false_eq_true, lenV_enc, nin_34 _ _ w2]
    exact nil_to (nil_to ⟨rfl, .inl rfl, _, _, rfl⟩)
  · rintro - e ⟨x, y, rfl⟩
    try rw [Kn_nxt]
    exact nil_to ⟨rfl, .refl h⟩
  · intro k
    rw [List.all_eq_true.mpr fun _ _ => rfl] at k
    cases k

/-! ### all orders of the bars -/
def prms (n : Nat) : List (List Nat) := (prmS n).map fun x => x.take n
theorem prmL_enc (n : Nat) : prmL n = (prms n).map enc := by
  unfold prmL prms
  rw [List.map_map]
  rfl
theorem prms_plc {k : Nat} (hk : k ≤ 4) : ∀ o ∈ prms k, Plc k o ∧ o.length = k := by
  have : ∀ o ∈ prms k, ((∀ x ∈ o, x < k) ∧ o.Nodup) ∧ o.length = k := by
    match k, hk with
    | 0, _ => decide
    | 1, _ => decide +kernel
    | 2, _ => decide +kernel
    | 3, _ => decide +kernel
    | 4, _ => decide +kernel
  exact fun o h => ⟨⟨(this o h).1.1, (this o h).1.2⟩, (this o h).2⟩
theorem prms_many {k : Nat} (hk : k ≤ 4) : (prms k).length ≤ 24 := by
  match k, hk with
  | 0, _ => decide
  | 1, _ => decide +kernel
  | 2, _ => decide +kernel
  | 3, _ => decide +kernel
  | 4, _ => decide +kernel
theorem prms_orders {k : Nat} (hk : k ≤ 4) : ∀ o, o ∈ prms k ↔ o ∈ orders k := by
  have : (∀ o ∈ prms k, o ∈ orders k) ∧ ∀ o ∈ orders k, o ∈ prms k := by
    match k, hk with
    | 0, _ => decide
    | 1, _ => decide +kernel
    | 2, _ => decide +kernel
    | 3, _ => decide +kernel
    | 4, _ => decide +kernel
  exact fun o => ⟨this.1 o, this.2 o⟩
def barL (turn : List Nat) (bs : List (List (List Nat))) : List (List Nat) := bs.flatMap fun bar => (prms bar.length).map fun o => (cutP turn bar o).flatten
def barS (turn : List Nat) (bs : List (List (List Nat))) : List (List Nat) := (barL turn bs).foldl ins []
theorem barL_succ (turn : List Nat) (bs : List (List (List Nat))) {k : Nat} (hk : k < bs.length) : barL turn (bs.take (k + 1)) = barL turn (bs.take k) ++ (prms bs[k].length).map fun o => (cutP turn bs[k] o).flatten := by
  rw [List.take_succ_eq_append_getElem hk]
  simp only [barL, List.flatMap_append, List.flatMap_singleton]
theorem flatten_len {A : Type} (c : Nat) : ∀ (l : List (List A)), (∀ x ∈ l, x.length ≤ c) → l.flatten.length ≤ c * l.length
  | [], _ => by simp
  | x :: l, h => by
    have h1 := flatten_len c l fun y hy => h y (List.mem_cons_of_mem _ hy)
    have h2 := h x (List.mem_cons_self ..)
    rw [List.flatten_cons, List.length_append, List.length_cons, Nat.mul_add]
    omega
theorem cutP_flat (turn : List Nat) (p : List (List Nat)) (o : List Nat) : (cutP turn p o).flatten.length ≤ o.length * o.length := by
  have := flatten_len o.length (cutP turn p o) fun x hx => by
    obtain ⟨k, hk, rfl⟩ := List.mem_map.mp hx
    have := List.mem_range.mp hk
    simp
    omega
  rwa [cutP_len] at this
def BoJ (turn : List Nat) (bs : List (List (List Nat))) (h : GH) (k : Nat) (e : Env) (h1 : GH) : Prop := ∃ x y, e = [some (enc turn), some (enc bs), some (.ref h.length), x, y] ∧ h1[h.length]? = some (.dct (kvT ((barL turn (bs.take k)).foldl ins []))) ∧ Pre h h1
def BoK (turn : List Nat) (bs : List (List (List Nat))) (h : GH) (k : Nat) (bar : List (List Nat)) (i : Nat) (e : Env) (h1 : GH) : Prop := ∃ y, e = [some (enc turn), some (enc bs), some (.ref h.length), some (enc bar), y] ∧ h1[h.length]? = some (.dct (kvT ((barL turn (bs.take k) ++ ((prms bar.length).take i).map fun o => (cutP turn bar o).flatten).foldl ins []))) ∧ Pre h h1
theorem barred_orders_sp {G : Prg} (D : D_barred_orders G) (d : Nat) {r : Nat} {turn : List Nat} {bs : List (List (List Nat))} {h : GH} (ht : turn.length = r) (hb : Bars r bs) (hl : bs.length ≤ 100000) :
    To (callF G (d + 4) n_barred_orders [enc turn, enc bs] h) fun v h1 => ∃ n, v = .ref n ∧ h.length ≤ n ∧ h1[n]? = some (.dct (kvT (barS turn bs))) ∧ Pre h h1 := by
  refine call_to D.f rfl rfl ?_
  simp_all! [F_barred_orders]
  refine seq_to ?_
  simp! []
  refine seq_to ?_
  simp! [itS_enc]
  have bl : ∀ k, (barL turn (bs.take k)).length ≤ 24 * k := fun k => by
    have h1 := flat_len (fun bar => (prms bar.length).map fun o => (cutP turn bar o).flatten) 24 (bs.take k) fun bar hbar => by
      rw [List.length_map]
      exact prms_many (by have := (hb bar (List.mem_of_mem_take hbar)).2; omega)
    have h2 : (bs.take k).length ≤ k := by rw [List.length_take]; omega
    exact Nat.le_trans h1 (Nat.mul_le_mul_left _ h2)
  refine forL_at enc (BoJ turn bs h) bs (fun k e h1 _ => rfl) ?_ ?_ ⟨none, none, rfl, get_push, (Pre.refl h).push _⟩
  · rintro k hk e h1 ⟨x, y, rfl, e3, P1⟩
    obtain ⟨w, wl⟩ := hb _ (List.getElem_mem hk)
    have w4 : bs[k].length ≤ 4 := by omega
    dsimp! []
    refine seq_to ?_
    simp! [lenV_enc, itP_nat w4, prmL_enc]
    have hn := lt_of_get e3
    refine forL_at enc (BoK turn bs h k bs[k]) (prms bs[k].length) (fun k e h1 _ => rfl) ?_ ?_ ⟨y, rfl, by simpa using e3, P1⟩
    · rintro i hi e h3 ⟨y, rfl, e5, P3⟩
      obtain ⟨pl, pll⟩ := prms_plc w4 _ (List.getElem_mem hi)
      have hz : ((barL turn (bs.take k) ++ ((prms bs[k].length).take i).map fun o => (cutP turn bs[k] o).flatten).foldl ins []).length < szL := by
        have h5 := len_insL (l := barL turn (bs.take k) ++ ((prms bs[k].length).take i).map fun o => (cutP turn bs[k] o).flatten) (S := [])
        have h6 := prms_many w4
        have h7 := bl k
        rw [List.length_append, List.length_map, List.length_take] at h5
        have := szv
        simp only [List.length_nil] at h5
        omega
      have hfl : (cutP turn bs[k] (prms bs[k].length)[i]).flatten.length ≤ szL := by
        have h1 := cutP_flat turn bs[k] (prms bs[k].length)[i]
        have h2 : (prms bs[k].length)[i].length * (prms bs[k].length)[i].length ≤ 4 * 4 := Nat.mul_le_mul (by omega) (by omega)
        have := szv
        omega
      dsimp! []
      refine seq_to ?_
      simp! [cut_sp D.cut _ w ht pl (by have := szv; omega), flat_sp D.flat _ _ hfl, setR_kvT (show Enc.dep Nat ≤ 6 by decide) e5 _ hz]
      refine nil_to ⟨_, rfl, ?_, P3.set (.inr (Nat.le_refl _)) _⟩
      rw [get_put (lt_of_get e5), List.take_succ_eq_append_getElem hi, List.map_append, ← List.append_assoc, List.foldl_append (l' := List.map _ [_])]
      rfl
    · rintro e h3 ⟨y, rfl, e5, P3⟩
      try rw [Kn_nxt]
      refine nil_to ⟨_, _, rfl, ?_, P3⟩
      rw [e5, List.take_length, barL_succ]
  · rintro e h1 ⟨x, y, rfl, e3, P1⟩
    try rw [Kn_nxt]
    refine seq_to ?_
    simp! []
    rw [List.take_length] at e3
    exact ⟨_, rfl, _, rfl, Nat.le_refl _, e3, P1⟩
theorem by_size_sp {G : Prg} (D : D_by_size G) (d : Nat) (p : List (List Nat)) (h : GH) : callF G (d + 1) n_by_size [enc p] h = .ok (enc (p.length, p)) h := by
  refine call_pure D.f rfl rfl (Enc.noref _ _) ?_
  dsimp! [exSs, retV, F_by_size, lenV_enc, To_ok]
  exact ⟨rfl, .refl h⟩
end Pv
end Pp_C8
section Pp_C9
set_option Elab.async false
set_option linter.all false
set_option maxRecDepth 10000
namespace Pv
open PySem (Str)
open GV
open Enc (enc)
local macro_rules
  | `(tactic| simp! [$ls,*]) => `(tactic| try simp only [eE_var, eE_cst, eE_tup, eE_lst, eE_tpl, eE_op, eE_neg, eE_isn, eE_ntn, eE_and, eE_or, eE_not, eE_ite, eE_slc, eE_fld, eE_call, eE_perm, eE_mk, eE_len, eE_int, eE_str, eE_b2, eE_all, eE_any, eE_isi, eE_rng, eE_m1, eE_dic, eA_nil, eA_cons, eO_non, eO_som, eQ_non, eQ_som, eS_val, eS_lsv, eS_rgl, eS_dsp, eS_lis, eS_srt, eI_val, eI_sq, eI_enm, eI_rng, eI_rngS, eI_prm, xS_pass, xS_brk, xS_cnt, xS_ret, xS_exp, xS_nm, xS_tg, xS_fld, xS_sub, xS_iff, xS_for, forB_nm, forB_pair, enc_nat, getV_ok, tru_bl, tru_non, idxI_nat, intV_int, intV_bl, szT0, szT1, szT2, szT3, szT4, szS0, szS1, szS2, szS3, szS4, szS5, setTg_nm, oE_add, oE_sub, oE_mul, oE_fdiv, oE_mod, oE_pow, oE_eq, oE_ne, oE_lt, oE_le, oE_gt, oE_ge, oE_idx, oE_inn, oE_nin, Res.bind_ok, Res.bind_exc, ite_tt, ite_ff, if_true, if_false, List.map_cons, List.map_nil, List.length_cons, List.length_nil, Nat.zero_add, Nat.reduceAdd, Nat.reduceSub, List.replicate_succ, List.replicate_zero, List.cons_append, List.nil_append, List.getElem?_cons_zero, List.getElem?_cons_succ, List.set_cons_zero, List.set_cons_succ, retV, To_ok, To_bind, Kn_nxt, Kn_ret, Kn_brk, Kn_cnt, $ls,*])
local macro_rules
  | `(tactic| dsimp! [$ls,*]) => `(tactic| simp only [eE_var, eE_cst, eE_tup, eE_lst, eE_tpl, eE_op, eE_neg, eE_isn, eE_ntn, eE_and, eE_or, eE_not, eE_ite, eE_slc, eE_fld, eE_call, eE_perm, eE_mk, eE_len, eE_int, eE_str, eE_b2, eE_all, eE_any, eE_isi, eE_rng, eE_m1, eE_dic, eA_nil, eA_cons, eO_non, eO_som, eQ_non, eQ_som, eS_val, eS_lsv, eS_rgl, eS_dsp, eS_lis, eS_srt, eI_val, eI_sq, eI_enm, eI_rng, eI_rngS, eI_prm, xS_pass, xS_brk, xS_cnt, xS_ret, xS_exp, xS_nm, xS_tg, xS_fld, xS_sub, xS_iff, xS_for, forB_nm, forB_pair, enc_nat, getV_ok, tru_bl, tru_non, idxI_nat, intV_int, intV_bl, szT0, szT1, szT2, szT3, szT4, szS0, szS1, szS2, szS3, szS4, szS5, setTg_nm, oE_add, oE_sub, oE_mul, oE_fdiv, oE_mod, oE_pow, oE_eq, oE_ne, oE_lt, oE_le, oE_gt, oE_ge, oE_idx, oE_inn, oE_nin, Res.bind_ok, Res.bind_exc, ite_tt, ite_ff, if_true, if_false, List.map_cons, List.map_nil, List.length_cons, List.length_nil, Nat.zero_add, Nat.reduceAdd, Nat.reduceSub, List.replicate_succ, List.replicate_zero, List.cons_append, List.nil_append, List.getElem?_cons_zero, List.getElem?_cons_succ, List.set_cons_zero, List.set_cons_succ, $ls,*])
local macro_rules
  | `(tactic| simp_all! [$ls,*]) => `(tactic| simp only [List.map_cons, List.map_nil, List.length_cons, List.length_nil, Nat.zero_add, Nat.reduceAdd, Nat.reduceSub, List.replicate_succ, List.replicate_zero, List.cons_append, List.nil_append, List.getElem?_cons_zero, List.getElem?_cons_succ, List.set_cons_zero, List.set_cons_succ, $ls,*])
theorem cmpL_put {A B : Type} [Enc B] [DecidableEq B] {f : GV → Acc → GH → Res Acc} {gd : Gd} {h1 : GH} (hc : chk gd h1 = true) (en : A → GV) (key : A → List B) : ∀ (l : List A) (S : List (List B)), S.length + l.length ≤ szL → (∀ x ∈ l, ∀ S : List (List B), S.length < szL → f (en x) (kvT S) h1 = .ok (kvT (ins S (key x))) h1) →
    cmpL gd f (l.map en) (kvT S) h1 = .ok (kvT ((l.map key).foldl ins S)) h1
  | [], S, _, _ => by simp only [List.map_nil, cmpL, hc, if_true, List.foldl_nil]
  | x :: l, S, hb, hf => by
    rw [List.length_cons] at hb
    simp only [List.map_cons, cmpL, hc, if_true, hf x (List.mem_cons_self ..) S (by omega), Res.bind_ok, List.foldl_cons]
    exact cmpL_put hc en key l _ (by have := len_ins (S := S) (p := key x); omega) fun y hy => hf y (List.mem_cons_of_mem _ hy)
/-- {k: True for x in ..} -/
theorem dcp_T {A B : Type} [Enc B] [DecidableEq B] {cl : Calls} {ws : List Nat} {t : Tg} {it : Iy} {k : Ex} {env : Env} {h h1 : GH} {gd : Gd} (hd : Enc.dep B ≤ 6) (xs : List A) (en : A → GV) (key : A → List B) (hi : evI cl it env h = .ok (xs.map en, gd) h1) (hc : chk gd h1 = true) (hl : xs.length ≤ szL)
    (he : ∀ x ∈ xs, ∃ e1, setTg t (en x) (wipeE env ws) = some e1 ∧ evE cl k e1 h1 = .ok (enc (key x)) h1) : evE cl (.dcp ws (.one t it .non) k (.cst (.bl true))) env h = .ok (.ref h1.length) (h1 ++ [.dct (kvT ((xs.map key).foldl ins []))]) := by
  rw [evE, evC, hi, Res.bind_ok]
  simp only
  rw [show ([] : Acc) = kvT ([] : List (List B)) from rfl, cmpL_put hc en key xs [] (by simpa using hl) ?_]
  · rfl
  · intro x hx S hS
    obtain ⟨e1, q1, q2⟩ := he x hx
    simp only [q1, evQ, Res.bind_ok, if_true, q2, eE_cst]
    rw [if_pos ⟨keyOk_kvT hd S _, by rw [len_kvT]; exact hS⟩, put_kvT]
theorem fldR_ok {t c f : Nat} {cs : List Nat} {h : GH} {fs : List (Nat × GV)} {v : GV} {env : Env} (e : h[t]? = some (.ins c fs)) (hc : c ∈ cs) (hl : fs.length < 900) : fldR (.ref t) cs f v env h = .ok env (h.set t (.ins c (putFld fs f v))) := by
  unfold fldR setFld
  simp only [e]
  rw [if_pos ⟨hc, hl⟩]
theorem opFld_ok {t c f : Nat} {cs : List Nat} {h : GH} {fs : List (Nat × GV)} {v : GV} (e : h[t]? = some (.ins c fs)) (hc : c ∈ cs) (hl : fs.lookup f = some v) : opFld (.ref t) cs f h = .ok v h := by
  unfold opFld
  simp only [e]
  rw [if_pos hc, hl]
theorem max_nat (a b : Nat) (h : GH) : ev2 .max (I a) (I b) h = .ok (I (max a b)) h := by
  show Res.ok (GV.int (if (b : Int) > a then (b : Int) else a)) h = _
  congr 2
  rw [Nat.max_def]
  split <;> split <;> omega
theorem min_nat (a b : Nat) (h : GH) : ev2 .min (I a) (I b) h = .ok (I (min a b)) h := by
  show Res.ok (GV.int (if (b : Int) < a then (b : Int) else a)) h = _
  congr 2
  rw [Nat.min_def]
  split <;> split <;> omega
def widest (bs : List (List (List Nat))) : Nat := bs.foldl (fun w b => max w b.length) 3
def tblBars (turn : List Nat) (bs : List (List (List Nat))) : List (List (List Nat)) := sortK (fun p => (p.length, p)) ((bs.map (leastShape turn)).foldl ins [])
def tblFs (turn : List Nat) (bars : List (List (List Nat))) (w bd nt : Nat) : List (Nat × GV) := [(n_turn, enc turn), (n_ties, I turn.length), (n_bars, enc bars), (n_widest, I w), (n_barred, .ref bd), (n_notes, .ref nt)]
structure TblAt (h : GH) (t : Nat) (turn : List Nat) (bars : List (List (List Nat))) (bd nt : Nat) : Prop where
  obj : h[t]? = some (.ins n_Table (tblFs turn bars (widest bars) bd nt))
  bar : h[bd]? = some (.dct (kvT (barS turn bars)))
theorem TblAt.mod {S : List Nat} {h h1 : GH} {t bd nt : Nat} {turn : List Nat} {bars : List (List (List Nat))} (T : TblAt h t turn bars bd nt) (m : Mod S h h1) (n1 : t ∉ S) (n2 : bd ∉ S) : TblAt h1 t turn bars bd nt := ⟨m.get T.obj n1, m.get T.bar n2⟩
section
variable {h : GH} {t bd nt : Nat} {turn : List Nat} {bars : List (List (List Nat))}
theorem TblAt.turn_ (T : TblAt h t turn bars bd nt) : opFld (.ref t) [n_Table] n_turn h = .ok (enc turn) h := opFld_ok T.obj (by simp) rfl
theorem TblAt.ties (T : TblAt h t turn bars bd nt) : opFld (.ref t) [n_Table] n_ties h = .ok (I turn.length) h := opFld_ok T.obj (by simp) rfl
theorem TblAt.bars_ (T : TblAt h t turn bars bd nt) : opFld (.ref t) [n_Table] n_bars h = .ok (enc bars) h := opFld_ok T.obj (by simp) rfl
theorem TblAt.widest (T : TblAt h t turn bars bd nt) : opFld (.ref t) [n_Table] n_widest h = .ok (I (Pv.widest bars)) h := opFld_ok T.obj (by simp) rfl
theorem TblAt.barred (T : TblAt h t turn bars bd nt) : opFld (.ref t) [n_Table] n_barred h = .ok (.ref bd) h := opFld_ok T.obj (by simp) rfl
theorem TblAt.notes (T : TblAt h t turn bars bd nt) : opFld (.ref t) [n_Table] n_notes h = .ok (.ref nt) h := opFld_ok T.obj (by simp) rfl
theorem TblAt.pre {h1 : GH} (T : TblAt h t turn bars bd nt) (m : Pre h h1) : TblAt h1 t turn bars bd nt := T.mod m (by simp) (by simp)
end
theorem mem_tblBars {turn : List Nat} {bs : List (List (List Nat))} {p : List (List Nat)} : p ∈ tblBars turn bs ↔ ∃ b ∈ bs, leastShape turn b = p := by
  unfold tblBars
  rw [mem_sortK, mem_insL, List.mem_map]
  simp
theorem tblBars_ok {r : Nat} {turn : List Nat} {bs : List (List (List Nat))} (t : IsTurn r turn) (w : Bars r bs) : Bars r (tblBars turn bs) := by
  intro p hp
  obtain ⟨b, hb, rfl⟩ := mem_tblBars.mp hp
  obtain ⟨w1, w2⟩ := w b hb
  obtain ⟨a, c⟩ := leastShape_wf w1 t
  exact ⟨a, by rw [c]; exact w2⟩
theorem tblBars_len {turn : List Nat} {bs : List (List (List Nat))} : (tblBars turn bs).length ≤ bs.length := by
  unfold tblBars
  rw [len_sortK]
  have := len_insL (l := bs.map (leastShape turn)) (S := [])
  simpa using this
def WdJ (t : Nat) (tv bv : GV) (turn : List Nat) (bars : List (List (List Nat))) (sn : Nat) (hA : GH) (k : Nat) (e : Env) (h1 : GH) : Prop := ∃ x, e = [some (.ref t), some tv, some bv, some (.ref sn), x] ∧ h1[t]? = some (.ins n_Table [(n_turn, enc turn), (n_ties, I turn.length), (n_bars, enc bars), (n_widest, I (widest (bars.take k)))]) ∧ Mod [t] hA h1
theorem table_init_sp {G : Prg} (D : D_Table_dot___init__ G) (d : Nat) {r t : Nat} {tv bv : GV} {turn : List Nat} {bs : List (List (List Nat))} {h : GH} (w : IsTurn r turn) (r0 : 1 ≤ r) (wb : Bars r bs) (hl : bs.length ≤ 100000) (e0 : h[t]? = some (.ins n_Table [])) (s1 : SeqV tv (turn.map enc) h) (s2 : SeqV bv (bs.map enc) h) :
    To (callF G (d + 6) n_Table_dot___init__ [.ref t, tv, bv] h) fun v h1 => ∃ bd nt, v = .non ∧ TblAt h1 t turn (tblBars turn bs) bd nt ∧ h1[nt]? = some (.dct []) ∧ h.length ≤ bd ∧ h.length ≤ nt ∧ bd ≠ nt ∧ Mod [t] h h1 := by
  have hz := szv
  have v1 : ∀ n ∈ [t], tv ≠ .ref n := by
    intro n hn
    rw [List.mem_singleton.mp hn]
    rcases s1 with rfl | ⟨m, rfl, e⟩
    · nofun
    · intro z
      cases z
      rw [e0] at e
      cases e
  have v2 : ∀ n ∈ [t], bv ≠ .ref n := by
    intro n hn
    rw [List.mem_singleton.mp hn]
    rcases s2 with rfl | ⟨m, rfl, e⟩
    · nofun
    · intro z
      cases z
      rw [e0] at e
      cases e
  have tl := lt_of_get e0
  refine call_to D.f rfl rfl ?_
  simp_all! [F_Table_dot___init__]
  refine seq_to ?_
  simp! [check_turn_sp D.check_turn _ s1 w r0]
  refine seq_to ?_
  simp! [s1.len, List.length_map, w.len, check_bars_sp D.check_bars _ s2 wb]
  refine seq_to ?_
  have c1 : n_Table ∈ [n_Table] := by simp
  simp! [s1.sqT, fldR_ok e0 c1 (show _ < 900 by simp)]
  have M1 : Mod [t] h (h.set t (.ins n_Table (putFld [] n_turn (.tup (turn.map enc))))) := (Mod.refl [t] h).set (.inl (by simp)) _
  have e1 : (h.set t (.ins n_Table (putFld [] n_turn (.tup (turn.map enc)))))[t]? = some (.ins n_Table [(n_turn, enc turn)]) := get_put tl
  generalize h.set t (.ins n_Table (putFld [] n_turn (.tup (turn.map enc)))) = h1 at M1 e1
  refine seq_to ?_
  simp! [opFld_ok e1 c1 (show [(n_turn, (enc turn : GV))].lookup n_turn = some (enc turn) from rfl), lenV_enc, fldR_ok e1 c1 (show _ < 900 by simp)]
  have M2 : Mod [t] h (h1.set t (.ins n_Table (putFld [(n_turn, enc turn)] n_ties (I turn.length)))) := M1.set (.inl (by simp)) _
  have e2 : (h1.set t (.ins n_Table (putFld [(n_turn, enc turn)] n_ties (I turn.length))))[t]? = some (.ins n_Table [(n_turn, enc turn), (n_ties, I turn.length)]) := get_put (lt_of_get e1)
  generalize h1.set t (.ins n_Table (putFld [(n_turn, enc turn)] n_ties (I turn.length))) = h2 at M2 e2
  refine seq_to ?_
  have s22 : SeqV bv (bs.map enc) h2 := s2.mod M2 v2
  have c2 : [(n_turn, (enc turn : GV)), (n_ties, I turn.length)].lookup n_turn = some (enc turn) := rfl
  rw [xS_nm, dcp_T (h1 := h2) (gd := gdOf bv (bs.map enc)) (show Enc.dep (List Nat) ≤ 6 by decide) bs enc (leastShape turn) (by dsimp! [s22.itS]) s22.chk (by omega) (fun b hb => ⟨_, setTg_nm _ _ _, by
    dsimp! [wipeE, opFld_ok e2 c1 c2]
    exact least_shape_sp D.least_shape _ (wb b hb).1 w.len (by have := (wb b hb).2; omega) h2⟩)]
  simp! []
  have sn : (h2 ++ [GO.dct (kvT ((bs.map (leastShape turn)).foldl ins []))])[h2.length]? = some (.dct (kvT ((bs.map (leastShape turn)).foldl ins []))) := get_push
  have M3 := M2.push [GO.dct (kvT ((bs.map (leastShape turn)).foldl ins []))]
  have e3 : (h2 ++ [GO.dct (kvT ((bs.map (leastShape turn)).foldl ins []))])[t]? = _ := get_app e2
  generalize h2 ++ [GO.dct (kvT ((bs.map (leastShape turn)).foldl ins []))] = h3 at M3 e3 sn
  generalize h2.length = sn0 at sn
  refine seq_to ?_
  have kk : (kvT ((bs.map (leastShape turn)).foldl ins [])).map (·.1) = ((bs.map (leastShape turn)).foldl ins []).map enc := by simp [kvT, Function.comp_def]
  have ll : ((bs.map (leastShape turn)).foldl ins []).length ≤ bs.length := by
    have := len_insL (l := bs.map (leastShape turn)) (S := [])
    simpa using this
  simp only [xS_fld, eE_tpl, To_bind]
  rw [srk_ok (A := Nat × List (List Nat)) (B := List (List Nat)) (h1 := h3) (by decide) (xs := (bs.map (leastShape turn)).foldl ins []) (fun p => (p.length, p)) (fun _ _ => trivial) (by omega) (by dsimp! [sqD_dct sn, kk]) (fun p _ => by
    exact by_size_sp D.by_size _ p h3)]
  have tb : GV.tup ((sortK (fun p : List (List Nat) => (p.length, p)) ((bs.map (leastShape turn)).foldl ins [])).map enc) = enc (tblBars turn bs) := rfl
  simp! [tb, fldR_ok e3 c1 (show _ < 900 by simp)]
  have wbt := tblBars_ok w wb
  have wbl := tblBars_len (turn := turn) (bs := bs)
  generalize tblBars turn bs = bars at wbt wbl
  have M4 : Mod [t] h (h3.set t (.ins n_Table (putFld [(n_turn, enc turn), (n_ties, I turn.length)] n_bars (enc bars)))) := M3.set (.inl (by simp)) _
  have e4 : (h3.set t (.ins n_Table (putFld [(n_turn, enc turn), (n_ties, I turn.length)] n_bars (enc bars))))[t]? = some (.ins n_Table [(n_turn, enc turn), (n_ties, I turn.length), (n_bars, enc bars)]) := get_put (lt_of_get e3)
  generalize h3.set t (.ins n_Table (putFld [(n_turn, enc turn), (n_ties, I turn.length)] n_bars (enc bars))) = h4 at M4 e4
  refine seq_to ?_
  simp! [fldR_ok e4 c1 (show _ < 900 by simp)]
  have M5 : Mod [t] h (h4.set t (.ins n_Table (putFld [(n_turn, enc turn), (n_ties, I turn.length), (n_bars, enc bars)] n_widest (I 3)))) := M4.set (.inl (by simp)) _
  have e5 : (h4.set t (.ins n_Table (putFld [(n_turn, enc turn), (n_ties, I turn.length), (n_bars, enc bars)] n_widest (I 3))))[t]? = some (.ins n_Table [(n_turn, enc turn), (n_ties, I turn.length), (n_bars, enc bars), (n_widest, I 3)]) := get_put (lt_of_get e4)
  generalize h4.set t (.ins n_Table (putFld [(n_turn, enc turn), (n_ties, I turn.length), (n_bars, enc bars)] n_widest (I 3))) = h5 at M5 e5
  refine seq_to ?_
  simp! [opFld_ok e5 c1 (show [(n_turn, (enc turn : GV)), (n_ties, I turn.length), (n_bars, enc bars), (n_widest, I 3)].lookup n_bars = some (enc bars) from rfl), itS_enc]
  refine forL_at enc (WdJ t tv bv turn bars sn0 h5) bars (fun _ _ _ _ => rfl) ?_ ?_ ⟨_, rfl, e5, .refl _ _⟩
  · rintro k hk e h6 ⟨x, rfl, e6, M6⟩
    dsimp! []
    refine seq_to ?_
    simp! [opFld_ok e6 c1 (show [(n_turn, (enc turn : GV)), (n_ties, I turn.length), (n_bars, enc bars), (n_widest, I (widest (bars.take k)))].lookup n_widest = some (I (widest (bars.take k))) from rfl), eE_b2, lenV_enc, max_nat, fldR_ok e6 c1 (show _ < 900 by simp)]
    refine nil_to ⟨_, rfl, ?_, M6.set (.inl (by simp)) _⟩
    rw [get_put (lt_of_get e6)]
    have : widest (bars.take (k + 1)) = max (widest (bars.take k)) bars[k].length := by
      unfold widest
      rw [List.take_succ_eq_append_getElem hk, List.foldl_append]
      rfl
    rw [this]
    rfl
  · rintro e h6 ⟨x, rfl, e6, M6⟩
    try rw [Kn_nxt]
    rw [List.take_length] at e6
    have M6' := M5.trans M6
    refine seq_to ?_
    simp! [opFld_ok e6 c1 (show [(n_turn, (enc turn : GV)), (n_ties, I turn.length), (n_bars, enc bars), (n_widest, I (widest bars))].lookup n_turn = some (enc turn) from rfl), opFld_ok e6 c1 (show [(n_turn, (enc turn : GV)), (n_ties, I turn.length), (n_bars, enc bars), (n_widest, I (widest bars))].lookup n_bars = some (enc bars) from rfl)]
    refine (barred_orders_sp D.barred_orders _ w.len wbt (by omega)).mono ?_
    rintro _ h7 ⟨bd, rfl, hbd, e7, P7⟩
    have e8 := P7.get e6
    simp! [fldR_ok e8 c1 (show _ < 900 by simp)]
    have bt : bd ≠ t := by have := lt_of_get e6; omega
    have M8 : Mod [t] h (h7.set t (.ins n_Table (putFld [(n_turn, enc turn), (n_ties, I turn.length), (n_bars, enc bars), (n_widest, I (widest bars))] n_barred (.ref bd)))) := (M6'.trans P7.mod).set (.inl (by simp)) _
    have e9 : (h7.set t (.ins n_Table (putFld [(n_turn, enc turn), (n_ties, I turn.length), (n_bars, enc bars), (n_widest, I (widest bars))] n_barred (.ref bd))))[t]? = some (.ins n_Table [(n_turn, enc turn), (n_ties, I turn.length), (n_bars, enc bars), (n_widest, I (widest bars)), (n_barred, .ref bd)]) := get_put (lt_of_get e8)
    have e10 : (h7.set t (.ins n_Table (putFld [(n_turn, enc turn), (n_ties, I turn.length), (n_bars, enc bars), (n_widest, I (widest bars))] n_barred (.ref bd))))[bd]? = some (.dct (kvT (barS turn bars))) := by rw [get_ne bt, e7]
    generalize h7.set t (.ins n_Table (putFld [(n_turn, enc turn), (n_ties, I turn.length), (n_bars, enc bars), (n_widest, I (widest bars))] n_barred (.ref bd))) = h8 at M8 e9 e10
    refine seq_to ?_
    have e11 : (h8 ++ [GO.dct []])[t]? = _ := get_app e9
    have b8 := lt_of_get e10
    have t8 := lt_of_get e9
    simp! [fldR_ok e11 c1 (show _ < 900 by simp)]
    have l6 := M6'.len
    have l8 := M8.len
    refine nil_to ⟨_, rfl, bd, h8.length, rfl, ⟨get_put (lt_of_get e11), ?_⟩, ?_, by omega, l8, by omega, (M8.push _).set (.inl (by simp)) _⟩
    · rw [get_ne bt, get_app e10]
    · rw [get_ne (by omega), get_push]
end Pv
end Pp_C9
section Pp_M1
set_option Elab.async false
set_option linter.all false
set_option maxRecDepth 10000
namespace Pv
open PySem (Str)
open GV
open Enc (enc)
/-! ### cuts of cuts -/
theorem tieIn_turn {r : Nat} {turn : List Nat} {p : List (List Nat)} (w : WfP r p) (t : IsTurn r turn) {a b : Nat} (ha : a < p.length) (hb : b < p.length) (ab : a ≠ b) : turn.getD (tieIn turn p a b) 0 = tieIn turn p b a := by
  unfold tieIn
  by_cases q : a < b
  · rw [if_pos q, if_neg (by omega)]
  · rw [if_neg q, if_pos (by omega), t.inv _ (w.lt ha (by omega))]
theorem cutP_get (turn : List Nat) (p : List (List Nat)) {pl : List Nat} {i j : Nat} (hj : j < pl.length) (hi : i < j) : ((cutP turn p pl).getD j []).getD i 0 = tieIn turn p (pl.getD i 0) (pl.getD j 0) := by
  unfold cutP
  simp [hj, hi]
theorem tieIn_cut {r : Nat} {turn : List Nat} {p : List (List Nat)} (w : WfP r p) (t : IsTurn r turn) {pl : List Nat} (h : Plc p.length pl) {i j : Nat} (hi : i < pl.length) (hj : j < pl.length) (ij : i ≠ j) : tieIn turn (cutP turn p pl) i j = tieIn turn p (pl.getD i 0) (pl.getD j 0) := by
  by_cases q : i < j
  · rw [tieIn, if_pos q, cutP_get turn p hj q]
  · rw [tieIn, if_neg q, cutP_get turn p hi (by omega), tieIn_turn w t (h.at_ hj) (h.at_ hi) (h.ne hj hi (Ne.symm ij))]
theorem cutP_comp {r : Nat} {turn : List Nat} {p : List (List Nat)} (w : WfP r p) (t : IsTurn r turn) {pl : List Nat} (h : Plc p.length pl) {o : List Nat} (ho : Plc pl.length o) : cutP turn (cutP turn p pl) o = cutP turn p (o.map fun x => pl.getD x 0) := by
  unfold cutP
  rw [List.length_map]
  refine List.map_congr_left fun k hk => List.map_congr_left fun i hi => ?_
  have hk := List.mem_range.mp hk
  have hi := List.mem_range.mp hi
  have g : ∀ m, m < o.length → (o.map fun x => pl.getD x 0).getD m 0 = pl.getD (o.getD m 0) 0 := fun m hm => by simp [hm]
  rw [g i (by omega), g k hk]
  exact tieIn_cut w t h (ho.at_ (by omega)) (ho.at_ hk) (ho.ne (by omega) hk (by omega))
theorem Plc.mem {n : Nat} {pl : List Nat} (h : Plc n pl) (hl : pl.length = n) {x : Nat} (hx : x < n) : x ∈ pl := by
  by_cases q : x ∈ pl
  · exact q
  · have := (h.snoc hx q).len
    rw [List.length_append, List.length_singleton] at this
    omega
theorem Plc.comp {n m : Nat} {pl o : List Nat} (h : Plc n pl) (hm : pl.length = m) (ho : Plc m o) : Plc n (o.map fun x => pl.getD x 0) :=
  ⟨fun x hx => by
    obtain ⟨y, hy, rfl⟩ := List.mem_map.mp hx
    exact h.at_ (by rw [hm]; exact ho.lt y hy), by
    refine List.pairwise_map.mpr ?_
    refine List.Pairwise.imp_of_mem ?_ ho.nd
    intro a b ha hb ab
    exact h.ne (by rw [hm]; exact ho.lt a ha) (by rw [hm]; exact ho.lt b hb) ab⟩
theorem idx_get {pl : List Nat} {x : Nat} (h : x ∈ pl) : pl.idxOf x < pl.length ∧ pl.getD (pl.idxOf x) 0 = x := by
  have := List.idxOf_lt_length_of_mem h
  exact ⟨this, by simp [this]⟩
/-- each order is an order behind another one -/
theorem Plc.back {n : Nat} {pl q : List Nat} (h : Plc n pl) (hl : pl.length = n) (hq : Plc n q) : Plc n (q.map pl.idxOf) ∧ (q.map pl.idxOf).map (fun x => pl.getD x 0) = q := by
  have e : ∀ x ∈ q, pl.getD (pl.idxOf x) 0 = x := fun x hx => (idx_get (h.mem hl (hq.lt x hx))).2
  refine ⟨⟨fun x hx => ?_, ?_⟩, ?_⟩
  · obtain ⟨y, hy, rfl⟩ := List.mem_map.mp hx
    rw [← hl]
    exact (idx_get (h.mem hl (hq.lt y hy))).1
  · refine List.pairwise_map.mpr (List.Pairwise.imp_of_mem ?_ hq.nd)
    intro a b ha hb ab z
    refine ab ?_
    rw [← e a ha, z, e b hb]
  · rw [List.map_map]
    conv => rhs; rw [← List.map_id q]
    exact List.map_congr_left fun x hx => e x hx
theorem orders_all : ∀ {k : Nat} {o : List Nat}, Plc k o → o.length = k → o ∈ orders k
  | 0, o, h, hl => by
    rw [List.length_eq_zero_iff.mp hl]
    simp [orders]
  | k + 1, o, h, hl => by
    have hk := h.mem hl (show k < k + 1 by omega)
    obtain ⟨a, b, rfl⟩ := List.append_of_mem hk
    have nd := List.nodup_append.mp h.nd
    have nd2 := List.nodup_cons.mp nd.2.1
    have ab : Plc k (a ++ b) := ⟨fun x hx => by
      have hx' : x ∈ a ∨ x ∈ b := List.mem_append.mp hx
      have h1 := h.lt x (by rcases hx' with z | z <;> simp [z])
      have h2 : x ≠ k := by
        rintro rfl
        rcases hx' with z | z
        · exact nd.2.2 x z x (List.mem_cons_self ..) rfl
        · exact nd2.1 z
      omega, List.nodup_append.mpr ⟨nd.1, nd2.2, fun x hx y hy => nd.2.2 x hx y (List.mem_cons_of_mem _ hy)⟩⟩
    have hl2 : (a ++ b).length = k := by
      simp only [List.length_append, List.length_cons] at hl ⊢
      omega
    have := orders_all ab hl2
    refine List.mem_flatMap.mpr ⟨a ++ b, this, List.mem_map.mpr ⟨a.length, List.mem_range.mpr ?_, ?_⟩⟩
    · rw [List.length_append] at hl2
      omega
    · simp
theorem orders_mem {k : Nat} {o : List Nat} : o ∈ orders k → Plc k o ∧ o.length = k := by
  induction k generalizing o with
  | zero =>
    intro h
    rw [List.mem_singleton.mp h]
    exact ⟨⟨nofun, List.nodup_nil⟩, rfl⟩
  | succ k ih =>
    intro h
    have hl := orders_len h
    obtain ⟨o2, h2, h3⟩ := List.mem_flatMap.mp h
    obtain ⟨at_, h4, rfl⟩ := List.mem_map.mp h3
    obtain ⟨p2, l2⟩ := ih h2
    have nk : k ∉ o2 := fun z => by have := p2.lt k z; omega
    have td : o2.take at_ ++ o2.drop at_ = o2 := List.take_append_drop ..
    have nd := p2.nd
    rw [← td] at nd
    have nd' := List.nodup_append.mp nd
    refine ⟨⟨fun x hx => ?_, ?_⟩, hl⟩
    · simp only [List.mem_append, List.mem_singleton] at hx
      rcases hx with (z | z) | z
      · have := p2.lt x (List.mem_of_mem_take z); omega
      · omega
      · have := p2.lt x (List.mem_of_mem_drop z); omega
    · rw [List.append_assoc, List.nodup_append]
      refine ⟨nd'.1, ?_, ?_⟩
      · rw [List.singleton_append, List.nodup_cons]
        exact ⟨fun z => nk (List.mem_of_mem_drop z), nd'.2.1⟩
      · intro a ha b hb e
        rcases List.mem_append.mp hb with z | z
        · rw [List.mem_singleton.mp z] at e
          exact nk (e ▸ List.mem_of_mem_take ha)
        · exact nd'.2.2 a ha b z e
/-- all orders of a cut in another order are all orders -/
theorem orders_cut {r : Nat} {turn : List Nat} {p : List (List Nat)} (w : WfP r p) (t : IsTurn r turn) {pl : List Nat} (h : Plc p.length pl) (hl : pl.length = p.length) (x : List (List Nat)) : (∃ o ∈ orders p.length, cutP turn (cutP turn p pl) o = x) ↔ ∃ o ∈ orders p.length, cutP turn p o = x := by
  constructor
  · rintro ⟨o, ho, rfl⟩
    obtain ⟨po, lo⟩ := orders_mem ho
    refine ⟨_, orders_all (h.comp hl po) (by rw [List.length_map, lo]), ?_⟩
    rw [cutP_comp w t h (by rw [hl]; exact po)]
  · rintro ⟨q, hq, rfl⟩
    obtain ⟨pq, lq⟩ := orders_mem hq
    obtain ⟨pb, e⟩ := h.back hl pq
    refine ⟨_, orders_all pb (by rw [List.length_map, lq]), ?_⟩
    rw [cutP_comp w t h (by rw [hl]; exact pb), e]
theorem orders_least {r : Nat} {turn : List Nat} {p : List (List Nat)} (w : WfP r p) (t : IsTurn r turn) (x : List (List Nat)) : (∃ o ∈ orders p.length, cutP turn (leastShape turn p) o = x) ↔ ∃ o ∈ orders p.length, cutP turn p o = x := by
  obtain ⟨pl, h1, h2, e⟩ := leastShape_cut turn p
  rw [e]
  exact orders_cut w t h1 h2 x
/-- the rows of a picture are told by their ties in a row -/
theorem flat_inj : ∀ {a b : List (List Nat)}, a.length = b.length → (∀ j, j < a.length → (a.getD j []).length = (b.getD j []).length) → a.flatten = b.flatten → a = b
  | [], [], _, _, _ => rfl
  | [], _ :: _, h, _, _ => by simp at h
  | _ :: _, [], h, _, _ => by simp at h
  | x :: a, y :: b, hl, hr, hf => by
    have h0 := hr 0 (by simp)
    simp only [List.getD_cons_zero] at h0
    rw [List.flatten_cons, List.flatten_cons] at hf
    obtain ⟨e1, e2⟩ := List.append_inj hf h0
    rw [e1, flat_inj (by simpa using hl) (fun j hj => by
      have := hr (j + 1) (by simpa using hj)
      simpa using this) e2]
theorem wf_flat_inj {r s : Nat} {a b : List (List Nat)} (wa : WfP r a) (wb : WfP s b) (hl : a.length = b.length) (hf : a.flatten = b.flatten) : a = b :=
  flat_inj hl (fun j hj => by rw [wa.len hj, wb.len (by omega)]) hf
theorem wf_flat_len {r : Nat} : ∀ {n : Nat} {a : List (List Nat)}, WfP r a → a.length = n → a.flatten.length = (List.range n).sum
  | n, a, w, hl => by
    have : ∀ (k : Nat), k ≤ a.length → ((a.take k).flatten).length = (List.range k).sum := by
      intro k
      induction k with
      | zero => intro _; rfl
      | succ k ih =>
        intro hk
        rw [List.take_succ_eq_append_getElem (by omega), List.flatten_append, List.length_append, ih (by omega), List.range_succ, List.sum_append]
        have := w.len (show k < a.length by omega)
        rw [List.getD_eq_getElem?_getD, List.getElem?_eq_getElem (by omega), Option.getD_some] at this
        simp [this]
    have h := this n (by omega)
    rwa [← hl, List.take_length, hl] at h
/-- a barred piece: told by its flat form, or by its picture -/
theorem bar_iff {r : Nat} {turn : List Nat} {bs : List (List (List Nat))} (t : IsTurn r turn) (w : Bars r bs) {p : List (List Nat)} (wp : WfP r p) (hp : p.length = 3 ∨ p.length = 4) : p.flatten ∈ barS turn (tblBars turn bs) ↔ p ∈ badS turn bs := by
  unfold barS badS barL badL
  rw [mem_insL, mem_insL, List.mem_flatMap, List.mem_flatMap]
  simp only [List.not_mem_nil, false_or]
  constructor
  · rintro ⟨bar, hb, hx⟩
    obtain ⟨o, ho, e⟩ := List.mem_map.mp hx
    obtain ⟨b, hb2, rfl⟩ := mem_tblBars.mp hb
    obtain ⟨wb, wl⟩ := w b hb2
    obtain ⟨wlw, wll⟩ := leastShape_wf wb t
    rw [wll] at ho
    obtain ⟨po, lo⟩ := prms_plc (by omega) o ho
    have wc := cutP_wf wlw t (pl := o) (by rw [wll]; exact po)
    have lc : (cutP turn (leastShape turn b) o).length = b.length := by rw [cutP_len, lo]
    have hlen : (cutP turn (leastShape turn b) o).length = p.length := by
      have h1 := wf_flat_len wc lc
      have h2 := wf_flat_len wp rfl
      rw [e, h2] at h1
      rw [lc]
      rcases wl with q | q <;> rcases hp with q2 | q2 <;> rw [q, q2] at h1 <;> first | omega | (exfalso; revert h1; decide)
    have ec := wf_flat_inj wc wp hlen e
    obtain ⟨o2, ho2, e2⟩ := (orders_least wb t _).mp ⟨o, (prms_orders (by omega) o).mp ho, ec⟩
    exact ⟨b, hb2, List.mem_map.mpr ⟨o2, ho2, e2⟩⟩
  · rintro ⟨b, hb, hx⟩
    obtain ⟨o, ho, e⟩ := List.mem_map.mp hx
    obtain ⟨wb, wl⟩ := w b hb
    obtain ⟨o2, ho2, e2⟩ := (orders_least wb t _).mpr ⟨o, ho, e⟩
    obtain ⟨wlw, wll⟩ := leastShape_wf wb t
    refine ⟨_, mem_tblBars.mpr ⟨b, hb, rfl⟩, List.mem_map.mpr ⟨o2, ?_, by rw [e2]⟩⟩
    rw [wll]
    exact (prms_orders (by omega) o2).mpr ho2
/-- .. of three points -/
theorem bar3_iff {r : Nat} {turn : List Nat} {bs : List (List (List Nat))} (t : IsTurn r turn) (w : Bars r bs) {a b c : Nat} (ha : a < r) (hb : b < r) (hc : c < r) : [a, b, c] ∈ barS turn (tblBars turn bs) ↔ [[], [a], [b, c]] ∈ badS turn bs := by
  have := bar_iff t w (p := [[], [a], [b, c]]) (fun j hj => by
    match j, hj with
    | 0, _ => exact ⟨rfl, nofun⟩
    | 1, _ => exact ⟨rfl, by simp [ha]⟩
    | 2, _ => exact ⟨rfl, by simp [hb, hc]⟩) (.inl rfl)
  simpa using this
end Pv
end Pp_M1
section Pp_C10
set_option Elab.async false
set_option linter.all false
set_option maxRecDepth 10000
namespace Pv
open PySem (Str)
open GV
open Enc (enc)
local macro_rules
  | `(tactic| simp! [$ls,*]) => `(tactic| try simp only [eE_var, eE_cst, eE_tup, eE_lst, eE_tpl, eE_op, eE_neg, eE_isn, eE_ntn, eE_and, eE_or, eE_not, eE_ite, eE_slc, eE_fld, eE_call, eE_perm, eE_mk, eE_len, eE_int, eE_str, eE_b2, eE_all, eE_any, eE_isi, eE_rng, eE_m1, eE_dic, eA_nil, eA_cons, eO_non, eO_som, eQ_non, eQ_som, eS_val, eS_lsv, eS_rgl, eS_dsp, eS_lis, eS_srt, eI_val, eI_sq, eI_enm, eI_rng, eI_rngS, eI_prm, xS_pass, xS_brk, xS_cnt, xS_ret, xS_exp, xS_nm, xS_tg, xS_fld, xS_sub, xS_iff, xS_for, forB_nm, forB_pair, enc_nat, getV_ok, tru_bl, tru_non, idxI_nat, intV_int, intV_bl, szT0, szT1, szT2, szT3, szT4, szS0, szS1, szS2, szS3, szS4, szS5, setTg_nm, oE_add, oE_sub, oE_mul, oE_fdiv, oE_mod, oE_pow, oE_eq, oE_ne, oE_lt, oE_le, oE_gt, oE_ge, oE_idx, oE_inn, oE_nin, Res.bind_ok, Res.bind_exc, ite_tt, ite_ff, if_true, if_false, List.map_cons, List.map_nil, List.length_cons, List.length_nil, Nat.zero_add, Nat.reduceAdd, Nat.reduceSub, List.replicate_succ, List.replicate_zero, List.cons_append, List.nil_append, List.getElem?_cons_zero, List.getElem?_cons_succ, List.set_cons_zero, List.set_cons_succ, retV, To_ok, To_bind, Kn_nxt, Kn_ret, Kn_brk, Kn_cnt, $ls,*])
local macro_rules
  | `(tactic| dsimp! [$ls,*]) => `(tactic| simp only [eE_var, eE_cst, eE_tup, eE_lst, eE_tpl, eE_op, eE_neg, eE_isn, eE_ntn, eE_and, eE_or, eE_not, eE_ite, eE_slc, eE_fld, eE_call, eE_perm, eE_mk, eE_len, eE_int, eE_str, eE_b2, eE_all, eE_any, eE_isi, eE_rng, eE_m1, eE_dic, eA_nil, eA_cons, eO_non, eO_som, eQ_non, eQ_som, eS_val, eS_lsv, eS_rgl, eS_dsp, eS_lis, eS_srt, eI_val, eI_sq, eI_enm, eI_rng, eI_rngS, eI_prm, xS_pass, xS_brk, xS_cnt, xS_ret, xS_exp, xS_nm, xS_tg, xS_fld, xS_sub, xS_iff, xS_for, forB_nm, forB_pair, enc_nat, getV_ok, tru_bl, tru_non, idxI_nat, intV_int, intV_bl, szT0, szT1, szT2, szT3, szT4, szS0, szS1, szS2, szS3, szS4, szS5, setTg_nm, oE_add, oE_sub, oE_mul, oE_fdiv, oE_mod, oE_pow, oE_eq, oE_ne, oE_lt, oE_le, oE_gt, oE_ge, oE_idx, oE_inn, oE_nin, Res.bind_ok, Res.bind_exc, ite_tt, ite_ff, if_true, if_false, List.map_cons, List.map_nil, List.length_cons, List.length_nil, Nat.zero_add, Nat.reduceAdd, Nat.reduceSub, List.replicate_succ, List.replicate_zero, List.cons_append, List.nil_append, List.getElem?_cons_zero, List.getElem?_cons_succ, List.set_cons_zero, List.set_cons_succ, $ls,*])
local macro_rules
  | `(tactic| simp_all! [$ls,*]) => `(tactic| simp only [List.map_cons, List.map_nil, List.length_cons, List.length_nil, Nat.zero_add, Nat.reduceAdd, Nat.reduceSub, List.replicate_succ, List.replicate_zero, List.cons_append, List.nil_append, List.getElem?_cons_zero, List.getElem?_cons_succ, List.set_cons_zero, List.set_cons_succ, $ls,*])
/-! ### labels -/
/-- ascending ties -/
structure Lab (r : Nat) (l : List Nat) : Prop where
  asc : l.Pairwise (· < ·)
  lt : ∀ t ∈ l, t < r
theorem ddp_nodup : ∀ {l : List Int}, l.Nodup → ddp l = l
  | [], _ => rfl
  | a :: l, h => by
    have h' := List.nodup_cons.mp h
    unfold ddp
    rw [if_neg h'.1, ddp_nodup h'.2]
theorem ddp_len : ∀ (l : List Int), (ddp l).length ≤ l.length
  | [] => Nat.le_refl 0
  | a :: l => by
    have := ddp_len l
    unfold ddp
    split <;> simp <;> omega
theorem nodup_ddp_len : ∀ {l : List Int}, (ddp l).length = l.length → l.Nodup
  | [], _ => List.nodup_nil
  | a :: l, h => by
    unfold ddp at h
    have h1 := ddp_len l
    split at h
    · rw [List.length_cons] at h; omega
    · rename_i q
      rw [List.length_cons, List.length_cons] at h
      exact List.nodup_cons.mpr ⟨q, nodup_ddp_len (by omega)⟩
def natI (l : List Nat) : List Int := l.map fun k : Nat => (k : Int)
theorem natI_nodup {l : List Nat} : (natI l).Nodup ↔ l.Nodup := by
  unfold natI
  constructor
  · intro h
    exact (List.pairwise_map.mp h).imp fun h e => h (by rw [e])
  · intro h
    exact List.pairwise_map.mpr (h.imp fun h e => h (by omega))
def risingB (r : Nat) (l : List Nat) : Bool := (l.all fun t => decide (t < r)) && (decide ((ddp (natI l)).length = l.length) && decide (l = sortE l))
theorem le'_nat (a b : Nat) : le' a b = true ↔ a ≤ b := by
  show (!decide (b < a)) = true ↔ _
  simp
theorem rising_iff {r : Nat} {l : List Nat} : risingB r l = true ↔ Lab r l := by
  unfold risingB
  simp only [Bool.and_eq_true, List.all_eq_true, decide_eq_true_eq]
  constructor
  · rintro ⟨h1, h2, h3⟩
    have nd : l.Nodup := natI_nodup.mp (nodup_ddp_len (by rw [h2]; simp [natI]))
    have srt : l.Pairwise (fun a b => le' a b = true) := by
      rw [h3]
      exact List.pairwise_mergeSort (fun a b c h1 h2 => by rw [le'_nat] at *; omega) (fun a b => by
        cases h : le' a b with
        | true => rfl
        | false =>
          have : ¬ a ≤ b := fun z => by rw [(le'_nat a b).mpr z] at h; cases h
          rw [(le'_nat b a).mpr (by omega)]
          rfl) l
    exact ⟨(srt.and nd).imp fun h => by have := (le'_nat _ _).mp h.1; omega, h1⟩
  · rintro ⟨h1, h2⟩
    have nd : l.Nodup := h1.imp fun h => by omega
    refine ⟨h2, ?_, ?_⟩
    · rw [ddp_nodup (natI_nodup.mpr nd)]
      simp [natI]
    · exact (List.mergeSort_of_pairwise (h1.imp fun h => (le'_nat _ _).mpr (by omega))).symm
def lsetV (x : GV) (h : GH) : Res GV := match x with
  | .tup vs => match intsOf vs with
    | some ns => if ns.length ≤ 3000 then .ok (I (ddp ns).length) h else .bad
    | none => .bad
  | _ => .bad
theorem eE_lset {cl : Calls} {e : Ex} {env : Env} {h : GH} : evE cl (.lset e) env h = (evE cl e env h).bind lsetV := by rw [evE]; rfl
theorem lsetV_enc {l : List Nat} (hl : l.length ≤ 3000) (h : GH) : lsetV (enc l) h = .ok (I (ddp (natI l)).length) h := by
  unfold lsetV
  simp only [enc_list, intsOf_enc]
  rw [if_pos (by rw [List.length_map]; exact hl)]
  rfl
theorem is_spots_sp {G : Prg} (D : D_is_spots G) (d : Nat) (l : List Nat) (r : Nat) (h : GH) : callF G (d + 4) n_is_spots [enc l, I r] h = .ok (.bl (l.all fun t => decide (t < r))) h := by
  refine call_pure D.f rfl rfl rfl ?_
  dsimp! [exSs, retV, F_is_spots, isi_enc, lenV_enc, is_row_nat D.is_row, decide_true, Bool.true_and, To_ok]
  exact ⟨trivial, .refl h⟩
theorem is_places_sp {G : Prg} (D : D_is_places G) (d : Nat) {l : List Nat} (r : Nat) (hl : l.length ≤ 3000) (h : GH) : callF G (d + 5) n_is_places [enc l, I r] h = .ok (.bl ((l.all fun t => decide (t < r)) && decide ((ddp (natI l)).length = l.length))) h := by
  refine call_pure D.f rfl rfl rfl ?_
  dsimp! [exSs, retV, F_is_places, is_spots_sp D.is_spots, eE_lset, lsetV_enc hl, lenV_enc, eq_nat]
  cases l.all fun t => decide (t < r)
  · dsimp! [exSs, retV, Bool.false_eq_true, Bool.false_and, To_ok]
    exact ⟨trivial, .refl h⟩
  · dsimp! [exSs, retV, Bool.true_and, To_ok]
    exact ⟨trivial, .refl h⟩
theorem is_rising_sp {G : Prg} (D : D_is_rising G) (d : Nat) {l : List Nat} (r : Nat) (hl : l.length ≤ 3000) (h : GH) : callF G (d + 6) n_is_rising [enc l, I r] h = .ok (.bl (risingB r l)) h := by
  refine call_pure D.f rfl rfl rfl ?_
  simp_all! [F_is_rising, exSs, xS_ret, eE_and, eE_call, eA_cons, eA_nil, eE_var, getV_ok, Res.bind_ok, is_places_sp D.is_places d r hl, tru_bl, eE_op, eE_tpl]
  rw [srt_ok (A := Nat) (h1 := h) (by decide) (xs := l) (fun _ _ => trivial) (by dsimp! [exSs, retV, sqT_enc])]
  unfold risingB
  rw [← Bool.and_assoc]
  cases (l.all fun t => decide (t < r)) && decide ((ddp (natI l)).length = l.length)
  · dsimp! [exSs, retV, Bool.false_eq_true, Bool.false_and, To_ok]
    exact ⟨trivial, .refl h⟩
  · have e : GV.tup ((sortE l).map enc) = enc (sortE l) := rfl
    dsimp! [exSs, retV, Bool.true_and, e, eq_N, To_ok]
    exact ⟨trivial, .refl h⟩
theorem is_label_sp {G : Prg} (D : D_is_label G) (d : Nat) {l : List Nat} (r : Nat) (hl : l.length ≤ 3000) (h : GH) : callF G (d + 7) n_is_label [enc l, I r] h = .ok (.bl (risingB r l)) h := by
  refine call_pure D.f rfl rfl rfl ?_
  dsimp! [exSs, retV, F_is_label, is_rising_sp D.is_rising d r hl, To_ok]
  exact ⟨trivial, .refl h⟩

/-! ### networks -/
abbrev Net := List (List (List Nat))
def lb (L : Net) (i j : Nat) : List Nat := (L.getD j []).getD i []
structure WfN (r n : Nat) (L : Net) : Prop where
  len : L.length = n
  row : ∀ j, j < n → (L.getD j []).length = j
  lab : ∀ i j, i < j → j < n → Lab r (lb L i j)
def rowB (r : Nat) (q : Nat × List (List Nat)) : Bool := decide (q.2.length = q.1) && q.2.all (risingB r)
def netB (r : Nat) (L : Net) : Bool := ((List.range L.length).zip L).all (rowB r)
theorem mem_zip {A : Type} {l : List A} {q : Nat × A} (h : q ∈ (List.range l.length).zip l) : ∃ hj : q.1 < l.length, q.2 = l[q.1] := by
  obtain ⟨j, hj, rfl⟩ := List.mem_iff_getElem.mp h
  have hj2 : j < l.length := by simpa using hj
  exact ⟨by simpa using hj2, by simp⟩
theorem zip_mem {A : Type} {l : List A} {j : Nat} (h : j < l.length) : (j, l[j]) ∈ (List.range l.length).zip l := by
  rw [List.mem_iff_getElem]
  exact ⟨j, by simp [h], by simp⟩
theorem net_iff {r : Nat} {L : Net} : netB r L = true ↔ WfN r L.length L := by
  unfold netB
  rw [List.all_eq_true]
  constructor
  · intro h
    have g : ∀ j, (hj : j < L.length) → L[j].length = j ∧ ∀ l ∈ L[j], Lab r l := fun j hj => by
      have := h _ (zip_mem hj)
      simp only [rowB, Bool.and_eq_true, decide_eq_true_eq, List.all_eq_true] at this
      exact ⟨this.1, fun l hl => rising_iff.mp (this.2 l hl)⟩
    refine ⟨rfl, fun j hj => ?_, fun i j hij hj => ?_⟩
    · rw [List.getD_eq_getElem?_getD, List.getElem?_eq_getElem hj]
      exact (g j hj).1
    · have e : L.getD j [] = L[j] := by rw [List.getD_eq_getElem?_getD, List.getElem?_eq_getElem hj]; rfl
      have hi : i < L[j].length := by rw [(g j hj).1]; exact hij
      unfold lb
      rw [e, List.getD_eq_getElem?_getD, List.getElem?_eq_getElem hi]
      exact (g j hj).2 _ (List.getElem_mem hi)
  · intro w q hq
    obtain ⟨hj, e⟩ := mem_zip hq
    have e2 : L.getD q.1 [] = q.2 := by rw [List.getD_eq_getElem?_getD, List.getElem?_eq_getElem hj, e]; rfl
    simp only [rowB, Bool.and_eq_true, decide_eq_true_eq, List.all_eq_true]
    have hl := w.row q.1 hj
    rw [e2] at hl
    refine ⟨hl, fun l hl2 => rising_iff.mpr ?_⟩
    obtain ⟨i, hi, rfl⟩ := List.mem_iff_getElem.mp hl2
    have := w.lab i q.1 (by omega) hj
    unfold lb at this
    rwa [e2, List.getD_eq_getElem?_getD, List.getElem?_eq_getElem hi] at this
/-- no label is longer than a set's bound -/
def LabS (L : Net) : Prop := ∀ row ∈ L, ∀ l ∈ row, l.length ≤ 3000
theorem WfN.mem {r n : Nat} {L : Net} (w : WfN r n L) {row : List (List Nat)} (hr : row ∈ L) {l : List Nat} (hl : l ∈ row) : Lab r l := by
  obtain ⟨j, hj, rfl⟩ := List.mem_iff_getElem.mp hr
  obtain ⟨i, hi, rfl⟩ := List.mem_iff_getElem.mp hl
  have hjn : j < n := by rw [← w.len]; exact hj
  have h1 := w.row j hjn
  have e2 : L.getD j [] = L[j] := by rw [List.getD_eq_getElem?_getD, List.getElem?_eq_getElem hj]; rfl
  rw [e2] at h1
  have := w.lab i j (by omega) hjn
  unfold lb at this
  rwa [e2, List.getD_eq_getElem?_getD, List.getElem?_eq_getElem hi] at this
theorem Lab.len {r : Nat} {l : List Nat} (h : Lab r l) : l.length ≤ r := nodup_len (h.asc.imp fun h => by omega) h.lt
theorem WfN.labS {r n : Nat} {L : Net} (w : WfN r n L) (hr : r ≤ 3000) : LabS L := fun row h l hl => Nat.le_trans (w.mem h hl).len hr
theorem is_network_sp {G : Prg} (D : D_is_network G) (d : Nat) {L : Net} (r : Nat) (hs : LabS L) (h : GH) : callF G (d + 8) n_is_network [enc L, I r] h = .ok (.bl (netB r L)) h := by
  refine call_pure D.f rfl rfl rfl ?_
  simp_all! [F_is_network]
  refine seq_to ?_
  simp! [isi_enc, Bool.not_true, Bool.false_eq_true]
  refine nil_to ?_
  try rw [Kn_nxt]
  refine seq_to ?_
  simp! [itE_enc]
  refine forL_check enc (fun e => ∃ x y z, e = [some (enc L), some (I r), x, y, z]) (rowB r) (.bl false) ⟨_, _, _, rfl⟩ ?_ ?_ ?_
  · rintro q hq e ⟨x, y, z, rfl⟩
    obtain ⟨hj, eq⟩ := mem_zip hq
    have hrow : q.2 ∈ L := by rw [eq]; exact List.getElem_mem _
    dsimp! []
    refine seq_to ?_
    simp! [isi_enc, Bool.not_true, Bool.false_eq_true, lenV_enc, ne_nat]
    by_cases hl : q.2.length = q.1
    · simp! [hl, decide_true, Bool.not_true, Bool.false_eq_true]
      refine nil_to ?_
      try rw [Kn_nxt]
      refine seq_to ?_
      simp! [itS_enc]
      refine forL_check enc (fun e => ∃ z, e = [some (enc L), some (I r), some (I q.1), some (enc q.2), z]) (risingB r) (.bl false) ⟨_, rfl⟩ ?_ ?_ ?_
      · rintro l hl2 e ⟨z, rfl⟩
        dsimp! []
        refine seq_to ?_
        simp! [is_label_sp D.is_label d r (hs _ hrow _ hl2)]
        cases hb : risingB r l
        · simp! [Bool.not_false, Bool.false_eq_true]
          refine seq_to ?_
          simp! []
          exact ⟨trivial, trivial⟩
        · simp! [Bool.not_true, Bool.false_eq_true]
          exact nil_to (nil_to ⟨rfl, .inl rfl, _, rfl⟩)
      · rintro k e ⟨z, rfl⟩
        try rw [Kn_nxt]
        refine nil_to ⟨rfl, ?_⟩
        simp only [rowB, hl, k, decide_true, Bool.and_self, if_true]
        exact ⟨.inl trivial, _, _, _, rfl⟩
      · rintro k e
        rw [Kn_ret]
        refine ⟨rfl, ?_⟩
        simp only [rowB, k, Bool.and_false, Bool.false_eq_true, if_false]
    · simp! [hl, decide_false, Bool.not_false]
      refine seq_to ?_
      simp! []
      refine ⟨trivial, ?_⟩
      simp only [rowB, hl, decide_false, Bool.false_and, Bool.false_eq_true, if_false]
  · rintro k e ⟨x, y, z, rfl⟩
    try rw [Kn_nxt]
    refine seq_to ?_
    simp! []
    exact ⟨congrArg _ (congrArg _ k.symm), .refl h⟩
  · rintro k e
    rw [Kn_ret]
    exact ⟨congrArg _ (congrArg _ k.symm), .refl h⟩
theorem check_network_sp {G : Prg} (D : D_check_network G) (d : Nat) {t bd nt r : Nat} {turn : List Nat} {bars : List (List (List Nat))} {L : Net} {h : GH} (T : TblAt h t turn bars bd nt) (ht : turn.length = r) (hr : r ≤ 3000) (w : WfN r L.length L) : callF G (d + 9) n_check_network [.ref t, enc L] h = .ok .non h := by
  subst ht
  refine call_pure D.f rfl rfl rfl ?_
  simp_all! [F_check_network]
  refine seq_to ?_
  simp! [T.ties, is_network_sp D.is_network d turn.length (w.labS hr), net_iff.mpr w, Bool.not_true, Bool.false_eq_true]
  refine nil_to ?_
  try rw [Kn_nxt]
  exact nil_to ⟨rfl, .refl h⟩
theorem check_tie_sp {G : Prg} (D : D_check_tie G) (d : Nat) {t bd nt a : Nat} {turn : List Nat} {bars : List (List (List Nat))} {h : GH} (T : TblAt h t turn bars bd nt) (ha : a < turn.length) : callF G (d + 3) n_check_tie [.ref t, I a] h = .ok .non h := by
  refine call_pure D.f rfl rfl rfl ?_
  simp_all! [F_check_tie]
  refine seq_to ?_
  simp! [T.ties, is_below_nat D.is_below, ha, decide_true, Bool.not_true, Bool.false_eq_true]
  refine nil_to ?_
  try rw [Kn_nxt]
  exact nil_to ⟨rfl, .refl h⟩
/-- the ties between -/
def betw (r : Nat) (S : List (List Nat)) (a b : Nat) : List Nat := (List.range r).filter fun t => !decide ([a, t, b] ∈ S)
theorem tup3 (a b c : Nat) : GV.tup [I a, I b, I c] = enc [a, b, c] := rfl
theorem between_sp {G : Prg} (D : D_between G) (d : Nat) {t bd nt a b r : Nat} {turn : List Nat} {bars : List (List (List Nat))} {h : GH} (T : TblAt h t turn bars bd nt) (hr : turn.length = r) (hr2 : r ≤ 1000) (ha : a < r) (hb : b < r) :
    callF G (d + 4) n_between [.ref t, I a, I b] h = .ok (enc (betw r (barS turn bars) a b)) h := by
  have hz := szv
  subst hr
  refine call_pure D.f rfl rfl (Enc.noref _ _) ?_
  simp_all! [F_between]
  refine seq_to ?_
  simp! [check_tie_sp D.check_tie d T ha]
  refine seq_to ?_
  simp! [check_tie_sp D.check_tie d T hb]
  refine seq_to ?_
  rw [xS_ret, eE_tpl, evS_filter (List.range turn.length) I I (fun k => !decide ([a, k, b] ∈ barS turn bars)) (gd := none) (h1 := h) (by dsimp! [T.ties, rngR_nat (show turn.length ≤ 1000000 by omega)]) rfl (by simp; omega)]
  · simp! []
    exact ⟨rfl, .refl h⟩
  · intro k hk
    refine ⟨_, setTg_nm _ _ _, ?_, fun _ => ?_⟩
    · dsimp! [wipeE, T.barred, tup3, ninV_of (in_kvT (show Enc.dep Nat ≤ 6 by decide) T.bar [a, k, b])]
    · dsimp! [wipeE]
end Pv
end Pp_C10
section Pp_M2
set_option Elab.async false
set_option linter.all false
set_option maxRecDepth 10000
namespace Pv
open PySem (Str)
open GV
open Enc (enc)
/-! ### striking: the greatest part of a network that holds itself -/
def setLb (L : Net) (i j : Nat) (v : List Nat) : Net := L.set j ((L.getD j []).set i v)
theorem getD_set_eq {A : Type} (l : List A) (i : Nat) (v x : A) (j : Nat) : (l.set i v).getD j x = if i = j ∧ i < l.length then v else l.getD j x := by
  simp only [List.getD_eq_getElem?_getD, List.getElem?_set]
  by_cases e : i = j
  · subst e
    by_cases q : i < l.length
    · simp [q]
    · simp [q, List.getElem?_eq_none (show l.length ≤ i by omega)]
  · simp [e]
theorem lb_setLb {r n : Nat} {L : Net} (w : WfN r n L) {i j : Nat} (hij : i < j) (hj : j < n) (v : List Nat) (a b : Nat) : lb (setLb L i j v) a b = if i = a ∧ j = b then v else lb L a b := by
  unfold lb setLb
  rw [getD_set_eq]
  by_cases e : j = b
  · subst e
    rw [if_pos ⟨rfl, by rw [w.len]; exact hj⟩, getD_set_eq]
    by_cases e2 : i = a
    · subst e2
      rw [if_pos ⟨rfl, by rw [w.row j hj]; exact hij⟩, if_pos ⟨rfl, rfl⟩]
    · rw [if_neg (fun z => e2 z.1), if_neg (fun z => e2 z.1)]
  · rw [if_neg (fun z => e z.1), if_neg (fun z => e z.2)]
theorem WfN.setLb {r n : Nat} {L : Net} (w : WfN r n L) {i j : Nat} (hij : i < j) (hj : j < n) {v : List Nat} (hv : Lab r v) : WfN r n (setLb L i j v) := by
  refine ⟨by rw [Pv.setLb, List.length_set, w.len], fun b hb => ?_, fun a b hab hb => ?_⟩
  · unfold Pv.setLb
    rw [getD_set_eq]
    split
    · rename_i q
      rw [List.length_set, ← q.1, w.row j hj]
    · exact w.row b hb
  · rw [lb_setLb w hij hj]
    split
    · exact hv
    · exact w.lab a b hab hb
theorem sum_set : ∀ (l : List Nat) (i x : Nat) (h : i < l.length), (l.set i x).sum + l[i] = l.sum + x
  | a :: l, 0, x, _ => by simp; omega
  | a :: l, i + 1, x, h => by
    have := sum_set l i x (by simpa using h)
    simp
    omega
def size (L : Net) : Nat := (L.map fun row => (row.map List.length).sum).sum
theorem size_setLb {r n : Nat} {L : Net} (w : WfN r n L) {i j : Nat} (hij : i < j) (hj : j < n) (v : List Nat) : size (setLb L i j v) + (lb L i j).length = size L + v.length := by
  have hj2 : j < L.length := by rw [w.len]; exact hj
  have er : L.getD j [] = L[j] := by rw [List.getD_eq_getElem?_getD, List.getElem?_eq_getElem hj2]; rfl
  have hi2 : i < L[j].length := by rw [← er, w.row j hj]; exact hij
  have el : lb L i j = L[j][i] := by unfold lb; rw [er, List.getD_eq_getElem?_getD, List.getElem?_eq_getElem hi2]; rfl
  unfold size setLb
  rw [List.map_set, er, List.map_set]
  have h1 := sum_set (L.map fun row => (row.map List.length).sum) j ((L[j].map List.length).set i v.length).sum (by simpa using hj2)
  have h2 := sum_set (L[j].map List.length) i v.length (by simpa using hi2)
  simp only [List.getElem_map] at h1 h2
  rw [el]
  omega
theorem sum_le {A : Type} (f : A → Nat) (c : Nat) : ∀ (l : List A), (∀ x ∈ l, f x ≤ c) → (l.map f).sum ≤ c * l.length
  | [], _ => by simp
  | x :: l, h => by
    have h1 := sum_le f c l fun y hy => h y (List.mem_cons_of_mem _ hy)
    have h2 := h x (List.mem_cons_self ..)
    rw [List.map_cons, List.sum_cons, List.length_cons, Nat.mul_add]
    omega
theorem size_le {r n : Nat} {L : Net} (w : WfN r n L) : size L ≤ r * (List.range n).sum := by
  have : ∀ k, k ≤ L.length → ((L.take k).map fun row => (row.map List.length).sum).sum ≤ r * (List.range k).sum := by
    intro k
    induction k with
    | zero => intro _; simp
    | succ k ih =>
      intro hk
      have hk2 : k < n := by rw [← w.len]; omega
      have h1 := ih (by omega)
      have er : L.getD k [] = L[k] := by rw [List.getD_eq_getElem?_getD, List.getElem?_eq_getElem (by omega)]; rfl
      have h2 := sum_le List.length r L[k] fun l hl => (w.mem (List.getElem_mem _) hl).len
      rw [← er, w.row k hk2, er] at h2
      rw [List.take_succ_eq_append_getElem (by omega), List.map_append, List.sum_append, List.range_succ, List.sum_append, Nat.mul_add]
      simp only [List.map_cons, List.map_nil, List.sum_cons, List.sum_nil, Nat.add_zero]
      omega
  have h := this L.length (Nat.le_refl _)
  rw [List.take_length, w.len] at h
  exact h
theorem net_ext {r s n : Nat} {L M : Net} (w : WfN r n L) (v : WfN s n M) (h : ∀ i j, i < j → j < n → lb L i j = lb M i j) : L = M := by
  refine List.ext_getElem (by rw [w.len, v.len]) fun j h1 h2 => ?_
  have hj : j < n := by rw [← w.len]; exact h1
  have e1 : L.getD j [] = L[j] := by rw [List.getD_eq_getElem?_getD, List.getElem?_eq_getElem h1]; rfl
  have e2 : M.getD j [] = M[j] := by rw [List.getD_eq_getElem?_getD, List.getElem?_eq_getElem h2]; rfl
  refine List.ext_getElem (by rw [← e1, ← e2, w.row j hj, v.row j hj]) fun i h3 h4 => ?_
  have hi : i < j := by rw [← e1, w.row j hj] at h3; exact h3
  have := h i j hi hj
  unfold lb at this
  rwa [e1, e2, List.getD_eq_getElem?_getD, List.getD_eq_getElem?_getD, List.getElem?_eq_getElem h3, List.getElem?_eq_getElem h4] at this
theorem asc_ext : ∀ {l m : List Nat}, l.Pairwise (· < ·) → m.Pairwise (· < ·) → (∀ x, x ∈ l ↔ x ∈ m) → l = m := by
  intro l m hl hm h
  have p : l.Perm m := (List.perm_ext_iff_of_nodup (hl.imp fun h => by omega) (hm.imp fun h => by omega)).mpr h
  exact p.eq_of_pairwise (fun a b _ _ h1 h2 => by omega) hl hm
section
variable (turn : List Nat) (al : Nat → Nat → Nat → Bool) (n : Nat)
def near (L : Net) (i k : Nat) : List Nat := if i < k then lb L i k else (lb L k i).map fun t => turn.getD t 0
def okB (L : Net) (i j t : Nat) : Bool := (List.range n).all fun k => decide (k = i) || (decide (k = j) || (near turn L i k).any fun a => (near turn L k j).any fun b => al a t b)
def Sub (L M : Net) : Prop := ∀ i j, i < j → j < n → ∀ t ∈ lb L i j, t ∈ lb M i j
def FixL (L : Net) : Prop := ∀ i j, i < j → j < n → ∀ t ∈ lb L i j, okB turn al n L i j t = true
variable {turn al n}
theorem Sub.refl (L : Net) : Sub n L L := fun _ _ _ _ _ h => h
theorem Sub.trans {L M N : Net} (a : Sub n L M) (b : Sub n M N) : Sub n L N := fun i j h1 h2 t h => b i j h1 h2 t (a i j h1 h2 t h)
theorem near_mono {L M : Net} (s : Sub n L M) {i k : Nat} (hi : i < n) (hk : k < n) (ik : i ≠ k) : ∀ a ∈ near turn L i k, a ∈ near turn M i k := by
  intro a ha
  unfold near at *
  split
  · rename_i q
    rw [if_pos q] at ha
    exact s i k q hk a ha
  · rename_i q
    rw [if_neg q] at ha
    obtain ⟨b, hb, rfl⟩ := List.mem_map.mp ha
    exact List.mem_map.mpr ⟨b, s k i (by omega) hi b hb, rfl⟩
theorem okB_mono {L M : Net} (s : Sub n L M) {i j t : Nat} (hi : i < n) (hj : j < n) (h : okB turn al n L i j t = true) : okB turn al n M i j t = true := by
  unfold okB at *
  rw [List.all_eq_true] at *
  intro k hk
  have hk2 := List.mem_range.mp hk
  have := h k hk
  simp only [Bool.or_eq_true, decide_eq_true_eq, List.any_eq_true] at *
  rcases this with q | q | ⟨a, ha, b, hb, q⟩
  · exact .inl q
  · exact .inr (.inl q)
  · by_cases e1 : k = i
    · exact .inl e1
    · by_cases e2 : k = j
      · exact .inr (.inl e2)
      · exact .inr (.inr ⟨a, near_mono s hi hk2 (Ne.symm e1) a ha, b, near_mono s hk2 hj e2 b hb, q⟩)
variable (turn al n)
/-- what closed is to tell -/
def ClosedR (r : Nat) (net : Net) : Option Net → Prop
  | none => ∀ F, FixL turn al n F → Sub n F net → ∃ i j, i < j ∧ j < n ∧ lb F i j = []
  | some R => WfN r n R ∧ Sub n R net ∧ FixL turn al n R ∧ (∀ i j, i < j → j < n → lb R i j ≠ []) ∧ ∀ F, FixL turn al n F → Sub n F net → Sub n F R
variable {turn al n}
theorem ClosedR.one {r : Nat} {net : Net} : ∀ {a b : Option Net}, ClosedR turn al n r net a → ClosedR turn al n r net b → a = b
  | none, none, _, _ => rfl
  | none, some R, h, h2 => by
    obtain ⟨i, j, q1, q2, q3⟩ := h R h2.2.2.1 h2.2.1
    exact absurd q3 (h2.2.2.2.1 i j q1 q2)
  | some R, none, h2, h => by
    obtain ⟨i, j, q1, q2, q3⟩ := h R h2.2.2.1 h2.2.1
    exact absurd q3 (h2.2.2.2.1 i j q1 q2)
  | some R, some S, h1, h2 => by
    congr 1
    refine net_ext h1.1 h2.1 fun i j hij hj => ?_
    refine asc_ext (h1.1.lab i j hij hj).asc (h2.1.lab i j hij hj).asc fun x => ?_
    exact ⟨h2.2.2.2.2 R h1.2.2.1 h1.2.1 i j hij hj x, h1.2.2.2.2 S h2.2.2.1 h2.2.1 i j hij hj x⟩
variable (turn al n)
/-- while it is struck -/
structure Inv (r : Nat) (net L : Net) : Prop where
  wf : WfN r n L
  sub : Sub n L net
  top : ∀ F, FixL turn al n F → Sub n F net → Sub n F L
variable {turn al n}
theorem Inv.start {r : Nat} {net : Net} (w : WfN r n net) : Inv turn al n r net net := ⟨w, .refl _, fun _ _ h => h⟩
theorem Inv.strike {r : Nat} {net L : Net} (h : Inv turn al n r net L) {i j : Nat} (hij : i < j) (hj : j < n) {v : List Nat} (hv : Lab r v) (hs : ∀ t ∈ v, t ∈ lb L i j) (ho : ∀ t ∈ lb L i j, okB turn al n L i j t = true → t ∈ v) : Inv turn al n r net (setLb L i j v) := by
  have su : Sub n (setLb L i j v) L := by
    intro a b hab hb t ht
    rw [lb_setLb h.wf hij hj] at ht
    split at ht
    · rename_i q
      rw [← q.1, ← q.2]
      exact hs t ht
    · exact ht
  refine ⟨h.wf.setLb hij hj hv, su.trans h.sub, fun F fF sF a b hab hb t ht => ?_⟩
  have fl := h.top F fF sF
  rw [lb_setLb h.wf hij hj]
  split
  · rename_i q
    rw [← q.1, ← q.2] at ht
    exact ho t (fl i j hij hj t ht) (okB_mono fl (by omega) hj (fF i j hij hj t ht))
  · exact fl a b hab hb t ht
theorem Inv.none_of {r : Nat} {net L : Net} (h : Inv turn al n r net L) {i j : Nat} (hij : i < j) (hj : j < n) (he : ∀ t ∈ lb L i j, okB turn al n L i j t = false) : ClosedR turn al n r net none := by
  intro F fF sF
  refine ⟨i, j, hij, hj, ?_⟩
  rw [List.eq_nil_iff_forall_not_mem]
  intro t ht
  have fl := h.top F fF sF
  have := okB_mono fl (by omega) hj (fF i j hij hj t ht)
  rw [he t (fl i j hij hj t ht)] at this
  cases this
theorem Inv.some_of {r : Nat} {net L : Net} (h : Inv turn al n r net L) (f : FixL turn al n L) (ne : ∀ i j, i < j → j < n → lb L i j ≠ []) : ClosedR turn al n r net (some L) := ⟨h.wf, h.sub, f, ne, h.top⟩
end
end Pv
end Pp_M2
section Pp_C11
set_option Elab.async false
set_option linter.all false
set_option maxRecDepth 10000
namespace Pv
open PySem (Str)
open GV
open Enc (enc)
local macro_rules
  | `(tactic| simp! [$ls,*]) => `(tactic| try simp only [eE_var, eE_cst, eE_tup, eE_lst, eE_tpl, eE_op, eE_neg, eE_isn, eE_ntn, eE_and, eE_or, eE_not, eE_ite, eE_slc, eE_fld, eE_call, eE_perm, eE_mk, eE_len, eE_int, eE_str, eE_b2, eE_all, eE_any, eE_isi, eE_rng, eE_m1, eE_dic, eA_nil, eA_cons, eO_non, eO_som, eQ_non, eQ_som, eS_val, eS_lsv, eS_rgl, eS_dsp, eS_lis, eS_srt, eI_val, eI_sq, eI_enm, eI_rng, eI_rngS, eI_prm, xS_pass, xS_brk, xS_cnt, xS_ret, xS_exp, xS_nm, xS_tg, xS_fld, xS_sub, xS_iff, xS_for, forB_nm, forB_pair, enc_nat, getV_ok, tru_bl, tru_non, idxI_nat, intV_int, intV_bl, szT0, szT1, szT2, szT3, szT4, szS0, szS1, szS2, szS3, szS4, szS5, setTg_nm, oE_add, oE_sub, oE_mul, oE_fdiv, oE_mod, oE_pow, oE_eq, oE_ne, oE_lt, oE_le, oE_gt, oE_ge, oE_idx, oE_inn, oE_nin, Res.bind_ok, Res.bind_exc, ite_tt, ite_ff, if_true, if_false, List.map_cons, List.map_nil, List.length_cons, List.length_nil, Nat.zero_add, Nat.reduceAdd, Nat.reduceSub, List.replicate_succ, List.replicate_zero, List.cons_append, List.nil_append, List.getElem?_cons_zero, List.getElem?_cons_succ, List.set_cons_zero, List.set_cons_succ, retV, To_ok, To_bind, Kn_nxt, Kn_ret, Kn_brk, Kn_cnt, $ls,*])
local macro_rules
  | `(tactic| dsimp! [$ls,*]) => `(tactic| simp only [eE_var, eE_cst, eE_tup, eE_lst, eE_tpl, eE_op, eE_neg, eE_isn, eE_ntn, eE_and, eE_or, eE_not, eE_ite, eE_slc, eE_fld, eE_call, eE_perm, eE_mk, eE_len, eE_int, eE_str, eE_b2, eE_all, eE_any, eE_isi, eE_rng, eE_m1, eE_dic, eA_nil, eA_cons, eO_non, eO_som, eQ_non, eQ_som, eS_val, eS_lsv, eS_rgl, eS_dsp, eS_lis, eS_srt, eI_val, eI_sq, eI_enm, eI_rng, eI_rngS, eI_prm, xS_pass, xS_brk, xS_cnt, xS_ret, xS_exp, xS_nm, xS_tg, xS_fld, xS_sub, xS_iff, xS_for, forB_nm, forB_pair, enc_nat, getV_ok, tru_bl, tru_non, idxI_nat, intV_int, intV_bl, szT0, szT1, szT2, szT3, szT4, szS0, szS1, szS2, szS3, szS4, szS5, setTg_nm, oE_add, oE_sub, oE_mul, oE_fdiv, oE_mod, oE_pow, oE_eq, oE_ne, oE_lt, oE_le, oE_gt, oE_ge, oE_idx, oE_inn, oE_nin, Res.bind_ok, Res.bind_exc, ite_tt, ite_ff, if_true, if_false, List.map_cons, List.map_nil, List.length_cons, List.length_nil, Nat.zero_add, Nat.reduceAdd, Nat.reduceSub, List.replicate_succ, List.replicate_zero, List.cons_append, List.nil_append, List.getElem?_cons_zero, List.getElem?_cons_succ, List.set_cons_zero, List.set_cons_succ, $ls,*])
local macro_rules
  | `(tactic| simp_all! [$ls,*]) => `(tactic| simp only [List.map_cons, List.map_nil, List.length_cons, List.length_nil, Nat.zero_add, Nat.reduceAdd, Nat.reduceSub, List.replicate_succ, List.replicate_zero, List.cons_append, List.nil_append, List.getElem?_cons_zero, List.getElem?_cons_succ, List.set_cons_zero, List.set_cons_succ, $ls,*])
/-! ### dicts -/
theorem find_map_put (k v : GV) : ∀ (kvs : List (GV × GV)) (k' : GV), ((kvs.map fun p => if num p.1 = num k then (p.1, v) else p).find? fun p => decide (num p.1 = num k')) = (kvs.find? fun p => decide (num p.1 = num k')).map fun p => if num p.1 = num k then (p.1, v) else p
  | [], _ => rfl
  | p :: kvs, k' => by
    rw [List.map_cons, List.find?_cons, List.find?_cons, find_map_put k v kvs k']
    by_cases e : num p.1 = num k
    · simp only [e, if_true]
      by_cases e2 : num k = num k' <;> simp [e, e2]
    · simp only [e, if_false]
      by_cases e2 : num p.1 = num k'
      · have e3 : ¬ num k' = num k := fun z => e (e2.trans z)
        simp [e2, e3]
      · simp [e2]
theorem look_put (kvs : List (GV × GV)) (k v k' : GV) : look (put kvs k v) k' = if num k = num k' then some v else look kvs k' := by
  by_cases hs : (look kvs k).isSome = true
  · unfold put
    rw [if_pos hs]
    unfold look at hs ⊢
    rw [find_map_put]
    by_cases e : num k = num k'
    · rw [if_pos e, ← e]
      cases q : kvs.find? fun p => decide (num p.1 = num k) with
      | none => rw [q] at hs; cases hs
      | some p =>
        have := List.find?_some q
        simp only [decide_eq_true_eq] at this
        simp [this]
    · rw [if_neg e]
      cases q : kvs.find? fun p => decide (num p.1 = num k') with
      | none => rfl
      | some p =>
        have := List.find?_some q
        simp only [decide_eq_true_eq] at this
        simp [this, show ¬ num k' = num k from fun z => e z.symm]
  · unfold put
    rw [if_neg hs]
    unfold look at hs ⊢
    rw [List.find?_append]
    by_cases e : num k = num k'
    · rw [if_pos e, ← e]
      cases q : kvs.find? fun p => decide (num p.1 = num k) with
      | none => simp
      | some p => rw [q] at hs; simp at hs
    · rw [if_neg e]
      cases q : kvs.find? fun p => decide (num p.1 = num k') with
      | none => simp [e]
      | some p => rfl
theorem put_allP {P : GV → Bool} {kvs : List (GV × GV)} {k v : GV} (h : kvs.all (fun p => P p.1) = true) (hk : P k = true) : (put kvs k v).all (fun p => P p.1) = true := by
  unfold put
  split
  · rw [List.all_map, List.all_eq_true]
    rw [List.all_eq_true] at h
    intro p hp
    simp only [Function.comp]
    split <;> exact h p hp
  · rw [List.all_append, h]
    simp [hk]
theorem put_lenL (kvs : List (GV × GV)) (k v : GV) : (put kvs k v).length ≤ kvs.length + 1 := by
  unfold put
  split <;> simp
/-- a dict from tuples of data, as a table of what it holds -/
structure DctT (kvs : List (GV × GV)) (m : Nat) : Prop where
  key : kvs.all (fun p => keyT p.1) = true
  len : kvs.length ≤ m
theorem DctT.nil : DctT [] 0 := ⟨rfl, Nat.le_refl 0⟩
theorem DctT.put {kvs : List (GV × GV)} {m : Nat} (d : DctT kvs m) {k v : GV} (hk : keyT k = true) : DctT (put kvs k v) (m + 1) := ⟨put_allP d.key hk, by have := put_lenL kvs k v; have := d.len; omega⟩
theorem DctT.ok {kvs : List (GV × GV)} {m : Nat} (d : DctT kvs m) {k : GV} (hk : keyT k = true) : keyOk kvs k = true := by
  unfold keyOk
  rw [hk, d.key]
  rfl
theorem DctT.mono {kvs : List (GV × GV)} {m k : Nat} (d : DctT kvs m) (h : m ≤ k) : DctT kvs k := ⟨d.key, Nat.le_trans d.len h⟩
theorem idx_dct {n : Nat} {h : GH} {kvs : List (GV × GV)} {m : Nat} {k v : GV} (e : h[n]? = some (.dct kvs)) (d : DctT kvs m) (hk : keyT k = true) (hl : look kvs k = some v) : opIdx (.ref n) k h = .ok v h := by
  unfold opIdx
  simp only [e]
  rw [if_pos (d.ok hk), hl]
theorem call_ok {G : Prg} {d f : Nat} {fn : Fn} {vs : List GV} {h h1 : GH} {v : GV} (hG : G f = some fn) (hp : fn.pure = false) (hn : vs.length = fn.np) (hb : ∃ e, exSs (callF G d) fn.body (vs.map some ++ List.replicate (fn.nn - vs.length) none) h = .ok (.ret v, e) h1) : callF G (d + 1) f vs h = .ok v h1 := by
  obtain ⟨e, hb⟩ := hb
  rw [callF_eq hG hn, hb, Res.bind_ok]
  simp only [retV, hp]
  rfl

/-! ### labels as lists -/
structure LabAt (h : GH) (lr : Nat) (rf : List Nat) (L : Net) : Prop where
  top : h[lr]? = some (.lst (rf.map .ref))
  len : rf.length = L.length
  row : ∀ j, j < L.length → h[rf.getD j 0]? = some (.lst ((L.getD j []).map enc))
  nd : rf.Nodup
  ne : lr ∉ rf
theorem getD_mem {l : List Nat} {j : Nat} (h : j < l.length) : l.getD j 0 ∈ l := by
  rw [List.getD_eq_getElem?_getD, List.getElem?_eq_getElem h]
  exact List.getElem_mem h
theorem LabAt.mod {S : List Nat} {h h1 : GH} {lr : Nat} {rf : List Nat} {L : Net} (A : LabAt h lr rf L) (m : Mod S h h1) (n1 : lr ∉ S) (n2 : ∀ x ∈ rf, x ∉ S) : LabAt h1 lr rf L :=
  ⟨m.get A.top n1, A.len, fun j hj => m.get (A.row j hj) (n2 _ (getD_mem (by rw [A.len]; exact hj))), A.nd, A.ne⟩
theorem LabAt.pre {h h1 : GH} {lr : Nat} {rf : List Nat} {L : Net} (A : LabAt h lr rf L) (m : Pre h h1) : LabAt h1 lr rf L := A.mod m (by simp) (by simp)
theorem LabAt.idx {h : GH} {lr : Nat} {rf : List Nat} {L : Net} (A : LabAt h lr rf L) {j : Nat} (hj : j < L.length) : opIdx (.ref lr) (I j) h = .ok (.ref (rf.getD j 0)) h := idx_lst A.top (map_get rf .ref 0 (by rw [A.len]; exact hj))
theorem LabAt.idx2 {h : GH} {lr : Nat} {rf : List Nat} {L : Net} (A : LabAt h lr rf L) {i j : Nat} (hj : j < L.length) (hi : i < (L.getD j []).length) : opIdx (.ref (rf.getD j 0)) (I i) h = .ok (enc (lb L i j)) h := idx_lst (A.row j hj) (map_get _ enc [] hi)
theorem nodup_getD {l : List Nat} (nd : l.Nodup) {i j : Nat} (hi : i < l.length) (hj : j < l.length) (e : l.getD i 0 = l.getD j 0) : i = j := by
  rw [List.getD_eq_getElem?_getD, List.getD_eq_getElem?_getD, List.getElem?_eq_getElem hi, List.getElem?_eq_getElem hj] at e
  exact nodup_at nd hi hj e
theorem LabAt.put {h : GH} {lr : Nat} {rf : List Nat} {L : Net} (A : LabAt h lr rf L) {i j : Nat} (hj : j < L.length) (v : List Nat) : LabAt (h.set (rf.getD j 0) (.lst (((L.getD j []).set i v).map enc))) lr rf (setLb L i j v) := by
  have hj2 : j < rf.length := by rw [A.len]; exact hj
  refine ⟨?_, by rw [A.len, setLb, List.length_set], fun k hk => ?_, A.nd, A.ne⟩
  · rw [get_ne (fun e => A.ne (by rw [e]; exact getD_mem hj2)), A.top]
  · rw [setLb, List.length_set] at hk
    unfold setLb
    rw [getD_set_eq]
    by_cases e : j = k
    · subst e
      rw [if_pos ⟨rfl, hj⟩, get_put (lt_of_get (A.row j hj))]
    · rw [if_neg (fun z => e z.1), get_ne (fun z => e (nodup_getD A.nd (by rw [A.len]; exact hk) hj2 z).symm), A.row k hk]
def pairs (n : Nat) : List (Nat × Nat) := (List.range n).flatMap fun j => (List.range j).map fun i => (i, j)
theorem mem_pairs {n : Nat} {q : Nat × Nat} : q ∈ pairs n ↔ q.1 < q.2 ∧ q.2 < n := by
  unfold pairs
  rw [List.mem_flatMap]
  constructor
  · rintro ⟨j, hj, hq⟩
    obtain ⟨i, hi, rfl⟩ := List.mem_map.mp hq
    exact ⟨List.mem_range.mp hi, List.mem_range.mp hj⟩
  · rintro ⟨h1, h2⟩
    exact ⟨q.2, List.mem_range.mpr h2, List.mem_map.mpr ⟨q.1, List.mem_range.mpr h1, rfl⟩⟩
theorem pairs_len (n : Nat) : (pairs n).length ≤ n * n := by
  have := flat_len (fun j => (List.range j).map fun i => (i, j)) n (List.range n) fun j hj => by
    have := List.mem_range.mp hj
    simp
    omega
  rw [List.length_range] at this
  exact this
theorem all_pairs_sp {G : Prg} (D : D_all_pairs G) (d : Nat) {n : Nat} (hn : n ≤ 1000) (h : GH) : callF G (d + 1) n_all_pairs [I n] h = .ok (.ref h.length) (h ++ [.lst ((pairs n).map enc)]) := by
  have hz := szv
  refine call_ok D.f rfl rfl ⟨[some (I n), none, none], ?_⟩
  simp_all! [F_all_pairs, exSs, xS_ret, eE_lst]
  rw [evS_two (List.range n) I (fun j => List.range j) I (fun j i => enc (i, j)) (gd := none) (h := h) (by dsimp! [rngR_nat (show n ≤ 1000000 by omega)]) rfl ?_]
  · have e : ((List.range n).flatMap fun j => (List.range j).map fun i => (enc (i, j) : GV)) = (pairs n).map enc := by
      simp [pairs, List.map_flatMap, Function.comp_def]
    dsimp! [e]
  · intro j hj
    have hj := List.mem_range.mp hj
    refine ⟨_, none, setTg_nm _ _ _, ?_, rfl, fun i hi => ⟨_, setTg_nm _ _ _, ?_⟩⟩
    · dsimp! [wipeE, rngR_nat (show j ≤ 1000000 by omega)]
    · dsimp! [wipeE]
      rfl
  · have := flat_len (fun j => List.range j) n (List.range n) fun j hj => by
      have := List.mem_range.mp hj
      simp
      omega
    rw [List.length_range] at this
    have h2 : n * n ≤ 1000 * 1000 := Nat.mul_le_mul hn hn
    omega
def turnS (turn l : List Nat) : List Nat := sortE (l.map fun t => turn.getD t 0)
theorem turned_label_sp {G : Prg} (D : D_turned_label G) (d : Nat) {t bd nt : Nat} {turn l : List Nat} {bars : List (List (List Nat))} {h : GH} (T : TblAt h t turn bars bd nt) (hl : ∀ x ∈ l, x < turn.length) (hs : l.length ≤ 1000) : callF G (d + 1) n_turned_label [.ref t, enc l] h = .ok (enc (turnS turn l)) h := by
  have hz := szv
  refine call_pure D.f rfl rfl (Enc.noref _ _) ?_
  simp_all! [F_turned_label, exSs, xS_ret, eE_tpl]
  rw [srt_ok (A := Nat) (h1 := h) (by decide) (xs := l.map fun t => turn.getD t 0) (fun _ _ => trivial) (by
    rw [evS_map l enc (fun x => enc (turn.getD x 0)) (gd := none) (h1 := h) (by dsimp! [itS_enc]) rfl (by omega) fun x hx => ⟨_, setTg_nm _ _ _, by dsimp! [wipeE, T.turn_, idx_N (hl x hx)]⟩, List.map_map]
    rfl)]
  simp! []
  exact ⟨rfl, .refl h⟩
def nearS (turn : List Nat) (L : Net) (i k : Nat) : List Nat := if i < k then lb L i k else turnS turn (lb L k i)
theorem mem_nearS {turn : List Nat} {L : Net} {i k x : Nat} : x ∈ nearS turn L i k ↔ x ∈ near turn L i k := by
  unfold nearS near turnS
  split
  · exact Iff.rfl
  · rw [mem_sortE]
theorem label_from_sp {G : Prg} (D : D_label_from G) (d : Nat) {r n t bd nt lr : Nat} {turn rf : List Nat} {bars : List (List (List Nat))} {L : Net} {h : GH} (T : TblAt h t turn bars bd nt) (A : LabAt h lr rf L) (w : WfN r n L) (ht : turn.length = r) (hr : r ≤ 1000) {i j : Nat} (hi : i < n) (hj : j < n) (ij : i ≠ j) :
    callF G (d + 2) n_label_from [.ref t, .ref lr, I i, I j] h = .ok (enc (nearS turn L i j)) h := by
  refine call_pure D.f rfl rfl (Enc.noref _ _) ?_
  simp_all! [F_label_from]
  refine seq_to ?_
  simp! [lt_nat]
  by_cases q : i < j
  · simp! [q, decide_true]
    refine seq_to ?_
    simp! [A.idx (by rw [w.len]; exact hj), A.idx2 (by rw [w.len]; exact hj) (show i < (L.getD j []).length by rw [w.row j hj]; exact q)]
    refine ⟨?_, .refl h⟩
    rw [nearS, if_pos q]
  · simp! [q, decide_false, Bool.false_eq_true]
    refine nil_to ?_
    try rw [Kn_nxt]
    refine seq_to ?_
    have ji : j < i := by omega
    have lw := w.lab j i ji hi
    simp! [A.idx (by rw [w.len]; exact hi), A.idx2 (by rw [w.len]; exact hi) (show j < (L.getD i []).length by rw [w.row i hi]; exact ji), turned_label_sp D.turned_label d T (fun x hx => by rw [ht]; exact lw.lt x hx) (by have := lw.len; omega)]
    refine ⟨?_, .refl h⟩
    rw [nearS, if_neg q]
theorem nearS_len {r n : Nat} {turn : List Nat} {L : Net} (w : WfN r n L) {i k : Nat} (hi : i < n) (hk : k < n) (ik : i ≠ k) : (nearS turn L i k).length ≤ r := by
  unfold nearS turnS
  split
  · rename_i q
    exact (w.lab i k q hk).len
  · rename_i q
    rw [len_sortE, List.length_map]
    exact (w.lab k i (by omega) hi).len
theorem near_lt {r n : Nat} {turn : List Nat} {L : Net} (w : WfN r n L) (t : IsTurn r turn) {i k : Nat} (hi : i < n) (hk : k < n) (ik : i ≠ k) : ∀ x ∈ near turn L i k, x < r := by
  intro x hx
  unfold near at hx
  split at hx
  · rename_i q
    exact (w.lab i k q hk).lt x hx
  · rename_i q
    obtain ⟨y, hy, rfl⟩ := List.mem_map.mp hx
    exact t.lt y ((w.lab k i (by omega) hi).lt y hy)
/-- which triangles are let -/
def alS (r : Nat) (S : List (List Nat)) (a t b : Nat) : Bool := decide (t ∈ betw r S a b)
theorem tup2 (a b : Nat) : GV.tup [I a, I b] = enc [a, b] := rfl
def FitsAt (h : GH) (fd r : Nat) (S : List (List Nat)) : Prop := ∃ kvs m, h[fd]? = some (.dct kvs) ∧ DctT kvs m ∧ ∀ a b, a < r → b < r → look kvs (enc [a, b]) = some (enc (betw r S a b))
theorem FitsAt.mod {T : List Nat} {h h1 : GH} {fd r : Nat} {S : List (List Nat)} (F : FitsAt h fd r S) (m : Mod T h h1) (n1 : fd ∉ T) : FitsAt h1 fd r S := by
  obtain ⟨kvs, k, e, d, l⟩ := F
  exact ⟨kvs, k, m.get e n1, d, l⟩
theorem FitsAt.idx {h : GH} {fd r a b : Nat} {S : List (List Nat)} (F : FitsAt h fd r S) (ha : a < r) (hb : b < r) : opIdx (.ref fd) (enc [a, b]) h = .ok (enc (betw r S a b)) h := by
  obtain ⟨kvs, k, e, d, l⟩ := F
  exact idx_dct e d (keyT_enc (show Enc.dep Nat ≤ 6 by decide) _) (l a b ha hb)
theorem is_backed_sp {G : Prg} (D : D_is_backed G) (d : Nat) {r n t bd nt lr fd : Nat} {turn rf : List Nat} {bars : List (List (List Nat))} {S : List (List Nat)} {L : Net} {h : GH} (T : TblAt h t turn bars bd nt) (F : FitsAt h fd r S) (A : LabAt h lr rf L) (w : WfN r n L) (ht : IsTurn r turn) (hr : r ≤ 1000) (hn : n ≤ 1000) {i j x : Nat} (hi : i < n) (hj : j < n) :
    callF G (d + 3) n_is_backed [.ref t, .ref fd, .ref lr, I i, I j, I x] h = .ok (.bl (okB turn (alS r S) n L i j x)) h := by
  have hz := szv
  refine call_pure D.f rfl rfl rfl ?_
  simp_all! [F_is_backed]
  refine seq_to ?_
  simp! [lenV_ref A.top, List.length_map, A.len, w.len, rngR_nat (show n ≤ 1000000 by omega)]
  refine forL_check I (fun e => ∃ x6 x7 x8, e = [some (.ref t), some (.ref fd), some (.ref lr), some (I i), some (I j), some (I x), x6, x7, x8, none, none]) (fun k => decide (k = i) || (decide (k = j) || (near turn L i k).any fun a => (near turn L k j).any fun b => alS r S a x b)) (.bl false) ⟨_, _, _, rfl⟩ ?_ ?_ ?_
  · rintro k hk e ⟨x6, x7, x8, rfl⟩
    have hk := List.mem_range.mp hk
    dsimp! []
    refine seq_to ?_
    simp! [ne_nat]
    by_cases q1 : k = i
    · simp! [q1, decide_true, Bool.not_true, Bool.false_eq_true]
      refine nil_to (nil_to ⟨rfl, ?_⟩)
      simp only [Bool.true_or, if_true]
      exact ⟨.inl trivial, _, _, _, rfl⟩
    · simp! [q1, decide_false, Bool.not_false]
      by_cases q2 : k = j
      · simp! [q2, decide_true, Bool.not_true, Bool.false_eq_true]
        refine nil_to (nil_to ⟨rfl, ?_⟩)
        simp only [Bool.true_or, Bool.or_true, if_true]
        exact ⟨.inl trivial, _, _, _, rfl⟩
      · simp! [q2, decide_false, Bool.not_false]
        refine seq_to ?_
        simp! [label_from_sp D.label_from d T A w ht.len hr hi hk (Ne.symm q1)]
        refine seq_to ?_
        simp! [label_from_sp D.label_from d T A w ht.len hr hk hj q2]
        refine seq_to ?_
        have n1 : ∀ a ∈ nearS turn L i k, a < r := fun a ha => near_lt w ht hi hk (Ne.symm q1) a (mem_nearS.mp ha)
        have n2 : ∀ a ∈ nearS turn L k j, a < r := fun a ha => near_lt w ht hk hj q2 a (mem_nearS.mp ha)
        simp only [xS_iff, eE_not, eE_any]
        rw [evS_two (nearS turn L i k) enc (fun _ => nearS turn L k j) enc (fun a b => .bl (alS r S a x b)) (gd := none) (h := h) (by dsimp! [itS_enc]) rfl]
        · have e1 : ((nearS turn L i k).flatMap fun a => (nearS turn L k j).map fun b => GV.bl (alS r S a x b)) = ((nearS turn L i k).flatMap fun a => (nearS turn L k j).map fun b => (a, b)).map fun q => GV.bl (alS r S q.1 x q.2) := by
            simp [List.map_flatMap, Function.comp_def]
          have e2 : ((((nearS turn L i k).flatMap fun a => (nearS turn L k j).map fun b => (a, b)).map fun q => alS r S q.1 x q.2).any id) = ((near turn L i k).any fun a => (near turn L k j).any fun b => alS r S a x b) := by
            rw [Bool.eq_iff_iff]
            simp only [List.any_eq_true, List.mem_map, List.mem_flatMap, id]
            constructor
            · rintro ⟨_, ⟨q, ⟨a, ha, b, hb, rfl⟩, rfl⟩, h⟩
              exact ⟨a, mem_nearS.mp ha, b, mem_nearS.mp hb, h⟩
            · rintro ⟨a, ha, b, hb, h⟩
              exact ⟨_, ⟨(a, b), ⟨a, mem_nearS.mpr ha, b, mem_nearS.mpr hb, rfl⟩, rfl⟩, h⟩
          rw [e1, Res.bind_ok, allV_map, e2]
          cases (near turn L i k).any fun a => (near turn L k j).any fun b => alS r S a x b
          · simp! [Bool.not_false]
            refine seq_to ?_
            simp! []
            exact ⟨trivial, by simp⟩
          · simp! [Bool.not_true, Bool.false_eq_true]
            refine nil_to (nil_to (nil_to ⟨rfl, ?_⟩))
            simp only [Bool.or_true, if_true]
            exact ⟨.inl trivial, _, _, _, rfl⟩
        · have h1 := nearS_len (turn := turn) w hi hk (Ne.symm q1)
          have h2 := flat_len (fun _ : Nat => nearS turn L k j) r (nearS turn L i k) fun _ _ => nearS_len w hk hj q2
          have h3 : r * (nearS turn L i k).length ≤ 1000 * 1000 := Nat.mul_le_mul hr (by omega)
          omega
        · intro a ha
          refine ⟨_, none, setTg_nm _ _ _, ?_, rfl, fun b hb => ⟨_, setTg_nm _ _ _, ?_⟩⟩
          · dsimp! [wipeE, itS_enc]
          · dsimp! [wipeE, tup2, F.idx (n1 a ha) (n2 b hb), inV_N, alS]
  · rintro k e ⟨x6, x7, x8, rfl⟩
    try rw [Kn_nxt]
    refine seq_to ?_
    simp! []
    exact ⟨congrArg _ (congrArg _ k.symm), .refl h⟩
  · rintro k e
    rw [Kn_ret]
    exact ⟨congrArg _ (congrArg _ k.symm), .refl h⟩
end Pv
end Pp_C11
section Pp_C12
set_option Elab.async false
set_option linter.all false
set_option maxRecDepth 10000
namespace Pv
open PySem (Str)
open GV
open Enc (enc)
local macro_rules
  | `(tactic| simp! [$ls,*]) => `(tactic| try simp only [eE_var, eE_cst, eE_tup, eE_lst, eE_tpl, eE_op, eE_neg, eE_isn, eE_ntn, eE_and, eE_or, eE_not, eE_ite, eE_slc, eE_fld, eE_call, eE_perm, eE_mk, eE_len, eE_int, eE_str, eE_b2, eE_all, eE_any, eE_isi, eE_rng, eE_m1, eE_dic, eA_nil, eA_cons, eO_non, eO_som, eQ_non, eQ_som, eS_val, eS_lsv, eS_rgl, eS_dsp, eS_lis, eS_srt, eI_val, eI_sq, eI_enm, eI_rng, eI_rngS, eI_prm, xS_pass, xS_brk, xS_cnt, xS_ret, xS_exp, xS_nm, xS_tg, xS_fld, xS_sub, xS_iff, xS_for, forB_nm, forB_pair, enc_nat, getV_ok, tru_bl, tru_non, idxI_nat, intV_int, intV_bl, szT0, szT1, szT2, szT3, szT4, szS0, szS1, szS2, szS3, szS4, szS5, setTg_nm, oE_add, oE_sub, oE_mul, oE_fdiv, oE_mod, oE_pow, oE_eq, oE_ne, oE_lt, oE_le, oE_gt, oE_ge, oE_idx, oE_inn, oE_nin, Res.bind_ok, Res.bind_exc, ite_tt, ite_ff, if_true, if_false, List.map_cons, List.map_nil, List.length_cons, List.length_nil, Nat.zero_add, Nat.reduceAdd, Nat.reduceSub, List.replicate_succ, List.replicate_zero, List.cons_append, List.nil_append, List.getElem?_cons_zero, List.getElem?_cons_succ, List.set_cons_zero, List.set_cons_succ, retV, To_ok, To_bind, Kn_nxt, Kn_ret, Kn_brk, Kn_cnt, $ls,*])
local macro_rules
  | `(tactic| dsimp! [$ls,*]) => `(tactic| simp only [eE_var, eE_cst, eE_tup, eE_lst, eE_tpl, eE_op, eE_neg, eE_isn, eE_ntn, eE_and, eE_or, eE_not, eE_ite, eE_slc, eE_fld, eE_call, eE_perm, eE_mk, eE_len, eE_int, eE_str, eE_b2, eE_all, eE_any, eE_isi, eE_rng, eE_m1, eE_dic, eA_nil, eA_cons, eO_non, eO_som, eQ_non, eQ_som, eS_val, eS_lsv, eS_rgl, eS_dsp, eS_lis, eS_srt, eI_val, eI_sq, eI_enm, eI_rng, eI_rngS, eI_prm, xS_pass, xS_brk, xS_cnt, xS_ret, xS_exp, xS_nm, xS_tg, xS_fld, xS_sub, xS_iff, xS_for, forB_nm, forB_pair, enc_nat, getV_ok, tru_bl, tru_non, idxI_nat, intV_int, intV_bl, szT0, szT1, szT2, szT3, szT4, szS0, szS1, szS2, szS3, szS4, szS5, setTg_nm, oE_add, oE_sub, oE_mul, oE_fdiv, oE_mod, oE_pow, oE_eq, oE_ne, oE_lt, oE_le, oE_gt, oE_ge, oE_idx, oE_inn, oE_nin, Res.bind_ok, Res.bind_exc, ite_tt, ite_ff, if_true, if_false, List.map_cons, List.map_nil, List.length_cons, List.length_nil, Nat.zero_add, Nat.reduceAdd, Nat.reduceSub, List.replicate_succ, List.replicate_zero, List.cons_append, List.nil_append, List.getElem?_cons_zero, List.getElem?_cons_succ, List.set_cons_zero, List.set_cons_succ, $ls,*])
local macro_rules
  | `(tactic| simp_all! [$ls,*]) => `(tactic| simp only [List.map_cons, List.map_nil, List.length_cons, List.length_nil, Nat.zero_add, Nat.reduceAdd, Nat.reduceSub, List.replicate_succ, List.replicate_zero, List.cons_append, List.nil_append, List.getElem?_cons_zero, List.getElem?_cons_succ, List.set_cons_zero, List.set_cons_succ, $ls,*])
theorem call_pure_ex {G : Prg} {d f : Nat} {fn : Fn} {vs : List GV} {h : GH} {A : Type} {en : A → GV} {P : A → Prop} (hG : G f = some fn) (hp : fn.pure = true) (hn : vs.length = fn.np) (hr : ∀ a, refsLt h.length (en a) = true)
    (hb : To (exSs (callF G d) fn.body (vs.map some ++ List.replicate (fn.nn - vs.length) none) h) fun p h1 => ∃ a, P a ∧ retV p.1 = some (en a) ∧ Pre h h1) : ∃ a, P a ∧ callF G (d + 1) f vs h = .ok (en a) h := by
  obtain ⟨p, h1, e, a, pa, e1, e2⟩ := hb
  exact ⟨a, pa, call_pure hG hp hn (hr a) ⟨p, h1, e, e1, e2⟩⟩
def encR {A : Type} [Enc A] : Option A → GV
  | none => .non
  | some a => enc a
theorem encR_noref {A : Type} [Enc A] (n : Nat) (a : Option A) : refsLt n (encR a) = true := by
  cases a with
  | none => rfl
  | some a => exact Enc.noref a n
/-- the rows as lists -/
theorem copy_tup {cl : Calls} {ws : List Nat} {i : Nat} {e0 : Ex} {env : Env} {h : GH} {L : Net} (hi : evE cl e0 env h = .ok (enc L) h) (hv : ∀ x h1, evE cl (.var i) ((wipeE env ws).set i (some x)) h1 = .ok x h1) (hl : L.length ≤ 1000) :
    To (evE cl (.lst (.cmp ws (.one (.nm i) (.val e0) .non) (.lst (.lsv (.var i))))) env h) fun v h1 => ∃ lr rf, v = .ref lr ∧ LabAt h1 lr rf L ∧ Pre h h1 ∧ h.length ≤ lr ∧ ∀ x ∈ rf, h.length ≤ x := by
  have hz := szv
  rw [eE_lst, To_bind]
  refine evS_at (gd := none) (h1 := h) L enc (fun k acc h1 => ∃ rf : List Nat, acc = rf.map .ref ∧ rf.length = k ∧ rf.Nodup ∧ (∀ j, j < k → h1[rf.getD j 0]? = some (.lst ((L.getD j []).map enc))) ∧ (∀ x ∈ rf, h.length ≤ x ∧ x < h1.length) ∧ Pre h h1) (by rw [eI_val, hi, Res.bind_ok, itS_enc]) (fun _ _ _ _ => rfl) (by omega) ?_ ⟨[], rfl, rfl, List.nodup_nil, nofun, nofun, .refl h⟩ ?_
  · rintro k hk acc h1 ⟨rf, rfl, hl2, nd, hr, hb, P⟩
    refine ⟨_, setTg_nm _ _ _, ?_⟩
    rw [eE_lst, eS_lsv, hv, Res.bind_ok, sqD_enc, Res.bind_ok, To_ok]
    refine ⟨rf ++ [h1.length], by simp, by simp [hl2], ?_, fun j hj => ?_, fun x hx => ?_, P.push _⟩
    · rw [List.nodup_append]
      refine ⟨nd, by simp, fun a ha b hb2 e => ?_⟩
      rw [List.mem_singleton.mp hb2] at e
      have := (hb a ha).2
      omega
    · by_cases q : j < k
      · rw [show (rf ++ [h1.length]).getD j 0 = rf.getD j 0 by simp [List.getElem?_append_left (show j < rf.length by omega)]]
        exact get_app (hr j q)
      · have : j = k := by omega
        subst this
        rw [show (rf ++ [h1.length]).getD j 0 = h1.length by simp [← hl2], get_push]
        rw [List.getD_eq_getElem?_getD, List.getElem?_eq_getElem hk, Option.getD_some]
    · rw [List.length_append, List.length_singleton]
      rcases List.mem_append.mp hx with z | z
      · have := hb x z; omega
      · rw [List.mem_singleton.mp z]
        have := P.len
        omega
  · rintro acc h1 ⟨rf, rfl, hl2, nd, hr, hb, P⟩
    rw [To_ok]
    exact ⟨_, rf, rfl, ⟨get_push, hl2, fun j hj => get_app (hr j hj), nd, fun z => by have := (hb _ z).2; omega⟩, P.push _, P.len, fun x hx => (hb x hx).1⟩
theorem frozen_sp {G : Prg} (D : D_frozen G) (d : Nat) {lr : Nat} {rf : List Nat} {L : Net} {h : GH} (A : LabAt h lr rf L) (hl : L.length ≤ 1000) : callF G (d + 1) n_frozen [.ref lr] h = .ok (enc L) h := by
  have hz := szv
  refine call_pure D.f rfl rfl (Enc.noref _ _) ?_
  simp_all! [F_frozen, exSs, xS_ret, eE_tpl]
  have hm : ∀ x ∈ (List.range L.length), True := fun _ _ => trivial
  have er : rf.map GV.ref = (List.range L.length).map fun j => GV.ref (rf.getD j 0) := by
    refine List.ext_getElem (by simp [A.len]) fun j h1 h2 => ?_
    have : j < rf.length := by simpa using h1
    simp [this]
  rw [evS_map (List.range L.length) (fun j => GV.ref (rf.getD j 0)) (fun j => enc (L.getD j [])) (gd := some (lr, rf.map .ref)) (h1 := h) (by dsimp! [itS_ref A.top, er]) (chk_some A.top) (by simp; omega)]
  · simp! []
    refine ⟨?_, .refl h⟩
    rw [enc_list]
    congr 2
    refine List.ext_getElem (by simp) fun j h1 h2 => ?_
    have : j < L.length := by simpa using h2
    simp [this]
  · intro j hj
    have hj := List.mem_range.mp hj
    refine ⟨_, setTg_nm _ _ _, ?_⟩
    dsimp! [wipeE, sqT_ref (A.row j hj)]
    rfl
/-- the dict of what lies between -/
theorem fits_sp {G : Prg} (D : D_between G) (d : Nat) {t bd nt r : Nat} {turn : List Nat} {bars : List (List (List Nat))} {h : GH} (T : TblAt h t turn bars bd nt) (hr : turn.length = r) (hr2 : r ≤ 1000) {x1 x2 x4 x5 x6 x9 x10 x11 : Option GV} :
    To (evE (callF G (d + 4)) (.dcp [7, 8] (.two (.nm 7) (.val (.var 3)) .non [8] (.nm 8) (.val (.var 3)) .non) (.tup (.cons (.var 7) (.cons (.var 8) .nil))) (.call n_between (.cons (.var 0) (.cons (.var 7) (.cons (.var 8) .nil))))) [some (.ref t), x1, x2, some (.rng ((0 : Nat) : Int) (r : Int)), x4, x5, x6, none, none, x9, x10, x11, none] h) fun v h1 => ∃ fd, v = .ref fd ∧ h.length ≤ fd ∧ FitsAt h1 fd r (barS turn bars) ∧ Pre h h1 := by
  have hz := szv
  have hi : ∀ (x7 x8 : Option GV), evI (callF G (d + 4)) (.val (.var 3)) [some (.ref t), x1, x2, some (.rng ((0 : Nat) : Int) (r : Int)), x4, x5, x6, x7, x8, x9, x10, x11, none] h = .ok ((List.range r).map I, none) h := fun x7 x8 => by dsimp! [itS_rng (show r ≤ 1000000 by omega)]
  rw [evE, evC, hi, Res.bind_ok]
  let K : Nat → Nat → Acc → GH → Prop := fun a b kvs h1 => h1 = h ∧ DctT kvs (a * r + b) ∧ (∀ a' b', (a' < a ∧ b' < r) ∨ (a' = a ∧ b' < b) → look kvs (enc [a', b']) = some (enc (betw r (barS turn bars) a' b')))
  refine (To.quiet (cmpL_to (A := Nat) I (fun rest kvs h1 => ∃ a, a ≤ r ∧ rest = List.range' a (r - a) ∧ K a 0 kvs h1) (fun _ _ _ _ => rfl) ?_ (List.range r) [] h ⟨0, Nat.zero_le _, by rw [List.range_eq_range']; rfl, rfl, DctT.nil.mono (Nat.zero_le _), fun a' b' z => by omega⟩)).bind ?_
  · rintro a rest kvs _ ⟨a0, ha0, er, rfl, dk, lk⟩
    have hr0 : a0 < r := by
      by_cases q : a0 < r
      · exact q
      · rw [show r - a0 = 0 by omega] at er; cases er
    rw [show r - a0 = (r - (a0 + 1)) + 1 by omega, List.range'_succ] at er
    obtain ⟨rfl, rfl⟩ := List.cons.inj er
    simp_all! [setTg_nm, wipeE, evQ, Res.bind_ok, if_true, hi]
    refine (cmpL_to (A := Nat) I (fun rest kvs h1 => ∃ b, b ≤ r ∧ rest = List.range' b (r - b) ∧ K a b kvs h1) (fun _ _ _ _ => rfl) ?_ (List.range r) kvs _ ⟨0, Nat.zero_le _, by rw [List.range_eq_range']; rfl, rfl, dk, lk⟩).mono ?_
    · rintro b rest kvs _ ⟨b0, hb0, er, rfl, dk, lk⟩
      have hr1 : b0 < r := by
        by_cases q : b0 < r
        · exact q
        · rw [show r - b0 = 0 by omega] at er; cases er
      rw [show r - b0 = (r - (b0 + 1)) + 1 by omega, List.range'_succ] at er
      obtain ⟨rfl, rfl⟩ := List.cons.inj er
      have hk : keyT (enc [a, b] : GV) = true := keyT_enc (show Enc.dep Nat ≤ 6 by decide) _
      have hsz : kvs.length < szL := by
        have h1 := dk.len
        have h2 : a * r ≤ 1000 * 1000 := Nat.mul_le_mul (by omega) hr2
        omega
      dsimp! [wipeE, tup2, between_sp D d T hr hr2 hr0 hr1]
      rw [if_pos ⟨dk.ok hk, hsz⟩, To_ok]
      refine ⟨b + 1, hr1, rfl, rfl, dk.put hk, fun a' b' z => ?_⟩
      rw [look_put]
      split
      · rename_i e
        have e := (enc_num [a, b] [a', b']).mp e
        cases e
        rfl
      · rename_i e
        refine lk a' b' ?_
        rcases z with z | ⟨rfl, z⟩
        · exact .inl z
        · refine .inr ⟨rfl, ?_⟩
          have : b' ≠ b := fun q => e (by rw [q])
          omega
    · rintro kvs _ ⟨b, hb, er, rfl, dk, lk⟩
      have : b = r := by
        have := congrArg List.length er
        rw [List.length_range', List.length_nil] at this
        omega
      subst this
      refine ⟨a + 1, hr0, rfl, rfl, dk.mono (by rw [Nat.succ_mul]; omega), fun a' b' z => lk a' b' ?_⟩
      rcases z with z | z
      · by_cases q : a' = a
        · exact .inr ⟨q, z.2⟩
        · exact .inl ⟨by omega, z.2⟩
      · omega
  · rintro kvs _ ⟨a, ha, er, rfl, dk, lk⟩
    have : a = r := by
      have := congrArg List.length er
      rw [List.length_range', List.length_nil] at this
      omega
    subst this
    rw [To_ok]
    exact ⟨_, rfl, Nat.le_refl _, ⟨kvs, _, get_push, dk, fun a' b' h1 h2 => lk a' b' (.inl ⟨h1, h2⟩)⟩, (Pre.refl _).push _⟩
end Pv
end Pp_C12
section Pp_C13
set_option Elab.async false
set_option linter.all false
set_option maxRecDepth 10000
namespace Pv
open PySem (Str)
open GV
open Enc (enc)
local macro_rules
  | `(tactic| simp! [$ls,*]) => `(tactic| try simp only [eE_var, eE_cst, eE_tup, eE_lst, eE_tpl, eE_op, eE_neg, eE_isn, eE_ntn, eE_and, eE_or, eE_not, eE_ite, eE_slc, eE_fld, eE_call, eE_perm, eE_mk, eE_len, eE_int, eE_str, eE_b2, eE_all, eE_any, eE_isi, eE_rng, eE_m1, eE_dic, eA_nil, eA_cons, eO_non, eO_som, eQ_non, eQ_som, eS_val, eS_lsv, eS_rgl, eS_dsp, eS_lis, eS_srt, eI_val, eI_sq, eI_enm, eI_rng, eI_rngS, eI_prm, xS_pass, xS_brk, xS_cnt, xS_ret, xS_exp, xS_nm, xS_tg, xS_fld, xS_sub, xS_iff, xS_for, forB_nm, forB_pair, enc_nat, getV_ok, tru_bl, tru_non, idxI_nat, intV_int, intV_bl, szT0, szT1, szT2, szT3, szT4, szS0, szS1, szS2, szS3, szS4, szS5, setTg_nm, oE_add, oE_sub, oE_mul, oE_fdiv, oE_mod, oE_pow, oE_eq, oE_ne, oE_lt, oE_le, oE_gt, oE_ge, oE_idx, oE_inn, oE_nin, Res.bind_ok, Res.bind_exc, ite_tt, ite_ff, if_true, if_false, List.map_cons, List.map_nil, List.length_cons, List.length_nil, Nat.zero_add, Nat.reduceAdd, Nat.reduceSub, List.replicate_succ, List.replicate_zero, List.cons_append, List.nil_append, List.getElem?_cons_zero, List.getElem?_cons_succ, List.set_cons_zero, List.set_cons_succ, retV, To_ok, To_bind, Kn_nxt, Kn_ret, Kn_brk, Kn_cnt, $ls,*])
local macro_rules
  | `(tactic| dsimp! [$ls,*]) => `(tactic| simp only [eE_var, eE_cst, eE_tup, eE_lst, eE_tpl, eE_op, eE_neg, eE_isn, eE_ntn, eE_and, eE_or, eE_not, eE_ite, eE_slc, eE_fld, eE_call, eE_perm, eE_mk, eE_len, eE_int, eE_str, eE_b2, eE_all, eE_any, eE_isi, eE_rng, eE_m1, eE_dic, eA_nil, eA_cons, eO_non, eO_som, eQ_non, eQ_som, eS_val, eS_lsv, eS_rgl, eS_dsp, eS_lis, eS_srt, eI_val, eI_sq, eI_enm, eI_rng, eI_rngS, eI_prm, xS_pass, xS_brk, xS_cnt, xS_ret, xS_exp, xS_nm, xS_tg, xS_fld, xS_sub, xS_iff, xS_for, forB_nm, forB_pair, enc_nat, getV_ok, tru_bl, tru_non, idxI_nat, intV_int, intV_bl, szT0, szT1, szT2, szT3, szT4, szS0, szS1, szS2, szS3, szS4, szS5, setTg_nm, oE_add, oE_sub, oE_mul, oE_fdiv, oE_mod, oE_pow, oE_eq, oE_ne, oE_lt, oE_le, oE_gt, oE_ge, oE_idx, oE_inn, oE_nin, Res.bind_ok, Res.bind_exc, ite_tt, ite_ff, if_true, if_false, List.map_cons, List.map_nil, List.length_cons, List.length_nil, Nat.zero_add, Nat.reduceAdd, Nat.reduceSub, List.replicate_succ, List.replicate_zero, List.cons_append, List.nil_append, List.getElem?_cons_zero, List.getElem?_cons_succ, List.set_cons_zero, List.set_cons_succ, $ls,*])
local macro_rules
  | `(tactic| simp_all! [$ls,*]) => `(tactic| simp only [List.map_cons, List.map_nil, List.length_cons, List.length_nil, Nat.zero_add, Nat.reduceAdd, Nat.reduceSub, List.replicate_succ, List.replicate_zero, List.cons_append, List.nil_append, List.getElem?_cons_zero, List.getElem?_cons_succ, List.set_cons_zero, List.set_cons_succ, $ls,*])
theorem getD_pairs {n k : Nat} (hk : k < (pairs n).length) : (pairs n)[k].1 < (pairs n)[k].2 ∧ (pairs n)[k].2 < n := mem_pairs.mp (List.getElem_mem hk)
def ClW (t lr fd n r : Nat) (turn rf : List Nat) (S : List (List Nat)) (net : Net) (hF : GH) (m : Nat) (e : Env) (h1 : GH) : Prop := ∃ L ch x9 x10 x11, e = [some (.ref t), some (enc net), some (.ref lr), some (.rng ((0 : Nat) : Int) (r : Int)), some (.ref fd), some (.bl ch), none, none, none, x9, x10, x11, none] ∧
  LabAt h1 lr rf L ∧ Inv turn (alS r S) n r net L ∧ FitsAt h1 fd r S ∧ Pre hF h1 ∧ (ch = false → FixL turn (alS r S) n L ∧ ∀ i j, i < j → j < n → lb L i j ≠ []) ∧ m = 2 * size L + (if ch = true then 1 else 0)
def ClP (t lr fd n r pr : Nat) (turn rf : List Nat) (S : List (List Nat)) (net L0 : Net) (hF : GH) (k : Nat) (e : Env) (h1 : GH) : Prop := ∃ L ch x9 x10 x11, e = [some (.ref t), some (enc net), some (.ref lr), some (.rng ((0 : Nat) : Int) (r : Int)), some (.ref fd), some (.bl ch), none, none, none, x9, x10, x11, none] ∧
  LabAt h1 lr rf L ∧ Inv turn (alS r S) n r net L ∧ FitsAt h1 fd r S ∧ Pre hF h1 ∧ h1[pr]? = some (.lst ((pairs n).map enc)) ∧ (ch = true ∧ size L < size L0 ∨ ch = false ∧ L = L0 ∧ ∀ q ∈ (pairs n).take k, (∀ x ∈ lb L q.1 q.2, okB turn (alS r S) n L q.1 q.2 x = true) ∧ lb L q.1 q.2 ≠ [])
theorem isNil_map {A : Type} (f : A → GV) (l : List A) : (l.map f).isEmpty = l.isEmpty := by cases l <;> rfl
theorem closed_sp {G : Prg} (D : D_closed G) (d : Nat) {r n t bd nt : Nat} {turn : List Nat} {bars : List (List (List Nat))} {net : Net} {h : GH} (T : TblAt h t turn bars bd nt) (ht : IsTurn r turn) (hr : r ≤ 100) (hn : n ≤ 30) (w : WfN r n net) :
    ∃ res, ClosedR turn (alS r (barS turn bars)) n r net res ∧ callF G (d + 10) n_closed [.ref t, enc net] h = .ok (encR res) h := by
  have hz := szv
  have hnl := w.len
  refine call_pure_ex D.f rfl rfl (fun a => encR_noref _ a) ?_
  simp_all! [F_closed]
  refine seq_to ?_
  simp! [check_network_sp D.check_network d T ht.len (by omega) (by rw [hnl]; exact w)]
  refine seq_to ?_
  rw [xS_nm, To_bind]
  refine (copy_tup (L := net) (by dsimp! []) (fun x h1 => by dsimp! [wipeE]) (by omega)).mono ?_
  rintro _ h1 ⟨lr, rf, rfl, A1, P1, hlr, hrf⟩
  simp! []
  have T1 := T.pre P1
  refine seq_to ?_
  simp! [T1.ties, ht.len, rngV_nat (show 0 ≤ 1000000 by omega) (show r ≤ 1000000 by omega)]
  refine seq_to ?_
  rw [xS_nm, To_bind]
  refine (fits_sp D.between (d + 5) T1 ht.len (by omega)).mono ?_
  rintro _ h2 ⟨fd, rfl, hfd, F2, P2⟩
  simp! []
  have A2 := A1.pre P2
  have P12 := P1.trans P2
  refine seq_to ?_
  simp! []
  refine seq_to ?_
  rw [xS_whl]
  have sz0 : size net ≤ 100000 := by
    have h1 := size_le w
    have h2 : (List.range n).sum ≤ 30 * 30 := by
      have := sum_le (fun x : Nat => x) n (List.range n) fun x hx => by have := List.mem_range.mp hx; omega
      rw [List.map_id', List.length_range] at this
      exact Nat.le_trans this (Nat.mul_le_mul hn hn)
    have h3 : r * (List.range n).sum ≤ 100 * 900 := Nat.mul_le_mul hr h2
    omega
  refine whlL_to (ClW t lr fd n r turn rf (barS turn bars) net h) ?_ whF (2 * size net + 1) _ _ (by unfold whF; omega) ⟨net, true, none, none, none, rfl, A2, .start w, F2, P12, nofun, rfl⟩
  rintro m e h3 ⟨L, ch, x9, x10, x11, rfl, A3, inv, F3, P3, fin, rfl⟩
  rw [eT]
  simp! []
  cases ch with
  | false =>
    simp only [Bool.false_eq_true, if_false]
    try rw [Kn_nxt]
    refine seq_to ?_
    have wl := inv.wf.len
    simp! [frozen_sp D.frozen _ A3 (by omega)]
    exact ⟨some L, inv.some_of (fin rfl).1 (fin rfl).2, rfl, P3⟩
  | true =>
    simp only [if_true]
    refine ⟨by omega, ?_⟩
    refine seq_to ?_
    simp! []
    refine seq_to ?_
    have wl := inv.wf.len
    simp! [lenV_ref A3.top, List.length_map, A3.len, wl, all_pairs_sp D.all_pairs _ (show n ≤ 1000 by omega), itS_ref get_push]
    have A4 : LabAt (h3 ++ [GO.lst ((pairs n).map enc)]) lr rf L := A3.pre ((Pre.refl h3).push _)
    have F4 : FitsAt (h3 ++ [GO.lst ((pairs n).map enc)]) fd r (barS turn bars) := F3.mod ((Pre.refl h3).push _) (by simp)
    have P4 : Pre h (h3 ++ [GO.lst ((pairs n).map enc)]) := P3.push _
    have e4 : (h3 ++ [GO.lst ((pairs n).map enc)])[h3.length]? = some (.lst ((pairs n).map enc)) := get_push
    have pr1 : ∀ x ∈ rf, h3.length ≠ x := fun x hx e => by
      obtain ⟨j, hj, rfl⟩ := List.mem_iff_getElem.mp hx
      have := lt_of_get (A3.row j (by rw [← A3.len]; exact hj))
      simp [hj] at this
      omega
    generalize h3 ++ [GO.lst ((pairs n).map enc)] = h4 at A4 F4 P4 e4
    generalize h3.length = pr at e4 pr1
    refine forL_at enc (ClP t lr fd n r pr turn rf (barS turn bars) net L h) (pairs n) ?_ ?_ ?_ ⟨L, false, _, _, _, rfl, A4, inv, F4, P4, e4, .inr ⟨rfl, rfl, nofun⟩⟩
    · rintro k e h5 ⟨_, _, _, _, _, _, _, _, _, _, e5, _⟩
      exact chk_some e5
    · rintro k hk e h5 ⟨L1, ch, x9, x10, x11, rfl, A5, inv5, F5, P5, e5, prog⟩
      obtain ⟨hij, hj⟩ := getD_pairs hk
      have T5 := T.pre P5
      have wl1 := inv5.wf.len
      generalize hq : (pairs n)[k] = q at hij hj ⊢
      obtain ⟨i, j⟩ := q
      have hij : i < j := hij
      have hj : j < n := hj
      have wlab := inv5.wf.lab i j hij hj
      have hjl : j < L1.length := by rw [wl1]; exact hj
      have hil : i < (L1.getD j []).length := by rw [inv5.wf.row j hj]; exact hij
      rw [forB_pair]
      simp_all! []
      refine seq_to ?_
      rw [xS_nm, eE_tpl, evS_filter (lb L1 i j) enc I (okB turn (alS r (barS turn bars)) n L1 i j) (gd := none) (h1 := h5) (by dsimp! [A5.idx hjl, A5.idx2 hjl hil, itS_enc]) rfl (by have := wlab.len; omega)]
      · simp! [tup_mapI]
        have kl : Lab r ((lb L1 i j).filter (okB turn (alS r (barS turn bars)) n L1 i j)) := ⟨wlab.asc.sublist List.filter_sublist, fun x hx => wlab.lt x ((List.mem_filter.mp hx).1)⟩
        have kin : ∀ x ∈ (lb L1 i j).filter (okB turn (alS r (barS turn bars)) n L1 i j), x ∈ lb L1 i j := fun x hx => (List.mem_filter.mp hx).1
        have kout : ∀ x ∈ lb L1 i j, okB turn (alS r (barS turn bars)) n L1 i j x = true → x ∈ (lb L1 i j).filter (okB turn (alS r (barS turn bars)) n L1 i j) := fun x hx h => List.mem_filter.mpr ⟨hx, h⟩
        have klen := List.length_filter_le (okB turn (alS r (barS turn bars)) n L1 i j) (lb L1 i j)
        have kall : ((lb L1 i j).filter (okB turn (alS r (barS turn bars)) n L1 i j)).length = (lb L1 i j).length → ∀ x ∈ lb L1 i j, okB turn (alS r (barS turn bars)) n L1 i j x = true := List.length_filter_eq_length_iff.mp
        generalize (lb L1 i j).filter (okB turn (alS r (barS turn bars)) n L1 i j) = kept at kl kin kout klen kall
        refine seq_to ?_
        simp! [tru_enc]
        cases hk0 : kept.isEmpty with
        | true =>
          simp! [Bool.not_true, Bool.not_false]
          refine seq_to ?_
          simp! []
          have k0 := List.isEmpty_iff.mp hk0
          refine ⟨none, inv5.none_of hij hj fun x hx => ?_, rfl, P5⟩
          cases hb : okB turn (alS r (barS turn bars)) n L1 i j x with
          | false => rfl
          | true =>
            have := kout x hx hb
            rw [k0] at this
            cases this
        | false =>
          simp! [Bool.not_true, Bool.not_false, Bool.false_eq_true]
          have kne : kept ≠ [] := fun e => by rw [e] at hk0; cases hk0
          refine nil_to ?_
          try rw [Kn_nxt]
          refine seq_to ?_
          simp! [A5.idx hjl, A5.idx2 hjl hil, ne_N]
          by_cases he : kept = lb L1 i j
          · simp! [he, decide_true, Bool.not_true, Bool.false_eq_true]
            refine nil_to (nil_to ⟨L1, ch, some (I i), some (I j), some (enc (lb L1 i j)), rfl, A5, inv5, F5, P5, e5, ?_⟩)
            rcases prog with p | ⟨p1, p2, p3⟩
            · exact .inl p
            · refine .inr ⟨p1, p2, fun q' hq' => ?_⟩
              rw [List.take_succ_eq_append_getElem hk] at hq'
              rcases List.mem_append.mp hq' with z | z
              · exact p3 q' z
              · rw [List.mem_singleton.mp z, hq]
                exact ⟨kall (by rw [he]), by rw [← he]; exact kne⟩
          · simp! [he, decide_false, Bool.not_false]
            refine seq_to ?_
            have er := A5.row j hjl
            have hil2 : i < ((L1.getD j []).map (enc : List Nat → GV)).length := by rw [List.length_map]; exact hil
            simp! [A5.idx hjl, setR_lst er hil2, ← List.map_set]
            refine seq_to ?_
            simp! []
            have hrj : rf.getD j 0 ∈ rf := getD_mem (by rw [A5.len]; exact hjl)
            have hlt : kept.length < (lb L1 i j).length := by
              rcases Nat.lt_or_ge kept.length (lb L1 i j).length with q | q
              · exact q
              · have el : kept.length = (lb L1 i j).length := by omega
                have := kall el
                exact absurd (asc_ext kl.asc wlab.asc fun x => ⟨kin x, fun hx => kout x hx (this x hx)⟩) he
            have sl := size_setLb inv5.wf hij hj kept
            refine nil_to (nil_to ⟨setLb L1 i j kept, true, some (I i), some (I j), some (enc kept), rfl, A5.put hjl kept, inv5.strike hij hj kl kin kout, F5.mod (T := [rf.getD j 0]) ((Mod.refl _ h5).set (.inl (by simp)) _) ?_, P5.set (.inr (hrf _ hrj)) _, ?_, .inl ⟨rfl, ?_⟩⟩)
            · obtain ⟨kvs, m, ef, _⟩ := F5
              simp only [List.mem_singleton]
              rintro rfl
              rw [ef] at er
              cases er
            · rw [get_ne (pr1 _ hrj), e5]
            · rcases prog with p | p
              · omega
              · rw [p.2.1] at sl hlt ⊢
                omega
      · intro x hx
        refine ⟨_, setTg_nm _ _ _, ?_, fun _ => ?_⟩
        · dsimp! [wipeE, is_backed_sp D.is_backed (d + 6) T5 F5 A5 inv5.wf ht (by omega) (by omega) (show i < n by omega) hj]
        · dsimp! [wipeE]
    · rintro e h5 ⟨L1, ch, x9, x10, x11, rfl, A5, inv5, F5, P5, e5, prog⟩
      try rw [Kn_nxt]
      refine nil_to ⟨2 * size L1 + (if ch = true then 1 else 0), ?_, L1, ch, x9, x10, x11, rfl, A5, inv5, F5, P5, ?_, rfl⟩
      · rcases prog with p | p
        · rw [p.1]
          simp only [if_true]
          omega
        · rw [p.1, p.2.1]
          simp
      · intro hc
        rcases prog with p | ⟨p1, p2, p3⟩
        · rw [hc] at p
          cases p.1
        · rw [List.take_length] at p3
          exact ⟨fun i j hij hj => (p3 (i, j) (mem_pairs.mpr ⟨hij, hj⟩)).1, fun i j hij hj => (p3 (i, j) (mem_pairs.mpr ⟨hij, hj⟩)).2⟩
end Pv
end Pp_C13
section Pp_C14
set_option Elab.async false
set_option linter.all false
set_option maxRecDepth 10000
namespace Pv
open PySem (Str)
open GV
open Enc (enc)
local macro_rules
  | `(tactic| simp! [$ls,*]) => `(tactic| try simp only [eE_var, eE_cst, eE_tup, eE_lst, eE_tpl, eE_op, eE_neg, eE_isn, eE_ntn, eE_and, eE_or, eE_not, eE_ite, eE_slc, eE_fld, eE_call, eE_perm, eE_mk, eE_len, eE_int, eE_str, eE_b2, eE_all, eE_any, eE_isi, eE_rng, eE_m1, eE_dic, eA_nil, eA_cons, eO_non, eO_som, eQ_non, eQ_som, eS_val, eS_lsv, eS_rgl, eS_dsp, eS_lis, eS_srt, eI_val, eI_sq, eI_enm, eI_rng, eI_rngS, eI_prm, xS_pass, xS_brk, xS_cnt, xS_ret, xS_exp, xS_nm, xS_tg, xS_fld, xS_sub, xS_iff, xS_for, forB_nm, forB_pair, enc_nat, getV_ok, tru_bl, tru_non, idxI_nat, intV_int, intV_bl, szT0, szT1, szT2, szT3, szT4, szS0, szS1, szS2, szS3, szS4, szS5, setTg_nm, oE_add, oE_sub, oE_mul, oE_fdiv, oE_mod, oE_pow, oE_eq, oE_ne, oE_lt, oE_le, oE_gt, oE_ge, oE_idx, oE_inn, oE_nin, Res.bind_ok, Res.bind_exc, ite_tt, ite_ff, if_true, if_false, List.map_cons, List.map_nil, List.length_cons, List.length_nil, Nat.zero_add, Nat.reduceAdd, Nat.reduceSub, List.replicate_succ, List.replicate_zero, List.cons_append, List.nil_append, List.getElem?_cons_zero, List.getElem?_cons_succ, List.set_cons_zero, List.set_cons_succ, retV, To_ok, To_bind, Kn_nxt, Kn_ret, Kn_brk, Kn_cnt, $ls,*])
local macro_rules
  | `(tactic| dsimp! [$ls,*]) => `(tactic| simp only [eE_var, eE_cst, eE_tup, eE_lst, eE_tpl, eE_op, eE_neg, eE_isn, eE_ntn, eE_and, eE_or, eE_not, eE_ite, eE_slc, eE_fld, eE_call, eE_perm, eE_mk, eE_len, eE_int, eE_str, eE_b2, eE_all, eE_any, eE_isi, eE_rng, eE_m1, eE_dic, eA_nil, eA_cons, eO_non, eO_som, eQ_non, eQ_som, eS_val, eS_lsv, eS_rgl, eS_dsp, eS_lis, eS_srt, eI_val, eI_sq, eI_enm, eI_rng, eI_rngS, eI_prm, xS_pass, xS_brk, xS_cnt, xS_ret, xS_exp, xS_nm, xS_tg, xS_fld, xS_sub, xS_iff, xS_for, forB_nm, forB_pair, enc_nat, getV_ok, tru_bl, tru_non, idxI_nat, intV_int, intV_bl, szT0, szT1, szT2, szT3, szT4, szS0, szS1, szS2, szS3, szS4, szS5, setTg_nm, oE_add, oE_sub, oE_mul, oE_fdiv, oE_mod, oE_pow, oE_eq, oE_ne, oE_lt, oE_le, oE_gt, oE_ge, oE_idx, oE_inn, oE_nin, Res.bind_ok, Res.bind_exc, ite_tt, ite_ff, if_true, if_false, List.map_cons, List.map_nil, List.length_cons, List.length_nil, Nat.zero_add, Nat.reduceAdd, Nat.reduceSub, List.replicate_succ, List.replicate_zero, List.cons_append, List.nil_append, List.getElem?_cons_zero, List.getElem?_cons_succ, List.set_cons_zero, List.set_cons_succ, $ls,*])
local macro_rules
  | `(tactic| simp_all! [$ls,*]) => `(tactic| simp only [List.map_cons, List.map_nil, List.length_cons, List.length_nil, Nat.zero_add, Nat.reduceAdd, Nat.reduceSub, List.replicate_succ, List.replicate_zero, List.cons_append, List.nil_append, List.getElem?_cons_zero, List.getElem?_cons_succ, List.set_cons_zero, List.set_cons_succ, $ls,*])
/-- [e for x in .. if c] where c or e changes what stands -/
theorem evS_cond {cl : Calls} {A : Type} {ws : List Nat} {t : Tg} {it : Iy} {e c : Ex} {env : Env} {h h1 : GH} {gd : Gd} {Q : List GV → GH → Prop} (xs : List A) (en : A → GV) (J : Nat → List GV → GH → Prop) (hi : evI cl it env h = .ok (xs.map en, gd) h1) (hc : ∀ k acc h, J k acc h → chk gd h = true) (hl : xs.length ≤ szL)
    (hs : ∀ k (hk : k < xs.length) acc h, J k acc h → ∃ e1, setTg t (en xs[k]) (wipeE env ws) = some e1 ∧ To (evE cl c e1 h) fun x h2 => To (tru x h2) fun b h3 => if b = true then To (evE cl e e1 h3) fun v h4 => J (k + 1) (acc ++ [v]) h4 else J (k + 1) acc h3) (h0 : J 0 [] h1) (fin : ∀ acc h, J xs.length acc h → Q acc h) : To (evS cl (.cmp ws (.one t it (.som c)) e) env h) Q := by
  simp only [evS, evC, hi, Res.bind_ok]
  refine (To.quiet (cmpL_to en (fun r (acc : Acc) h => acc.length + r.length ≤ xs.length ∧ ∃ k vs, k ≤ xs.length ∧ r = xs.drop k ∧ acc = vs.map (fun v => (v, GV.non)) ∧ J k vs h) (fun r acc h ⟨_, k, vs, _, _, _, j⟩ => hc k vs h j) ?_ xs [] h1 ⟨by simp, 0, [], Nat.zero_le _, rfl, rfl, h0⟩)).bind ?_
  · rintro x r acc h ⟨hn, k, vs, hk, er, rfl, j⟩
    have hk2 : k < xs.length := by
      by_cases q : k < xs.length
      · exact q
      · rw [List.drop_eq_nil_of_le (by omega)] at er; cases er
    rw [List.drop_eq_getElem_cons hk2] at er
    obtain ⟨rfl, rfl⟩ := List.cons.inj er
    obtain ⟨e1, q1, q2⟩ := hs k hk2 vs h j
    simp only [q1, eQ_som, To_bind]
    rw [List.length_cons] at hn
    refine q2.mono fun x h2 q3 => q3.mono fun b h3 q4 => ?_
    cases b with
    | true =>
      simp only [if_true] at q4 ⊢
      refine q4.bind fun v h4 j2 => ?_
      rw [if_pos (by omega)]
      refine To.ok ⟨?_, k + 1, vs ++ [v], hk2, rfl, by simp, j2⟩
      rw [List.length_append, List.length_singleton]
      omega
    | false =>
      simp only [Bool.false_eq_true, if_false] at q4 ⊢
      exact To.ok ⟨by omega, k + 1, vs, hk2, rfl, rfl, q4⟩
  · rintro acc h ⟨-, k, vs, hk, er, rfl, j⟩
    have : k = xs.length := by
      have := congrArg List.length er
      rw [List.length_drop, List.length_nil] at this
      omega
    subst this
    refine To.ok ?_
    simp only [List.map_map, Function.comp_def, List.map_id']
    exact fin vs h j
theorem WfN.of {r : Nat} {L : Net} (h : ∀ j (hj : j < L.length), L[j].length = j ∧ ∀ l ∈ L[j], Lab r l) : WfN r L.length L := by
  refine net_iff.mp ?_
  unfold netB
  rw [List.all_eq_true]
  intro q hq
  obtain ⟨hj, e⟩ := mem_zip hq
  simp only [rowB, Bool.and_eq_true, decide_eq_true_eq, List.all_eq_true]
  rw [e]
  exact ⟨(h q.1 hj).1, fun l hl => rising_iff.mpr ((h q.1 hj).2 l hl)⟩
def NtJ (f c r n o : Nat) (h : GH) (k : Nat) (e : Env) (h1 : GH) : Prop := ∃ x5 x6 x7 L, e = [some (.ref f), some (I r), some (I n), some (I o), some (.ref h.length), x5, x6, x7, none] ∧ (L : Net).length = k ∧ (∀ j (hj : j < L.length), L[j].length = j ∧ ∀ l ∈ L[j], Lab r l) ∧ h1[h.length]? = some (.lst (L.map enc)) ∧ FlowAt h1 f c ∧ Mod [f] h h1
def NtK (f c r n o : Nat) (h h0 : GH) (L : Net) (j : Nat) (k : Nat) (e : Env) (h1 : GH) : Prop := ∃ x7 row, e = [some (.ref f), some (I r), some (I n), some (I o), some (.ref h.length), some (I j), some (.ref h0.length), x7, none] ∧ (row : List (List Nat)).length = k ∧ (∀ l ∈ row, Lab r l) ∧ h1[h.length]? = some (.lst (L.map enc)) ∧ h1[h0.length]? = some (.lst (row.map enc)) ∧ FlowAt h1 f c ∧ Mod [f] h0 h1
theorem net_sp {G : Prg} (D : D__law_net_k51 G) (d : Nat) {f c r n o : Nat} (hr : r < 1000) (hn : n < 1000) {h : GH} (F : FlowAt h f c) :
    To (callF G (d + 2) n__law_net [.ref f, I r, I n, I o] h) fun v h1 => ∃ L : Net, v = enc L ∧ WfN r n L ∧ FlowAt h1 f c ∧ Mod [f] h h1 := by
  have hz := szv
  refine call_to D.f rfl rfl ?_
  obtain ⟨hf, hc⟩ := F.lt
  simp_all! [F__law_net_k51]
  refine seq_to ?_
  simp! []
  refine seq_to ?_
  simp! [rngR_nat (show n ≤ 1000000 by omega)]
  refine forL_range (NtJ f c r n o h) n ?_ ?_ ⟨none, none, none, [], rfl, rfl, nofun, get_push, F.push, (Mod.refl [f] h).push _⟩
  · rintro j hj e h1 ⟨x5, x6, x7, L, rfl, hL, wL, e1, F1, M1⟩
    dsimp! []
    refine seq_to ?_
    simp! []
    refine seq_to ?_
    simp! [rngR_nat (show j ≤ 1000000 by omega)]
    have l1 := lt_of_get e1
    obtain ⟨f1, c1⟩ := F1.lt
    refine forL_range (NtK f c r n o h h1 L j) j ?_ ?_ ⟨x7, [], rfl, rfl, nofun, get_app e1, get_push, F1.push, (Mod.refl [f] h1).push _⟩
    · rintro k hk e h2 ⟨x7, row, rfl, hrl, wr, e2, e3, F2, M2⟩
      dsimp! []
      refine seq_to ?_
      simp! [xS_exp, eE_m1, eE_tpl, isLst_ref e3]
      refine evS_cond (gd := none) (h1 := h2) (List.range r) I (fun k acc h3 => ∃ l : List Nat, acc = l.map I ∧ l.Pairwise (· < ·) ∧ (∀ t ∈ l, t < k) ∧ h3[h.length]? = some (.lst (L.map enc)) ∧ h3[h1.length]? = some (.lst (row.map enc)) ∧ FlowAt h3 f c ∧ Mod [f] h1 h3) (by dsimp! [rngR_nat (show r ≤ 1000000 by omega)]) (fun _ _ _ _ => rfl) (by simp; omega) ?_ ⟨[], rfl, List.Pairwise.nil, nofun, e2, e3, F2, M2⟩ ?_
      · rintro t ht acc h3 ⟨l, rfl, asc, hlt, g1, g2, F3, M3⟩
        have ht : t < r := by simpa using ht
        rw [List.getElem_range]
        refine ⟨_, setTg_nm _ _ _, ?_⟩
        simp! [wipeE]
        refine (next_sp D._law_next d (by omega) (by omega) F3).mono ?_
        rintro _ h4 ⟨q, hq, rfl, F4, M4⟩
        have g3 := M4.get g1 (by simp; omega)
        have g4 := M4.get g2 (by simp; omega)
        have M34 := M3.trans M4
        simp! [lt_nat]
        cases decide (q < o) with
        | true =>
          simp! []
          refine ⟨l ++ [t], by simp, ?_, ?_, g3, g4, F4, M34⟩
          · rw [List.pairwise_append]
            refine ⟨asc, List.pairwise_singleton _ _, fun a ha b hb => ?_⟩
            rw [List.mem_singleton.mp hb]
            exact hlt a ha
          · intro a ha
            rcases List.mem_append.mp ha with z | z
            · have := hlt a z; omega
            · rw [List.mem_singleton.mp z]; omega
        | false =>
          simp! [Bool.false_eq_true]
          exact ⟨l, rfl, asc, fun a ha => by have := hlt a ha; omega, g3, g4, F4, M34⟩
      · rintro acc h3 ⟨l, rfl, asc, hlt, g1, g2, F3, M3⟩
        have hlt : ∀ t ∈ l, t < r := fun t ht => by simpa using hlt t ht
        simp! [tup_mapI, app_lst g2 _ (show (row.map enc).length < szL by rw [List.length_map]; omega)]
        refine nil_to ⟨_, row ++ [l], rfl, by simp [hrl], ?_, ?_, ?_, F3.set (by omega) (by omega), M3.set (.inr (Nat.le_refl _)) _⟩
        · intro a ha
          rcases List.mem_append.mp ha with z | z
          · exact wr a z
          · rw [List.mem_singleton.mp z]; exact ⟨asc, hlt⟩
        · rw [get_ne (by omega), g1]
        · rw [get_put (lt_of_get g2), List.map_append]
          rfl
    · rintro e h2 ⟨x7, row, rfl, hrl, wr, e2, e3, F2, M2⟩
      try rw [Kn_nxt]
      refine seq_to ?_
      simp! [isLst_ref e2, sqT_ref e3, tup_map, app_lst e2 _ (show (L.map enc).length < szL by rw [List.length_map]; omega)]
      refine nil_to ⟨_, _, _, L ++ [row], rfl, by simp [hL], ?_, ?_, F2.set (by omega) (by omega), (M1.trans M2).set (.inr (Nat.le_refl _)) _⟩
      · intro k hk
        by_cases q : k < L.length
        · rw [List.getElem_append_left q]
          exact wL k q
        · have : k = L.length := by simp at hk; omega
          subst this
          rw [List.getElem_append_right (by omega)]
          simp only [Nat.sub_self, List.getElem_cons_zero]
          exact ⟨by omega, wr⟩
      · rw [get_put (lt_of_get e2), List.map_append]
        rfl
  · rintro e h1 ⟨x5, x6, x7, L, rfl, hL, wL, e1, F1, M1⟩
    try rw [Kn_nxt]
    refine seq_to ?_
    simp! [sqT_ref e1, tup_map]
    refine ⟨_, rfl, L, rfl, ?_, F1, M1⟩
    have := WfN.of wL
    rwa [hL] at this
theorem tup1E {A : Type} [Enc A] (a : A) : GV.tup [enc a] = enc [a] := rfl
theorem set_split {A : Type} (l : List A) {i : Nat} (hi : i < l.length) (v : A) : l.take i ++ [v] ++ l.drop (i + 1) = l.set i v := by
  rw [List.append_assoc, List.singleton_append, List.set_eq_take_append_cons_drop, if_pos hi]
theorem with_label_sp {G : Prg} (D : D__law_with_label G) (d : Nat) {r n i j : Nat} {L : Net} (w : WfN r n L) (hij : i < j) (hj : j < n) (hn : n ≤ 1000) (v : List Nat) (h : GH) : callF G (d + 1) n__law_with_label [enc L, I i, I j, enc v] h = .ok (enc (setLb L i j v)) h := by
  have hz := szv
  refine call_pure D.f rfl rfl (Enc.noref _ _) ?_
  have hjl : j < L.length := by rw [w.len]; exact hj
  have hrl := w.row j hj
  have hil : i < (L.getD j []).length := by rw [hrl]; exact hij
  have ix := idx_P (h := h) hjl
  have hset : setLb L i j v = L.set j ((L.getD j []).set i v) := rfl
  have wl := w.len
  rw [hset]
  clear hset
  generalize L.getD j [] = row at hrl hil ix ⊢
  simp_all! [F__law_with_label]
  refine seq_to ?_
  simp! [ix, slc_take, slc_drop, add_nat, tup1E, add_enc (show (row.take i).length + [v].length ≤ szL by simp; omega), add_enc (show (row.take i ++ [v]).length + (row.drop (i + 1)).length ≤ szL by simp; omega), set_split row hil]
  refine seq_to ?_
  simp! [slc_take, slc_drop, add_nat, tup1E, add_enc (show (L.take j).length + [row.set i v].length ≤ szL by simp; omega), add_enc (show (L.take j ++ [row.set i v]).length + (L.drop (j + 1)).length ≤ szL by simp; omega), set_split L hjl]
  exact ⟨(by first | rfl | trivial), .refl h⟩
theorem law_is_number_sp {G : Prg} (D : D__law_is_number G) (d k : Nat) (h : GH) : callF G (d + 1) n__law_is_number [I k] h = .ok (.bl true) h := by
  refine call_pure D.f rfl rfl rfl ?_
  dsimp! [exSs, retV, F__law_is_number, lt_nat, le_nat, gt_nat, ge_nat, add_nat, sub_nat, eq_nat, ne_nat, eq_N, ne_N, eq_P, ne_P, eq_L, ne_L, inV_N, ninV_N, lenV_enc, sqT_enc, sqD_enc, itS_enc, itE_enc, isi_enc, isi_int, isi_intb, isi_lt, tru_enc, slc_take, slc_drop, chk_none, setTg_pair, tgR_pair, idx_N, idx_P, Bool.not_false, To_ok]
  simp [Pre.refl]
theorem law_is_net_sp {G : Prg} (D : D__law_is_net G) (d : Nat) {r n : Nat} {L : Net} (w : WfN r n L) (hr : r ≤ 1000) (hn : n ≤ 1000) (h : GH) : callF G (d + 2) n__law_is_net [enc L, I r, I n] h = .ok (.bl true) h := by
  refine call_pure D.f rfl rfl rfl ?_
  simp_all! [F__law_is_net]
  refine seq_to ?_
  simp! [isi_enc, Bool.not_true, Bool.false_eq_true, lenV_enc, ne_nat, w.len, decide_true]
  refine nil_to ?_
  try rw [Kn_nxt]
  refine seq_to ?_
  simp! [rngR_nat (show n ≤ 1000000 by omega)]
  refine forL_check I (fun e => ∃ x y z, e = [some (enc L), some (I r), some (I n), x, y, z]) (fun _ => true) .non ⟨_, _, _, rfl⟩ ?_ ?_ ?_
  · rintro j hj e ⟨x, y, z, rfl⟩
    have hj := List.mem_range.mp hj
    have hjl : j < L.length := by rw [w.len]; exact hj
    dsimp! []
    refine seq_to ?_
    simp! [idx_P hjl, isi_enc, Bool.not_true, Bool.false_eq_true, lenV_enc, ne_nat, w.row j hj, decide_true]
    refine nil_to ?_
    try rw [Kn_nxt]
    refine seq_to ?_
    simp! [idx_P hjl, itS_enc]
    refine forL_check enc (fun e => ∃ y z, e = [some (enc L), some (I r), some (I n), some (I j), y, z]) (fun _ => true) .non ⟨_, _, rfl⟩ ?_ ?_ ?_
    · rintro l hl e ⟨y, z, rfl⟩
      have hrow : L.getD j [] ∈ L := by
        rw [List.getD_eq_getElem?_getD, List.getElem?_eq_getElem hjl]
        exact List.getElem_mem _
      have wl := w.mem hrow hl
      have wll := wl.len
      dsimp! []
      refine seq_to ?_
      simp! [isi_enc, Bool.not_true, Bool.false_eq_true]
      refine nil_to ?_
      try rw [Kn_nxt]
      refine seq_to ?_
      simp! [lenV_enc, rngR_nat (show l.length ≤ 1000000 by omega)]
      refine forL_check I (fun e => ∃ z, e = [some (enc L), some (I r), some (I n), some (I j), some (enc l), z]) (fun _ => true) .non ⟨_, rfl⟩ ?_ ?_ ?_
      · rintro k hk e ⟨z, rfl⟩
        have hk := List.mem_range.mp hk
        have lt : l.getD k 0 < r := wl.lt _ (getD_mem hk)
        dsimp! []
        refine seq_to ?_
        simp! [idx_N hk, law_is_number_sp D._law_is_number, Bool.not_true, Bool.false_eq_true, ge_nat, show ¬ r ≤ l.getD k 0 by omega, decide_false]
        refine nil_to ?_
        try rw [Kn_nxt]
        refine seq_to ?_
        simp! [gt_nat]
        by_cases k0 : 0 < k
        · have asc : l.getD (k - 1) 0 < l.getD k 0 := by
            have := List.pairwise_iff_getElem.mp wl.asc (k - 1) k (by omega) hk (by omega)
            rw [List.getD_eq_getElem?_getD, List.getD_eq_getElem?_getD, List.getElem?_eq_getElem hk, List.getElem?_eq_getElem (show k - 1 < l.length by omega)]
            exact this
          simp! [k0, decide_true, sub_nat (show 1 ≤ k by omega), idx_N hk, idx_N (show k - 1 < l.length by omega), ge_nat, show ¬ l.getD k 0 ≤ l.getD (k - 1) 0 by omega, decide_false, Bool.false_eq_true]
          exact nil_to (nil_to ⟨rfl, .inl rfl, _, rfl⟩)
        · simp! [k0, decide_false, Bool.false_eq_true]
          exact nil_to (nil_to ⟨rfl, .inl rfl, _, rfl⟩)
      · rintro - e ⟨z, rfl⟩
        try rw [Kn_nxt]
        exact nil_to ⟨rfl, .inl (by first | rfl | trivial), _, _, rfl⟩
      · intro k
        rw [List.all_eq_true.mpr fun _ _ => rfl] at k
        cases k
    · rintro - e ⟨y, z, rfl⟩
      try rw [Kn_nxt]
      exact nil_to ⟨rfl, .inl (by first | rfl | trivial), _, _, _, rfl⟩
    · intro k
      rw [List.all_eq_true.mpr fun _ _ => rfl] at k
      cases k
  · rintro - e ⟨x, y, z, rfl⟩
    try rw [Kn_nxt]
    refine seq_to ?_
    simp! []
    exact ⟨trivial, .refl h⟩
  · intro k
    rw [List.all_eq_true.mpr fun _ _ => rfl] at k
    cases k
end Pv
end Pp_C14
section Pp_C15
set_option Elab.async false
set_option linter.all false
set_option maxRecDepth 10000
namespace Pv
open PySem (Str)
open GV
open Enc (enc)
local macro_rules
  | `(tactic| simp! [$ls,*]) => `(tactic| try simp only [eE_var, eE_cst, eE_tup, eE_lst, eE_tpl, eE_op, eE_neg, eE_isn, eE_ntn, eE_and, eE_or, eE_not, eE_ite, eE_slc, eE_fld, eE_call, eE_perm, eE_mk, eE_len, eE_int, eE_str, eE_b2, eE_all, eE_any, eE_isi, eE_rng, eE_m1, eE_dic, eA_nil, eA_cons, eO_non, eO_som, eQ_non, eQ_som, eS_val, eS_lsv, eS_rgl, eS_dsp, eS_lis, eS_srt, eI_val, eI_sq, eI_enm, eI_rng, eI_rngS, eI_prm, xS_pass, xS_brk, xS_cnt, xS_ret, xS_exp, xS_nm, xS_tg, xS_fld, xS_sub, xS_iff, xS_for, forB_nm, forB_pair, enc_nat, getV_ok, tru_bl, tru_non, idxI_nat, intV_int, intV_bl, szT0, szT1, szT2, szT3, szT4, szS0, szS1, szS2, szS3, szS4, szS5, setTg_nm, oE_add, oE_sub, oE_mul, oE_fdiv, oE_mod, oE_pow, oE_eq, oE_ne, oE_lt, oE_le, oE_gt, oE_ge, oE_idx, oE_inn, oE_nin, Res.bind_ok, Res.bind_exc, ite_tt, ite_ff, if_true, if_false, List.map_cons, List.map_nil, List.length_cons, List.length_nil, Nat.zero_add, Nat.reduceAdd, Nat.reduceSub, List.replicate_succ, List.replicate_zero, List.cons_append, List.nil_append, List.getElem?_cons_zero, List.getElem?_cons_succ, List.set_cons_zero, List.set_cons_succ, retV, To_ok, To_bind, Kn_nxt, Kn_ret, Kn_brk, Kn_cnt, $ls,*])
local macro_rules
  | `(tactic| dsimp! [$ls,*]) => `(tactic| simp only [eE_var, eE_cst, eE_tup, eE_lst, eE_tpl, eE_op, eE_neg, eE_isn, eE_ntn, eE_and, eE_or, eE_not, eE_ite, eE_slc, eE_fld, eE_call, eE_perm, eE_mk, eE_len, eE_int, eE_str, eE_b2, eE_all, eE_any, eE_isi, eE_rng, eE_m1, eE_dic, eA_nil, eA_cons, eO_non, eO_som, eQ_non, eQ_som, eS_val, eS_lsv, eS_rgl, eS_dsp, eS_lis, eS_srt, eI_val, eI_sq, eI_enm, eI_rng, eI_rngS, eI_prm, xS_pass, xS_brk, xS_cnt, xS_ret, xS_exp, xS_nm, xS_tg, xS_fld, xS_sub, xS_iff, xS_for, forB_nm, forB_pair, enc_nat, getV_ok, tru_bl, tru_non, idxI_nat, intV_int, intV_bl, szT0, szT1, szT2, szT3, szT4, szS0, szS1, szS2, szS3, szS4, szS5, setTg_nm, oE_add, oE_sub, oE_mul, oE_fdiv, oE_mod, oE_pow, oE_eq, oE_ne, oE_lt, oE_le, oE_gt, oE_ge, oE_idx, oE_inn, oE_nin, Res.bind_ok, Res.bind_exc, ite_tt, ite_ff, if_true, if_false, List.map_cons, List.map_nil, List.length_cons, List.length_nil, Nat.zero_add, Nat.reduceAdd, Nat.reduceSub, List.replicate_succ, List.replicate_zero, List.cons_append, List.nil_append, List.getElem?_cons_zero, List.getElem?_cons_succ, List.set_cons_zero, List.set_cons_succ, $ls,*])
local macro_rules
  | `(tactic| simp_all! [$ls,*]) => `(tactic| simp only [List.map_cons, List.map_nil, List.length_cons, List.length_nil, Nat.zero_add, Nat.reduceAdd, Nat.reduceSub, List.replicate_succ, List.replicate_zero, List.cons_append, List.nil_append, List.getElem?_cons_zero, List.getElem?_cons_succ, List.set_cons_zero, List.set_cons_succ, $ls,*])
/-! ### law k51 -/
theorem KitAt.r {h : GH} {k r : Nat} {turn : List Nat} {bs : List (List (List Nat))} {wide : Bool} {tn bn dn : Nat} (K : KitAt h k r turn bs wide tn bn dn) : opIdx (.ref k) (I 0) h = .ok (I r) h := idx_lst K.k rfl
theorem KitAt.t_ {h : GH} {k r : Nat} {turn : List Nat} {bs : List (List (List Nat))} {wide : Bool} {tn bn dn : Nat} (K : KitAt h k r turn bs wide tn bn dn) : opIdx (.ref k) (I 1) h = .ok (.ref tn) h := idx_lst K.k rfl
theorem KitAt.b_ {h : GH} {k r : Nat} {turn : List Nat} {bs : List (List (List Nat))} {wide : Bool} {tn bn dn : Nat} (K : KitAt h k r turn bs wide tn bn dn) : opIdx (.ref k) (I 2) h = .ok (.ref bn) h := idx_lst K.k rfl
theorem KitAt.d_ {h : GH} {k r : Nat} {turn : List Nat} {bs : List (List (List Nat))} {wide : Bool} {tn bn dn : Nat} (K : KitAt h k r turn bs wide tn bn dn) : opIdx (.ref k) (I 3) h = .ok (.ref dn) h := idx_lst K.k rfl
theorem KitAt.pre {h h1 : GH} {k r : Nat} {turn : List Nat} {bs : List (List (List Nat))} {wide : Bool} {tn bn dn : Nat} (K : KitAt h k r turn bs wide tn bn dn) (m : Pre h h1) : KitAt h1 k r turn bs wide tn bn dn := K.mod m (by simp) (by simp) (by simp) (by simp)
theorem KitAt.flow {h h1 : GH} {f k r : Nat} {turn : List Nat} {bs : List (List (List Nat))} {wide : Bool} {tn bn dn : Nat} (K : KitAt h k r turn bs wide tn bn dn) (m : Mod [f] h h1) (hn : f ≠ k ∧ f ≠ tn ∧ f ≠ bn ∧ f ≠ dn) : KitAt h1 k r turn bs wide tn bn dn := K.mod m (by simpa using hn.1.symm) (by simpa using hn.2.1.symm) (by simpa using hn.2.2.1.symm) (by simpa using hn.2.2.2.symm)
def WnJ (f c k r n tn bn dn : Nat) (turn : List Nat) (bs : List (List (List Nat))) (wide : Bool) (h : GH) (m : Nat) (e : Env) (h1 : GH) : Prop := ∃ L x4 x5, e = [some (.ref f), some (.ref k), some (I n), some (enc (L : Net)), x4, x5] ∧ WfN r n L ∧ KitAt h1 k r turn bs wide tn bn dn ∧ FlowAt h1 f c ∧ Mod [f] h h1
def WnK (f c k r n tn bn dn : Nat) (turn : List Nat) (bs : List (List (List Nat))) (wide : Bool) (h : GH) (j m : Nat) (e : Env) (h1 : GH) : Prop := ∃ L x5, e = [some (.ref f), some (.ref k), some (I n), some (enc (L : Net)), some (I j), x5] ∧ WfN r n L ∧ KitAt h1 k r turn bs wide tn bn dn ∧ FlowAt h1 f c ∧ Mod [f] h h1
theorem wanted_sp {G : Prg} (D : D__law_wanted G) (d : Nat) {f c k r tn bn dn : Nat} {turn : List Nat} {bs : List (List (List Nat))} {wide : Bool} (r0 : 1 ≤ r) (hr : r ≤ 4) {h : GH} (F : FlowAt h f c) (K : KitAt h k r turn bs wide tn bn dn) (hn : f ≠ k ∧ f ≠ tn ∧ f ≠ bn ∧ f ≠ dn) :
    To (callF G (d + 3) n__law_wanted [.ref f, .ref k] h) fun v h1 => ∃ n L, v = enc (L : Net) ∧ WfN r n L ∧ n ≤ 10 ∧ FlowAt h1 f c ∧ Mod [f] h h1 := by
  refine call_to D.f rfl rfl ?_
  simp_all! [F__law_wanted]
  refine seq_to ?_
  simp! []
  refine (next_sp D._law_next _ (by omega) (by omega) F).mono ?_
  rintro _ h1 ⟨n0, hn0, rfl, F1, M1⟩
  simp! []
  refine seq_mid (fun q h2 => ∃ n, q = (.nxt, [some (.ref f), some (.ref k), some (I n), none, none, none]) ∧ n ≤ 10 ∧ FlowAt h2 f c ∧ Mod [f] h h2) ?_ ?_
  · simp! []
    refine (next_sp D._law_next _ (by omega) (by omega) F1).mono ?_
    rintro _ h2 ⟨q, hq, rfl, F2, M2⟩
    simp! [eq_nat]
    by_cases q0 : q = 0
    · simp! [q0, decide_true]
      refine seq_to ?_
      simp! []
      refine (next_sp D._law_next _ (by omega) (by omega) F2).mono ?_
      rintro _ h3 ⟨m, hm, rfl, F3, M3⟩
      simp! [add_nat]
      exact nil_to ⟨8 + m, rfl, by omega, F3, (M1.trans M2).trans M3⟩
    · simp! [q0, decide_false, Bool.false_eq_true]
      exact nil_to ⟨n0, rfl, by omega, F2, M1.trans M2⟩
  · rintro _ h2 ⟨n, rfl, hn10, F2, M2⟩
    try rw [Kn_nxt]
    refine seq_to ?_
    have K2 := K.flow M2 hn
    simp! [K2.r]
    refine (next_sp D._law_next _ (by omega) (by omega) F2).mono ?_
    rintro _ h3 ⟨o, ho, rfl, F3, M3⟩
    simp! [add_nat]
    refine (net_sp D._law_net _ (by omega) (by omega) F3).mono ?_
    rintro _ h4 ⟨L, rfl, wL, F4, M4⟩
    simp! []
    have M24 := (M2.trans M3).trans M4
    have K4 := K.flow M24 hn
    refine seq_to ?_
    simp! [K4.r, gt_nat]
    by_cases r1 : 1 < r
    · simp! [r1, decide_true]
      refine seq_to ?_
      simp! [rngR_nat (show n ≤ 1000000 by omega)]
      refine forL_range (WnJ f c k r n tn bn dn turn bs wide h) n ?_ ?_ ⟨L, none, none, rfl, wL, K4, F4, M24⟩
      · rintro j hj e h5 ⟨L, x4, x5, rfl, wL, K5, F5, M5⟩
        dsimp! []
        refine seq_to ?_
        simp! [rngR_nat (show j ≤ 1000000 by omega)]
        refine forL_range (WnK f c k r n tn bn dn turn bs wide h j) j ?_ ?_ ⟨L, x5, rfl, wL, K5, F5, M5⟩
        · rintro i hi e h6 ⟨L, x5, rfl, wL, K6, F6, M6⟩
          have hjl : j < L.length := by rw [wL.len]; exact hj
          have hil : i < (L.getD j []).length := by rw [wL.row j hj]; exact hi
          have ix : opIdx (enc (L.getD j [])) (I i) h6 = .ok (enc (lb L i j)) h6 := idx_P hil
          dsimp! []
          refine seq_to ?_
          simp! [idx_P hjl, ix, lenV_enc, eq_nat]
          by_cases l0 : (lb L i j).length = 0
          · simp! [l0, decide_true]
            refine (next_sp D._law_next _ (by omega) (by omega) F6).mono ?_
            rintro _ h7 ⟨q, hq, rfl, F7, M7⟩
            have K7 := K6.flow M7 hn
            simp! [gt_nat]
            by_cases q0 : 0 < q
            · simp! [q0, decide_true]
              refine seq_to ?_
              simp! [K7.r]
              refine (next_sp D._law_next _ (by omega) (by omega) F7).mono ?_
              rintro _ h8 ⟨t, ht, rfl, F8, M8⟩
              have e1 : GV.tup [I t] = enc [t] := rfl
              simp! [e1, with_label_sp D._law_with_label _ wL hi hj (by omega)]
              refine nil_to (nil_to ⟨_, _, rfl, wL.setLb hi hj ⟨List.pairwise_singleton _ _, fun x hx => by rw [List.mem_singleton.mp hx]; exact ht⟩, K7.flow M8 hn, F8, (M6.trans M7).trans M8⟩)
            · simp! [q0, decide_false, Bool.false_eq_true]
              exact nil_to (nil_to ⟨_, _, rfl, wL, K7, F7, M6.trans M7⟩)
          · simp! [l0, decide_false, Bool.false_eq_true]
            exact nil_to (nil_to ⟨_, _, rfl, wL, K6, F6, M6⟩)
        · rintro e h6 ⟨L, x5, rfl, wL, K6, F6, M6⟩
          try rw [Kn_nxt]
          exact nil_to ⟨_, _, _, rfl, wL, K6, F6, M6⟩
      · rintro e h5 ⟨L, x4, x5, rfl, wL, K5, F5, M5⟩
        try rw [Kn_nxt]
        refine nil_to ?_
        try rw [Kn_nxt]
        refine seq_to ?_
        simp! []
        exact ⟨_, rfl, n, L, rfl, wL, hn10, F5, M5⟩
    · simp! [r1, decide_false, Bool.false_eq_true]
      refine nil_to ?_
      try rw [Kn_nxt]
      refine seq_to ?_
      simp! []
      exact ⟨_, rfl, n, L, rfl, wL, hn10, F4, M24⟩
theorem law_label_sp {G : Prg} (D : D__law_label G) (d : Nat) {r n : Nat} {tv : GV} {turn : List Nat} {L : Net} {h : GH} (hv : Seq tv turn h) (ht : turn.length = r) (w : WfN r n L) (hr : r ≤ 1000) {i j : Nat} (hi : i < n) (hj : j < n) (ij : i ≠ j) :
    callF G (d + 1) n__law_label [tv, enc L, I i, I j] h = .ok (enc (near turn L i j)) h := by
  have hz := szv
  refine call_pure D.f rfl rfl (Enc.noref _ _) ?_
  have wl := w.len
  simp_all! [F__law_label]
  refine seq_to ?_
  simp! [lt_nat]
  by_cases q : i < j
  · have ix : opIdx (enc (L.getD j [])) (I i) h = .ok (enc (lb L i j)) h := idx_P (by rw [w.row j hj]; exact q)
    simp! [q, decide_true]
    refine seq_to ?_
    simp! [idx_P (show j < L.length by omega), ix]
    refine ⟨?_, .refl h⟩
    rw [near, if_pos q]
  · have q2 : j < i := by omega
    have ix : opIdx (enc (L.getD i [])) (I j) h = .ok (enc (lb L j i)) h := idx_P (by rw [w.row i hi]; exact q2)
    have lw := w.lab j i q2 hi
    simp! [q, decide_false, Bool.false_eq_true]
    refine nil_to ?_
    try rw [Kn_nxt]
    refine seq_to ?_
    rw [xS_ret, eE_tpl, evS_map (lb L j i) enc (fun x => I (turn.getD x 0)) (gd := none) (h1 := h) (by dsimp! [idx_P (show i < L.length by omega), ix, itS_enc]) rfl (by have := lw.len; omega)]
    · simp! []
      refine ⟨?_, .refl h⟩
      rw [near, if_neg q, enc_list, List.map_map]
      rfl
    · intro x hx
      refine ⟨_, setTg_nm _ _ _, ?_⟩
      dsimp! [wipeE, hv x (by rw [ht]; exact lw.lt x hx)]
/-! #### the full table of labels -/
def mat (turn : List Nat) (L : Net) (i j : Nat) : List Nat := if i = j then [] else near turn L i j
structure FullM (h : GH) (fr n : Nat) (rr : List Nat) (cc : Nat → Nat → Nat) (M : Nat → Nat → List Nat) : Prop where
  top : h[fr]? = some (.lst (rr.map .ref))
  len : rr.length = n
  row : ∀ i, i < n → h[rr.getD i 0]? = some (.lst ((List.range n).map fun j => .ref (cc i j)))
  cell : ∀ i j, i < n → j < n → h[cc i j]? = some (.lst ((M i j).map I))
  inj : ∀ i j i' j', i < n → j < n → i' < n → j' < n → cc i j = cc i' j' → i = i' ∧ j = j'
  sep : ∀ i j, i < n → j < n → cc i j ≠ fr ∧ ∀ k, k < n → cc i j ≠ rr.getD k 0
section
variable {h : GH} {fr n : Nat} {rr : List Nat} {cc : Nat → Nat → Nat} {M : Nat → Nat → List Nat}
theorem FullM.idx (A : FullM h fr n rr cc M) {i : Nat} (hi : i < n) : opIdx (.ref fr) (I i) h = .ok (.ref (rr.getD i 0)) h := idx_lst A.top (map_get rr .ref 0 (by rw [A.len]; exact hi))
end
end Pv
end Pp_C15
section Pp_C16
set_option Elab.async false
set_option linter.all false
set_option maxRecDepth 10000
namespace Pv
open PySem (Str)
open GV
open Enc (enc)
local macro_rules
  | `(tactic| simp! [$ls,*]) => `(tactic| try simp only [eE_var, eE_cst, eE_tup, eE_lst, eE_tpl, eE_op, eE_neg, eE_isn, eE_ntn, eE_and, eE_or, eE_not, eE_ite, eE_slc, eE_fld, eE_call, eE_perm, eE_mk, eE_len, eE_int, eE_str, eE_b2, eE_all, eE_any, eE_isi, eE_rng, eE_m1, eE_dic, eA_nil, eA_cons, eO_non, eO_som, eQ_non, eQ_som, eS_val, eS_lsv, eS_rgl, eS_dsp, eS_lis, eS_srt, eI_val, eI_sq, eI_enm, eI_rng, eI_rngS, eI_prm, xS_pass, xS_brk, xS_cnt, xS_ret, xS_exp, xS_nm, xS_tg, xS_fld, xS_sub, xS_iff, xS_for, forB_nm, forB_pair, enc_nat, getV_ok, tru_bl, tru_non, idxI_nat, intV_int, intV_bl, szT0, szT1, szT2, szT3, szT4, szS0, szS1, szS2, szS3, szS4, szS5, setTg_nm, oE_add, oE_sub, oE_mul, oE_fdiv, oE_mod, oE_pow, oE_eq, oE_ne, oE_lt, oE_le, oE_gt, oE_ge, oE_idx, oE_inn, oE_nin, Res.bind_ok, Res.bind_exc, ite_tt, ite_ff, if_true, if_false, List.map_cons, List.map_nil, List.length_cons, List.length_nil, Nat.zero_add, Nat.reduceAdd, Nat.reduceSub, List.replicate_succ, List.replicate_zero, List.cons_append, List.nil_append, List.getElem?_cons_zero, List.getElem?_cons_succ, List.set_cons_zero, List.set_cons_succ, retV, To_ok, To_bind, Kn_nxt, Kn_ret, Kn_brk, Kn_cnt, $ls,*])
local macro_rules
  | `(tactic| dsimp! [$ls,*]) => `(tactic| simp only [eE_var, eE_cst, eE_tup, eE_lst, eE_tpl, eE_op, eE_neg, eE_isn, eE_ntn, eE_and, eE_or, eE_not, eE_ite, eE_slc, eE_fld, eE_call, eE_perm, eE_mk, eE_len, eE_int, eE_str, eE_b2, eE_all, eE_any, eE_isi, eE_rng, eE_m1, eE_dic, eA_nil, eA_cons, eO_non, eO_som, eQ_non, eQ_som, eS_val, eS_lsv, eS_rgl, eS_dsp, eS_lis, eS_srt, eI_val, eI_sq, eI_enm, eI_rng, eI_rngS, eI_prm, xS_pass, xS_brk, xS_cnt, xS_ret, xS_exp, xS_nm, xS_tg, xS_fld, xS_sub, xS_iff, xS_for, forB_nm, forB_pair, enc_nat, getV_ok, tru_bl, tru_non, idxI_nat, intV_int, intV_bl, szT0, szT1, szT2, szT3, szT4, szS0, szS1, szS2, szS3, szS4, szS5, setTg_nm, oE_add, oE_sub, oE_mul, oE_fdiv, oE_mod, oE_pow, oE_eq, oE_ne, oE_lt, oE_le, oE_gt, oE_ge, oE_idx, oE_inn, oE_nin, Res.bind_ok, Res.bind_exc, ite_tt, ite_ff, if_true, if_false, List.map_cons, List.map_nil, List.length_cons, List.length_nil, Nat.zero_add, Nat.reduceAdd, Nat.reduceSub, List.replicate_succ, List.replicate_zero, List.cons_append, List.nil_append, List.getElem?_cons_zero, List.getElem?_cons_succ, List.set_cons_zero, List.set_cons_succ, $ls,*])
local macro_rules
  | `(tactic| simp_all! [$ls,*]) => `(tactic| simp only [List.map_cons, List.map_nil, List.length_cons, List.length_nil, Nat.zero_add, Nat.reduceAdd, Nat.reduceSub, List.replicate_succ, List.replicate_zero, List.cons_append, List.nil_append, List.getElem?_cons_zero, List.getElem?_cons_succ, List.set_cons_zero, List.set_cons_succ, $ls,*])
section
variable {h : GH} {fr n : Nat} {rr : List Nat} {cc : Nat → Nat → Nat} {M : Nat → Nat → List Nat}
theorem FullM.idx2 (A : FullM h fr n rr cc M) {i j : Nat} (hi : i < n) (hj : j < n) : opIdx (.ref (rr.getD i 0)) (I j) h = .ok (.ref (cc i j)) h := idx_lst (A.row i hi) (by simp [hj])
theorem FullM.mod {S : List Nat} {h1 : GH} (A : FullM h fr n rr cc M) (m : Mod S h h1) (n1 : fr ∉ S) (n2 : ∀ x ∈ rr, x ∉ S) (n3 : ∀ i j, i < n → j < n → cc i j ∉ S) : FullM h1 fr n rr cc M :=
  ⟨m.get A.top n1, A.len, fun i hi => m.get (A.row i hi) (n2 _ (getD_mem (by rw [A.len]; exact hi))), fun i j hi hj => m.get (A.cell i j hi hj) (n3 i j hi hj), A.inj, A.sep⟩
theorem FullM.pre {h1 : GH} (A : FullM h fr n rr cc M) (m : Pre h h1) : FullM h1 fr n rr cc M := A.mod m (by simp) (by simp) (by simp)
theorem FullM.congr {M' : Nat → Nat → List Nat} (A : FullM h fr n rr cc M) (e : ∀ i j, i < n → j < n → M' i j = M i j) : FullM h fr n rr cc M' := ⟨A.top, A.len, A.row, fun i j hi hj => by rw [e i j hi hj]; exact A.cell i j hi hj, A.inj, A.sep⟩
theorem FullM.put (A : FullM h fr n rr cc M) {i j : Nat} (hi : i < n) (hj : j < n) (v : List Nat) : FullM (h.set (cc i j) (.lst (v.map I))) fr n rr cc fun a b => if i = a ∧ j = b then v else M a b := by
  refine ⟨?_, A.len, fun a ha => ?_, fun a b ha hb => ?_, A.inj, A.sep⟩
  · rw [get_ne (A.sep i j hi hj).1.symm, A.top]
  · rw [get_ne ((A.sep i j hi hj).2 a ha).symm, A.row a ha]
  · by_cases e : i = a ∧ j = b
    · rw [if_pos e, ← e.1, ← e.2, get_put (lt_of_get (A.cell i j hi hj))]
    · rw [if_neg e, get_ne (fun z => e (by
        obtain ⟨e1, e2⟩ := A.inj a b i j ha hb hi hj z
        exact ⟨e1.symm, e2.symm⟩)), A.cell a b ha hb]
end
theorem rem_lst {n x : Nat} {h : GH} {l : List Nat} (e : h[n]? = some (.lst (l.map I))) (hx : x ∈ l) : evM1 .remove (.ref n) (I x) h = .ok .non (h.set n (.lst ((l.erase x).map I))) := by
  have e1 : intsOf (l.map I) = some (natI l) := intsOf_enc l
  have m1 : (x : Int) ∈ natI l := List.mem_map.mpr ⟨x, hx, rfl⟩
  unfold evM1
  simp only [e, e1]
  rw [if_pos m1]
  have : (natI l).erase (x : Int) = natI (l.erase x) := by
    unfold natI
    induction l with
    | nil => rfl
    | cons a l ih =>
      by_cases q : a = x
      · subst q; simp
      · have q2 : ¬ (a : Int) = (x : Int) := by omega
        rw [List.map_cons, List.erase_cons_tail (by simpa using q2), List.erase_cons_tail (by simpa using q), List.map_cons]
        congr 1
        by_cases hx2 : x ∈ l
        · clear m1 e1 e
          revert ih
          intro ih
          have : ∀ (l : List Nat), (l.map fun k : Nat => (k : Int)).erase (x : Int) = (l.erase x).map fun k : Nat => (k : Int) := by
            intro l
            induction l with
            | nil => rfl
            | cons a l ih =>
              by_cases q : a = x
              · subst q; simp
              · have q2 : ¬ (a : Int) = (x : Int) := by omega
                rw [List.map_cons, List.erase_cons_tail (by simpa using q2), List.erase_cons_tail (by simpa using q), List.map_cons, ih]
          exact this l
        · rw [List.erase_of_not_mem hx2, List.erase_of_not_mem (fun z => by
            obtain ⟨b, hb, e⟩ := List.mem_map.mp z
            have : b = x := by omega
            exact hx2 (this ▸ hb))]
  rw [this]
  simp [natI, Function.comp_def]
theorem Seq.of {h : GH} {n : Nat} {L : List Nat} (e : h[n]? = some (.lst (L.map I))) : Seq (.ref n) L h := Seq.lst e
def FuJ (k n : Nat) (turn : List Nat) (L : Net) (h : GH) (i : Nat) (e : Env) (h1 : GH) : Prop := ∃ x3 x4 x5 rr cc, e = [some (.ref k), some (enc L), some (.ref h.length), x3, x4, x5] ∧ (rr : List Nat).length = i ∧ h1[h.length]? = some (.lst (rr.map .ref)) ∧ Pre h h1 ∧
  (∀ a, a < i → h1[rr.getD a 0]? = some (.lst ((List.range n).map fun j => .ref (cc a j)))) ∧ (∀ a j, a < i → j < n → h1[cc a j]? = some (.lst ((mat turn L a j).map I))) ∧ (∀ a b a' b', a < i → b < n → a' < i → b' < n → (cc : Nat → Nat → Nat) a b = cc a' b' → a = a' ∧ b = b') ∧
  (∀ a b, a < i → b < n → h.length < cc a b ∧ ∀ c, c < i → cc a b ≠ rr.getD c 0) ∧ (∀ a, a < i → h.length < rr.getD a 0)
def FuK (k n : Nat) (turn : List Nat) (L : Net) (h h0 : GH) (rr0 : List Nat) (i : Nat) (j : Nat) (e : Env) (h1 : GH) : Prop := ∃ x5 cs, e = [some (.ref k), some (enc L), some (.ref h.length), some (I i), some (.ref h0.length), x5] ∧ (cs : List Nat).length = j ∧ h1[h0.length]? = some (.lst (cs.map .ref)) ∧ Mod [] h0 h1 ∧
  (∀ b, b < j → h1[cs.getD b 0]? = some (.lst ((mat turn L i b).map I))) ∧ (∀ b b', b < j → b' < j → cs.getD b 0 = cs.getD b' 0 → b = b') ∧ (∀ b, b < j → h0.length < cs.getD b 0)
theorem getD_snoc {l : List Nat} {x j : Nat} : (l ++ [x]).getD j 0 = if j < l.length then l.getD j 0 else if j = l.length then x else 0 := by
  simp only [List.getD_eq_getElem?_getD]
  by_cases q : j < l.length
  · rw [if_pos q, List.getElem?_append_left q]
  · rw [if_neg q, List.getElem?_append_right (by omega)]
    by_cases q2 : j = l.length
    · subst q2; simp
    · rw [if_neg q2, List.getElem?_eq_none (by simp; omega)]
      rfl
theorem full_law_sp {G : Prg} (D : D__law_full G) (d : Nat) {k r n tn bn dn : Nat} {turn : List Nat} {bs : List (List (List Nat))} {wide : Bool} {L : Net} {h : GH} (K : KitAt h k r turn bs wide tn bn dn) (ht : turn.length = r) (w : WfN r n L) (hr : r ≤ 1000) (hn : n ≤ 1000) :
    To (callF G (d + 2) n__law_full [.ref k, enc L] h) fun v h1 => ∃ fr rr cc, v = .ref fr ∧ FullM h1 fr n rr cc (mat turn L) ∧ Pre h h1 ∧ ∀ i j, i < n → j < n → h.length ≤ cc i j := by
  have hz := szv
  have wl := w.len
  refine call_to D.f rfl rfl ?_
  simp_all! [F__law_full]
  refine seq_to ?_
  simp! []
  refine seq_to ?_
  simp! [lenV_enc, wl, rngR_nat (show n ≤ 1000000 by omega)]
  refine forL_range (FuJ k n turn L h) n ?_ ?_ ⟨none, none, none, [], fun _ _ => 0, rfl, rfl, get_push, (Pre.refl h).push _, nofun, nofun, nofun, nofun, nofun⟩
  · rintro i hi e h1 ⟨x3, x4, x5, rr, cc, rfl, hl, e1, P1, e2, e3, inj, sep, rpos⟩
    dsimp! []
    refine seq_to ?_
    simp! []
    refine seq_to ?_
    simp! [lenV_enc, wl, rngR_nat (show n ≤ 1000000 by omega)]
    have l1 := lt_of_get e1
    refine forL_range (FuK k n turn L h h1 rr i) n ?_ ?_ ⟨x5, [], rfl, rfl, get_push, (Mod.refl [] h1).push _, nofun, nofun, nofun⟩
    · rintro j hj e h2 ⟨x5, cs, rfl, hcl, g1, M2, g2, cinj, cpos⟩
      have l2 := lt_of_get g1
      have step : ∀ (o : GO), o = .lst ((mat turn L i j).map I) → ∀ Q, To (exSs (callF G (d + 1)) .nil [some (.ref k), some (enc L), some (.ref h.length), some (I i), some (.ref h1.length), some (I j)] ((h2 ++ [o]).set h1.length (.lst (cs.map GV.ref ++ [.ref h2.length])))) (Ln (FuK k n turn L h h1 rr i) Q (j + 1)) := by
        rintro o rfl Q
        refine nil_to ⟨_, cs ++ [h2.length], rfl, by simp [hcl], ?_, (M2.push _).set (.inr (Nat.le_refl _)) _, fun b hb => ?_, fun b b' hb hb' e => ?_, fun b hb => ?_⟩
        · rw [get_put (by simp; omega), List.map_append]
          rfl
        · rw [getD_snoc]
          by_cases q : b < cs.length
          · rw [if_pos q, get_ne (by have := cpos b (by omega); omega)]
            exact get_app (g2 b (by omega))
          · have : b = cs.length := by omega
            rw [if_neg q, if_pos this, get_ne (by omega), get_push, this, hcl]
        · rw [getD_snoc, getD_snoc] at e
          by_cases q : b < cs.length
          · by_cases q2 : b' < cs.length
            · rw [if_pos q, if_pos q2] at e
              exact cinj b b' (by omega) (by omega) e
            · rw [if_pos q, if_neg q2, if_pos (by omega)] at e
              have := lt_of_get (g2 b (by omega))
              omega
          · by_cases q2 : b' < cs.length
            · rw [if_neg q, if_pos q2, if_pos (by omega)] at e
              have := lt_of_get (g2 b' (by omega))
              omega
            · omega
        · rw [getD_snoc]
          by_cases q : b < cs.length
          · rw [if_pos q]
            exact cpos b (by omega)
          · rw [if_neg q, if_pos (by omega)]
            exact l2
      dsimp! []
      refine seq_to ?_
      simp! [eq_nat]
      have as : (cs.map GV.ref).length < szL := by rw [List.length_map]; omega
      have g1' : ∀ o, (h2 ++ [o])[h1.length]? = some (.lst (cs.map .ref)) := fun o => get_app g1
      by_cases q : i = j
      · simp! [q, decide_true]
        refine seq_to ?_
        simp! [isLst_ref g1, app_lst (g1' _) _ as]
        rw [q] at step
        refine nil_to ?_
        try rw [Kn_nxt]
        exact step (.lst []) (by simp [mat]) _
      · have K2 := (K.pre P1).pre M2
        have lab := law_label_sp D._law_label d (Seq.of K2.t) ht w hr hi hj q
        simp! [q, decide_false, Bool.false_eq_true]
        refine seq_to ?_
        simp! [isLst_ref g1, K2.t_, lab, sqD_enc, app_lst (g1' _) _ as]
        refine nil_to ?_
        try rw [Kn_nxt]
        refine step (.lst ((near turn L i j).map enc)) ?_ _
        rw [mat, if_neg q]
        rfl
    · rintro e h2 ⟨x5, cs, rfl, hcl, g1, M2, g2, cinj, cpos⟩
      try rw [Kn_nxt]
      refine seq_to ?_
      have e1' := M2.get e1 (by simp)
      simp! [isLst_ref e1', app_lst e1' _ (show (rr.map GV.ref).length < szL by rw [List.length_map]; omega)]
      have hcs : cs.map GV.ref = (List.range n).map fun j => GV.ref (cs.getD j 0) := by
        refine List.ext_getElem (by simp [hcl]) fun j h1 h2 => ?_
        have : j < cs.length := by simpa using h1
        simp [this]
      refine nil_to ⟨_, _, _, rr ++ [h1.length], fun a b => if a = i then cs.getD b 0 else cc a b, rfl, by simp [hl], ?_, (P1.trans M2).set (.inr (Nat.le_refl _)) _, fun a ha => ?_, fun a b ha hb => ?_, fun a b a' b' ha hb ha' hb' e => ?_, fun a b ha hb => ?_, fun a ha => ?_⟩
      · rw [get_put (lt_of_get e1'), List.map_append]
        rfl
      · rw [getD_snoc]
        by_cases q : a < rr.length
        · have : a ≠ i := by omega
          rw [if_pos q, get_ne (by have := rpos a (by omega); omega)]
          simp only [if_neg this]
          exact M2.get (e2 a (by omega)) (by simp)
        · have : a = i := by omega
          rw [if_neg q, if_pos (by omega), get_ne (by omega), g1, hcs]
          simp only [if_pos this]
      · by_cases q : a = i
        · simp only [if_pos q]
          rw [get_ne (by have := cpos b hb; omega), g2 b hb, q]
        · simp only [if_neg q]
          rw [get_ne (by have := (sep a b (by omega) hb).1; omega)]
          exact M2.get (e3 a b (by omega) hb) (by simp)
      · by_cases q : a = i
        · by_cases q2 : a' = i
          · simp only [if_pos q, if_pos q2] at e
            exact ⟨by omega, cinj b b' hb hb' e⟩
          · simp only [if_pos q, if_neg q2] at e
            have h3 := cpos b hb
            have h4 := lt_of_get (e3 a' b' (by omega) hb')
            omega
        · by_cases q2 : a' = i
          · simp only [if_neg q, if_pos q2] at e
            have h3 := cpos b' hb'
            have h4 := lt_of_get (e3 a b (by omega) hb)
            omega
          · simp only [if_neg q, if_neg q2] at e
            exact inj a b a' b' (by omega) hb (by omega) hb' e
      · by_cases q : a = i
        · simp only [if_pos q]
          refine ⟨by have := cpos b hb; omega, fun c hc => ?_⟩
          rw [getD_snoc]
          have := cpos b hb
          by_cases q2 : c < rr.length
          · rw [if_pos q2]
            have := lt_of_get (e2 c (by omega))
            omega
          · rw [if_neg q2, if_pos (by omega)]
            omega
        · simp only [if_neg q]
          obtain ⟨s1, s2⟩ := sep a b (by omega) hb
          refine ⟨s1, fun c hc => ?_⟩
          rw [getD_snoc]
          by_cases q2 : c < rr.length
          · rw [if_pos q2]
            exact s2 c (by omega)
          · rw [if_neg q2, if_pos (by omega)]
            have := lt_of_get (e3 a b (by omega) hb)
            omega
      · rw [getD_snoc]
        by_cases q2 : a < rr.length
        · rw [if_pos q2]
          exact rpos a (by omega)
        · rw [if_neg q2, if_pos (by omega)]
          omega
  · rintro e h1 ⟨x3, x4, x5, rr, cc, rfl, hl, e1, P1, e2, e3, inj, sep, rpos⟩
    try rw [Kn_nxt]
    refine seq_to ?_
    simp! []
    exact ⟨_, rfl, _, rr, cc, rfl, ⟨e1, hl, e2, e3, inj, fun a b ha hb => ⟨by have := (sep a b ha hb).1; omega, (sep a b ha hb).2⟩⟩, P1, fun a b ha hb => by have := (sep a b ha hb).1; omega⟩
/-- as the law looks -/
def alL (S : List (List (List Nat))) (a t b : Nat) : Bool := !decide ([[], [a], [t, b]] ∈ S)
theorem tupB (a t b : Nat) : GV.tup [GV.tup [], .tup [I a], .tup [I t, I b]] = enc ([[], [a], [t, b]] : List (List Nat)) := rfl
theorem held_sp {G : Prg} (D : D__law_held_k51 G) (d : Nat) {dn an bn' t : Nat} {S : List (List (List Nat))} {l m : List Nat} {h : GH} (e : h[dn]? = some (.dct (kvT S))) (e1 : h[an]? = some (.lst (l.map I))) (e2 : h[bn']? = some (.lst (m.map I))) :
    callF G (d + 1) n__law_held [.ref dn, .ref an, .ref bn', I t] h = .ok (.bl (l.any fun a => m.any fun b => alL S a t b)) h := by
  refine call_pure D.f rfl rfl rfl ?_
  simp_all! [F__law_held_k51]
  refine seq_to ?_
  simp! [itS_ref e1]
  have q : (l.any fun a => m.any fun b => alL S a t b) = !(l.all fun a => !(m.any fun b => alL S a t b)) := by simp [List.not_all_eq_any_not]
  refine forL_check I (fun e => ∃ x y, e = [some (.ref dn), some (.ref an), some (.ref bn'), some (I t), x, y]) (fun a => !(m.any fun b => alL S a t b)) (.bl true) ⟨_, _, rfl⟩ ?_ ?_ ?_ (chk_some e1)
  · rintro a ha e ⟨x, y, rfl⟩
    dsimp! []
    refine seq_to ?_
    simp! [itS_ref e2]
    have q : (m.any fun b => alL S a t b) = !(m.all fun b => !(alL S a t b)) := by simp [List.not_all_eq_any_not]
    refine forL_check I (fun e => ∃ y, e = [some (.ref dn), some (.ref an), some (.ref bn'), some (I t), some (I a), y]) (fun b => !(alL S a t b)) (.bl true) ⟨_, rfl⟩ ?_ ?_ ?_ (chk_some e2)
    · rintro b hb e ⟨y, rfl⟩
      dsimp! []
      refine seq_to ?_
      simp! [tupB, ninV_of (in_kvT (show Enc.dep (List Nat) ≤ 6 by decide) (by assumption) [[], [a], [t, b]])]
      unfold alL
      by_cases hm : ([[], [a], [t, b]] : List (List Nat)) ∈ S
      · simp! [hm, decide_true, Bool.not_true, Bool.false_eq_true]
        exact nil_to (nil_to ⟨rfl, by simp⟩)
      · simp! [hm, decide_false, Bool.not_false]
        refine seq_to ?_
        simp! []
        exact ⟨trivial, by simp⟩
    · rintro k e ⟨y, rfl⟩
      try rw [Kn_nxt]
      refine nil_to ⟨rfl, ?_⟩
      rw [q, k]
      simp
    · rintro k e
      rw [Kn_ret]
      refine ⟨rfl, ?_⟩
      rw [q, k]
      simp
  · rintro k e ⟨x, y, rfl⟩
    try rw [Kn_nxt]
    refine seq_to ?_
    simp! []
    rw [q, k]
    exact ⟨rfl, .refl h⟩
  · rintro k e
    rw [Kn_ret]
    rw [q, k]
    exact ⟨rfl, .refl h⟩
end Pv
end Pp_C16
section Pp_C17
set_option Elab.async false
set_option linter.all false
set_option maxRecDepth 10000
namespace Pv
open PySem (Str)
open GV
open Enc (enc)
local macro_rules
  | `(tactic| simp! [$ls,*]) => `(tactic| try simp only [eE_var, eE_cst, eE_tup, eE_lst, eE_tpl, eE_op, eE_neg, eE_isn, eE_ntn, eE_and, eE_or, eE_not, eE_ite, eE_slc, eE_fld, eE_call, eE_perm, eE_mk, eE_len, eE_int, eE_str, eE_b2, eE_all, eE_any, eE_isi, eE_rng, eE_m1, eE_dic, eA_nil, eA_cons, eO_non, eO_som, eQ_non, eQ_som, eS_val, eS_lsv, eS_rgl, eS_dsp, eS_lis, eS_srt, eI_val, eI_sq, eI_enm, eI_rng, eI_rngS, eI_prm, xS_pass, xS_brk, xS_cnt, xS_ret, xS_exp, xS_nm, xS_tg, xS_fld, xS_sub, xS_iff, xS_for, forB_nm, forB_pair, enc_nat, getV_ok, tru_bl, tru_non, idxI_nat, intV_int, intV_bl, szT0, szT1, szT2, szT3, szT4, szS0, szS1, szS2, szS3, szS4, szS5, setTg_nm, oE_add, oE_sub, oE_mul, oE_fdiv, oE_mod, oE_pow, oE_eq, oE_ne, oE_lt, oE_le, oE_gt, oE_ge, oE_idx, oE_inn, oE_nin, Res.bind_ok, Res.bind_exc, ite_tt, ite_ff, if_true, if_false, List.map_cons, List.map_nil, List.length_cons, List.length_nil, Nat.zero_add, Nat.reduceAdd, Nat.reduceSub, List.replicate_succ, List.replicate_zero, List.cons_append, List.nil_append, List.getElem?_cons_zero, List.getElem?_cons_succ, List.set_cons_zero, List.set_cons_succ, retV, To_ok, To_bind, Kn_nxt, Kn_ret, Kn_brk, Kn_cnt, $ls,*])
local macro_rules
  | `(tactic| dsimp! [$ls,*]) => `(tactic| simp only [eE_var, eE_cst, eE_tup, eE_lst, eE_tpl, eE_op, eE_neg, eE_isn, eE_ntn, eE_and, eE_or, eE_not, eE_ite, eE_slc, eE_fld, eE_call, eE_perm, eE_mk, eE_len, eE_int, eE_str, eE_b2, eE_all, eE_any, eE_isi, eE_rng, eE_m1, eE_dic, eA_nil, eA_cons, eO_non, eO_som, eQ_non, eQ_som, eS_val, eS_lsv, eS_rgl, eS_dsp, eS_lis, eS_srt, eI_val, eI_sq, eI_enm, eI_rng, eI_rngS, eI_prm, xS_pass, xS_brk, xS_cnt, xS_ret, xS_exp, xS_nm, xS_tg, xS_fld, xS_sub, xS_iff, xS_for, forB_nm, forB_pair, enc_nat, getV_ok, tru_bl, tru_non, idxI_nat, intV_int, intV_bl, szT0, szT1, szT2, szT3, szT4, szS0, szS1, szS2, szS3, szS4, szS5, setTg_nm, oE_add, oE_sub, oE_mul, oE_fdiv, oE_mod, oE_pow, oE_eq, oE_ne, oE_lt, oE_le, oE_gt, oE_ge, oE_idx, oE_inn, oE_nin, Res.bind_ok, Res.bind_exc, ite_tt, ite_ff, if_true, if_false, List.map_cons, List.map_nil, List.length_cons, List.length_nil, Nat.zero_add, Nat.reduceAdd, Nat.reduceSub, List.replicate_succ, List.replicate_zero, List.cons_append, List.nil_append, List.getElem?_cons_zero, List.getElem?_cons_succ, List.set_cons_zero, List.set_cons_succ, $ls,*])
local macro_rules
  | `(tactic| simp_all! [$ls,*]) => `(tactic| simp only [List.map_cons, List.map_nil, List.length_cons, List.length_nil, Nat.zero_add, Nat.reduceAdd, Nat.reduceSub, List.replicate_succ, List.replicate_zero, List.cons_append, List.nil_append, List.getElem?_cons_zero, List.getElem?_cons_succ, List.set_cons_zero, List.set_cons_succ, $ls,*])
theorem al_eq {r : Nat} {turn : List Nat} {bs : List (List (List Nat))} (t : IsTurn r turn) (w : Bars r bs) {a x b : Nat} (ha : a < r) (hx : x < r) (hb : b < r) : alL (badS turn bs) a x b = alS r (barS turn (tblBars turn bs)) a x b := by
  unfold alL alS betw
  have := bar3_iff t w ha hx hb
  by_cases q : ([[], [a], [x, b]] : List (List Nat)) ∈ badS turn bs
  · have q2 := this.mpr q
    simp [q, q2]
  · have q2 : ¬ [a, x, b] ∈ barS turn (tblBars turn bs) := fun z => q (this.mp z)
    simp [q, q2, hx]
theorem turn_inj {r : Nat} {turn : List Nat} (t : IsTurn r turn) {a b : Nat} (ha : a < r) (hb : b < r) (e : turn.getD a 0 = turn.getD b 0) : a = b := by rw [← t.inv a ha, e, t.inv b hb]
theorem map_erase {r : Nat} {turn : List Nat} (t : IsTurn r turn) : ∀ {l : List Nat} {x : Nat}, (∀ y ∈ l, y < r) → x < r → (l.map fun y => turn.getD y 0).erase (turn.getD x 0) = (l.erase x).map fun y => turn.getD y 0
  | [], _, _, _ => rfl
  | a :: l, x, h, hx => by
    by_cases q : a = x
    · subst q; simp
    · have q2 : ¬ turn.getD a 0 = turn.getD x 0 := fun e => q (turn_inj t (h a (List.mem_cons_self ..)) hx e)
      rw [List.map_cons, List.erase_cons_tail (by simpa using q2), List.erase_cons_tail (by simpa using q), List.map_cons, map_erase t (fun y hy => h y (List.mem_cons_of_mem _ hy)) hx]
theorem mat_lt (turn : List Nat) (L : Net) {i j : Nat} (h : i < j) : mat turn L i j = lb L i j := by
  unfold mat near
  rw [if_neg (by omega), if_pos h]
theorem mat_gt (turn : List Nat) (L : Net) {i j : Nat} (h : i < j) : mat turn L j i = (lb L i j).map fun t => turn.getD t 0 := by
  unfold mat near
  rw [if_neg (by omega), if_neg (by omega)]
theorem mat_near (turn : List Nat) (L : Net) {i j : Nat} (h : i ≠ j) : mat turn L i j = near turn L i j := if_neg h
/-- one tie struck -/
theorem mat_erase {r n : Nat} {turn : List Nat} {L : Net} (t : IsTurn r turn) (w : WfN r n L) {i j x : Nat} (hij : i < j) (hj : j < n) (hx : x < r) (a b : Nat) :
    mat turn (setLb L i j ((lb L i j).erase x)) a b = if j = a ∧ i = b then (mat turn L j i).erase (turn.getD x 0) else if i = a ∧ j = b then (mat turn L i j).erase x else mat turn L a b := by
  by_cases q1 : j = a ∧ i = b
  · rw [if_pos q1, ← q1.1, ← q1.2, mat_gt turn _ hij, mat_gt turn _ hij, lb_setLb w hij hj, if_pos ⟨rfl, rfl⟩, map_erase t (w.lab i j hij hj).lt hx]
  · rw [if_neg q1]
    by_cases q2 : i = a ∧ j = b
    · rw [if_pos q2, ← q2.1, ← q2.2, mat_lt turn _ hij, mat_lt turn _ hij, lb_setLb w hij hj, if_pos ⟨rfl, rfl⟩]
    · rw [if_neg q2]
      unfold mat near
      by_cases e : a = b
      · rw [if_pos e, if_pos e]
      · rw [if_neg e, if_neg e, lb_setLb w hij hj, lb_setLb w hij hj, if_neg q2, if_neg (show ¬ (i = b ∧ j = a) from fun z => q1 ⟨z.2, z.1⟩)]
section
variable (t : Nat)
/-- what stands while the law strikes -/
structure StK (hB h1 : GH) (fr n r : Nat) (rr : List Nat) (cc : Nat → Nat → Nat) (turn : List Nat) (al : Nat → Nat → Nat → Bool) (net L0 L : Net) (ch : Bool) (done : Prop) : Prop where
  m : FullM h1 fr n rr cc (mat turn L)
  inv : Inv turn al n r net L
  pre : Pre hB h1
  prog : ch = true ∧ size L < size L0 ∨ ch = false ∧ L = L0 ∧ done
end
theorem StK.imp {hB h1 : GH} {fr n r : Nat} {rr : List Nat} {cc : Nat → Nat → Nat} {turn : List Nat} {al : Nat → Nat → Nat → Bool} {net L0 L : Net} {ch : Bool} {p q : Prop} (s : StK hB h1 fr n r rr cc turn al net L0 L ch p) (f : p → q) : StK hB h1 fr n r rr cc turn al net L0 L ch q := ⟨s.m, s.inv, s.pre, s.prog.imp id fun ⟨a, b, c⟩ => ⟨a, b, f c⟩⟩
theorem negV_one (h : GH) : negV (I 1) h = .ok (.int (-1)) h := nr rfl
theorem rngT_neg (h : GH) : rngT (.int (-1)) (I 0) (.int (-1)) h = .ok ([], none) h := by
  show (match rngS (-1) ((0 : Nat) : Int) (-1) with | some xs => Res.ok (xs, (none : Gd)) h | none => .bad) = _
  have : rngS (-1) ((0 : Nat) : Int) (-1) = some [] := by decide
  rw [this]
def SkJ (k fr n r : Nat) (rr : List Nat) (cc : Nat → Nat → Nat) (turn : List Nat) (al : Nat → Nat → Nat → Bool) (net L0 : Net) (hB : GH) (m : Nat) (e : Env) (h1 : GH) : Prop := ∃ L ch x4 x5 x6 x7 x8, e = [some (.ref k), some (.ref fr), some (I n), some (.bl ch), x4, x5, x6, x7, x8] ∧
  StK hB h1 fr n r rr cc turn al net L0 L ch (∀ i' j', i' < j' → j' < n → n - m ≤ j' → ∀ x ∈ lb L0 i' j', okB turn al n L0 i' j' x = true)
def SkK (k fr n r : Nat) (rr : List Nat) (cc : Nat → Nat → Nat) (turn : List Nat) (al : Nat → Nat → Nat → Bool) (net L0 : Net) (hB : GH) (j m : Nat) (e : Env) (h1 : GH) : Prop := ∃ L ch x5 x6 x7 x8, e = [some (.ref k), some (.ref fr), some (I n), some (.bl ch), some (I j), x5, x6, x7, x8] ∧
  StK hB h1 fr n r rr cc turn al net L0 L ch (∀ i' j', i' < j' → j' < n → (j < j' ∨ j' = j ∧ i' < m) → ∀ x ∈ lb L0 i' j', okB turn al n L0 i' j' x = true)
def SkL (k fr n r : Nat) (rr : List Nat) (cc : Nat → Nat → Nat) (turn : List Nat) (al : Nat → Nat → Nat → Bool) (net L0 : Net) (hB : GH) (j i : Nat) (T0 : List Nat) (m : Nat) (e : Env) (h1 : GH) : Prop := ∃ L ch x6 x7 x8, e = [some (.ref k), some (.ref fr), some (I n), some (.bl ch), some (I j), some (I i), x6, x7, x8] ∧
  StK hB h1 fr n r rr cc turn al net L0 L ch ((∀ i' j', i' < j' → j' < n → (j < j' ∨ j' = j ∧ i' < i) → ∀ x ∈ lb L0 i' j', okB turn al n L0 i' j' x = true) ∧ ∀ x ∈ T0.take m, okB turn al n L0 i j x = true) ∧ (∀ x ∈ T0.drop m, x ∈ lb L i j) ∧ (ch = false → T0 = lb L0 i j)
theorem struck_sp {G : Prg} (D : D__law_struck G) (d : Nat) {k r n tn bn dn fr : Nat} {turn rr : List Nat} {cc : Nat → Nat → Nat} {bs : List (List (List Nat))} {wide : Bool} {net L0 : Net} {hB h : GH} (K : KitAt hB k r turn bs wide tn bn dn) (wt : IsTurn r turn) (wb : Bars r bs) (hn : n ≤ 1000) (hr : r ≤ 1000)
    (A : FullM h fr n rr cc (mat turn L0)) (inv : Inv turn (alS r (barS turn (tblBars turn bs))) n r net L0) (P : Pre hB h) (hc : ∀ i j, i < n → j < n → hB.length ≤ cc i j) :
    To (callF G (d + 2) n__law_struck [.ref k, .ref fr] h) fun v h1 => ∃ L ch, v = .bl ch ∧ StK hB h1 fr n r rr cc turn (alS r (barS turn (tblBars turn bs))) net L0 L ch (FixL turn (alS r (barS turn (tblBars turn bs))) n L0) := by
  have hz := szv
  generalize hal : alS r (barS turn (tblBars turn bs)) = al at inv ⊢
  refine call_to D.f rfl rfl ?_
  simp_all! [F__law_struck]
  refine seq_to ?_
  simp! [lenV_ref A.top, List.length_map, A.len]
  refine seq_to ?_
  simp! []
  refine seq_to ?_
  -- the pairs, from behind
  have main : ∀ m, m = n - 1 → ∀ (R : Fl × Env → GH → Prop), (∀ e h1, SkJ k fr n r rr cc turn al net L0 hB m e h1 → R (.nxt, e) h1) → To (forL none (forB (callF G (d + 1)) (.nm 4) (.cons (.for (.nm 5) (.rng (.cst (I 0)) (.var 4)) (.cons (.for (.nm 6) (.sq (.lsv (.op .idx (.op .idx (.var 1) (.var 5)) (.var 4)))) (.cons (.asg (.nm 7) (.cst (.bl true))) (.cons (.for (.nm 8) (.rng (.cst (I 0)) (.var 2)) (.cons (.iff (.and (.op .ne (.var 8) (.var 5)) (.and (.op .ne (.var 8) (.var 4)) (.and (.var 7) (.not (.call n__law_held (.cons (.op .idx (.var 0) (.cst (I 3))) (.cons (.op .idx (.op .idx (.var 1) (.var 5)) (.var 8)) (.cons (.op .idx (.op .idx (.var 1) (.var 8)) (.var 4)) (.cons (.var 6) .nil))))))))) (.cons (.asg (.nm 7) (.cst (.bl false))) .nil) .nil) .nil)) (.cons (.iff (.not (.var 7)) (.cons (.exp (.m1 .remove (.op .idx (.op .idx (.var 1) (.var 5)) (.var 4)) (.var 6))) (.cons (.exp (.m1 .remove (.op .idx (.op .idx (.var 1) (.var 4)) (.var 5)) (.op .idx (.op .idx (.var 0) (.cst (I 1))) (.var 6)))) (.cons (.asg (.nm 3) (.cst (.bl true))) .nil))) .nil) .nil)))) .nil)) .nil)) ((List.range m).map fun q => I (m - q)) [some (.ref k), some (.ref fr), some (I n), some (.bl false), none, none, none, none, none] h) R := by
    intro m hm R hR
    refine forL_at (fun q => I (m - q)) (SkJ k fr n r rr cc turn al net L0 hB) (List.range m) (fun _ _ _ _ => rfl) ?_ (fun e h1 q => hR e h1 (by simpa using q)) ⟨L0, false, _, _, _, _, _, rfl, A, inv, P, .inr ⟨rfl, rfl, fun i' j' _ q1 q2 => absurd q2 (by omega)⟩⟩
    rintro q hq e h1 ⟨L, ch, x4, x5, x6, x7, x8, rfl, S⟩
    have hq : q < m := by simpa using hq
    rw [List.getElem_range]
    have hjn : m - q < n := by omega
    have ej : n - (q + 1) = m - q := by omega
    generalize hj : m - q = j at hjn ej
    dsimp! []
    refine seq_to ?_
    simp! [rngR_nat (show j ≤ 1000000 by omega)]
    refine forL_range (SkK k fr n r rr cc turn al net L0 hB j) j ?_ ?_ ⟨L, ch, _, _, _, _, rfl, S.imp fun p i' j' a b c => p i' j' a b (by omega)⟩
    · rintro i hi e h2 ⟨L, ch, x5, x6, x7, x8, rfl, S⟩
      have hin : i < n := by omega
      dsimp! []
      refine seq_to ?_
      have c1 := S.m.cell i j hin hjn
      rw [mat_lt turn L hi] at c1
      have wij := S.inv.wf.lab i j hi hjn
      have hT0 : ch = false → lb L i j = lb L0 i j := fun e => by
        rcases S.prog with p | p
        · rw [e] at p; cases p.1
        · rw [p.2.1]
      simp! [S.m.idx hin, S.m.idx2 hin hjn, sqD_ref c1]
      have ndT : (lb L i j).Nodup := wij.asc.imp fun h => by omega
      have hTr : ∀ x ∈ lb L i j, x < r := wij.lt
      generalize hT : lb L i j = T0 at c1 hT0 ndT hTr ⊢
      refine forL_at I (SkL k fr n r rr cc turn al net L0 hB j i T0) T0 (fun _ _ _ _ => rfl) ?_ ?_ ⟨L, ch, _, _, _, rfl, S.imp fun p => ⟨p, fun x hx => by simp at hx⟩, fun x hx => by rw [hT]; exact hx, hT0⟩
      · rintro p hp e h3 ⟨L, ch, x6, x7, x8, rfl, S, ht, hT1⟩
        have hxL : T0[p] ∈ lb L i j := ht _ (by rw [List.drop_eq_getElem_cons hp]; exact List.mem_cons_self ..)
        have hxr : T0[p] < r := hTr _ (List.getElem_mem hp)
        have hdrop : ∀ y ∈ T0.drop (p + 1), y ∈ lb L i j ∧ y ≠ T0[p] := fun y hy => ⟨ht y (by rw [List.drop_eq_getElem_cons hp]; exact List.mem_cons_of_mem _ hy), by
          rintro rfl
          have nd2 : (T0.drop p).Nodup := ndT.sublist (List.drop_sublist ..)
          rw [List.drop_eq_getElem_cons hp] at nd2
          exact (List.nodup_cons.mp nd2).1 hy⟩
        have htake : T0.take (p + 1) = T0.take p ++ [T0[p]] := List.take_succ_eq_append_getElem hp
        generalize T0[p] = x at hxL hxr hdrop htake ⊢
        dsimp! []
        refine seq_to ?_
        simp! []
        refine seq_to ?_
        simp! [rngR_nat (show n ≤ 1000000 by omega)]
        have K3 := K.pre S.pre
        -- whether each third point holds the tie
        refine forL_range (fun q e h4 => h4 = h3 ∧ ∃ x8, e = [some (.ref k), some (.ref fr), some (I n), some (.bl ch), some (I j), some (I i), some (I x), some (.bl ((List.range q).all fun k => decide (k = i) || (decide (k = j) || (near turn L i k).any fun a => (near turn L k j).any fun b => al a x b))), x8]) n ?_ ?_ ⟨rfl, _, rfl⟩
        · rintro q hq e _ ⟨rfl, x8, rfl⟩
          dsimp! []
          refine seq_to ?_
          have rs : ∀ (f : Nat → Bool), (List.range (q + 1)).all f = ((List.range q).all f && f q) := fun f => by rw [List.range_succ, List.all_append]; simp
          simp! [ne_nat]
          by_cases q1 : q = i
          · simp! [q1, decide_true, Bool.not_true, Bool.false_eq_true]
            rw [q1] at rs
            refine nil_to (nil_to ⟨rfl, some (I i), ?_⟩)
            rw [rs]
            simp
          · simp! [q1, decide_false, Bool.not_false]
            by_cases q2 : q = j
            · simp! [q2, decide_true, Bool.not_true, Bool.false_eq_true]
              rw [q2] at rs
              refine nil_to (nil_to ⟨rfl, some (I j), ?_⟩)
              rw [rs]
              simp
            · simp! [q2, decide_false, Bool.not_false]
              have step : ((near turn L i q).any fun a => (near turn L q j).any fun b => alL (badS turn bs) a x b) = (near turn L i q).any fun a => (near turn L q j).any fun b => al a x b := by
                rw [Bool.eq_iff_iff]
                simp only [List.any_eq_true]
                constructor
                · rintro ⟨a, ha, b, hb, z⟩
                  refine ⟨a, ha, b, hb, ?_⟩
                  rw [al_eq wt wb (near_lt S.inv.wf wt hin hq (Ne.symm q1) a ha) hxr (near_lt S.inv.wf wt hq hjn q2 b hb), hal] at z
                  exact z
                · rintro ⟨a, ha, b, hb, z⟩
                  refine ⟨a, ha, b, hb, ?_⟩
                  rw [al_eq wt wb (near_lt S.inv.wf wt hin hq (Ne.symm q1) a ha) hxr (near_lt S.inv.wf wt hq hjn q2 b hb), hal]
                  exact z
              have held := held_sp D._law_held d (t := x) K3.d (S.m.cell i q hin hq) (S.m.cell q j hq hjn)
              rw [mat_near turn L (Ne.symm q1), mat_near turn L q2, step] at held
              have rs := rs (fun k => decide (k = i) || (decide (k = j) || (near turn L i k).any fun a => (near turn L k j).any fun b => al a x b))
              simp only [q1, q2, decide_false, Bool.false_or] at rs
              simp! [S.m.idx hin, S.m.idx hq, S.m.idx2 hin hq, S.m.idx2 hq hjn, K3.d_, held]
              generalize hb1 : ((List.range q).all fun k => decide (k = i) || (decide (k = j) || (near turn L i k).any fun a => (near turn L k j).any fun b => al a x b)) = b1 at rs ⊢
              generalize hb2 : ((near turn L i q).any fun a => (near turn L q j).any fun b => al a x b) = b2 at rs ⊢
              cases b1
              · simp! [Bool.false_eq_true]
                refine nil_to (nil_to ⟨rfl, some (I q), ?_⟩)
                rw [rs]
                rfl
              · cases b2
                · simp! [Bool.not_false]
                  refine seq_to ?_
                  simp! []
                  refine nil_to (nil_to ⟨rfl, some (I q), ?_⟩)
                  rw [rs]
                  rfl
                · simp! [Bool.not_true, Bool.false_eq_true]
                  refine nil_to (nil_to ⟨rfl, some (I q), ?_⟩)
                  rw [rs]
                  rfl
        · rintro e h3 ⟨rfl, x8, rfl⟩
          try rw [Kn_nxt]
          have ok : ((List.range n).all fun k => decide (k = i) || (decide (k = j) || (near turn L i k).any fun a => (near turn L k j).any fun b => al a x b)) = okB turn al n L i j x := rfl
          rw [ok]
          refine seq_to ?_
          simp! []
          cases hok : okB turn al n L i j x with
          | true =>
            simp! [Bool.not_true, Bool.false_eq_true]
            refine nil_to (nil_to ⟨L, ch, _, _, _, rfl, ⟨S.m, S.inv, S.pre, S.prog.imp id fun ⟨a, b, c⟩ => ⟨a, b, c.1, fun y hy => ?_⟩⟩, fun y hy => (hdrop y hy).1, hT1⟩)
            rw [htake] at hy
            rcases List.mem_append.mp hy with z | z
            · exact c.2 y z
            · rw [List.mem_singleton.mp z, ← b]
              exact hok
          | false =>
            simp! [Bool.not_false]
            have c1 := S.m.cell i j hin hjn
            have c2 := S.m.cell j i hjn hin
            have m1 : x ∈ mat turn L i j := by rw [mat_lt turn L hi]; exact hxL
            have m2 : turn.getD x 0 ∈ mat turn L j i := by rw [mat_gt turn L hi]; exact List.mem_map.mpr ⟨x, hxL, rfl⟩
            refine seq_to ?_
            simp! [S.m.idx hin, S.m.idx2 hin hjn, isLst_ref c1, rem_lst c1 m1]
            have A2 := S.m.put hin hjn ((mat turn L i j).erase x)
            have P2 : Pre hB (h3.set (cc i j) (.lst (((mat turn L i j).erase x).map I))) := S.pre.set (.inr (hc i j hin hjn)) _
            generalize h3.set (cc i j) (.lst (((mat turn L i j).erase x).map I)) = h4 at A2 P2
            have c3 := A2.cell j i hjn hin
            rw [if_neg (by omega)] at c3
            have K4 := K.pre P2
            refine seq_to ?_
            simp! [A2.idx hjn, A2.idx2 hjn hin, isLst_ref c3, K4.t_, Seq.of K4.t x (by rw [wt.len]; exact hxr), rem_lst c3 m2]
            have A3 := (A2.put hjn hin ((mat turn L j i).erase (turn.getD x 0))).congr (M' := mat turn (setLb L i j ((lb L i j).erase x))) fun a b _ _ => mat_erase wt S.inv.wf hi hjn hxr a b
            have P3 : Pre hB (h4.set (cc j i) (.lst (((mat turn L j i).erase (turn.getD x 0)).map I))) := P2.set (.inr (hc j i hjn hin)) _
            refine seq_to ?_
            simp! []
            have w2 := S.inv.wf.lab i j hi hjn
            have le : Lab r ((lb L i j).erase x) := ⟨w2.asc.sublist List.erase_sublist, fun y hy => w2.lt y (List.mem_of_mem_erase hy)⟩
            have sl := size_setLb S.inv.wf hi hjn ((lb L i j).erase x)
            have el := List.length_erase_of_mem hxL
            have pl := List.length_pos_of_mem hxL
            have nd2 : (lb L i j).Nodup := w2.asc.imp fun h => by omega
            refine nil_to (nil_to ⟨setLb L i j ((lb L i j).erase x), true, _, _, _, rfl, ⟨A3, S.inv.strike hi hjn le (fun y hy => List.mem_of_mem_erase hy) (fun y hy hyo => ?_), P3, .inl ⟨rfl, ?_⟩⟩, fun y hy => ?_, nofun⟩)
            · refine (List.mem_erase_of_ne ?_).mpr hy
              rintro rfl
              rw [hok] at hyo
              cases hyo
            · rcases S.prog with z | z
              · omega
              · rw [← z.2.1]
                omega
            · obtain ⟨g1, g2⟩ := hdrop y hy
              rw [lb_setLb S.inv.wf hi hjn, if_pos ⟨rfl, rfl⟩]
              exact (List.mem_erase_of_ne g2).mpr g1
      · rintro e h3 ⟨L, ch, x6, x7, x8, rfl, S, ht, hT1⟩
        try rw [Kn_nxt]
        refine nil_to ⟨L, ch, _, _, _, _, rfl, ⟨S.m, S.inv, S.pre, S.prog.imp id fun ⟨a, b, c⟩ => ⟨a, b, fun i' j' g1 g2 g3 => ?_⟩⟩⟩
        by_cases g4 : j' = j ∧ i' = i
        · obtain ⟨rfl, rfl⟩ := g4
          rw [← hT1 a]
          have := c.2
          rwa [List.take_length] at this
        · exact c.1 i' j' g1 g2 (by omega)
    · rintro e h2 ⟨L, ch, x5, x6, x7, x8, rfl, S⟩
      try rw [Kn_nxt]
      exact nil_to ⟨L, ch, _, _, _, _, _, rfl, S.imp fun p i' j' a b c => p i' j' a b (by omega)⟩
  have fin : ∀ e h1, SkJ k fr n r rr cc turn al net L0 hB (n - 1) e h1 → Kn (callF G (d + 1)) (.cons (.ret (.var 3)) .nil) (fun p h1 => ∃ v, retV p.1 = some v ∧ ∃ L ch, v = .bl ch ∧ StK hB h1 fr n r rr cc turn al net L0 L ch (FixL turn al n L0)) (.nxt, e) h1 := by
    rintro e h1 ⟨L, ch, x4, x5, x6, x7, x8, rfl, S⟩
    try rw [Kn_nxt]
    refine seq_to ?_
    simp! []
    exact ⟨_, rfl, L, ch, rfl, S.imp fun p i' j' a b => p i' j' a b (by omega)⟩
  by_cases n0 : n = 0
  · have e1 : opSub (I n) (I 1) h = .ok (.int (-1)) h := by rw [n0]; rfl
    simp! [e1, negV_one, rngT_neg]
    have := main 0 (by omega) _ (fun e h1 q => fin e h1 (by rw [show n - 1 = 0 by omega]; exact q))
    rw [List.range_zero, List.map_nil] at this
    exact this
  · simp! [sub_nat (show 1 ≤ n by omega), negV_one, rngT_nat (show n - 1 ≤ 1000000 by omega) (show 0 ≤ 1000000 by omega), Nat.sub_zero]
    exact main (n - 1) rfl _ fin
end Pv
end Pp_C17
section Pp_C18
set_option Elab.async false
set_option linter.all false
set_option maxRecDepth 10000
namespace Pv
open PySem (Str)
open GV
open Enc (enc)
local macro_rules
  | `(tactic| simp! [$ls,*]) => `(tactic| try simp only [eE_var, eE_cst, eE_tup, eE_lst, eE_tpl, eE_op, eE_neg, eE_isn, eE_ntn, eE_and, eE_or, eE_not, eE_ite, eE_slc, eE_fld, eE_call, eE_perm, eE_mk, eE_len, eE_int, eE_str, eE_b2, eE_all, eE_any, eE_isi, eE_rng, eE_m1, eE_dic, eA_nil, eA_cons, eO_non, eO_som, eQ_non, eQ_som, eS_val, eS_lsv, eS_rgl, eS_dsp, eS_lis, eS_srt, eI_val, eI_sq, eI_enm, eI_rng, eI_rngS, eI_prm, xS_pass, xS_brk, xS_cnt, xS_ret, xS_exp, xS_nm, xS_tg, xS_fld, xS_sub, xS_iff, xS_for, forB_nm, forB_pair, enc_nat, getV_ok, tru_bl, tru_non, idxI_nat, intV_int, intV_bl, szT0, szT1, szT2, szT3, szT4, szS0, szS1, szS2, szS3, szS4, szS5, setTg_nm, oE_add, oE_sub, oE_mul, oE_fdiv, oE_mod, oE_pow, oE_eq, oE_ne, oE_lt, oE_le, oE_gt, oE_ge, oE_idx, oE_inn, oE_nin, Res.bind_ok, Res.bind_exc, ite_tt, ite_ff, if_true, if_false, List.map_cons, List.map_nil, List.length_cons, List.length_nil, Nat.zero_add, Nat.reduceAdd, Nat.reduceSub, List.replicate_succ, List.replicate_zero, List.cons_append, List.nil_append, List.getElem?_cons_zero, List.getElem?_cons_succ, List.set_cons_zero, List.set_cons_succ, retV, To_ok, To_bind, Kn_nxt, Kn_ret, Kn_brk, Kn_cnt, $ls,*])
local macro_rules
  | `(tactic| dsimp! [$ls,*]) => `(tactic| simp only [eE_var, eE_cst, eE_tup, eE_lst, eE_tpl, eE_op, eE_neg, eE_isn, eE_ntn, eE_and, eE_or, eE_not, eE_ite, eE_slc, eE_fld, eE_call, eE_perm, eE_mk, eE_len, eE_int, eE_str, eE_b2, eE_all, eE_any, eE_isi, eE_rng, eE_m1, eE_dic, eA_nil, eA_cons, eO_non, eO_som, eQ_non, eQ_som, eS_val, eS_lsv, eS_rgl, eS_dsp, eS_lis, eS_srt, eI_val, eI_sq, eI_enm, eI_rng, eI_rngS, eI_prm, xS_pass, xS_brk, xS_cnt, xS_ret, xS_exp, xS_nm, xS_tg, xS_fld, xS_sub, xS_iff, xS_for, forB_nm, forB_pair, enc_nat, getV_ok, tru_bl, tru_non, idxI_nat, intV_int, intV_bl, szT0, szT1, szT2, szT3, szT4, szS0, szS1, szS2, szS3, szS4, szS5, setTg_nm, oE_add, oE_sub, oE_mul, oE_fdiv, oE_mod, oE_pow, oE_eq, oE_ne, oE_lt, oE_le, oE_gt, oE_ge, oE_idx, oE_inn, oE_nin, Res.bind_ok, Res.bind_exc, ite_tt, ite_ff, if_true, if_false, List.map_cons, List.map_nil, List.length_cons, List.length_nil, Nat.zero_add, Nat.reduceAdd, Nat.reduceSub, List.replicate_succ, List.replicate_zero, List.cons_append, List.nil_append, List.getElem?_cons_zero, List.getElem?_cons_succ, List.set_cons_zero, List.set_cons_succ, $ls,*])
local macro_rules
  | `(tactic| simp_all! [$ls,*]) => `(tactic| simp only [List.map_cons, List.map_nil, List.length_cons, List.length_nil, Nat.zero_add, Nat.reduceAdd, Nat.reduceSub, List.replicate_succ, List.replicate_zero, List.cons_append, List.nil_append, List.getElem?_cons_zero, List.getElem?_cons_succ, List.set_cons_zero, List.set_cons_succ, $ls,*])
theorem net_tab {r n : Nat} {L : Net} (w : WfN r n L) : L = (List.range n).map fun j => (List.range j).map fun i => lb L i j := by
  have wl := w.len
  refine List.ext_getElem (by simp [wl]) fun j h1 h2 => ?_
  have hj : j < n := by omega
  have er : L.getD j [] = L[j] := by rw [List.getD_eq_getElem?_getD, List.getElem?_eq_getElem h1]; rfl
  have hl := w.row j hj
  rw [er] at hl
  simp only [List.getElem_map, List.getElem_range]
  refine List.ext_getElem (by simp [hl]) fun i h3 h4 => ?_
  simp only [List.getElem_map, List.getElem_range]
  unfold lb
  rw [er, List.getD_eq_getElem?_getD, List.getElem?_eq_getElem h3]
  rfl
def DuJ (k fr n r : Nat) (rr : List Nat) (cc : Nat → Nat → Nat) (turn : List Nat) (al : Nat → Nat → Nat → Bool) (net : Net) (hB : GH) (m : Nat) (e : Env) (h1 : GH) : Prop := ∃ L x3 x4 x5, e = [some (.ref k), some (enc net), some (.ref fr), x3, x4, x5] ∧ FullM h1 fr n rr cc (mat turn L) ∧ Inv turn al n r net L ∧ Pre hB h1 ∧ size L + m ≤ size net
theorem due_sp {G : Prg} (D : D__law_due_k51 G) (d : Nat) {k r n tn bn dn : Nat} {turn : List Nat} {bs : List (List (List Nat))} {wide : Bool} {net : Net} {h : GH} (K : KitAt h k r turn bs wide tn bn dn) (wt : IsTurn r turn) (wb : Bars r bs) (hn : n ≤ 10) (hr : r ≤ 4) (w : WfN r n net) :
    ∃ res, ClosedR turn (alS r (barS turn (tblBars turn bs))) n r net res ∧ callF G (d + 3) n__law_due [.ref k, enc net] h = .ok (encR res) h := by
  have hz := szv
  have wl := w.len
  refine call_pure_ex D.f rfl rfl (fun a => encR_noref _ a) ?_
  simp_all! [F__law_due_k51]
  refine seq_to ?_
  simp! []
  refine (full_law_sp D._law_full d K wt.len w (by omega) (by omega)).mono ?_
  rintro _ h1 ⟨fr, rr, cc, rfl, A1, P1, hc⟩
  simp! []
  refine seq_to ?_
  simp! [rngR_nat (show 200 ≤ 1000000 by omega)]
  have sz180 : size net ≤ 180 := by
    have h1 := size_le w
    have h2 : (List.range n).sum ≤ 45 := by
      have : ∀ m, m ≤ 10 → (List.range m).sum ≤ 45 := by decide
      exact this n hn
    have h3 : r * (List.range n).sum ≤ 4 * 45 := Nat.mul_le_mul hr h2
    omega
  -- what is told behind the loop
  have tell : ∀ L h2 x3 x4 x5, FullM h2 fr n rr cc (mat turn L) → Inv turn (alS r (barS turn (tblBars turn bs))) n r net L → Pre h h2 → FixL turn (alS r (barS turn (tblBars turn bs))) n L → (∀ i j, i < j → j < n → lb L i j ≠ []) →
      To (exSs (callF G (d + 2)) (.cons (.ret (.tpl (.cmp [4] (.one (.nm 4) (.rng (.cst (I 0)) (.b1 .len (.var 1))) .non) (.tpl (.cmp [5] (.one (.nm 5) (.rng (.cst (I 0)) (.var 4)) .non) (.tpl (.val (.op .idx (.op .idx (.var 2) (.var 5)) (.var 4))))))))) .nil) [some (.ref k), some (enc net), some (.ref fr), x3, x4, x5] h2) fun p h3 => ∃ a, ClosedR turn (alS r (barS turn (tblBars turn bs))) n r net a ∧ retV p.1 = some (encR a) ∧ Pre h h3 := by
    intro L h2 x3 x4 x5 A inv P fx ne
    refine seq_to ?_
    rw [xS_ret, eE_tpl, evS_map (List.range n) I (fun j => enc ((List.range j).map fun i => lb L i j)) (gd := none) (h1 := h2) (by dsimp! [lenV_enc, wl, rngR_nat (show n ≤ 1000000 by omega)]) rfl (by simp; omega)]
    · simp! []
      refine ⟨some L, inv.some_of fx ne, ?_, P⟩
      show some (GV.tup _) = some (enc L)
      rw [net_tab inv.wf, enc_list (A := List (List Nat)), List.map_map]
      congr 3
      funext j
      simp only [Function.comp]
      congr 1
      refine List.map_congr_left fun i _ => ?_
      rw [← net_tab inv.wf]
    · intro j hj
      have hj := List.mem_range.mp hj
      refine ⟨_, setTg_nm _ _ _, ?_⟩
      simp_all! [wipeE, eE_tpl]
      rw [evS_map (List.range j) I (fun i => enc (lb L i j)) (gd := none) (h1 := h2) (by dsimp! [rngR_nat (show j ≤ 1000000 by omega)]) rfl (by simp; omega)]
      · dsimp! []
        rw [enc_list (A := List Nat), List.map_map]
        rfl
      · intro i hi
        have hi := List.mem_range.mp hi
        have hin : i < n := by omega
        have c := A.cell i j hin hj
        rw [mat_lt turn L hi] at c
        refine ⟨_, setTg_nm _ _ _, ?_⟩
        dsimp! [wipeE, A.idx hin, A.idx2 hin hj, sqT_ref c]
        rfl
  refine forL_range (DuJ k fr n r rr cc turn (alS r (barS turn (tblBars turn bs))) net h) 200 ?_ ?_ ⟨net, none, none, none, rfl, A1, .start w, P1, Nat.le_refl _⟩
  · rintro m hm e h2 ⟨L, x3, x4, x5, rfl, A2, inv, P2, hs⟩
    dsimp! []
    refine seq_to ?_
    simp! [lenV_enc, wl, rngR_nat (show n ≤ 1000000 by omega)]
    refine forL_range (fun j e h3 => h3 = h2 ∧ (∃ x4 x5, e = [some (.ref k), some (enc net), some (.ref fr), some (I m), x4, x5]) ∧ ∀ i' j', i' < j' → j' < j → lb L i' j' ≠ []) n ?_ ?_ ⟨rfl, ⟨_, _, rfl⟩, nofun⟩
    · rintro j hj e h3 ⟨rfl, ⟨x4, x5, rfl⟩, ne⟩
      dsimp! []
      refine seq_to ?_
      simp! [rngR_nat (show j ≤ 1000000 by omega)]
      refine forL_range (fun i e h4 => h4 = h3 ∧ (∃ x5, e = [some (.ref k), some (enc net), some (.ref fr), some (I m), some (I j), x5]) ∧ ∀ i', i' < i → lb L i' j ≠ []) j ?_ ?_ ⟨rfl, ⟨_, rfl⟩, nofun⟩
      · rintro i hi e h4 ⟨rfl, ⟨x5, rfl⟩, ne2⟩
        have hin : i < n := by omega
        have c := A2.cell i j hin hj
        rw [mat_lt turn L hi] at c
        dsimp! []
        refine seq_to ?_
        simp! [A2.idx hin, A2.idx2 hin hj, lenV_ref c, List.length_map, eq_nat]
        by_cases l0 : (lb L i j).length = 0
        · simp! [l0, decide_true]
          refine seq_to ?_
          simp! []
          have e0 := List.length_eq_zero_iff.mp l0
          refine ⟨none, inv.none_of hi hj fun x hx => ?_, rfl, P2⟩
          rw [e0] at hx
          cases hx
        · simp! [l0, decide_false, Bool.false_eq_true]
          refine nil_to (nil_to ⟨rfl, ⟨_, rfl⟩, fun i' hi' => ?_⟩)
          by_cases q : i' = i
          · rw [q]
            rintro z
            rw [z] at l0
            exact l0 rfl
          · exact ne2 i' (by omega)
      · rintro e h4 ⟨rfl, ⟨x5, rfl⟩, ne2⟩
        try rw [Kn_nxt]
        refine nil_to ⟨rfl, ⟨_, _, rfl⟩, fun i' j' h1 h2 => ?_⟩
        by_cases q : j' = j
        · rw [q] at h1 ⊢
          exact ne2 i' h1
        · exact ne i' j' h1 (by omega)
    · rintro e h3 ⟨rfl, ⟨x4, x5, rfl⟩, ne⟩
      try rw [Kn_nxt]
      refine seq_to ?_
      simp! []
      refine (struck_sp D._law_struck d K wt wb (by omega) (by omega) A2 inv P2 hc).mono ?_
      rintro _ h4 ⟨L2, ch, rfl, S⟩
      simp! []
      cases ch with
      | true =>
        simp! [Bool.not_true, Bool.false_eq_true]
        have sl : size L2 < size L := by
          rcases S.prog with z | z
          · exact z.2
          · cases z.1
        exact nil_to (nil_to ⟨L2, _, _, _, rfl, S.m, S.inv, S.pre, by omega⟩)
      | false =>
        simp! [Bool.not_false]
        have z : L2 = L ∧ FixL turn (alS r (barS turn (tblBars turn bs))) n L := by
          rcases S.prog with z | z
          · cases z.1
          · exact z.2
        refine seq_to ?_
        simp! []
        have m2 := S.m
        rw [z.1] at m2
        exact tell L h4 _ _ _ m2 inv S.pre z.2 fun i j h1 h2 => ne i j h1 h2
  · rintro e h2 ⟨L, x3, x4, x5, rfl, A2, inv, P2, hs⟩
    omega
theorem isnR (res : Option Net) : decide ((encR res : GV) = .non) = res.isNone := by
  cases res with
  | none => rfl
  | some L =>
    have : ¬ (encR (some L) : GV) = .non := by
      show ¬ (enc L : GV) = .non
      rw [enc_list]
      nofun
    simp [this]
theorem well_sp {G : Prg} (D : D__law_well_k51 G) (d : Nat) {k r n tn bn dn : Nat} {turn : List Nat} {bs : List (List (List Nat))} {wide : Bool} {net : Net} {al : Nat → Nat → Nat → Bool} {res : Option Net} {h : GH} (K : KitAt h k r turn bs wide tn bn dn) (hn : n ≤ 10) (hr : r ≤ 4) (c : ClosedR turn al n r net res) :
    callF G (d + 3) n__law_well [.ref k, encR res, encR res, I n] h = .ok (.bl true) h := by
  refine call_pure D.f rfl rfl rfl ?_
  simp_all! [F__law_well_k51]
  refine seq_to ?_
  simp! [isnR]
  cases res with
  | none =>
    simp! [Option.isNone_none]
    refine seq_to ?_
    simp! [isnR]
    exact ⟨(by first | rfl | trivial), .refl h⟩
  | some L =>
    simp! [Option.isNone_some, Bool.false_eq_true]
    refine nil_to ?_
    try rw [Kn_nxt]
    refine seq_to ?_
    have e : (encR (some L) : GV) = enc L := rfl
    simp! [e, K.r, law_is_net_sp D._law_is_net _ c.1 (show r ≤ 1000 by omega) (show n ≤ 1000 by omega), eq_L, decide_true]
    exact ⟨(by first | rfl | trivial), .refl h⟩
theorem WfN.take {r n m : Nat} {L : Net} (w : WfN r n L) (hm : m ≤ n) : WfN r m (L.take m) := by
  have wl := w.len
  have e : ∀ j, j < m → (L.take m).getD j [] = L.getD j [] := fun j hj => by
    rw [List.getD_eq_getElem?_getD, List.getD_eq_getElem?_getD, List.getElem?_take_of_lt hj]
  refine ⟨by rw [List.length_take]; omega, fun j hj => by rw [e j hj]; exact w.row j (by omega), fun i j hij hj => ?_⟩
  unfold lb
  rw [e j hj]
  exact w.lab i j hij (by omega)
theorem max_pred (n : Nat) (h : GH) : ev2 .max (I 0) (.int ((n : Int) - ((1 : Nat) : Int))) h = .ok (I (n - 1)) h := by
  show Res.ok (GV.int (if ((n : Int) - ((1 : Nat) : Int)) > ((0 : Nat) : Int) then ((n : Int) - ((1 : Nat) : Int)) else ((0 : Nat) : Int))) h = _
  congr 2
  split <;> omega
theorem law_k51_sp {G : Prg} (D : D_law_k51 G) (d : Nat) (ns : List Int) (hn : ns.length ≤ 63) : ∃ h', callF G (d + 12) n_law [.frl (ns.map .int)] [] = .ok (.bl true) h' := by
  suffices To (callF G (d + 12) n_law [.frl (ns.map .int)] []) (fun v _ => v = .bl true) by
    obtain ⟨v, h, e, rfl⟩ := this
    exact ⟨h, e⟩
  refine call_to D.f rfl rfl ?_
  simp_all! [F_law_k51]
  refine seq_to ?_
  simp! []
  refine (flow_sp D._law_flow _ ns hn []).mono ?_
  rintro _ h1 ⟨f, c, rfl, -, F1, -⟩
  simp! []
  refine seq_to ?_
  simp! []
  refine (table_sp D._law_table _ (show 2 ≤ 50 by omega) F1).mono ?_
  rintro _ h2 ⟨k, r, turn, bs, wide, tn, bn, dn, rfl, k1, k2, k3, k4, K2, ok, F2, M2⟩
  simp! []
  have hf := F1.lt
  have fk : f ≠ k ∧ f ≠ tn ∧ f ≠ bn ∧ f ≠ dn := ⟨by omega, by omega, by omega, by omega⟩
  refine seq_to ?_
  have r4 := ok.r4
  have r0 := ok.r0
  have bl : bs.length ≤ 100000 := by
    have h1 := ok.len
    have h2 : 2 * r ≤ 8 := by omega
    omega
  have tI : GV.tup (turn.map I) = enc turn := rfl
  have tB : GV.tup (bs.map enc) = enc bs := rfl
  simp! [eE_mk, K2.t_, K2.b_, sqT_ref K2.t, sqT_ref K2.b, tI, tB]
  refine (table_init_sp D.Table_dot___init__ _ ok.turn r0 ok.bars bl get_push (SeqV.enc turn _) (SeqV.enc bs _)).mono ?_
  rintro _ h3 ⟨bd, nt, rfl, T3, -, b1, b2, b3, M3⟩
  simp! []
  have P3 : Pre h2 h3 := by
    have : Mod [h2.length] h2 h3 := ((Mod.refl _ h2).push _).trans M3
    exact ⟨this.1, fun n hn _ => this.2 n hn (by simp; omega)⟩
  have K3 := K2.pre P3
  have F3 := F2.mod P3 (by simp) (by simp)
  have hf2 := F2.lt
  refine seq_to ?_
  simp! []
  refine (wanted_sp D._law_wanted _ r0 r4 F3 K3 fk).mono ?_
  rintro _ h4 ⟨n, net, rfl, wn, n10, F4, M4⟩
  simp! []
  have K4 := K3.flow M4 fk
  have lpush : (h2 ++ [GO.ins n_Table []]).length = h2.length + 1 := by simp
  rw [lpush] at b1
  have T4 : TblAt h4 h2.length turn (tblBars turn bs) bd nt := T3.mod M4 (by simp; omega) (by simp; omega)
  have tr : turn.length = r := ok.turn.len
  have wl := wn.len
  -- the network
  obtain ⟨res, c1, due1⟩ := due_sp D._law_due (d + 8) K4 ok.turn ok.bars n10 r4 wn
  obtain ⟨res', c1', cl1⟩ := closed_sp D.closed (d + 1) T4 ok.turn (by omega) (by omega) wn
  have e1 := ClosedR.one c1' c1
  subst e1
  -- without its last point
  have wn2 := wn.take (m := n - 1) (by omega)
  obtain ⟨res2, c2, due2⟩ := due_sp D._law_due (d + 8) K4 ok.turn ok.bars (show n - 1 ≤ 10 by omega) r4 wn2
  obtain ⟨res2', c2', cl2⟩ := closed_sp D.closed (d + 1) T4 ok.turn (by omega) (show n - 1 ≤ 30 by omega) wn2
  have e2 := ClosedR.one c2' c2
  subst e2
  have well1 := well_sp D._law_well (d + 8) K4 n10 r4 c1
  have well2 := well_sp D._law_well (d + 8) K4 (show n - 1 ≤ 10 by omega) r4 c2
  refine seq_to ?_
  simp! [due1]
  refine seq_to ?_
  simp! [cl1, lenV_enc, wl, well1, Bool.not_true, Bool.false_eq_true]
  refine nil_to ?_
  try rw [Kn_nxt]
  refine seq_to ?_
  simp! [eE_b2, lenV_enc, wl, sub_int, max_pred, slc_take]
  refine seq_to ?_
  have wl2 := wn2.len
  simp! [eE_perm, and_self, List.getD_cons_zero, List.getD_cons_succ, cl2, due2, lenV_enc, wl2, well2, Bool.not_true, Bool.false_eq_true]
  refine nil_to ?_
  try rw [Kn_nxt]
  refine seq_to ?_
  simp! [eE_perm, and_self, List.getD_cons_zero, List.getD_cons_succ, cl1, lenV_enc, wl, well1]
  exact ⟨_, rfl, rfl⟩
end Pv
end Pp_C18
section Lw_E51
set_option Elab.async false
set_option linter.all false
set_option maxRecDepth 100000
set_option maxHeartbeats 0
namespace L_k51
open PySem PySem.W PySem.Calls PyProof.Rows Pv
theorem h__law_flow : D__law_flow G := ⟨by kernel_rfl⟩
theorem h__law_next : D__law_next G := ⟨by kernel_rfl⟩
theorem h__law_turn : D__law_turn G := ⟨by kernel_rfl, h__law_next⟩
theorem h__law_orders_k51 : D__law_orders_k51 G := ⟨by kernel_rfl⟩
theorem h__law_tie_k51 : D__law_tie_k51 G := ⟨by kernel_rfl⟩
theorem h__law_piece_k51 : D__law_piece_k51 G := ⟨by kernel_rfl, h__law_tie_k51⟩
theorem h__law_bad : D__law_bad G := ⟨by kernel_rfl, h__law_orders_k51, h__law_piece_k51⟩
theorem h__law_picture : D__law_picture G := ⟨by kernel_rfl, h__law_next⟩
theorem h__law_table : D__law_table G := ⟨by kernel_rfl, h__law_next, h__law_turn, h__law_picture, h__law_bad⟩
theorem h_is_sequence : D_is_sequence G := ⟨by kernel_rfl⟩
theorem h_is_number : D_is_number G := ⟨by kernel_rfl⟩
theorem h_is_below : D_is_below G := ⟨by kernel_rfl, h_is_number⟩
theorem h_check_turn : D_check_turn G := ⟨by kernel_rfl, h_is_sequence, h_is_below⟩
theorem h_is_row : D_is_row G := ⟨by kernel_rfl, h_is_below⟩
theorem h_is_shape : D_is_shape G := ⟨by kernel_rfl, h_is_row⟩
theorem h_check_bars : D_check_bars G := ⟨by kernel_rfl, h_is_sequence, h_is_shape⟩
theorem h_flat : D_flat G := ⟨by kernel_rfl⟩
theorem h_tie_in : D_tie_in G := ⟨by kernel_rfl⟩
theorem h_row_to : D_row_to G := ⟨by kernel_rfl, h_tie_in⟩
theorem h_cut : D_cut G := ⟨by kernel_rfl, h_row_to⟩
theorem h_barred_orders : D_barred_orders G := ⟨by kernel_rfl, h_flat, h_cut⟩
theorem h_least_shape : D_least_shape G := ⟨by kernel_rfl, h_tie_in⟩
theorem h_by_size : D_by_size G := ⟨by kernel_rfl⟩
theorem h_Table_dot___init__ : D_Table_dot___init__ G := ⟨by kernel_rfl, h_check_turn, h_check_bars, h_least_shape, h_by_size, h_barred_orders⟩
theorem h__law_net_k51 : D__law_net_k51 G := ⟨by kernel_rfl, h__law_next⟩
theorem h__law_with_label : D__law_with_label G := ⟨by kernel_rfl⟩
theorem h__law_wanted : D__law_wanted G := ⟨by kernel_rfl, h__law_next, h__law_net_k51, h__law_with_label⟩
theorem h__law_label : D__law_label G := ⟨by kernel_rfl⟩
theorem h__law_full : D__law_full G := ⟨by kernel_rfl, h__law_label⟩
theorem h__law_held_k51 : D__law_held_k51 G := ⟨by kernel_rfl⟩
theorem h__law_struck : D__law_struck G := ⟨by kernel_rfl, h__law_held_k51⟩
theorem h__law_due_k51 : D__law_due_k51 G := ⟨by kernel_rfl, h__law_full, h__law_struck⟩
theorem h__law_is_number : D__law_is_number G := ⟨by kernel_rfl⟩
theorem h__law_is_net : D__law_is_net G := ⟨by kernel_rfl, h__law_is_number⟩
theorem h__law_well_k51 : D__law_well_k51 G := ⟨by kernel_rfl, h__law_is_net⟩
theorem h_is_spots : D_is_spots G := ⟨by kernel_rfl, h_is_row⟩
theorem h_is_places : D_is_places G := ⟨by kernel_rfl, h_is_spots⟩
theorem h_is_rising : D_is_rising G := ⟨by kernel_rfl, h_is_places⟩
theorem h_is_label : D_is_label G := ⟨by kernel_rfl, h_is_rising⟩
theorem h_is_network : D_is_network G := ⟨by kernel_rfl, h_is_label⟩
theorem h_check_network : D_check_network G := ⟨by kernel_rfl, h_is_network⟩
theorem h_frozen : D_frozen G := ⟨by kernel_rfl⟩
theorem h_check_tie : D_check_tie G := ⟨by kernel_rfl, h_is_below⟩
theorem h_between : D_between G := ⟨by kernel_rfl, h_check_tie⟩
theorem h_all_pairs : D_all_pairs G := ⟨by kernel_rfl⟩
theorem h_turned_label : D_turned_label G := ⟨by kernel_rfl⟩
theorem h_label_from : D_label_from G := ⟨by kernel_rfl, h_turned_label⟩
theorem h_is_backed : D_is_backed G := ⟨by kernel_rfl, h_label_from⟩
theorem h_closed : D_closed G := ⟨by kernel_rfl, h_check_network, h_between, h_all_pairs, h_is_backed, h_frozen⟩
theorem h_law_k51 : D_law_k51 G := ⟨by kernel_rfl, h__law_flow, h__law_table, h_Table_dot___init__, h__law_wanted, h__law_due_k51, h__law_well_k51, h_closed⟩
theorem law_true (ns : List Int) (h : ns.length ≤ 63) : ∃ h', callF G 50 n_law [.frl (ns.map GV.int)] [] = .ok (.bl true) h' := Pv.law_k51_sp h_law_k51 38 ns h
end L_k51
open PySem PySem.W PySem.Calls PyProof.Rows
theorem PySem.Challenge.cw_patchworlds_k51_closed_by_between_holds : PySem.Challenge.rw_patchworlds_k51_closed_by_between.Holds := by
  w_on; o_law
  refine HandSHeadRun.head_imp (r := L_k51.R) (q := L_k51.qv) (H := L_k51.hk) (ob := L_k51.ob) (M := 6000) (loose := L_k51.lo) (d := HandSHeadRun.topDef L_k51.R.prog 63) (kwd := []) L_k51.ob_eq L_k51.run
    (by kernel_rfl) (by kernel_rfl) (by kernel_rfl) (by rfl) (by first | assumption | decide +kernel) (by decide +kernel) ⟨rfl, rfl, rfl, rfl, rfl, by decide +kernel⟩ ?hw ?hc
  case hw => w_witness2
  case hc =>
    refine L2.walk_ofE (l := PySem.Challenge.rw_patchworlds_k51_closed_by_between) (n := 63) (k := 4 * 50 + 1) (x := "script") (CX := fun _ _ _ _ _ _ => False) rfl (by decide) (by kernel_rfl) ⟨rfl, by decide, by decide⟩ ?F (fun _ _ _ _ z => z)
    intro w mg fa h Y N hmg0
    have hmg : mg (L_k51.B.nm Pv.n_law) = some (.ref fa) := by
      have e : (HandSHeadRun.topDef L_k51.R.prog 63).name = L_k51.B.nm Pv.n_law := by kernel_rfl
      rw [← e]
      exact hmg0
    exact Pv.law_end (ids := Pv.idT Pv.tab) (d := 50) (f := Pv.n_law) Y N hmg L_k51.ck (by decide) (by rfl) (by rfl) fun ns hns => L_k51.law_true ns hns
end Lw_E51
