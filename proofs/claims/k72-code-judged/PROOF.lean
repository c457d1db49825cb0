import PyProof.Rows.All
import Wide.All
import OpenK.AllK
import Wide.FinOn
import KE.KStateDown
import Lean
import HandS.Base
import HandS.Call
import HandS.Ends
import HandS.More
import HandS.Words
import HandS.WordsExc
import HandS.Defaults
import HandS.Head0
import HandS.Head1
import HandS.Head2
import HandS.HeadEnd
import HandS.HeadHook1
import HandS.HeadHook2
import PySem.Syntax
import HandS.ForMost
import HandS.Exc
import HandS.TupAny
import HandS.TupMul
import HandS.TupLe
import HandS.Flow
import HandS.IsInst
import HandS.Deep
import HandS.Conv
import PyProof.StrOps2
import HandS.ExcOwn
import KE.GoesNew
import PySem.Challenge.RW_textglass_k72_code_judged
set_option Elab.async false
/-! Ev0: plain data D, a store S of mutable objects, an IR of Python (E, Stm), its evaluator. -/
set_option linter.all false
namespace Ev
inductive D where
  | non | bl (b : Bool) | int (i : Int) | str (s : List Nat) | tup (xs : List D) | ref (n : Nat)
  | kl (ns : List Int)
/-- a mutable object -/
inductive Ob where
  | lst (xs : List D) | ro (xs : List D) | dct (kvs : List (D × D)) | ins (c : String) (fs : List (String × D))
mutual
/-- all refs within are below n -/
def D.under (n : Nat) : D → Bool
  | .ref k => decide (k < n)
  | .tup xs => D.unders n xs
  | _ => true
def D.unders (n : Nat) : List D → Bool
  | [] => true
  | x :: xs => D.under n x && D.unders n xs
end
mutual
def D.pure : D → Bool
  | .ref _ => false
  | .kl _ => false
  | .tup xs => D.pures xs
  | _ => true
def D.pures : List D → Bool
  | [] => true
  | x :: xs => D.pure x && D.pures xs
end
mutual
/-- Python's == of data without refs -/
def D.eqv : D → D → Bool
  | .non, .non => true
  | .bl a, .bl b => a == b
  | .bl a, .int j => (if a then 1 else 0) == j
  | .int i, .bl b => i == (if b then 1 else 0)
  | .int i, .int j => i == j
  | .str x, .str y => x == y
  | .tup xs, .tup ys => D.eqvs xs ys
  | _, _ => false
def D.eqvs : List D → List D → Bool
  | [], [] => true
  | x :: xs, y :: ys => D.eqv x y && D.eqvs xs ys
  | _, _ => false
end
mutual
def D.depth : D → Nat
  | .tup xs => D.depths xs + 1
  | _ => 0
def D.depths : List D → Nat
  | [] => 0
  | x :: xs => max (D.depth x) (D.depths xs)
end
/-- the most a list, a text may hold -/
def big : Nat := 16777216
mutual
/-- each text within is made of signs -/
def D.slim : D → Bool
  | .tup xs => D.slims xs
  | .str s => s.all fun c => decide (c < 1114112)
  | _ => true
def D.slims : List D → Bool
  | [] => true
  | x :: xs => D.slim x && D.slims xs
end
def D.fit (d : D) : Bool := d.pure && d.slim && decide (d.depth ≤ 60)
def Ob.under (n : Nat) : Ob → Bool
  | .lst xs => D.unders n xs
  | .ro xs => D.unders n xs
  | .dct kvs => kvs.all fun p => D.under n p.1 && D.under n p.2
  | .ins _ fs => fs.all fun p => D.under n p.2
/-- the objects; below low some may know of objects that are not below them -/
structure S where
  objs : List Ob
  low : Nat
inductive Out (α : Type) where
  | ok (a : α) (s : S)
  | err (c : String) (as : List D) (s : S)
  | bad
def Out.bind {α β : Type} (x : Out α) (k : α → S → Out β) : Out β := match x with
  | .ok a s => k a s
  | .err c as s => .err c as s
  | .bad => .bad
theorem bind_ok {α β : Type} (a : α) (s : S) (k : α → S → Out β) : (Out.ok a s).bind k = k a s := rfl
theorem bind_err {α β : Type} (c : String) (as : List D) (s : S) (k : α → S → Out β) : (Out.err c as s : Out α).bind k = .err c as s := rfl
theorem bind_bad {α β : Type} (k : α → S → Out β) : (Out.bad : Out α).bind k = .bad := rfl
def S.len (s : S) : Nat := s.objs.length
def S.get (s : S) (n : Nat) : Option Ob := s.objs[n]?
def S.push (s : S) (o : Ob) : S := ⟨s.objs ++ [o], s.low⟩
/-- object n becomes o, v being what came in -/
def S.put (s : S) (n : Nat) (o : Ob) (v : D) : S := ⟨s.objs.set n o, if v.under (n + 1) then s.low else min s.low n⟩
def S.puts (s : S) (n : Nat) (o : Ob) (vs : List D) : S := ⟨s.objs.set n o, if D.unders (n + 1) vs then s.low else min s.low n⟩
def S.lst (s : S) (n : Nat) : Option (List D) := match s.get n with
  | some (.lst xs) => some xs
  | _ => none
/-- a list that may be read -/
def S.rd (s : S) (n : Nat) : Option (List D) := match s.get n with
  | some (.lst xs) => some xs
  | some (.ro xs) => some xs
  | _ => none
def S.new (s : S) (o : Ob) : Out D := .ok (.ref s.len) (s.push o)
def S.newL (s : S) (xs : List D) : Out D := if xs.length ≤ big then s.new (.lst xs) else .bad
def newT (s : S) (xs : List D) : Out D := if xs.length ≤ big then .ok (.tup xs) s else .bad

/-! ### the IR -/
inductive Bo where | add | sub | mul | mod | fdiv | pow
inductive Co where | eq | ne | lt | le | gt | ge | is_ | isnot | in_ | notin
/-- built-ins -/
inductive Bi where | len | tuple | list | int | abs | min | max | all | any | sorted | sum | str | dict | bool
inductive Ty where | int | bool | str | tuple | list | dict
mutual
inductive E where
  | v (i : Nat)
  | non | bl (b : Bool) | int (i : Int) | str (s : List Nat)
  | g (x : String)
  | tup (es : Es) | lst (es : Es)
  | bin (o : Bo) (a b : E)
  | neg (a : E)
  | cmp (o : Co) (a b : E)
  | chain (o o' : Co) (a b c : E)
  | and (a b : E) | or (a b : E) | not (a : E)
  | ite (c a b : E)
  | call (f : String) (es : Es)
  | bi (f : Bi) (es : Es)
  | isi (a : E) (t : Ty)
  | lm (o : E) (m : String) (es : Es)
  | idx (a i : E)
  | slc (a : E) (lo hi : Oe)
  | lc (tg : List Nat) (it : IT) (cs : Oe) (e : E)
inductive Es where
  | nil
  | cons (e : E) (r : Es)
inductive Oe where
  | none
  | some (e : E)
inductive IT where
  | plain (e : E)
  | range1 (a : E)
  | range2 (a b : E)
  | enum (e : E)
end
mutual
inductive Stm where
  | asg (i : Nat) (e : E)
  | asgT (is : List Nat) (e : E)
  | set (o i e : E)
  | aug (i : Nat) (o : Bo) (e : E)
  | expr (e : E)
  | ret (e : E)
  | retN
  | pass | brk | cont
  | ite (c : E) (a b : Stms)
  | whil (c : E) (b : Stms)
  | for_ (tg : List Nat) (it : IT) (b : Stms)
  | raise (c : String) (es : Es)
inductive Stms where
  | nil
  | cons (a : Stm) (r : Stms)
end

/-! ### the evaluator -/
abbrev En := List (Option D)
inductive Fl where | nx | bk | ct | rt (d : D)
/-- what stands around -/
structure Ocl where
  fn : String → Option (List D → S → Out D)
  gl : String → Option D
def truthy (d : D) (s : S) : Out Bool := match d with
  | .non => .ok false s
  | .bl b => .ok b s
  | .int i => .ok (i != 0) s
  | .str x => if x.length ≤ big then .ok (x.length != 0) s else .bad
  | .tup xs => .ok (!xs.isEmpty) s
  | .ref n => match s.rd n with
    | some xs => .ok (!xs.isEmpty) s
    | none => .bad
  | .kl _ => .bad
def addD (d e : D) (s : S) : Out D := match d, e with
  | .int i, .int j => .ok (.int (i + j)) s
  | .str a, .str b => if a.length + b.length ≤ big then .ok (.str (a ++ b)) s else .bad
  | .tup a, .tup b => newT s (a ++ b)
  | .ref a, .ref b => match s.lst a, s.lst b with
    | some xs, some ys => s.newL (xs ++ ys)
    | _, _ => .bad
  | _, _ => .bad
def subD (d e : D) (s : S) : Out D := match d, e with
  | .int i, .int j => .ok (.int (i - j)) s
  | _, _ => .bad
def small64 (i : Int) : Bool := decide (-(2 ^ 64) < i ∧ i < 2 ^ 64)
def mulD (d e : D) (s : S) : Out D := match d, e with
  | .int i, .int j => if small64 i || small64 j then .ok (.int (i * j)) s else .bad
  | .str a, .int j => if 2 ≤ j ∧ j ≤ 1000 ∧ a ≠ [] ∧ a.length ≤ 1000 then .ok (.str (List.replicate j.toNat a).flatten) s else .bad
  | .tup a, .int j => if 2 ≤ j ∧ j ≤ 1000 ∧ a ≠ [] ∧ a.length ≤ 1000 then .ok (.tup (List.replicate j.toNat a).flatten) s else .bad
  | _, _ => .bad
def modD (d e : D) (s : S) : Out D := match d, e with
  | .int i, .int j => if 0 < j then .ok (.int (i % j)) s else .bad
  | _, _ => .bad
def fdivD (d e : D) (s : S) : Out D := match d, e with
  | .int i, .int j => if 0 < j ∧ j < 1073741824 then .ok (.int (i / j)) s else .bad
  | _, _ => .bad
def powD (d e : D) (s : S) : Out D := match d, e with
  | .int i, .int j => if 0 ≤ j ∧ j ≤ 1000000 ∧ i.natAbs < 2 ^ 64 then .ok (.int (i ^ j.toNat)) s else .bad
  | _, _ => .bad
def binD : Bo → D → D → S → Out D
  | .add => addD | .sub => subD | .mul => mulD | .mod => modD | .fdiv => fdivD | .pow => powD
/-- data of a value: itself, or the tuple of a list's items (no refs within) -/
inductive Dt where | pl (d : D) | ls (xs : List D)
def dataOf (d : D) (s : S) : Option Dt := match d with
  | .ref n => match s.rd n with
    | some xs => if (D.tup xs).fit then some (.ls xs) else none
    | none => none
  | d => if d.fit then some (.pl d) else none
def Dt.eqv : Dt → Dt → Bool
  | .pl d, .pl e => D.eqv d e
  | .ls xs, .ls ys => D.eqvs xs ys
  | _, _ => false
def eqD (d e : D) (s : S) : Option Bool := match d, e with
  | .str x, .str y => some (x == y)
  | .int x, .int y => some (x == y)
  | .bl x, .bl y => some (x == y)
  | d, e => match dataOf d s, dataOf e s with
    | some x, some y => some (Dt.eqv x y)
    | _, _ => none
def isD (d e : D) : Option Bool := match d, e with
  | .bl a, .bl b => some (a == b)
  | .non, .non => some true
  | _, .non => some false
  | _, _ => none
def strLt : List Nat → List Nat → Bool
  | [], [] => false
  | [], _ :: _ => true
  | _ :: _, [] => false
  | x :: xs, y :: ys => if x < y then true else if y < x then false else strLt xs ys
def flat : D → Bool
  | .non => true | .bl _ => true | .int _ => true | .str _ => true | _ => false
def inD (d e : D) (s : S) : Option Bool := match e with
  | .str y => match d with
    | .str [c] => some (y.contains c)
    | _ => none
  | .tup xs => if flat d && xs.all flat then some (xs.any fun x => D.eqv x d) else none
  | .ref n => match s.rd n with
    | some xs => if d.fit && (D.tup xs).fit then some (xs.any fun x => D.eqv x d) else none
    | none => none
  | _ => none
def oB (o : Option Bool) (s : S) : Out D := match o with
  | some b => .ok (.bl b) s
  | none => .bad
def cmpD (o : Co) (d e : D) (s : S) : Out D := match o with
  | .eq => oB (eqD d e s) s
  | .ne => oB ((eqD d e s).map (!·)) s
  | .is_ => oB (isD d e) s
  | .isnot => oB ((isD d e).map (!·)) s
  | .in_ => oB (inD d e s) s
  | .notin => oB ((inD d e s).map (!·)) s
  | .lt => (match d, e with
    | .int i, .int j => .ok (.bl (decide (i < j))) s
    | .str x, .str y => .ok (.bl (strLt x y)) s
    | _, _ => .bad)
  | .le => (match d, e with
    | .int i, .int j => .ok (.bl (decide (i ≤ j))) s
    | _, _ => .bad)
  | .gt => (match d, e with
    | .int i, .int j => .ok (.bl (decide (j < i))) s
    | _, _ => .bad)
  | .ge => (match d, e with
    | .int i, .int j => .ok (.bl (decide (j ≤ i))) s
    | _, _ => .bad)
def isiO (o : Option Ob) (t : Ty) : Option Bool := match o, t with
  | some (.lst _), .list => some true
  | some (.lst _), _ => some false
  | _, _ => none
def isiD (d : D) (t : Ty) (s : S) : Option Bool := match d, t with
  | .non, _ => some false
  | .bl _, .int => some true
  | .bl _, .bool => some true
  | .bl _, _ => some false
  | .int _, .int => some true
  | .int _, _ => some false
  | .str _, .str => some true
  | .str _, _ => some false
  | .tup _, .tuple => some true
  | .tup _, _ => some false
  | .ref n, t => isiO (s.get n) t
  | .kl _, _ => none
/-- an index, as Python counts -/
def ixOf (n : Nat) (i : Int) : Option Nat := if 0 ≤ i then (if i < n then some i.toNat else none) else if -(n : Int) ≤ i then some (i + n).toNat else none
def atD {α : Type} (xs : List α) (i : Int) : Option α := (ixOf xs.length i).bind fun j => xs[j]?
def oD (o : Option D) (s : S) : Out D := match o with
  | some d => .ok d s
  | none => .bad
def idxD (d i : D) (s : S) : Out D := match d, i with
  | .tup xs, .int i => oD (atD xs i) s
  | .str x, .int i => if x.length ≤ big then oD ((atD x i).map fun c => .str [c]) s else .bad
  | .ref n, .int i => match s.rd n with
    | some xs => oD (atD xs i) s
    | none => .bad
  | _, _ => .bad
def cutIx (n d : Nat) : Option Int → Nat
  | none => d
  | some v => if v < 0 then (v + n).toNat else min v.toNat n
def cutD {α : Type} (xs : List α) (lo hi : Option Int) : List α := (xs.drop (cutIx xs.length 0 lo)).take (cutIx xs.length xs.length hi - cutIx xs.length 0 lo)
def slcD (d : D) (lo hi : Option Int) (s : S) : Out D := match d with
  | .tup xs => .ok (.tup (cutD xs lo hi)) s
  | .str x => if x.length ≤ big then .ok (.str (cutD x lo hi)) s else .bad
  | .ref n => match s.rd n with
    | some xs => s.newL (cutD xs lo hi)
    | none => .bad
  | .kl ns => s.newL (cutD (ns.map .int) lo hi)
  | _ => .bad
def asBls : List D → Option (List Bool)
  | [] => some []
  | .bl b :: r => (asBls r).map (b :: ·)
  | _ :: _ => none
def asInts : List D → Option (List Int)
  | [] => some []
  | .int i :: r => (asInts r).map (i :: ·)
  | _ :: _ => none
def lenD (d : D) (s : S) : Out D := match d with
  | .tup xs => .ok (.int xs.length) s
  | .str x => if x.length ≤ big then .ok (.int x.length) s else .bad
  | .ref n => (match s.rd n with
    | some xs => .ok (.int xs.length) s
    | none => .bad)
  | _ => .bad
def tupleD (d : D) (s : S) : Out D := match d with
  | .tup xs => .ok (.tup xs) s
  | .ref n => (match s.rd n with
    | some xs => .ok (.tup xs) s
    | none => .bad)
  | _ => .bad
def listD (d : D) (s : S) : Out D := match d with
  | .tup xs => s.newL xs
  | .ref n => (match s.rd n with
    | some xs => s.newL xs
    | none => .bad)
  | _ => .bad
def intD (d : D) (s : S) : Out D := match d with
  | .int i => .ok (.int i) s
  | _ => .bad
def absD (d : D) (s : S) : Out D := match d with
  | .int i => .ok (.int i.natAbs) s
  | _ => .bad
def allD (d : D) (s : S) : Out D := match d with
  | .ref n => (match (s.rd n).bind asBls with
    | some bs => .ok (.bl (bs.all id)) s
    | none => .bad)
  | _ => .bad
def anyD (d : D) (s : S) : Out D := match d with
  | .ref n => (match (s.rd n).bind asBls with
    | some bs => .ok (.bl (bs.any id)) s
    | none => .bad)
  | _ => .bad
def sumD (d : D) (s : S) : Out D := match d with
  | .ref n => (match (s.rd n).bind asInts with
    | some ns => .ok (.int ns.sum) s
    | none => .bad)
  | _ => .bad
def minD (d e : D) (s : S) : Out D := match d, e with
  | .int i, .int j => .ok (.int (if j < i then j else i)) s
  | _, _ => .bad
def maxD (d e : D) (s : S) : Out D := match d, e with
  | .int i, .int j => .ok (.int (if i < j then j else i)) s
  | _, _ => .bad
def un1 (f : D → S → Out D) (as : List D) (s : S) : Out D := match as with
  | [d] => f d s
  | _ => .bad
def un2 (f : D → D → S → Out D) (as : List D) (s : S) : Out D := match as with
  | [d, e] => f d e s
  | _ => .bad
def biD (f : Bi) : List D → S → Out D := match f with
  | .len => un1 lenD | .tuple => un1 tupleD | .list => un1 listD | .int => un1 intD | .abs => un1 absD | .all => un1 allD | .any => un1 anyD | .sum => un1 sumD
  | .min => un2 minD | .max => un2 maxD
  | _ => fun _ _ => .bad
/-- methods of lists and texts -/
def methD (d : D) (m : String) (as : List D) (s : S) : Out D := match d with
  | .ref n => (match s.lst n with
    | some xs =>
      if m = "append" then (match as with
        | [x] => if xs.length < big then .ok .non (s.put n (.lst (xs ++ [x])) x) else .bad
        | _ => .bad)
      else if m = "extend" then (match as with
        | [.ref k] => (match s.lst k with
          | some ys => if xs.length + ys.length ≤ big then .ok .non (s.puts n (.lst (xs ++ ys)) ys) else .bad
          | none => .bad)
        | _ => .bad)
      else if m = "pop" then (match as with
        | [] => (match xs.getLast? with
          | some y => .ok y (s.put n (.lst xs.dropLast) .non)
          | none => .bad)
        | [.int 0] => (match xs with
          | y :: r => .ok y (s.put n (.lst r) .non)
          | [] => .bad)
        | _ => .bad)
      else .bad
    | none => .bad)
  | _ => .bad
def isL (d : D) (s : S) : Bool := match d with
  | .ref n => (s.lst n).isSome
  | _ => false
def setD (o i v : D) (s : S) : Out Unit := match o, i with
  | .ref n, .int k => (match s.lst n with
    | some xs => (match ixOf xs.length k with
      | some j => .ok () (s.put n (.lst (xs.set j v)) v)
      | none => .bad)
    | none => .bad)
  | _, _ => .bad
/-- a walk: the item at a turn -/
abbrev Wk := S → Nat → Option D
def fuel : Nat := 100000000
def seqW (xs : List D) : Wk := fun _ i => xs[i]?
def lstW (n : Nat) : Wk := fun s i => (s.rd n).bind (·[i]?)
def walkOf (d : D) (s : S) : Option Wk := match d with
  | .tup xs => some (seqW xs)
  | .str x => some (seqW (x.map fun c => .str [c]))
  | .ref n => match s.rd n with
    | some _ => some (lstW n)
    | none => none
  | _ => none
def rangeW (a b : Int) : Wk := fun _ i => if a + i < b then some (.int (a + i)) else none
def enumW (w : Wk) : Wk := fun s i => (w s i).map fun d => .tup [.int i, d]
def small62 (i : Int) : Bool := decide (-(2 ^ 62) ≤ i ∧ i < 2 ^ 62)
/-- targets -/
def bindTup (is : List Nat) (d : D) (ρ : En) : Option En := match d with
  | .tup xs => if xs.length = is.length then some ((is.zip xs).foldl (fun ρ p => ρ.set p.1 (some p.2)) ρ) else none
  | _ => none
def bindT (tg : List Nat) (d : D) (ρ : En) : Option En := match tg with
  | [i] => some (ρ.set i (some d))
  | is => bindTup is d ρ
def loopE (w : Wk) (tg : List Nat) (test : En → S → Out Bool) (elt : En → S → Out D) (ρ : En) : Nat → Nat → List D → S → Out (List D)
  | 0, _, _, _ => .bad
  | f + 1, i, acc, s => match w s i with
    | none => .ok acc s
    | some d => match bindT tg d ρ with
      | none => .bad
      | some ρ1 => (test ρ1 s).bind fun b s => if b then (elt ρ1 s).bind fun x s => if acc.length < big then loopE w tg test elt ρ f (i + 1) (acc ++ [x]) s else .bad
        else loopE w tg test elt ρ f (i + 1) acc s
/-- nothing is raised out of a comprehension -/
def quiet {α : Type} (o : Out α) : Out α := match o with
  | .ok a s => .ok a s
  | _ => .bad
mutual
def evE (O : Ocl) : E → En → S → Out D
  | .v i, ρ, s => (match ρ[i]? with
    | some (some d) => .ok d s
    | _ => .bad)
  | .non, _, s => .ok .non s
  | .bl b, _, s => .ok (.bl b) s
  | .int i, _, s => .ok (.int i) s
  | .str x, _, s => .ok (.str x) s
  | .g x, _, s => oD (O.gl x) s
  | .tup es, ρ, s => (evEs O es ρ s).bind fun xs s => newT s xs
  | .lst es, ρ, s => (evEs O es ρ s).bind fun xs s => s.newL xs
  | .bin o a b, ρ, s => (evE O a ρ s).bind fun x s => (evE O b ρ s).bind fun y s => binD o x y s
  | .neg a, ρ, s => (evE O a ρ s).bind fun x s => (match x with
    | .int i => .ok (.int (-i)) s
    | _ => .bad)
  | .cmp o a b, ρ, s => (evE O a ρ s).bind fun x s => (evE O b ρ s).bind fun y s => cmpD o x y s
  | .chain o o' a b c, ρ, s => (evE O a ρ s).bind fun x s => (evE O b ρ s).bind fun y s => (cmpD o x y s).bind fun r s => (match r with
    | .bl true => (evE O c ρ s).bind fun z s => cmpD o' y z s
    | .bl false => .ok (.bl false) s
    | _ => .bad)
  | .and a b, ρ, s => (evE O a ρ s).bind fun x s => (truthy x s).bind fun t s => if t then evE O b ρ s else .ok x s
  | .or a b, ρ, s => (evE O a ρ s).bind fun x s => (truthy x s).bind fun t s => if t then .ok x s else evE O b ρ s
  | .not a, ρ, s => (evE O a ρ s).bind fun x s => (truthy x s).bind fun t s => .ok (.bl (!t)) s
  | .ite c a b, ρ, s => (evE O c ρ s).bind fun x s => (truthy x s).bind fun t s => if t then evE O a ρ s else evE O b ρ s
  | .call f es, ρ, s => (match O.fn f with
    | some g => (evEs O es ρ s).bind g
    | none => .bad)
  | .bi f es, ρ, s => (evEs O es ρ s).bind fun xs s => biD f xs s
  | .isi a t, ρ, s => (evE O a ρ s).bind fun x s => oB (isiD x t s) s
  | .lm o m es, ρ, s => (evE O o ρ s).bind fun x s => if isL x s then (evEs O es ρ s).bind fun xs s => methD x m xs s else .bad
  | .idx a i, ρ, s => (evE O a ρ s).bind fun x s => (evE O i ρ s).bind fun y s => idxD x y s
  | .slc a lo hi, ρ, s => (evE O a ρ s).bind fun x s => (evO O lo ρ s).bind fun l s => (evO O hi ρ s).bind fun h s => slcD x l h s
  | .lc tg it cs e, ρ, s => (evIt O it ρ s).bind fun w s => (quiet (loopE w tg (evC O cs) (evE O e) ρ fuel 0 [] s)).bind fun xs s => s.newL xs
def evEs (O : Ocl) : Es → En → S → Out (List D)
  | .nil, _, s => .ok [] s
  | .cons e r, ρ, s => (evE O e ρ s).bind fun x s => (evEs O r ρ s).bind fun xs s => .ok (x :: xs) s
/-- a part of a slice -/
def evO (O : Ocl) : Oe → En → S → Out (Option Int)
  | .none, _, s => .ok none s
  | .some e, ρ, s => (evE O e ρ s).bind fun x s => (match x with
    | .int i => .ok (some i) s
    | _ => .bad)
/-- a comprehension's test -/
def evC (O : Ocl) : Oe → En → S → Out Bool
  | .none, _, s => .ok true s
  | .some e, ρ, s => (evE O e ρ s).bind fun x s => truthy x s
def evIt (O : Ocl) : IT → En → S → Out Wk
  | .plain e, ρ, s => (evE O e ρ s).bind fun x s => (match walkOf x s with
    | some w => .ok w s
    | none => .bad)
  | .range1 a, ρ, s => (evE O a ρ s).bind fun x s => (match x with
    | .int i => if small62 i then .ok (rangeW 0 i) s else .bad
    | _ => .bad)
  | .range2 a b, ρ, s => (evE O a ρ s).bind fun x s => (evE O b ρ s).bind fun y s => (match x, y with
    | .int i, .int j => if small62 i && small62 j then .ok (rangeW i j) s else .bad
    | _, _ => .bad)
  | .enum e, ρ, s => (evE O e ρ s).bind fun x s => (match walkOf x s with
    | some w => .ok (enumW w) s
    | none => .bad)
end
def evB (O : Ocl) (e : E) (ρ : En) (s : S) : Out Bool := (evE O e ρ s).bind fun x s => truthy x s
/-- a while: so many turns at most -/
def loopW (c : En → S → Out Bool) (b : En → S → Out (Fl × En)) : Nat → En → S → Out (Fl × En)
  | 0, _, _ => .bad
  | f + 1, ρ, s => (c ρ s).bind fun t s => if t then (b ρ s).bind fun r s => (match r.1 with
      | .nx => loopW c b f r.2 s
      | .ct => loopW c b f r.2 s
      | .bk => .ok (.nx, r.2) s
      | .rt d => .ok (.rt d, r.2) s)
    else .ok (.nx, ρ) s
def loopF (w : Wk) (tg : List Nat) (b : En → S → Out (Fl × En)) : Nat → Nat → En → S → Out (Fl × En)
  | 0, _, _, _ => .bad
  | f + 1, i, ρ, s => match w s i with
    | none => .ok (.nx, ρ) s
    | some d => match bindT tg d ρ with
      | none => .bad
      | some ρ1 => (b ρ1 s).bind fun r s => (match r.1 with
        | .nx => loopF w tg b f (i + 1) r.2 s
        | .ct => loopF w tg b f (i + 1) r.2 s
        | .bk => .ok (.nx, r.2) s
        | .rt d => .ok (.rt d, r.2) s)
mutual
def evS (O : Ocl) : Stm → En → S → Out (Fl × En)
  | .asg i e, ρ, s => (evE O e ρ s).bind fun x s => .ok (.nx, ρ.set i (some x)) s
  | .asgT is e, ρ, s => (evE O e ρ s).bind fun x s => (match bindT is x ρ with
    | some ρ1 => .ok (.nx, ρ1) s
    | none => .bad)
  | .set o i e, ρ, s => (evE O e ρ s).bind fun v s => (evE O o ρ s).bind fun x s => (evE O i ρ s).bind fun y s => (setD x y v s).bind fun _ s => .ok (.nx, ρ) s
  | .aug i o e, ρ, s => (match ρ[i]? with
    | some (some x) => (evE O e ρ s).bind fun y s => (match o, x, y with
      | .add, .int a, .int b => .ok (.nx, ρ.set i (some (.int (a + b)))) s
      | .sub, .int a, .int b => .ok (.nx, ρ.set i (some (.int (a - b)))) s
      | _, _, _ => .bad)
    | _ => .bad)
  | .expr e, ρ, s => (evE O e ρ s).bind fun _ s => .ok (.nx, ρ) s
  | .ret e, ρ, s => (evE O e ρ s).bind fun x s => .ok (.rt x, ρ) s
  | .retN, ρ, s => .ok (.rt .non, ρ) s
  | .pass, ρ, s => .ok (.nx, ρ) s
  | .brk, ρ, s => .ok (.bk, ρ) s
  | .cont, ρ, s => .ok (.ct, ρ) s
  | .ite c a b, ρ, s => (evB O c ρ s).bind fun t s => if t then evSs O a ρ s else evSs O b ρ s
  | .whil c b, ρ, s => loopW (evB O c) (evSs O b) fuel ρ s
  | .for_ tg it b, ρ, s => (evIt O it ρ s).bind fun w s => loopF w tg (evSs O b) fuel 0 ρ s
  | .raise c es, ρ, s => (evEs O es ρ s).bind fun as s => .err c as s
def evSs (O : Ocl) : Stms → En → S → Out (Fl × En)
  | .nil, ρ, s => .ok (.nx, ρ) s
  | .cons a r, ρ, s => (evS O a ρ s).bind fun x s => (match x.1 with
    | .nx => evSs O r x.2 s
    | _ => .ok x s)
end
/-- a def: parameters, slots, body -/
structure Fn where
  ps : Nat
  n : Nat
  body : Stms
structure Tab where
  fns : String → Option Fn
  gl : String → Option D
/-- what a def hands back: what it made and nobody knows of any more is dropped -/
def retD (b low : Nat) (v : D) (s : S) : Out D :=
  if s.low < b then .ok v ⟨s.objs, min low s.low⟩
  else if v.pure then .ok v ⟨s.objs.take b, low⟩
  else match v with
    | .ref n => (match s.lst n with
      | some xs => if b ≤ n && D.pures xs then .ok (.ref b) ⟨s.objs.take b ++ [.lst xs], low⟩ else .ok v ⟨s.objs, low⟩
      | none => .ok v ⟨s.objs, low⟩)
    | _ => .ok v ⟨s.objs, low⟩
def errD (b low : Nat) (c : String) (as : List D) (s : S) : Out D :=
  if s.low < b then .err c as ⟨s.objs, min low s.low⟩
  else if D.pures as then .err c as ⟨s.objs.take b, low⟩ else .bad
def finish (b low : Nat) : Out (Fl × En) → Out D
  | .ok (.rt v, _) s => retD b low v s
  | .ok (.nx, _) s => retD b low .non s
  | .err c as s => errD b low c as s
  | _ => .bad
/-- what a def hands back that got nothing but plain data: it ran over an empty store -/
def liftV (s : S) (v : D) (s' : S) : Option (Out D) :=
  if v.pure then some (.ok v s) else match v with
    | .ref n => (match s'.lst n with
      | some xs => if D.pures xs then some (.ok (.ref s.len) (s.push (.lst xs))) else none
      | none => none)
    | _ => none
def lift (s : S) : Out (Fl × En) → Option (Out D)
  | .ok (.rt v, _) s' => liftV s v s'
  | .ok (.nx, _) _ => some (.ok .non s)
  | .err c as _ => if D.pures as then some (.err c as s) else none
  | _ => some .bad
def orElse {α : Type} (o : Option α) (a : Unit → α) : α := match o with
  | some x => x
  | none => a ()
def run (T : Tab) : Nat → Fn → List D → S → Out D
  | 0, _, _, _ => .bad
  | d + 1, fn, as, s => if as.length = fn.ps then
      orElse (if D.pures as then lift s (evSs ⟨fun f => (T.fns f).map (run T d), T.gl⟩ fn.body (as.map some ++ List.replicate (fn.n - fn.ps) none) ⟨[], 0⟩) else none) fun _ =>
        finish s.len s.low (evSs ⟨fun f => (T.fns f).map (run T d), T.gl⟩ fn.body (as.map some ++ List.replicate (fn.n - fn.ps) none) ⟨s.objs, s.len⟩)
    else .bad
end Ev

set_option linter.all false
set_option maxRecDepth 100000
/-! Ev1: how the evaluator's data lie in the hand layer's heap. -/
namespace Ev
open PySem L2
abbrev Mu := Nat → Addr
/-- a list from outside: it stands still -/
def KL (K : PySem.W.Frag) (H : Hp) (a : Addr) (xs : List V) : Prop :=
  (∃ o, H a = some (.frz o (.lst xs))) ∨ ∃ o its n, List.lookup a K = some o ∧ o.cls = Value.type "list" ∧ o.dict = none ∧ o.data = Data.seq its n ∧ its.size ≤ sizeLine ∧ Vals xs its.toList
theorem KL.sql {K : PySem.W.Frag} {H : Hp} {a : Addr} {xs : List V} (h : KL K H a xs) : SqL K H a xs := by
  rcases h with h | h
  · exact .inl (.inr h)
  · exact .inr h
mutual
def VR (K : PySem.W.Frag) (μ : Mu) (H : Hp) : D → V → Prop
  | .non, v => v = .non
  | .bl b, v => v = .bl b
  | .int i, v => v = .int i
  | .str s, v => v = .str ⟨s.toArray⟩
  | .tup xs, v => ∃ a vs, v = .ref a ∧ SqT K H a vs ∧ VRs K μ H xs vs
  | .ref n, v => v = .ref (μ n)
  | .kl ns, v => ∃ a, v = .ref a ∧ KL K H a (ns.map V.int)
def VRs (K : PySem.W.Frag) (μ : Mu) (H : Hp) : List D → List V → Prop
  | [], vs => vs = []
  | x :: xs, vs => ∃ v r, vs = v :: r ∧ VR K μ H x v ∧ VRs K μ H xs r
end
def OR (K : PySem.W.Frag) (μ : Mu) (H : Hp) (a : Addr) : Ob → Prop
  | .lst xs => ∃ vs, H a = some (.lst vs) ∧ VRs K μ H xs vs
  | .ro _ => False
  | .dct _ => False
  | .ins _ _ => False
structure SR (K : PySem.W.Frag) (μ : Mu) (H : Hp) (s : S) : Prop where
  inj : ∀ i j, i < s.len → j < s.len → μ i = μ j → i = j
  obj : ∀ n o, s.get n = some o → OR K μ H (μ n) o
  und : ∀ n o, s.get n = some o → o.under s.len = true
/-- objects below b know of none above -/
def Low (s : S) (b : Nat) : Prop := ∀ n o, n < b → s.get n = some o → o.under b = true
structure Ext (μ : Mu) (s : S) (H : Hp) (μ' : Mu) (s' : S) (H' : Hp) : Prop where
  agree : ∀ n, n < s.len → μ' n = μ n
  le : s.len ≤ s'.len
  keep : ∀ a o, H a = some o → (∀ n, n < s.len → μ n ≠ a) → H' a = some o
  trk : ∀ a, H a ≠ none → H' a ≠ none
  new : ∀ n, s.len ≤ n → n < s'.len → H (μ' n) = none
  lo : s'.low ≤ s.low
  un : ∀ b, b ≤ s.len → Low s b → s'.low < b ∨ Low s' b
structure ER (K : PySem.W.Frag) (μ : Mu) (H : Hp) (s : S) (ρ : En) (σ : St) : Prop where
  len : ρ.length = σ.length
  at_ : ∀ (i : Nat) (d : D), ρ[i]? = some (some d) → ∃ v, σ[i]? = some (some v) ∧ VR K μ H d v ∧ d.under s.len = true

section
variable {K : PySem.W.Frag} {μ μ' μ1 μ2 : Mu} {H H' H1 H2 : Hp} {s s' s1 s2 : S}
theorem S.get_lt {s : S} {n : Nat} {o : Ob} (h : s.get n = some o) : n < s.len := (List.getElem?_eq_some_iff.mp h).1
theorem Ext.refl : Ext μ s H μ s H := ⟨fun _ _ => rfl, Nat.le_refl _, fun _ _ h _ => h, fun _ h => h, fun n h1 h2 => absurd (Nat.lt_of_lt_of_le h2 h1) (Nat.lt_irrefl _), Nat.le_refl _, fun _ _ h => .inr h⟩
theorem Ext.trans (a : Ext μ s H μ1 s1 H1) (b : Ext μ1 s1 H1 μ2 s2 H2) : Ext μ s H μ2 s2 H2 where
  agree := fun n h => (b.agree n (Nat.lt_of_lt_of_le h a.le)).trans (a.agree n h)
  le := Nat.le_trans a.le b.le
  keep := fun p o h hn => by
    refine b.keep p o (a.keep p o h hn) fun n h1 e => ?_
    by_cases hl : n < s.len
    · exact hn n hl ((a.agree n hl).symm.trans e)
    · have z := a.new n (Nat.le_of_not_lt hl) h1
      rw [e, h] at z
      cases z
  trk := fun p h => b.trk p (a.trk p h)
  new := fun n h1 h2 => by
    by_cases hl : n < s1.len
    · rw [b.agree n hl]
      exact a.new n h1 hl
    · have z := b.new n (Nat.le_of_not_lt hl) h2
      cases q : H (μ2 n) with
      | none => rfl
      | some o => exact absurd z (a.trk _ (by rw [q]; exact fun z => nomatch z))
  lo := Nat.le_trans b.lo a.lo
  un := fun c hc h => by
    rcases a.un c hc h with z | z
    · exact .inl (Nat.lt_of_le_of_lt b.lo z)
    · exact b.un c (Nat.le_trans hc a.le) z
/-! ### what stays -/
theorem OR.notup {a : Addr} : ∀ {o : Ob}, OR K μ H a o → H a ≠ none ∧ (∀ vs, H a ≠ some (.tup vs)) ∧ (∀ ob vs, H a ≠ some (.frz ob (.tup vs))) ∧ ∀ ob vs, H a ≠ some (.frz ob (.lst vs))
  | .lst xs, ⟨vs, h, _⟩ => by rw [h]; exact ⟨(fun z => nomatch z), (fun _ z => nomatch z), (fun _ _ z => nomatch z), (fun _ _ z => nomatch z)⟩
  | .ro xs, h => h.elim
theorem Ext.tup (e : Ext μ s H μ' s' H') (r : SR K μ H s) {a : Addr} {vs : List V} (h : SqT K H a vs) : SqT K H' a vs := by
  have ne : ∀ o, H a = some o → ((∃ ws, o = .tup ws) ∨ ∃ ob ws, o = .frz ob (.tup ws)) → ∀ n, n < s.len → μ n ≠ a := fun o ho ht n hn e => by
    obtain ⟨ob, hob⟩ : ∃ ob, s.get n = some ob := ⟨_, List.getElem?_eq_getElem hn⟩
    have q := (r.obj n ob hob).notup
    rw [e, ho] at q
    rcases ht with ⟨ws, rfl⟩ | ⟨ob, ws, rfl⟩
    · exact q.2.1 _ rfl
    · exact q.2.2.1 _ _ rfl
  rcases h with (h | ⟨o, h⟩) | h
  · exact .inl (.inl (e.keep a _ h (ne _ h (.inl ⟨_, rfl⟩))))
  · exact .inl (.inr ⟨o, e.keep a _ h (ne _ h (.inr ⟨_, _, rfl⟩))⟩)
  · exact .inr h
theorem Ext.kl (e : Ext μ s H μ' s' H') (r : SR K μ H s) {a : Addr} {vs : List V} (h : KL K H a vs) : KL K H' a vs := by
  rcases h with ⟨o, h⟩ | h
  · refine .inl ⟨o, e.keep a _ h fun n hn z => ?_⟩
    obtain ⟨ob, hob⟩ : ∃ ob, s.get n = some ob := ⟨_, List.getElem?_eq_getElem hn⟩
    have q := (r.obj n ob hob).notup
    rw [z, h] at q
    exact q.2.2.2 _ _ rfl
  · exact .inr h
mutual
theorem VR.mono (e : Ext μ s H μ' s' H') (r : SR K μ H s) : ∀ (d : D) (v : V), d.under s.len = true → VR K μ H d v → VR K μ' H' d v
  | .non, _, _, h => h
  | .bl _, _, _, h => h
  | .int _, _, _, h => h
  | .str _, _, _, h => h
  | .tup xs, v, u, ⟨a, vs, h1, h2, h3⟩ => ⟨a, vs, h1, e.tup r h2, VRs.mono e r xs vs u h3⟩
  | .ref n, v, u, h => by
    have hn : n < s.len := of_decide_eq_true u
    show v = .ref (μ' n)
    rw [e.agree n hn]
    exact h
  | .kl ns, v, _, ⟨a, h1, h2⟩ => ⟨a, h1, e.kl r h2⟩
theorem VRs.mono (e : Ext μ s H μ' s' H') (r : SR K μ H s) : ∀ (ds : List D) (vs : List V), D.unders s.len ds = true → VRs K μ H ds vs → VRs K μ' H' ds vs
  | [], _, _, h => h
  | d :: ds, vs, u, ⟨v, q, h1, h2, h3⟩ => by
    obtain ⟨u1, u2⟩ := Bool.and_eq_true_iff.mp (show (d.under s.len && D.unders s.len ds) = true from u)
    exact ⟨v, q, h1, VR.mono e r d v u1 h2, VRs.mono e r ds q u2 h3⟩
end
mutual
theorem D.under_mono {n m : Nat} (h : n ≤ m) : ∀ d : D, d.under n = true → d.under m = true
  | .non, _ => rfl
  | .bl _, _ => rfl
  | .int _, _ => rfl
  | .str _, _ => rfl
  | .tup xs, u => D.unders_mono h xs u
  | .ref k, u => decide_eq_true (Nat.lt_of_lt_of_le (of_decide_eq_true (show decide (k < n) = true from u)) h)
  | .kl _, _ => rfl
theorem D.unders_mono {n m : Nat} (h : n ≤ m) : ∀ ds : List D, D.unders n ds = true → D.unders m ds = true
  | [], _ => rfl
  | d :: ds, u => by
    obtain ⟨u1, u2⟩ := Bool.and_eq_true_iff.mp (show (d.under n && D.unders n ds) = true from u)
    exact Bool.and_eq_true_iff.mpr ⟨D.under_mono h d u1, D.unders_mono h ds u2⟩
end
theorem Ob.under_mono {n m : Nat} (h : n ≤ m) : ∀ o : Ob, o.under n = true → o.under m = true
  | .lst xs, u => D.unders_mono h xs u
  | .ro xs, u => D.unders_mono h xs u
  | .dct kvs, u => by
    refine List.all_eq_true.mpr fun p hp => ?_
    obtain ⟨u1, u2⟩ := Bool.and_eq_true_iff.mp (List.all_eq_true.mp u p hp)
    exact Bool.and_eq_true_iff.mpr ⟨D.under_mono h _ u1, D.under_mono h _ u2⟩
  | .ins _ fs, u => List.all_eq_true.mpr fun p hp => D.under_mono h _ (List.all_eq_true.mp u p hp)
theorem ER.mono {ρ : En} {σ : St} (E : ER K μ H s ρ σ) (e : Ext μ s H μ' s' H') (r : SR K μ H s) : ER K μ' H' s' ρ σ :=
  ⟨E.len, fun i d h => let ⟨v, h1, h2, h3⟩ := E.at_ i d h; ⟨v, h1, VR.mono e r d v h3 h2, D.under_mono e.le d h3⟩⟩
theorem ER.set {ρ : En} {σ : St} {d : D} {v : V} (E : ER K μ H s ρ σ) (i : Nat) (h : VR K μ H d v) (u : d.under s.len = true) : ER K μ H s (ρ.set i (some d)) (σ.set i (some v)) := by
  refine ⟨by simp [E.len], fun j x hx => ?_⟩
  by_cases hj : i = j
  · subst hj
    by_cases hi : i < ρ.length
    · rw [List.getElem?_set_self hi] at hx
      have : d = x := Option.some.inj (Option.some.inj hx)
      subst this
      exact ⟨v, List.getElem?_set_self (by rw [← E.len]; exact hi), h, u⟩
    · rw [List.getElem?_eq_none (by simpa using hi)] at hx
      cases hx
  · rw [List.getElem?_set_ne hj] at hx ⊢
    exact E.at_ j x hx
/-! ### a new tuple; a new list; a list is written -/
theorem ext_tup {p : Addr} {o : HO} (r : SR K μ H s) (hp : H p = none) : Ext μ s H μ s (upd H p o) :=
  ⟨fun _ _ => rfl, Nat.le_refl _, fun a ob h _ => by rw [upd_ne (ne_of_none h hp)]; exact h, fun a h => by
    by_cases e : a = p
    · subst e; rw [upd_same]; exact fun z => nomatch z
    · rw [upd_ne e]; exact h, fun n h1 h2 => absurd (Nat.lt_of_lt_of_le h2 h1) (Nat.lt_irrefl _), Nat.le_refl _, fun _ _ h => .inr h⟩
theorem SqL.mono' {a p : Addr} {o : HO} {vs : List V} (h : SqL K H a vs) (hp : H p = none) : SqL K (upd H p o) a vs := by
  rcases h with (h | ⟨ob, h⟩) | h
  · exact .inl (.inl (by rw [upd_ne (ne_of_none h hp)]; exact h))
  · exact .inl (.inr ⟨ob, by rw [upd_ne (ne_of_none h hp)]; exact h⟩)
  · exact .inr h
theorem OR.upd {p a : Addr} {o : HO} {μ' : Mu} {s' : S} (r : SR K μ H s) (e : Ext μ s H μ' s' (upd H p o)) (hp : H p = none) : ∀ {ob : Ob}, ob.under s.len = true → OR K μ H a ob → OR K μ' (upd H p o) a ob
  | .lst xs, u, ⟨vs, h, v⟩ => ⟨vs, by rw [upd_ne (ne_of_none h hp)]; exact h, VRs.mono e r xs vs u v⟩
  | .ro xs, u, h => h.elim
theorem SR.tup {p : Addr} {o : HO} (r : SR K μ H s) (hp : H p = none) : SR K μ (upd H p o) s :=
  ⟨r.inj, fun n ob h => OR.upd r (ext_tup r hp) hp (r.und n ob h) (r.obj n ob h), r.und⟩
def muPush (μ : Mu) (n : Nat) (p : Addr) : Mu := fun m => if m = n then p else μ m
theorem muPush_same {n : Nat} {p : Addr} : muPush μ n p n = p := if_pos rfl
theorem muPush_lt {n m : Nat} {p : Addr} (h : m < n) : muPush μ n p m = μ m := if_neg (Nat.ne_of_lt h)
theorem len_push {o : Ob} : (s.push o).len = s.len + 1 := by simp [S.push, S.len]
theorem get_push {o ob : Ob} {n : Nat} (h : (s.push o).get n = some ob) : (n < s.len ∧ s.get n = some ob) ∨ (n = s.len ∧ ob = o) := by
  have h : (s.objs ++ [o])[n]? = some ob := h
  by_cases hn : n < s.objs.length
  · rw [List.getElem?_append_left hn] at h
    exact .inl ⟨hn, h⟩
  · rw [List.getElem?_append_right (Nat.le_of_not_lt hn)] at h
    by_cases e : n - s.objs.length = 0
    · rw [e] at h
      exact .inr ⟨by show n = s.objs.length; omega, (Option.some.inj h).symm⟩
    · rw [List.getElem?_eq_none (by simp; omega)] at h
      cases h
theorem get_push_lt {o : Ob} {n : Nat} (h : n < s.len) : (s.push o).get n = s.get n := List.getElem?_append_left h
theorem ext_push {p : Addr} {o : HO} {ob : Ob} (r : SR K μ H s) (hp : H p = none) (u : ob.under s.len = true) : Ext μ s H (muPush μ s.len p) (s.push ob) (upd H p o) where
  agree := fun n h => muPush_lt h
  le := by rw [len_push]; exact Nat.le_succ _
  keep := fun a ob h _ => by rw [upd_ne (ne_of_none h hp)]; exact h
  trk := (ext_tup (o := o) r hp).trk
  new := fun n h1 h2 => by
    rw [len_push] at h2
    have : n = s.len := by omega
    subst this
    rw [muPush_same]
    exact hp
  lo := Nat.le_refl _
  un := fun b hb h => .inr fun n o hn hg => by
    rcases get_push hg with ⟨_, q⟩ | ⟨q, _⟩
    · exact h n o hn q
    · omega
theorem SR.push {p : Addr} {xs : List D} {vs : List V} (r : SR K μ H s) (hp : H p = none) (v : VRs K μ H xs vs) (u : D.unders s.len xs = true) : SR K (muPush μ s.len p) (upd H p (.lst vs)) (s.push (.lst xs)) := by
  have e := ext_push (o := .lst vs) (ob := .lst xs) r hp u
  have np : ∀ i, i < s.len → μ i ≠ p := fun i hi z => by
    obtain ⟨ob, hob⟩ : ∃ ob, s.get i = some ob := ⟨_, List.getElem?_eq_getElem hi⟩
    exact (r.obj i ob hob).notup.1 (by rw [z]; exact hp)
  refine ⟨fun i j hi hj h => ?_, fun n o h => ?_, fun n o h => ?_⟩
  · rw [len_push] at hi hj
    by_cases h1 : i < s.len <;> by_cases h2 : j < s.len
    · rw [muPush_lt h1, muPush_lt h2] at h
      exact r.inj i j h1 h2 h
    · have : j = s.len := by omega
      subst this
      rw [muPush_lt h1, muPush_same] at h
      exact absurd h (np i h1)
    · have : i = s.len := by omega
      subst this
      rw [muPush_lt h2, muPush_same] at h
      exact absurd h.symm (np j h2)
    · omega
  · rcases get_push h with ⟨hn, q⟩ | ⟨hn, q⟩
    · rw [muPush_lt hn]
      exact OR.upd r e hp (r.und n o q) (r.obj n o q)
    · subst hn q
      rw [muPush_same]
      exact ⟨vs, upd_same, VRs.mono e r xs vs u v⟩
  · rw [len_push]
    rcases get_push h with ⟨_, q⟩ | ⟨_, q⟩
    · exact Ob.under_mono (Nat.le_succ _) o (r.und n o q)
    · subst q
      exact Ob.under_mono (Nat.le_succ _) _ (show (Ob.lst xs).under s.len = true from u)
theorem lst_get {n : Nat} {xs : List D} (h : s.lst n = some xs) : s.get n = some (.lst xs) := by
  unfold S.lst at h
  split at h
  · rename_i ys e
    cases h
    exact e
  · cases h
theorem rd_get {n : Nat} {xs : List D} (h : s.rd n = some xs) : s.get n = some (.lst xs) ∨ s.get n = some (.ro xs) := by
  unfold S.rd at h
  split at h
  · rename_i ys e
    cases h
    exact .inl e
  · rename_i ys e
    cases h
    exact .inr e
  · cases h
theorem SR.lst {n : Nat} {xs : List D} (r : SR K μ H s) (h : s.lst n = some xs) : (∃ vs, H (μ n) = some (.lst vs) ∧ VRs K μ H xs vs) ∧ D.unders s.len xs = true ∧ n < s.len :=
  ⟨r.obj n _ (lst_get h), r.und n _ (lst_get h), S.get_lt (lst_get h)⟩
theorem SR.rd {n : Nat} {xs : List D} (r : SR K μ H s) (h : s.rd n = some xs) : (∃ vs, SqL K H (μ n) vs ∧ VRs K μ H xs vs) ∧ D.unders s.len xs = true ∧ n < s.len := by
  rcases rd_get h with h | h
  · obtain ⟨vs, h1, h2⟩ := r.obj n _ h
    exact ⟨⟨vs, SqL.of h1, h2⟩, r.und n _ h, S.get_lt h⟩
  · exact (r.obj n _ h).elim
theorem len_puts {n : Nat} {o : Ob} {vs : List D} : (s.puts n o vs).len = s.len := by simp [S.puts, S.len]
theorem get_puts {n m : Nat} {o ob : Ob} {vs : List D} (h : (s.puts n o vs).get m = some ob) : (m = n ∧ n < s.len ∧ ob = o) ∨ (m ≠ n ∧ s.get m = some ob) := by
  have h : (s.objs.set n o)[m]? = some ob := h
  by_cases e : m = n
  · subst e
    by_cases hl : m < s.objs.length
    · rw [List.getElem?_set_self hl] at h
      exact .inl ⟨rfl, hl, (Option.some.inj h).symm⟩
    · rw [List.getElem?_eq_none (by simpa using hl)] at h
      cases h
  · rw [List.getElem?_set_ne (Ne.symm e)] at h
    exact .inr ⟨e, h⟩
/-- a list is written: zs came in -/
theorem ext_puts {n : Nat} {o : HO} {xs ys zs : List D} (r : SR K μ H s) (h : s.lst n = some xs) (hu : ∀ b, n < b → D.unders b xs = true → D.unders b zs = true → D.unders b ys = true) :
    Ext μ s H μ (s.puts n (.lst ys) zs) (L2.upd H (μ n) o) where
  agree := fun _ _ => rfl
  le := by rw [len_puts]; exact Nat.le_refl _
  keep := fun a ob q hn => by rw [upd_ne (Ne.symm (hn n (S.get_lt (lst_get h))))]; exact q
  trk := fun a q => by
    by_cases e : a = μ n
    · subst e; rw [upd_same]; exact fun z => nomatch z
    · rw [upd_ne e]; exact q
  new := fun m h1 h2 => by rw [len_puts] at h2; exact absurd (Nat.lt_of_lt_of_le h2 h1) (Nat.lt_irrefl _)
  lo := by
    show (if D.unders (n + 1) zs then s.low else min s.low n) ≤ s.low
    split
    · exact Nat.le_refl _
    · exact Nat.min_le_left _ _
  un := fun b hb q => by
    by_cases hz : D.unders (n + 1) zs = true
    · refine .inr fun m ob hm hg => ?_
      rcases get_puts hg with ⟨e, _, e2⟩ | ⟨_, hg⟩
      · subst e e2
        exact hu b hm (q m _ hm (lst_get h)) (D.unders_mono hm zs hz)
      · exact q m ob hm hg
    · by_cases hn : n < b
      · left
        show (if D.unders (n + 1) zs then s.low else min s.low n) < b
        rw [if_neg hz]
        exact Nat.lt_of_le_of_lt (Nat.min_le_right _ _) hn
      · refine .inr fun m ob hm hg => ?_
        rcases get_puts hg with ⟨e, _, _⟩ | ⟨_, hg⟩
        · omega
        · exact q m ob hm hg
theorem SR.puts {n : Nat} {xs ys zs : List D} {vs : List V} (r : SR K μ H s) (h : s.lst n = some xs) (hu : ∀ b, n < b → D.unders b xs = true → D.unders b zs = true → D.unders b ys = true) (v : VRs K μ H ys vs) (u : D.unders s.len ys = true) :
    SR K μ (L2.upd H (μ n) (.lst vs)) (s.puts n (.lst ys) zs) := by
  have e := ext_puts (o := HO.lst vs) (zs := zs) r h hu
  have hn := S.get_lt (lst_get h)
  refine ⟨fun i j hi hj q => ?_, fun m ob hg => ?_, fun m ob hg => ?_⟩
  · rw [len_puts] at hi hj
    exact r.inj i j hi hj q
  · rcases get_puts hg with ⟨e1, _, e2⟩ | ⟨ne, hg⟩
    · subst e1 e2
      exact ⟨vs, upd_same, VRs.mono e r ys vs u v⟩
    · have hm := S.get_lt hg
      have na : μ m ≠ μ n := fun z => ne (r.inj m n hm hn z)
      have q := r.obj m ob hg
      have um := r.und m ob hg
      cases ob with
      | lst ws =>
        obtain ⟨us, q1, q2⟩ := q
        exact ⟨us, by rw [upd_ne na]; exact q1, VRs.mono e r ws us um q2⟩
      | ro ws =>
        exact q.elim
      | dct _ => exact q.elim
      | ins _ _ => exact q.elim
  · rw [len_puts]
    rcases get_puts hg with ⟨_, _, e2⟩ | ⟨_, hg⟩
    · subst e2
      exact u
    · exact r.und m ob hg
theorem put_eq {n : Nat} {o : Ob} {d : D} : s.put n o d = s.puts n o [d] := by
  show (⟨_, _⟩ : S) = ⟨_, _⟩
  rw [show D.unders (n + 1) [d] = (d.under (n + 1) && true) from rfl, Bool.and_true]
/-! ### lists of data -/
theorem VRs.length : ∀ {xs : List D} {vs : List V}, VRs K μ H xs vs → xs.length = vs.length
  | [], _, h => by cases (show _ = [] from h); rfl
  | x :: xs, _, ⟨v, r, e, _, h⟩ => by subst e; simp [VRs.length h]
theorem VRs.get : ∀ {xs : List D} {vs : List V} {i : Nat} {x : D}, VRs K μ H xs vs → xs[i]? = some x → ∃ v, vs[i]? = some v ∧ VR K μ H x v
  | [], _, _, _, _, e => by simp at e
  | x :: xs, _, 0, _, ⟨v, r, e, h1, h⟩, e2 => by
    subst e
    simp at e2
    subst e2
    exact ⟨v, rfl, h1⟩
  | x :: xs, _, i + 1, y, ⟨v, r, e, _, h⟩, e2 => by
    subst e
    obtain ⟨u, q1, q2⟩ := VRs.get (i := i) (x := y) h (by simpa using e2)
    exact ⟨u, by simpa using q1, q2⟩
theorem VRs.append : ∀ {xs ys : List D} {vs ws : List V}, VRs K μ H xs vs → VRs K μ H ys ws → VRs K μ H (xs ++ ys) (vs ++ ws)
  | [], _, _, _, h, h2 => by cases (show _ = [] from h); exact h2
  | x :: xs, _, _, _, ⟨v, r, e, h1, h⟩, h2 => by subst e; exact ⟨v, _, rfl, h1, VRs.append h h2⟩
theorem VRs.drop : ∀ {xs : List D} {vs : List V} (n : Nat), VRs K μ H xs vs → VRs K μ H (xs.drop n) (vs.drop n)
  | _, _, 0, h => h
  | [], _, n + 1, h => by cases (show _ = [] from h); exact rfl
  | x :: xs, _, n + 1, ⟨v, r, e, _, h⟩ => by subst e; exact VRs.drop n h
theorem VRs.take : ∀ {xs : List D} {vs : List V} (n : Nat), VRs K μ H xs vs → VRs K μ H (xs.take n) (vs.take n)
  | _, _, 0, _ => rfl
  | [], _, n + 1, h => by cases (show _ = [] from h); exact rfl
  | x :: xs, _, n + 1, ⟨v, r, e, h1, h⟩ => by subst e; exact ⟨v, _, rfl, h1, VRs.take n h⟩
theorem VRs.set : ∀ {xs : List D} {vs : List V} {x : D} {v : V} (n : Nat), VRs K μ H xs vs → VR K μ H x v → VRs K μ H (xs.set n x) (vs.set n v)
  | [], _, _, _, _, h, _ => by cases (show _ = [] from h); exact rfl
  | x :: xs, _, _, _, 0, ⟨v, r, e, _, h⟩, h2 => by subst e; exact ⟨_, _, rfl, h2, h⟩
  | x :: xs, _, _, _, n + 1, ⟨v, r, e, h1, h⟩, h2 => by subst e; exact ⟨_, _, rfl, h1, VRs.set n h h2⟩
theorem VRs.dropLast {xs : List D} {vs : List V} (h : VRs K μ H xs vs) : VRs K μ H xs.dropLast vs.dropLast := by
  rw [List.dropLast_eq_take, List.dropLast_eq_take, h.length]
  exact h.take _
theorem unders_iff {n : Nat} : ∀ {xs : List D}, D.unders n xs = true ↔ ∀ x ∈ xs, x.under n = true
  | [] => ⟨(fun _ _ h => nomatch h), fun _ => rfl⟩
  | x :: xs => by
    rw [show D.unders n (x :: xs) = (x.under n && D.unders n xs) from rfl, Bool.and_eq_true_iff, unders_iff]
    simp
theorem pures_iff : ∀ {xs : List D}, D.pures xs = true ↔ ∀ x ∈ xs, x.pure = true
  | [] => ⟨(fun _ _ h => nomatch h), fun _ => rfl⟩
  | x :: xs => by
    rw [show D.pures (x :: xs) = (x.pure && D.pures xs) from rfl, Bool.and_eq_true_iff, pures_iff]
    simp
mutual
theorem D.under_pure (n : Nat) : ∀ d : D, d.pure = true → d.under n = true
  | .non, _ => rfl
  | .bl _, _ => rfl
  | .int _, _ => rfl
  | .str _, _ => rfl
  | .tup xs, h => D.unders_pure n xs h
theorem D.unders_pure (n : Nat) : ∀ ds : List D, D.pures ds = true → D.unders n ds = true
  | [], _ => rfl
  | d :: ds, h => by
    obtain ⟨u1, u2⟩ := Bool.and_eq_true_iff.mp (show (d.pure && D.pures ds) = true from h)
    exact Bool.and_eq_true_iff.mpr ⟨D.under_pure n d u1, D.unders_pure n ds u2⟩
end
end
end Ev

set_option linter.all false
set_option maxRecDepth 100000
set_option maxHeartbeats 1000000
/-! Ev2: the evaluator's operators are the model's. -/
namespace Ev
open PySem L2
/-- what is known of the program's own exceptions: a class's place, its field -/
structure Pl where
  ca : String → Addr
  fl : String → Str
/-- how an exception lies -/
def XR (K : PySem.W.Frag) (p : Pl) (μ : Mu) (H : Hp) (cls : Value) (dx : Option Addr) (c : String) : List D → Prop
  | [] => cls = .ref (p.ca c) ∧ dx = none
  | [x] => cls = .ref (p.ca c) ∧ ∃ d v, dx = some d ∧ H d = some (.xd [(p.fl c, v)]) ∧ VR K μ H x v
  | _ => False
abbrev WE := Value → Option Addr → Hp → Prop
abbrev QA (α : Type) := α → Mu → S → Hp → Prop
/-- what must hold of an outcome: from (μ, s, H) on; Wx: of what is raised -/
def Post {α : Type} (K : PySem.W.Frag) (p : Pl) (W : WE) (μ : Mu) (s : S) (H : Hp) (o : Out α) (Q : QA α) : Prop := match o with
  | .ok a s' => ∀ μ' H', Ext μ s H μ' s' H' → SR K μ' H' s' → Q a μ' s' H'
  | .err c as s' => ∀ μ' H' cls dx, Ext μ s H μ' s' H' → SR K μ' H' s' → XR K p μ' H' cls dx c as → W cls dx H'
  | .bad => False
/-- .. of a value -/
abbrev QV (K : PySem.W.Frag) (Q : VK) : QA D := fun d μ s H => ∀ v, VR K μ H d v → d.under s.len = true → Q v H
section
variable {α β : Type} {K : PySem.W.Frag} {p : Pl} {W : WE} {μ μ' : Mu} {s s' : S} {H H' : Hp} {Q Q' : QA α}
theorem Post.from (e : Ext μ s H μ' s' H') {o : Out α} (h : Post K p W μ s H o Q) : Post K p W μ' s' H' o Q := by
  cases o with
  | ok a s1 => exact fun μ1 H1 e1 r1 => h μ1 H1 (e.trans e1) r1
  | err c as s1 => exact fun μ1 H1 cls dx e1 r1 x => h μ1 H1 cls dx (e.trans e1) r1 x
  | bad => exact h
theorem Post.bind {o : Out α} {k : α → S → Out β} {Q : QA β} (h : Post K p W μ s H (o.bind k) Q) : Post K p W μ s H o (fun a μ1 s1 H1 => Post K p W μ1 s1 H1 (k a s1) Q) := by
  cases o with
  | ok a s1 => exact fun μ1 H1 e r => Post.from e (show Post K p W μ s H (k a s1) Q from h)
  | err c as s1 => exact h
  | bad => exact h
theorem Post.imp {o : Out α} (h : Post K p W μ s H o Q) (i : ∀ a μ' s' H', o = .ok a s' → Ext μ s H μ' s' H' → SR K μ' H' s' → Q a μ' s' H' → Q' a μ' s' H') : Post K p W μ s H o Q' := by
  cases o with
  | ok a s1 => exact fun μ1 H1 e r => i a μ1 s1 H1 rfl e r (h μ1 H1 e r)
  | err c as s1 => exact h
  | bad => exact h
theorem Post.ok {a : α} (h : Post K p W μ s H (.ok a s) Q) (r : SR K μ H s) : Q a μ s H := h μ H Ext.refl r
theorem Post.ok' {a : α} (h : Post K p W μ s H (.ok a s') Q) (e : Ext μ s H μ' s' H') (r : SR K μ' H' s') : Q a μ' s' H' := h μ' H' e r
theorem Post.newL {xs : List D} {vs : List V} {Q : VK} (h : Post K p W μ s H (s.newL xs) (QV K Q)) (r : SR K μ H s) (v : VRs K μ H xs vs) (u : D.unders s.len xs = true) :
    xs.length ≤ big ∧ ∀ q, H q = none → Q (.ref q) (upd H q (.lst vs)) := by
  unfold S.newL at h
  by_cases hl : xs.length ≤ big
  · rw [if_pos hl] at h
    refine ⟨hl, fun q hq => ?_⟩
    refine h _ _ (ext_push r hq u) (r.push hq v u) _ ?_ ?_
    · show V.ref q = .ref (muPush μ s.len q s.len)
      rw [muPush_same]
    · show decide (s.len < (s.push _).len) = true
      rw [len_push]
      exact decide_eq_true (Nat.lt_succ_self _)
  · rw [if_neg hl] at h
    exact h.elim
theorem Post.tupN {xs : List D} {vs : List V} {Q : VK} (h : Post K p W μ s H (newT s xs) (QV K Q)) (r : SR K μ H s) (v : VRs K μ H xs vs) (u : D.unders s.len xs = true) :
    xs.length ≤ big ∧ (∀ a, SqT K H a vs → Q (.ref a) H) ∧ ∀ q, H q = none → Q (.ref q) (upd H q (.tup vs)) := by
  unfold newT at h
  by_cases hl : xs.length ≤ big
  · rw [if_pos hl] at h
    refine ⟨hl, fun a ha => h.ok r _ ⟨a, vs, rfl, ha, v⟩ u, fun q hq => ?_⟩
    exact h _ _ (ext_tup r hq) (r.tup hq) _ ⟨q, vs, rfl, SqT.of upd_same, VRs.mono (ext_tup r hq) r _ _ u v⟩ u
  · rw [if_neg hl] at h
    exact h.elim
end
theorem big_eq : big = sizeLine := by rw [sizeLine_eq]; rfl
/-- two places -/
def rD (K : PySem.W.Frag) (p : Pl) (f : D → D → S → Out D) : R2 := fun v u H Q => ∃ W μ s d e, SR K μ H s ∧ VR K μ H d v ∧ d.under s.len = true ∧ VR K μ H e u ∧ e.under s.len = true ∧ Post K p W μ s H (f d e s) (QV K Q)
theorem VR.under_tup {n : Nat} {xs : List D} (h : (D.tup xs).under n = true) : D.unders n xs = true := h
theorem unders_append {n : Nat} {xs ys : List D} (h : D.unders n xs = true) (h2 : D.unders n ys = true) : D.unders n (xs ++ ys) = true := by
  rw [unders_iff] at *
  intro x hx
  rcases List.mem_append.mp hx with q | q
  · exact h x q
  · exact h2 x q
theorem unders_sub {n : Nat} {xs ys : List D} (h : D.unders n xs = true) (hs : ∀ x ∈ ys, x ∈ xs) : D.unders n ys = true := by
  rw [unders_iff] at *
  exact fun x hx => h x (hs x hx)
theorem VRs.rep {K : PySem.W.Frag} {μ : Mu} {H : Hp} {xs : List D} {vs : List V} (h : VRs K μ H xs vs) : ∀ k : Nat, VRs K μ H (List.replicate k xs).flatten (List.replicate k vs).flatten
  | 0 => rfl
  | k + 1 => by
    rw [List.replicate_succ, List.replicate_succ, List.flatten_cons, List.flatten_cons]
    exact h.append (VRs.rep h k)
theorem strLen {l : List Nat} : (⟨l.toArray⟩ : Str).length = l.length := by simp [Str.length]
theorem strApp {a b : List Nat} : (⟨a.toArray⟩ : Str) ++ (⟨b.toArray⟩ : Str) = ⟨(a ++ b).toArray⟩ := by
  apply PySem.Str.ext'
  show a.toArray ++ b.toArray = _
  simp
section
variable {X : Cx} {p : Pl}
theorem op_addD : OpR X (binaryOp .Add) (rD X.K p addD) := by
  intro pins s0 σ H x y v u Q I rx ry h
  obtain ⟨W, μ, s, d, e, r, vd, ud, ve, ue, h⟩ := h
  cases d with
  | int i =>
    cases e with
    | int j =>
      cases (show x = .int i from vd)
      cases (show y = .int j from ve)
      exact op_add pins s0 σ H _ _ v u Q I rx ry ⟨i, j, rfl, rfl, h.ok r _ rfl rfl⟩
    | _ => exact h.elim
  | str a =>
    cases e with
    | str b =>
      cases (show x = _ from vd)
      cases (show y = _ from ve)
      have h : Post X.K p W μ s H (if a.length + b.length ≤ big then .ok (.str (a ++ b)) s else .bad) (QV X.K Q) := h
      by_cases hl : a.length + b.length ≤ big
      · rw [if_pos hl] at h
        refine op_add_str pins s0 σ H _ _ v u Q I rx ry ⟨_, _, rfl, rfl, ?_, ?_⟩
        · rw [strLen, strLen, ← big_eq]
          exact hl
        · rw [strApp]
          exact h.ok r _ rfl rfl
      · rw [if_neg hl] at h
        exact h.elim
    | _ => exact h.elim
  | tup xs =>
    cases e with
    | tup ys =>
      obtain ⟨a, vs, rfl, ta, hv⟩ := vd
      obtain ⟨b, ws, rfl, tb, hw⟩ := ve
      have h : Post X.K p W μ s H (newT s (xs ++ ys)) (QV X.K Q) := h
      obtain ⟨hl, h1, h2⟩ := h.tupN r (hv.append hw) (unders_append ud ue)
      refine op_catA pins s0 σ H _ _ v u Q I rx ry ⟨a, b, vs, ws, rfl, rfl, ta, tb, ?_, fun e => ?_, fun _ e => ?_, fun _ _ => h2⟩
      · rw [List.length_append, hv.length, hw.length, big_eq] at hl
        exact hl
      · subst e
        exact h1 b tb
      · subst e
        exact h1 a (by rw [List.append_nil]; exact ta)
    | _ => exact h.elim
  | ref a =>
    cases e with
    | ref b =>
      cases (show x = _ from vd)
      cases (show y = _ from ve)
      have h : Post X.K p W μ s H (match s.lst a, s.lst b with | some xs, some ys => s.newL (xs ++ ys) | _, _ => .bad) (QV X.K Q) := h
      cases ha : s.lst a with
      | none => rw [ha] at h; exact h.elim
      | some xs =>
        cases hb : s.lst b with
        | none => rw [ha, hb] at h; exact h.elim
        | some ys =>
          rw [ha, hb] at h
          obtain ⟨⟨vs, q1, q2⟩, u1, _⟩ := r.lst ha
          obtain ⟨⟨ws, q3, q4⟩, u2, _⟩ := r.lst hb
          have h : Post X.K p W μ s H (s.newL (xs ++ ys)) (QV X.K Q) := h
          obtain ⟨hl, h1⟩ := h.newL r (q2.append q4) (unders_append u1 u2)
          refine op_cat pins s0 σ H _ _ v u Q I rx ry ⟨_, _, vs, ws, rfl, rfl, q1, q3, ?_, h1⟩
          rw [List.length_append, q2.length, q4.length, big_eq] at hl
          exact hl
    | _ => exact h.elim
  | _ => cases e <;> exact h.elim
theorem op_subD : OpR X (binaryOp .Sub) (rD X.K p subD) := by
  intro pins s0 σ H x y v u Q I rx ry h
  obtain ⟨W, μ, s, d, e, r, vd, ud, ve, ue, h⟩ := h
  cases d with
  | int i =>
    cases e with
    | int j =>
      cases (show x = .int i from vd)
      cases (show y = .int j from ve)
      exact op_sub pins s0 σ H _ _ v u Q I rx ry ⟨i, j, rfl, rfl, h.ok r _ rfl rfl⟩
    | _ => exact h.elim
  | _ => cases e <;> exact h.elim
theorem op_modD : OpR X (binaryOp .Mod) (rD X.K p modD) := by
  intro pins s0 σ H x y v u Q I rx ry h
  obtain ⟨W, μ, s, d, e, r, vd, ud, ve, ue, h⟩ := h
  cases d with
  | int i =>
    cases e with
    | int j =>
      cases (show x = .int i from vd)
      cases (show y = .int j from ve)
      have h : Post X.K p W μ s H (if 0 < j then .ok (.int (i % j)) s else .bad) (QV X.K Q) := h
      by_cases hj : 0 < j
      · rw [if_pos hj] at h
        exact op_mod pins s0 σ H _ _ v u Q I rx ry ⟨i, j, rfl, rfl, hj, h.ok r _ rfl rfl⟩
      · rw [if_neg hj] at h
        exact h.elim
    | _ => exact h.elim
  | _ => cases e <;> exact h.elim
theorem op_fdivD : OpR X (binaryOp .FloorDiv) (rD X.K p fdivD) := by
  intro pins s0 σ H x y v u Q I rx ry h
  obtain ⟨W, μ, s, d, e, r, vd, ud, ve, ue, h⟩ := h
  cases d with
  | int i =>
    cases e with
    | int j =>
      cases (show x = .int i from vd)
      cases (show y = .int j from ve)
      have h : Post X.K p W μ s H (if 0 < j ∧ j < 1073741824 then .ok (.int (i / j)) s else .bad) (QV X.K Q) := h
      by_cases hj : 0 < j ∧ j < 1073741824
      · rw [if_pos hj] at h
        exact op_fdiv pins s0 σ H _ _ v u Q I rx ry ⟨i, j, rfl, rfl, hj, h.ok r _ rfl rfl⟩
      · rw [if_neg hj] at h
        exact h.elim
    | _ => exact h.elim
  | _ => cases e <;> exact h.elim
theorem op_powD : OpR X (binaryOp .Pow) (rD X.K p powD) := by
  intro pins s0 σ H x y v u Q I rx ry h
  obtain ⟨W, μ, s, d, e, r, vd, ud, ve, ue, h⟩ := h
  cases d with
  | int i =>
    cases e with
    | int j =>
      cases (show x = .int i from vd)
      cases (show y = .int j from ve)
      have h : Post X.K p W μ s H (if 0 ≤ j ∧ j ≤ 1000000 ∧ i.natAbs < 2 ^ 64 then .ok (.int (i ^ j.toNat)) s else .bad) (QV X.K Q) := h
      by_cases hj : 0 ≤ j ∧ j ≤ 1000000 ∧ i.natAbs < 2 ^ 64
      · rw [if_pos hj] at h
        exact op_pow pins s0 σ H _ _ v u Q I rx ry ⟨i, j, rfl, rfl, hj, h.ok r _ rfl rfl⟩
      · rw [if_neg hj] at h
        exact h.elim
    | _ => exact h.elim
  | _ => cases e <;> exact h.elim
theorem len_rep {α : Type} (a : List α) : ∀ n : Nat, (List.replicate n a).flatten.length = n * a.length
  | 0 => by simp
  | n + 1 => by rw [List.replicate_succ, List.flatten_cons, List.length_append, len_rep a n, Nat.succ_mul, Nat.add_comm]
theorem repS (a : List Nat) : ∀ n : Nat, (List.replicate n a.toArray).foldl (· ++ ·) #[] = (List.replicate n a).flatten.toArray := by
  have key : ∀ (n : Nat) (acc : List Nat), (List.replicate n a.toArray).foldl (· ++ ·) acc.toArray = (acc ++ (List.replicate n a).flatten).toArray := by
    intro n
    induction n with
    | zero => intro acc; simp
    | succ n ih =>
      intro acc
      rw [List.replicate_succ, List.foldl_cons, List.replicate_succ, List.flatten_cons]
      rw [show acc.toArray ++ a.toArray = (acc ++ a).toArray by simp, ih, List.append_assoc]
  intro n
  have := key n []
  simpa using this
theorem op_mulD : OpR X (binaryOp .Mult) (rD X.K p mulD) := by
  intro pins s0 σ H x y v u Q I rx ry h
  obtain ⟨W, μ, s, d, e, r, vd, ud, ve, ue, h⟩ := h
  cases d with
  | int i =>
    cases e with
    | int j =>
      cases (show x = .int i from vd)
      cases (show y = .int j from ve)
      have h : Post X.K p W μ s H (if small64 i || small64 j then .ok (.int (i * j)) s else .bad) (QV X.K Q) := h
      by_cases hj : (small64 i || small64 j) = true
      · rw [if_pos hj] at h
        refine op_mul pins s0 σ H _ _ v u Q I rx ry ⟨i, j, rfl, rfl, ?_, h.ok r _ rfl rfl⟩
        rcases Bool.or_eq_true_iff.mp hj with z | z
        · exact .inl (of_decide_eq_true z)
        · exact .inr (of_decide_eq_true z)
      · rw [if_neg hj] at h
        exact h.elim
    | _ => exact h.elim
  | str a =>
    cases e with
    | int j =>
      cases (show x = _ from vd)
      cases (show y = .int j from ve)
      have h : Post X.K p W μ s H (if 2 ≤ j ∧ j ≤ 1000 ∧ a ≠ [] ∧ a.length ≤ 1000 then .ok (.str (List.replicate j.toNat a).flatten) s else .bad) (QV X.K Q) := h
      by_cases hj : 2 ≤ j ∧ j ≤ 1000 ∧ a ≠ [] ∧ a.length ≤ 1000
      · rw [if_pos hj] at h
        obtain ⟨h1, h2, h3, h4⟩ := hj
        obtain ⟨t, rfl⟩ := rx
        obtain ⟨t', rfl⟩ := ry
        have hn : ¬ j < 1 := by omega
        have hpos : 0 < a.length := by cases a with | nil => exact absurd rfl h3 | cons _ _ => exact Nat.succ_pos _
        have hlen : (List.replicate j.toNat a).flatten.length ≤ 1000000 := by
          rw [len_rep]
          have q1 : j.toNat ≤ 1000 := by omega
          calc j.toNat * a.length ≤ 1000 * 1000 := Nat.mul_le_mul q1 h4
            _ = 1000000 := rfl
        have e1 : (j == 1 || (⟨a.toArray⟩ : Str).length == 0) = false := by
          rw [strLen]
          have : ¬ j = 1 := by omega
          have : ¬ a.length = 0 := by omega
          simp [*]
        refine PySem.P.mul_str (by
          have h5 : ¬ j < -(2 ^ 63 : Int) := by omega
          have h6 : ¬ j ≥ 2 ^ 63 := by omega
          rw [decide_eq_false h5, decide_eq_false h6]; rfl) (fun _ _ => ?_) (fun _ _ => ?_) ?_
        · rw [strLen]
          have : (9223372036854775807 : Int) / 1000 ≤ (2 ^ 63 - 1) / j := by
            exact Int.le_ediv_of_mul_le (by omega) (by omega)
          have h8 : ((9223372036854775807 : Int) / 1000) = 9223372036854775 := by decide
          omega
        · rw [strLen]
          have q1 : j.toNat ≤ 1000 := by omega
          have q2 : a.length * j.toNat ≤ 1000 * 1000 := Nat.mul_le_mul h4 q1
          unfold Builtin.Str.tooLong
          rw [sizeLine_eq]
          simp
          omega
        · rw [if_neg hn, if_neg (by rw [e1]; exact Bool.false_ne_true)]
          rw [show (List.replicate j.toNat (⟨a.toArray⟩ : Str).cps) = List.replicate j.toNat a.toArray from rfl, repS]
          refine ⟨?_, ⟨.str ⟨(List.replicate j.toNat a).flatten.toArray⟩, H, I.tok _, ⟨_, rfl⟩, h.ok r _ rfl rfl⟩⟩
          first
            | (rw [strLen, sizeLine_eq]; omega)
            | (simp only [strLen]; rw [sizeLine_eq]; omega)
      · rw [if_neg hj] at h
        exact h.elim
    | _ => exact h.elim
  | tup xs =>
    cases e with
    | int j =>
      obtain ⟨a, vs, rfl, ta, hv⟩ := vd
      cases (show y = .int j from ve)
      have h : Post X.K p W μ s H (if 2 ≤ j ∧ j ≤ 1000 ∧ xs ≠ [] ∧ xs.length ≤ 1000 then .ok (.tup (List.replicate j.toNat xs).flatten) s else .bad) (QV X.K Q) := h
      by_cases hj : 2 ≤ j ∧ j ≤ 1000 ∧ xs ≠ [] ∧ xs.length ≤ 1000
      · rw [if_pos hj] at h
        obtain ⟨h1, h2, h3, h4⟩ := hj
        have hlen : (List.replicate j.toNat xs).flatten.length ≤ big := by
          rw [len_rep]
          have q1 : j.toNat ≤ 1000 := by omega
          calc j.toNat * xs.length ≤ 1000 * 1000 := Nat.mul_le_mul q1 h4
            _ ≤ big := by decide
        have uu : D.unders s.len (List.replicate j.toNat xs).flatten = true := by
          refine unders_sub (xs := xs) ud fun x hx => ?_
          obtain ⟨l, hl, hx⟩ := List.mem_flatten.mp hx
          rw [(List.mem_replicate.mp hl).2] at hx
          exact hx
        have h : Post X.K p W μ s H (newT s (List.replicate j.toNat xs).flatten) (QV X.K Q) := by
          unfold newT
          rw [if_pos hlen]
          exact h
        obtain ⟨_, _, h5⟩ := h.tupN r (hv.rep _) uu
        refine op_repT pins s0 σ H _ _ v u Q I rx ry ⟨a, j, vs, rfl, rfl, ta, fun z => ?_, h1, h2, by rw [← hv.length]; exact h4, h5⟩
        subst z
        have := hv.length
        exact h3 (List.eq_nil_of_length_eq_zero this)
      · rw [if_neg hj] at h
        exact h.elim
    | _ => exact h.elim
  | _ => cases e <;> exact h.elim
def opOf : Bo → Operator
  | .add => .Add | .sub => .Sub | .mul => .Mult | .mod => .Mod | .fdiv => .FloorDiv | .pow => .Pow
theorem op_binD (o : Bo) : OpR X (binaryOp (opOf o)) (rD X.K p (binD o)) := by
  cases o
  · exact op_addD
  · exact op_subD
  · exact op_mulD
  · exact op_modD
  · exact op_fdivD
  · exact op_powD
end
end Ev

set_option linter.all false
set_option maxRecDepth 100000
set_option maxHeartbeats 1000000
/-! Ev3: comparisons, truth, isinstance, subscripts, built-ins, methods. -/
namespace Ev
open PySem L2
mutual
def toPy : D → PyData
  | .non => .none
  | .bl b => .bool b
  | .int i => .int i
  | .str s => .str ⟨s.toArray⟩
  | .tup xs => .tuple (toPys xs)
  | .ref _ => .none
  | .kl _ => .none
def toPys : List D → List PyData
  | [] => []
  | x :: xs => toPy x :: toPys xs
end
def Dt.py : Dt → PyData
  | .pl d => toPy d
  | .ls xs => .list (toPys xs)
section
variable {K : PySem.W.Frag} {μ : Mu} {H : Hp}
mutual
theorem dp_of : ∀ (d : D) (v : V), d.pure = true → VR K μ H d v → Dp K H v (toPy d)
  | .non, _, _, h => by cases (show _ = V.non from h); exact .non
  | .bl b, _, _, h => by cases (show _ = V.bl b from h); exact .bl b
  | .int i, _, _, h => by cases (show _ = V.int i from h); exact .int i
  | .str s, _, _, h => by cases (show _ = V.str _ from h); exact .str _
  | .tup xs, _, u, ⟨a, vs, e, h1, h2⟩ => by subst e; exact .tup h1 (dps_of xs vs u h2)
  | .ref _, _, u, _ => by cases u
  | .kl _, _, u, _ => by cases u
theorem dps_of : ∀ (ds : List D) (vs : List V), D.pures ds = true → VRs K μ H ds vs → DpAll K H vs (toPys ds)
  | [], _, _, h => by cases (show _ = [] from h); exact .nil
  | d :: ds, _, u, ⟨v, r, e, h1, h2⟩ => by
    subst e
    obtain ⟨u1, u2⟩ := Bool.and_eq_true_iff.mp (show (d.pure && D.pures ds) = true from u)
    exact .cons (dp_of d v u1 h1) (dps_of ds r u2 h2)
end
mutual
theorem canLay_of : ∀ d : D, d.slim = true → (toPy d).canLay0 = true
  | .non, _ => by simp only [toPy, PyData.canLay0]
  | .bl b, _ => by simp only [toPy, PyData.canLay0]
  | .int i, _ => by simp only [toPy, PyData.canLay0]
  | .str s, h => by
    have h1 : s.all (fun c => decide (c < 1114112)) = true := h
    simp only [toPy, PyData.canLay0, PyData.strOk]
    simpa using h1
  | .tup xs, h => by
    simp only [toPy, PyData.canLay0]
    exact canLays_of xs h
  | .ref _, _ => by simp only [toPy, PyData.canLay0]
  | .kl _, _ => by simp only [toPy, PyData.canLay0]
theorem canLays_of : ∀ ds : List D, D.slims ds = true → PyData.canLayAll0 (toPys ds) = true
  | [], _ => by simp only [toPys, PyData.canLayAll0]
  | d :: ds, h => by
    obtain ⟨u1, u2⟩ := Bool.and_eq_true_iff.mp (show (d.slim && D.slims ds) = true from h)
    simp only [toPys, PyData.canLayAll0]
    rw [canLay_of d u1, canLays_of ds u2]
    rfl
end
mutual
theorem depth_of : ∀ d : D, (toPy d).depth ≤ d.depth
  | .non => by simp [toPy, PyData.depth]
  | .bl b => by simp [toPy, PyData.depth]
  | .int i => by simp [toPy, PyData.depth]
  | .str s => by simp [toPy, PyData.depth]
  | .tup xs => by simp only [toPy, PyData.depth, D.depth]; exact Nat.succ_le_succ (depths_of xs)
  | .ref _ => by simp [toPy, PyData.depth]
  | .kl _ => by simp [toPy, PyData.depth]
theorem depths_of : ∀ ds : List D, PyData.depthAll (toPys ds) ≤ D.depths ds
  | [] => by simp [toPys, PyData.depthAll, D.depths]
  | d :: ds => by
    simp only [toPys, PyData.depthAll, D.depths]
    have h1 := depth_of d
    have h2 := depths_of ds
    omega
end
mutual
theorem eqv_of : ∀ d e : D, d.pure = true → e.pure = true → D.eqv d e = PyData.eqv (toPy d) (toPy e)
  | .non, e, _, u => by cases e <;> first | rfl | (cases u; done) | simp [D.eqv, toPy, PyData.eqv]
  | .bl b, e, _, u => by cases e <;> first | rfl | (cases u; done) | simp [D.eqv, toPy, PyData.eqv]
  | .int b, e, _, u => by cases e <;> first | rfl | (cases u; done) | simp [D.eqv, toPy, PyData.eqv]
  | .str b, e, _, u => by
    cases e with
    | str c =>
      simp only [D.eqv, toPy, PyData.eqv]
      rw [Bool.eq_iff_iff]
      simp
    | ref _ => cases u
    | kl _ => cases u
    | _ => simp [D.eqv, toPy, PyData.eqv]
  | .ref _, _, u, _ => by cases u
  | .kl _, _, u, _ => by cases u
  | .tup xs, e, u, w => by
    cases e with
    | tup ys => simp only [D.eqv, toPy, PyData.eqv]; exact eqvs_of xs ys u w
    | ref _ => cases w
    | kl _ => cases w
    | _ => simp [D.eqv, toPy, PyData.eqv]
theorem eqvs_of : ∀ ds es : List D, D.pures ds = true → D.pures es = true → D.eqvs ds es = PyData.eqvAll (toPys ds) (toPys es)
  | [], [], _, _ => by simp [D.eqvs, toPys, PyData.eqvAll]
  | [], _ :: _, _, _ => by simp [D.eqvs, toPys, PyData.eqvAll]
  | _ :: _, [], _, _ => by simp [D.eqvs, toPys, PyData.eqvAll]
  | d :: ds, e :: es, u, w => by
    obtain ⟨u1, u2⟩ := Bool.and_eq_true_iff.mp (show (d.pure && D.pures ds) = true from u)
    obtain ⟨w1, w2⟩ := Bool.and_eq_true_iff.mp (show (e.pure && D.pures es) = true from w)
    simp only [D.eqvs, toPys, PyData.eqvAll]
    rw [eqv_of d e u1 w1, eqvs_of ds es u2 w2]
end
theorem fit_parts {d : D} (h : d.fit = true) : d.pure = true ∧ d.slim = true ∧ d.depth ≤ 60 := by
  obtain ⟨h1, h2⟩ := Bool.and_eq_true_iff.mp (show ((d.pure && d.slim) && decide (d.depth ≤ 60)) = true from h)
  obtain ⟨h3, h4⟩ := Bool.and_eq_true_iff.mp h1
  exact ⟨h3, h4, of_decide_eq_true h2⟩
theorem shaped_of {d : D} (h : d.fit = true) : SeqAt.shaped (toPy d) = true := by
  obtain ⟨h1, h2, h3⟩ := fit_parts h
  refine Bool.and_eq_true_iff.mpr ⟨canLay_of d h2, decide_eq_true ?_⟩
  have := depth_of d
  omega
theorem shapedL_of {xs : List D} (h : (D.tup xs).fit = true) : SeqAt.shaped (.list (toPys xs)) = true := by
  obtain ⟨h1, h2, h3⟩ := fit_parts h
  refine Bool.and_eq_true_iff.mpr ⟨?_, decide_eq_true ?_⟩
  · simp only [PyData.canLay0]
    exact canLays_of xs h2
  · have := depths_of xs
    simp only [PyData.depth]
    have h4 : D.depths xs + 1 ≤ 60 := h3
    omega
theorem data_ok {s : S} {d : D} {v : V} {x : Dt} (r : SR K μ H s) (h : VR K μ H d v) (e : dataOf d s = some x) : Dp K H v x.py ∧ SeqAt.shaped x.py = true ∧ ((∃ d, x = .pl d ∧ d.pure = true) ∨ ∃ xs, x = .ls xs ∧ D.pures xs = true) := by
  have pl : ∀ {d : D}, VR K μ H d v → (if d.fit then some (Dt.pl d) else none) = some x → Dp K H v x.py ∧ SeqAt.shaped x.py = true ∧ ((∃ d, x = .pl d ∧ d.pure = true) ∨ ∃ xs, x = .ls xs ∧ D.pures xs = true) := fun {d} h e => by
    by_cases hf : d.fit = true
    · rw [if_pos hf] at e
      cases e
      exact ⟨dp_of d v (fit_parts hf).1 h, shaped_of hf, .inl ⟨d, rfl, (fit_parts hf).1⟩⟩
    · rw [if_neg hf] at e
      cases e
  cases d with
  | ref n =>
    cases (show v = _ from h)
    have e : (match s.rd n with | some xs => if (D.tup xs).fit then some (Dt.ls xs) else none | none => none) = some x := e
    cases q : s.rd n with
    | none => rw [q] at e; cases e
    | some xs =>
      rw [q] at e
      obtain ⟨⟨vs, h1, h2⟩, _, _⟩ := r.rd q
      have e : (if (D.tup xs).fit then some (Dt.ls xs) else none) = some x := e
      by_cases hf : (D.tup xs).fit = true
      · rw [if_pos hf] at e
        cases e
        exact ⟨.lst h1 (dps_of xs vs (fit_parts hf).1 h2), shapedL_of hf, .inr ⟨xs, rfl, (fit_parts hf).1⟩⟩
      · rw [if_neg hf] at e
        cases e
  | _ => exact pl h e
theorem toPy_ne_list {d : D} {ds : List PyData} : PyData.eqv (toPy d) (.list ds) = false := by cases d <;> simp [toPy, PyData.eqv]
theorem list_ne_toPy {d : D} {ds : List PyData} : PyData.eqv (.list ds) (toPy d) = false := by cases d <;> simp [toPy, PyData.eqv]
theorem dt_eqv {x y : Dt} (hx : (∃ d, x = .pl d ∧ d.pure = true) ∨ ∃ xs, x = .ls xs ∧ D.pures xs = true) (hy : (∃ d, y = .pl d ∧ d.pure = true) ∨ ∃ xs, y = .ls xs ∧ D.pures xs = true) : Dt.eqv x y = PyData.eqv x.py y.py := by
  rcases hx with ⟨d, rfl, h1⟩ | ⟨xs, rfl, h1⟩ <;> rcases hy with ⟨e, rfl, h2⟩ | ⟨ys, rfl, h2⟩
  · exact eqv_of d e h1 h2
  · exact toPy_ne_list.symm
  · exact list_ne_toPy.symm
  · show D.eqvs xs ys = PyData.eqv (.list _) (.list _)
    rw [eqvs_of xs ys h1 h2]
    simp only [PyData.eqv]
end
theorem dstr {x y : List Nat} : decide (V.str ⟨x.toArray⟩ = V.str ⟨y.toArray⟩) = (x == y) := by
  rw [Bool.eq_iff_iff]
  simp
theorem Post.oB {K : PySem.W.Frag} {p : Pl} {W : WE} {μ : Mu} {s : S} {H : Hp} {Q : VK} {o : Option Bool} (h : Post K p W μ s H (oB o s) (QV K Q)) (r : SR K μ H s) : ∃ b, o = some b ∧ Q (.bl b) H := by
  cases o with
  | none => exact h.elim
  | some b => exact ⟨b, rfl, h.ok r _ rfl rfl⟩
section
variable {X : Cx} {p : Pl}
/-- == : the answer -/
theorem eq_ok (hu : X.A.units + 65 < cLine) {b : Bool} {pins : List (Addr × Obj)} {s0 : Shared} {σ : L2.St} {H : Hp} {x y : V} {v u : Value} {Q : VK} {μ : Mu} {s : S} {d e : D} (I : Inv X pins σ H s0) (rx : RelV x v) (ry : RelV y u)
    (r : SR X.K μ H s) (vd : VR X.K μ H d x) (ve : VR X.K μ H e y) (he : eqD d e s = some b) :
    (Q (.bl b) H → wpAny (model X.prog X.w) X.A (compareOp .Eq v u) (EP X pins σ Q) X.xe s0) ∧ (Q (.bl (!b)) H → wpAny (model X.prog X.w) X.A (compareOp .NotEq v u) (EP X pins σ Q) X.xe s0) := by
  have gen : (match dataOf d s, dataOf e s with | some x, some y => some (Dt.eqv x y) | _, _ => none) = some b →
      (Q (.bl b) H → wpAny (model X.prog X.w) X.A (compareOp .Eq v u) (EP X pins σ Q) X.xe s0) ∧ (Q (.bl (!b)) H → wpAny (model X.prog X.w) X.A (compareOp .NotEq v u) (EP X pins σ Q) X.xe s0) := fun he => by
    cases q1 : dataOf d s with
    | none => rw [q1] at he; cases he
    | some x1 =>
      cases q2 : dataOf e s with
      | none => rw [q1, q2] at he; cases he
      | some y1 =>
        rw [q1, q2] at he
        obtain ⟨a1, a2, a3⟩ := data_ok r vd q1
        obtain ⟨b1, b2, b3⟩ := data_ok r ve q2
        have hb : Dt.eqv x1 y1 = b := Option.some.inj he
        rw [dt_eqv a3 b3] at hb
        subst hb
        exact ⟨fun q => op_eqD (by omega) pins s0 σ H x y v u Q I rx ry ⟨_, _, a1, b1, a2, b2, q⟩, fun q => op_neD (by omega) pins s0 σ H x y v u Q I rx ry ⟨_, _, a1, b1, a2, b2, q⟩⟩
  cases d with
  | str a =>
    cases e with
    | str c =>
      cases (show x = _ from vd)
      cases (show y = _ from ve)
      have : (a == c) = b := Option.some.inj he
      subst this
      exact ⟨fun q => op_eq pins s0 σ H _ _ v u Q I rx ry ⟨rfl, by rw [dstr]; exact q⟩, fun q => op_ne pins s0 σ H _ _ v u Q I rx ry ⟨rfl, by rw [dstr]; exact q⟩⟩
    | _ => exact gen he
  | int a =>
    cases e with
    | int c =>
      cases (show x = _ from vd)
      cases (show y = _ from ve)
      have : (a == c) = b := Option.some.inj he
      subst this
      exact ⟨fun q => op_eq pins s0 σ H _ _ v u Q I rx ry ⟨rfl, by rw [dec_int]; exact q⟩, fun q => op_ne pins s0 σ H _ _ v u Q I rx ry ⟨rfl, by rw [dec_int]; exact q⟩⟩
    | _ => exact gen he
  | bl a =>
    cases e with
    | bl c =>
      cases (show x = _ from vd)
      cases (show y = _ from ve)
      have : (a == c) = b := Option.some.inj he
      subst this
      exact ⟨fun q => op_eq pins s0 σ H _ _ v u Q I rx ry ⟨rfl, by rw [dec_bl]; exact q⟩, fun q => op_ne pins s0 σ H _ _ v u Q I rx ry ⟨rfl, by rw [dec_bl]; exact q⟩⟩
    | _ => exact gen he
  | _ => cases e <;> exact gen he
theorem is_ok {b : Bool} {pins : List (Addr × Obj)} {s0 : Shared} {σ : L2.St} {H : Hp} {x y : V} {v u : Value} {Q : VK} {μ : Mu} {d e : D} (I : Inv X pins σ H s0) (rx : RelV x v) (ry : RelV y u)
    (vd : VR X.K μ H d x) (ve : VR X.K μ H e y) (he : isD d e = some b) :
    (Q (.bl b) H → wpAny (model X.prog X.w) X.A (compareOp .Is v u) (EP X pins σ Q) X.xe s0) ∧ (Q (.bl (!b)) H → wpAny (model X.prog X.w) X.A (compareOp .IsNot v u) (EP X pins σ Q) X.xe s0) := by
  have nn : y = .non → decide (x = .non) = b → (Q (.bl b) H → wpAny (model X.prog X.w) X.A (compareOp .Is v u) (EP X pins σ Q) X.xe s0) ∧ (Q (.bl (!b)) H → wpAny (model X.prog X.w) X.A (compareOp .IsNot v u) (EP X pins σ Q) X.xe s0) := fun h1 h2 => by
    subst h2
    exact ⟨fun q => op_isN pins s0 σ H x y v u Q I rx ry ⟨h1, q⟩, fun q => op_notN pins s0 σ H x y v u Q I rx ry ⟨h1, q⟩⟩
  cases e with
  | non =>
    cases (show y = _ from ve)
    cases d with
    | non => cases (show x = _ from vd); exact nn rfl (Option.some.inj he)
    | bl a => cases (show x = _ from vd); exact nn rfl (Option.some.inj he)
    | int a => cases (show x = _ from vd); exact nn rfl (Option.some.inj he)
    | str a => cases (show x = _ from vd); exact nn rfl (Option.some.inj he)
    | ref a => cases (show x = _ from vd); exact nn rfl (Option.some.inj he)
    | tup a => obtain ⟨_, _, rfl, _, _⟩ := vd; exact nn rfl (Option.some.inj he)
    | kl a => obtain ⟨_, rfl, _⟩ := vd; exact nn rfl (Option.some.inj he)
  | bl c =>
    cases d with
    | bl a =>
      cases (show x = _ from vd)
      cases (show y = _ from ve)
      have : (a == c) = b := Option.some.inj he
      subst this
      exact ⟨fun q => op_is_bl pins s0 σ H _ _ v u Q I rx ry ⟨a, c, rfl, rfl, by rw [← Bool.beq_eq_decide_eq]; exact q⟩, fun q => op_isnot_bl pins s0 σ H _ _ v u Q I rx ry ⟨a, c, rfl, rfl, by rw [← Bool.beq_eq_decide_eq]; exact q⟩⟩
    | _ => cases he
  | _ => cases d <;> cases he
theorem flatV_of {K : PySem.W.Frag} {μ : Mu} {H : Hp} {d : D} {v : V} (h : VR K μ H d v) (f : flat d = true) : flatV v = true := by
  cases d <;> first | (cases (show v = _ from h); rfl) | cases f
theorem flatVs_of {K : PySem.W.Frag} {μ : Mu} {H : Hp} : ∀ {ds : List D} {vs : List V}, VRs K μ H ds vs → ds.all flat = true → vs.all flatV = true
  | [], _, h, _ => by cases (show _ = [] from h); rfl
  | d :: ds, _, ⟨v, r, e, h1, h2⟩, f => by
    subst e
    rw [List.all_cons, Bool.and_eq_true_iff] at f ⊢
    exact ⟨flatV_of h1 f.1, flatVs_of h2 f.2⟩
theorem eqV_of {K : PySem.W.Frag} {μ : Mu} {H : Hp} {d e : D} {v u : V} (h : VR K μ H d v) (h2 : VR K μ H e u) (f : flat d = true) (f2 : flat e = true) : eqV v u = D.eqv d e := by
  cases d <;> first | (cases f; done) | (cases (show v = _ from h); cases e <;> first | (cases f2; done) | (cases (show u = _ from h2); first | rfl | (simp [eqV, D.eqv]; done) | (simp only [eqV, D.eqv]; rw [Bool.eq_iff_iff]; simp)))
theorem inV_of {K : PySem.W.Frag} {μ : Mu} {H : Hp} {d : D} {v : V} (h : VR K μ H d v) (f : flat d = true) : ∀ {ds : List D} {vs : List V}, VRs K μ H ds vs → ds.all flat = true → inV v vs = ds.any fun x => D.eqv x d
  | [], _, h2, _ => by cases (show _ = [] from h2); rfl
  | e :: es, _, ⟨u, r, q, h1, h2⟩, g => by
    subst q
    rw [List.all_cons, Bool.and_eq_true_iff] at g
    show (eqV u v || inV v r) = (D.eqv e d || es.any fun x => D.eqv x d)
    rw [eqV_of h1 h g.1 f, inV_of h f h2 g.2]
theorem anyPy {d : D} (f : d.pure = true) : ∀ {xs : List D}, D.pures xs = true → ((toPys xs).any fun z => PyData.eqv z (toPy d)) = xs.any fun x => D.eqv x d
  | [], _ => rfl
  | x :: xs, u => by
    obtain ⟨u1, u2⟩ := Bool.and_eq_true_iff.mp (show (x.pure && D.pures xs) = true from u)
    show (PyData.eqv (toPy x) (toPy d) || (toPys xs).any fun z => PyData.eqv z (toPy d)) = (D.eqv x d || xs.any fun x => D.eqv x d)
    rw [eqv_of x d u1 f, anyPy f u2]
theorem in_ok (hu : X.A.units + 65 < cLine) {b : Bool} {pins : List (Addr × Obj)} {s0 : Shared} {σ : L2.St} {H : Hp} {x y : V} {v u : Value} {Q : VK} {μ : Mu} {s : S} {d e : D} (I : Inv X pins σ H s0) (rx : RelV x v) (ry : RelV y u)
    (r : SR X.K μ H s) (vd : VR X.K μ H d x) (ve : VR X.K μ H e y) (he : inD d e s = some b) :
    (Q (.bl b) H → wpAny (model X.prog X.w) X.A (compareOp .In v u) (EP X pins σ Q) X.xe s0) ∧ (Q (.bl (!b)) H → wpAny (model X.prog X.w) X.A (compareOp .NotIn v u) (EP X pins σ Q) X.xe s0) := by
  cases e with
  | str z =>
    cases (show y = _ from ve)
    cases d with
    | str a =>
      cases (show x = _ from vd)
      match a, rx, he with
      | [c], rx, he =>
        have : z.contains c = b := Option.some.inj he
        subst this
        have e1 : decide (c ∈ z) = z.contains c := by
          rw [Bool.eq_iff_iff]
          simp
        exact ⟨fun q => op_in_sign pins s0 σ H _ _ v u Q I rx ry ⟨c, _, rfl, rfl, by rw [show (⟨z.toArray⟩ : Str).cps.toList = z from rfl, e1]; exact q⟩, fun q => op_notIn_sign pins s0 σ H _ _ v u Q I rx ry ⟨c, _, rfl, rfl, by rw [show (⟨z.toArray⟩ : Str).cps.toList = z from rfl, e1]; exact q⟩⟩
      | [], _, he => cases he
      | _ :: _ :: _, _, he => cases he
    | _ => cases he
  | tup xs =>
    obtain ⟨a, vs, rfl, ta, hv⟩ := ve
    have he : (if flat d && xs.all flat then some (xs.any fun x => D.eqv x d) else none) = some b := he
    by_cases hf : (flat d && xs.all flat) = true
    · rw [if_pos hf] at he
      obtain ⟨f1, f2⟩ := Bool.and_eq_true_iff.mp hf
      have : (xs.any fun x => D.eqv x d) = b := Option.some.inj he
      rw [← inV_of vd f1 hv f2] at this
      subst this
      exact ⟨fun q => op_in_seq pins s0 σ H _ _ v u Q I rx ry ⟨a, vs, rfl, .inr ta, flatV_of vd f1, flatVs_of hv f2, q⟩, fun q => op_notIn_seq pins s0 σ H _ _ v u Q I rx ry ⟨a, vs, rfl, .inr ta, flatV_of vd f1, flatVs_of hv f2, q⟩⟩
    · rw [if_neg hf] at he
      cases he
  | ref n =>
    cases (show y = _ from ve)
    have he : (match s.rd n with | some xs => if d.fit && (D.tup xs).fit then some (xs.any fun x => D.eqv x d) else none | none => none) = some b := he
    cases q : s.rd n with
    | none => rw [q] at he; cases he
    | some xs =>
      rw [q] at he
      obtain ⟨⟨vs, h1, h2⟩, _, _⟩ := r.rd q
      have he : (if d.fit && (D.tup xs).fit then some (xs.any fun x => D.eqv x d) else none) = some b := he
      by_cases hf : (d.fit && (D.tup xs).fit) = true
      · rw [if_pos hf] at he
        obtain ⟨f1, f2⟩ := Bool.and_eq_true_iff.mp hf
        have : (xs.any fun x => D.eqv x d) = b := Option.some.inj he
        rw [← anyPy (fit_parts f1).1 (fit_parts f2).1] at this
        subst this
        exact ⟨fun q => op_inD hu pins s0 σ H _ _ v u Q I rx ry ⟨_, _, dp_of d x (fit_parts f1).1 vd, .lst h1 (dps_of xs vs (fit_parts f2).1 h2), shaped_of f1, shapedL_of f2, q⟩,
          fun q => op_notInD hu pins s0 σ H _ _ v u Q I rx ry ⟨_, _, dp_of d x (fit_parts f1).1 vd, .lst h1 (dps_of xs vs (fit_parts f2).1 h2), shaped_of f1, shapedL_of f2, q⟩⟩
      · rw [if_neg hf] at he
        cases he
  | _ => cases he
theorem strLt_iff : ∀ x y : List Nat, strLt x y = decide (x < y)
  | [], [] => by simp [strLt]
  | [], _ :: _ => by simp [strLt]
  | _ :: _, [] => by simp [strLt]
  | a :: x, b :: y => by
    have ih := strLt_iff x y
    simp only [strLt]
    by_cases h : a < b
    · rw [if_pos h]
      rw [Bool.eq_iff_iff]
      simp [List.cons_lt_cons_iff, h]
    · by_cases h2 : b < a
      · rw [if_neg h, if_pos h2]
        rw [Bool.eq_iff_iff]
        have : ¬ a = b := by omega
        simp [List.cons_lt_cons_iff, h, this]
      · have e : a = b := by omega
        subst e
        rw [if_neg h, if_neg h2, ih]
        rw [Bool.eq_iff_iff]
        simp [List.cons_lt_cons_iff]
def coOf : Co → CmpOp
  | .eq => .Eq | .ne => .NotEq | .lt => .Lt | .le => .LtE | .gt => .Gt | .ge => .GtE | .is_ => .Is | .isnot => .IsNot | .in_ => .In | .notin => .NotIn
theorem op_cmpD (hu : X.A.units + 65 < cLine) (o : Co) : OpR X (compareOp (coOf o)) (rD X.K p (cmpD o)) := by
  intro pins s0 σ H x y v u Q I rx ry h
  obtain ⟨W, μ, s, d, e, r, vd, ud, ve, ue, h⟩ := h
  cases o with
  | eq =>
    obtain ⟨b, hb, q⟩ := Post.oB (show Post X.K p W μ s H (oB (eqD d e s) s) (QV X.K Q) from h) r
    exact (eq_ok hu I rx ry r vd ve hb).1 q
  | ne =>
    obtain ⟨b, hb, q⟩ := Post.oB (show Post X.K p W μ s H (oB ((eqD d e s).map (!·)) s) (QV X.K Q) from h) r
    cases he : eqD d e s with
    | none => rw [he] at hb; cases hb
    | some c =>
      rw [he] at hb
      cases hb
      exact (eq_ok hu I rx ry r vd ve he).2 q
  | is_ =>
    obtain ⟨b, hb, q⟩ := Post.oB (show Post X.K p W μ s H (oB (isD d e) s) (QV X.K Q) from h) r
    exact (is_ok I rx ry vd ve hb).1 q
  | isnot =>
    obtain ⟨b, hb, q⟩ := Post.oB (show Post X.K p W μ s H (oB ((isD d e).map (!·)) s) (QV X.K Q) from h) r
    cases he : isD d e with
    | none => rw [he] at hb; cases hb
    | some c =>
      rw [he] at hb
      cases hb
      exact (is_ok I rx ry vd ve he).2 q
  | in_ =>
    obtain ⟨b, hb, q⟩ := Post.oB (show Post X.K p W μ s H (oB (inD d e s) s) (QV X.K Q) from h) r
    exact (in_ok hu I rx ry r vd ve hb).1 q
  | notin =>
    obtain ⟨b, hb, q⟩ := Post.oB (show Post X.K p W μ s H (oB ((inD d e s).map (!·)) s) (QV X.K Q) from h) r
    cases he : inD d e s with
    | none => rw [he] at hb; cases hb
    | some c =>
      rw [he] at hb
      cases hb
      exact (in_ok hu I rx ry r vd ve he).2 q
  | lt =>
    cases d with
    | int i =>
      cases e with
      | int j =>
        cases (show x = .int i from vd)
        cases (show y = .int j from ve)
        exact op_lt pins s0 σ H _ _ v u Q I rx ry ⟨i, j, rfl, rfl, h.ok r _ rfl rfl⟩
      | _ => exact h.elim
    | str i =>
      cases e with
      | str j =>
        cases (show x = _ from vd)
        cases (show y = _ from ve)
        refine op_lt_str pins s0 σ H _ _ v u Q I rx ry ⟨_, _, rfl, rfl, ?_⟩
        have q := h.ok r _ rfl rfl
        rw [strLt_iff] at q
        exact q
      | _ => exact h.elim
    | _ => cases e <;> exact h.elim
  | le =>
    cases d with
    | int i =>
      cases e with
      | int j =>
        cases (show x = .int i from vd)
        cases (show y = .int j from ve)
        exact op_le pins s0 σ H _ _ v u Q I rx ry ⟨i, j, rfl, rfl, h.ok r _ rfl rfl⟩
      | _ => exact h.elim
    | _ => cases e <;> exact h.elim
  | gt =>
    cases d with
    | int i =>
      cases e with
      | int j =>
        cases (show x = .int i from vd)
        cases (show y = .int j from ve)
        exact op_gt pins s0 σ H _ _ v u Q I rx ry ⟨i, j, rfl, rfl, h.ok r _ rfl rfl⟩
      | _ => exact h.elim
    | _ => cases e <;> exact h.elim
  | ge =>
    cases d with
    | int i =>
      cases e with
      | int j =>
        cases (show x = .int i from vd)
        cases (show y = .int j from ve)
        exact op_ge pins s0 σ H _ _ v u Q I rx ry ⟨i, j, rfl, rfl, h.ok r _ rfl rfl⟩
      | _ => exact h.elim
    | _ => cases e <;> exact h.elim
end
end Ev

set_option linter.all false
set_option maxRecDepth 100000
set_option maxHeartbeats 1000000
/-! Ev4: truth, isinstance, subscripts, built-ins, methods, stores. -/
namespace Ev
open PySem L2
section
variable {K : PySem.W.Frag} {p : Pl} {W : WE} {μ : Mu} {s : S} {H : Hp}
theorem Post.val {d : D} {v : V} {Q : VK} (h : Post K p W μ s H (.ok d s) (QV K Q)) (r : SR K μ H s) (hv : VR K μ H d v) (u : d.under s.len = true) : Q v H := Post.ok h r v hv u
theorem Post.val' {d : D} {v : V} {Q : VK} {H' : Hp} (h : Post K p W μ s H (.ok d s) (QV K Q)) (e : Ext μ s H μ s H') (r : SR K μ H' s) (hv : VR K μ H' d v) (u : d.under s.len = true) : Q v H' := h μ H' e r v hv u
theorem isEmpty_of' {xs : List D} {vs : List V} (h : VRs K μ H xs vs) : vs.isEmpty = xs.isEmpty := by
  cases xs with
  | nil => cases (show _ = [] from h); rfl
  | cons x r => obtain ⟨v, q, rfl, _, _⟩ := h; rfl
theorem VRs.ints : ∀ ns : List Int, VRs K μ H (ns.map D.int) (ns.map V.int)
  | [] => rfl
  | i :: ns => ⟨.int i, _, rfl, rfl, VRs.ints ns⟩
theorem truthy_ok {d : D} {v : V} {Q : QA Bool} (r : SR K μ H s) (h : VR K μ H d v) (q : Post K p W μ s H (truthy d s) Q) : ∃ k, TruV K v H k ∧ Q k μ s H := by
  cases d with
  | non => cases (show v = _ from h); exact ⟨_, rfl, Post.ok q r⟩
  | bl b => cases (show v = _ from h); exact ⟨_, rfl, Post.ok q r⟩
  | int i => cases (show v = _ from h); exact ⟨_, rfl, Post.ok q r⟩
  | str x =>
    cases (show v = _ from h)
    have q : Post K p W μ s H (if x.length ≤ big then .ok (x.length != 0) s else .bad) Q := q
    by_cases hl : x.length ≤ big
    · rw [if_pos hl] at q
      refine ⟨_, ⟨by rw [strLen, ← big_eq]; exact hl, ?_⟩, Post.ok q r⟩
      rw [strLen]
      rw [Bool.eq_iff_iff]
      simp
    · rw [if_neg hl] at q
      exact q.elim
  | tup xs =>
    obtain ⟨a, vs, rfl, ta, hv⟩ := h
    exact ⟨!xs.isEmpty, .inr (.inl ⟨vs, ta, by rw [isEmpty_of' hv]⟩), Post.ok q r⟩
  | ref n =>
    cases (show v = _ from h)
    have q : Post K p W μ s H (match s.rd n with | some xs => .ok (!xs.isEmpty) s | none => .bad) Q := q
    cases e : s.rd n with
    | none => rw [e] at q; exact q.elim
    | some xs =>
      rw [e] at q
      obtain ⟨⟨vs, h1, h2⟩, _, _⟩ := r.rd e
      exact ⟨!xs.isEmpty, .inl ⟨vs, h1, by rw [isEmpty_of' h2]⟩, Post.ok q r⟩
  | kl ns => exact q.elim
/-! ### isinstance -/
def tyNm : Ty → String
  | .int => "int" | .bool => "bool" | .str => "str" | .tuple => "tuple" | .list => "list" | .dict => "dict"
theorem tyX_tup {a : Addr} {vs : List V} (h : SqT K H a vs) : TyX K H (.ref a) (.type "tuple") := by
  rcases h with (h | ⟨o, h⟩) | ⟨o, its, n, h1, h2, _⟩
  · exact .base (.tup h)
  · exact .fTuple h
  · exact .kTuple h1 h2
theorem isi_ok {d : D} {v : V} {t : Ty} {b : Bool} (r : SR K μ H s) (h : VR K μ H d v) (e : isiD d t s = some b) : ∃ ty, TyX K H v (.type ty) ∧ kitB ty (tyNm t) = some b := by
  cases d with
  | non =>
    cases (show v = _ from h)
    refine ⟨"NoneType", .base .non, ?_⟩
    cases t <;> (cases e; decide +kernel)
  | bl x =>
    cases (show v = _ from h)
    refine ⟨"bool", .base (.bl x), ?_⟩
    cases t <;> (cases e; decide +kernel)
  | int x =>
    cases (show v = _ from h)
    refine ⟨"int", .base (.int x), ?_⟩
    cases t <;> (cases e; decide +kernel)
  | str x =>
    cases (show v = _ from h)
    refine ⟨"str", .base (.str _), ?_⟩
    cases t <;> (cases e; decide +kernel)
  | tup xs =>
    obtain ⟨a, vs, rfl, ta, hv⟩ := h
    refine ⟨"tuple", tyX_tup ta, ?_⟩
    cases t <;> (cases e; decide +kernel)
  | kl ns => cases t <;> cases e
  | ref n =>
    cases (show v = _ from h)
    cases q : s.get n with
    | none =>
      have e : isiO (s.get n) t = some b := e
      rw [q] at e
      cases e
    | some o =>
      have e : isiO (s.get n) t = some b := e
      rw [q] at e
      cases o with
      | lst xs =>
        obtain ⟨vs, h1, h2⟩ := r.obj n _ q
        refine ⟨"list", .base (.lst h1), ?_⟩
        cases t <;> (cases e; decide +kernel)
      | _ => cases t <;> cases e
/-! ### subscripts -/
theorem ix_ok {d i : D} {x y : V} {Q : VK} (r : SR K μ H s) (h1 : VR K μ H d x) (u1 : d.under s.len = true) (h2 : VR K μ H i y) (q : Post K p W μ s H (idxD d i s) (QV K Q)) : rIx K x y H Q := by
  have pick : ∀ {xs : List D} {vs : List V} {j : Int}, VRs K μ H xs vs → D.unders s.len xs = true → Post K p W μ s H (oD (atD xs j) s) (QV K Q) → ∃ v, atI vs j = some v ∧ Q v H := fun {xs vs j} hv u q => by
    cases e : atD xs j with
    | none => rw [e] at q; exact q.elim
    | some z =>
      rw [e] at q
      have e2 : (ixN xs.length j).bind (fun k => xs[k]?) = some z := e
      cases e3 : ixN xs.length j with
      | none => rw [e3] at e2; cases e2
      | some k =>
        rw [e3] at e2
        have e2 : xs[k]? = some z := e2
        obtain ⟨v, g1, g2⟩ := hv.get e2
        refine ⟨v, ?_, Post.val (d := z) q r g2 (unders_iff.mp u z (List.mem_of_getElem? e2))⟩
        show (ixN vs.length j).bind (fun k => vs[k]?) = some v
        rw [← hv.length, e3]
        exact g1
  cases i with
  | int j =>
    cases (show y = _ from h2)
    cases d with
    | tup xs =>
      obtain ⟨a, vs, rfl, ta, hv⟩ := h1
      obtain ⟨v, g1, g2⟩ := pick hv u1 q
      exact .inr (.inl ⟨a, vs, j, v, rfl, rfl, ta, g1, g2⟩)
    | str z =>
      cases (show x = _ from h1)
      have q : Post K p W μ s H (if z.length ≤ big then oD ((atD z j).map fun c => .str [c]) s else .bad) (QV K Q) := q
      by_cases hl : z.length ≤ big
      · rw [if_pos hl] at q
        cases e : atD z j with
        | none => rw [e] at q; exact q.elim
        | some c =>
          rw [e] at q
          exact .inr (.inr ⟨_, j, c, rfl, rfl, by rw [strLen, ← big_eq]; exact hl, e, Post.val (d := .str [c]) q r rfl rfl⟩)
      · rw [if_neg hl] at q
        exact q.elim
    | ref n =>
      cases (show x = _ from h1)
      have q : Post K p W μ s H (match s.rd n with | some xs => oD (atD xs j) s | none => .bad) (QV K Q) := q
      cases e : s.rd n with
      | none => rw [e] at q; exact q.elim
      | some xs =>
        rw [e] at q
        obtain ⟨⟨vs, g1, g2⟩, u, _⟩ := r.rd e
        obtain ⟨v, g3, g4⟩ := pick g2 u q
        exact .inl ⟨_, vs, j, v, rfl, rfl, g1, g3, g4⟩
    | _ => exact q.elim
  | _ => cases d <;> exact q.elim
theorem cutIx_eq (n d : Nat) (o : Option Int) : cutIx n d o = HT.sIx n d o := by cases o <;> rfl
theorem cut_ok {xs : List D} {vs : List V} (h : VRs K μ H xs vs) (lo hi : Option Int) : VRs K μ H (cutD xs lo hi) (cutV vs lo hi) := by
  unfold cutD cutV
  rw [cutIx_eq, cutIx_eq, h.length]
  exact (h.drop _).take _
theorem cut_len {α : Type} (xs : List α) (lo hi : Option Int) : (cutD xs lo hi).length ≤ xs.length := by
  unfold cutD
  rw [List.length_take, List.length_drop]
  omega
theorem cut_mem {α : Type} {xs : List α} {lo hi : Option Int} {x : α} (h : x ∈ cutD xs lo hi) : x ∈ xs := List.mem_of_mem_drop (List.mem_of_mem_take h)
abbrev rSl (K : PySem.W.Frag) : V → Option Int → Option Int → Hp → VK → Prop := fun x lo hi H Q => rSlL K x lo hi H Q ∨ (rSlA K x lo hi H Q ∨ rSlS x lo hi H Q)
theorem sl_any {X : Cx} : SlR X (rSl X.K) := sl_list.or (sl_tupA.or sl_str)
theorem sl_ok {d : D} {x : V} {lo hi : Option Int} {Q : VK} (r : SR K μ H s) (h1 : VR K μ H d x) (u1 : d.under s.len = true) (q : Post K p W μ s H (slcD d lo hi s) (QV K Q)) : rSl K x lo hi H Q := by
  cases d with
  | tup xs =>
    obtain ⟨a, vs, rfl, ta, hv⟩ := h1
    have hc := cut_ok hv lo hi
    have uc : D.unders s.len (cutD xs lo hi) = true := unders_sub (xs := xs) u1 fun x hx => cut_mem hx
    have whole : ∀ a', SqT K H a' (cutV vs lo hi) → Q (.ref a') H := fun a' h => Post.val (d := .tup (cutD xs lo hi)) q r ⟨a', _, rfl, h, hc⟩ uc
    refine .inr (.inl ⟨a, vs, rfl, ta, fun hw => whole a ?_, fun _ q' hq => ?_⟩)
    · have e : cutV vs lo hi = vs := by
        unfold cutV
        rw [hw.1, hw.2]
        simp
      rw [e]
      exact ta
    · refine Post.val' (d := .tup (cutD xs lo hi)) q (ext_tup r hq) (r.tup hq) ⟨q', _, rfl, SqT.of upd_same, VRs.mono (ext_tup r hq) r _ _ uc hc⟩ uc
  | str z =>
    cases (show x = _ from h1)
    have q : Post K p W μ s H (if z.length ≤ big then .ok (.str (cutD z lo hi)) s else .bad) (QV K Q) := q
    by_cases hl : z.length ≤ big
    · rw [if_pos hl] at q
      refine .inr (.inr ⟨_, rfl, by rw [strLen, ← big_eq]; exact hl, ?_⟩)
      have e : cutS ⟨z.toArray⟩ lo hi = ⟨(cutD z lo hi).toArray⟩ := by
        unfold cutS cutD
        rw [cutIx_eq, cutIx_eq, strLen]
      rw [e]
      exact Post.val (d := .str (cutD z lo hi)) q r rfl rfl
    · rw [if_neg hl] at q
      exact q.elim
  | ref n =>
    cases (show x = _ from h1)
    have q : Post K p W μ s H (match s.rd n with | some xs => s.newL (cutD xs lo hi) | none => .bad) (QV K Q) := q
    cases e : s.rd n with
    | none => rw [e] at q; exact q.elim
    | some xs =>
      rw [e] at q
      obtain ⟨⟨vs, g1, g2⟩, u, _⟩ := r.rd e
      obtain ⟨_, h2⟩ := Post.newL q r (cut_ok g2 lo hi) (unders_sub u fun x hx => cut_mem hx)
      exact .inl ⟨_, vs, rfl, g1, h2⟩
  | kl ns =>
    obtain ⟨a, rfl, hk⟩ := h1
    obtain ⟨_, h2⟩ := Post.newL q r (cut_ok (VRs.ints ns) lo hi) (D.unders_pure _ _ (pures_iff.mpr fun x hx => by
      obtain ⟨i, _, e⟩ := List.mem_map.mp (cut_mem hx)
      rw [← e]
      rfl))
    exact .inl ⟨_, _, rfl, hk.sql, h2⟩
  | _ => exact q.elim
end
/-! ### built-ins -/
/-- a built-in's value -/
def biV : Bi → Value
  | .len => .builtin "len" | .tuple => .type "tuple" | .list => .type "list" | .int => .type "int" | .abs => .builtin "abs" | .min => .builtin "min" | .max => .builtin "max"
  | .all => .builtin "all" | .any => .builtin "any" | .sorted => .builtin "sorted" | .sum => .builtin "sum" | .str => .type "str" | .dict => .type "dict" | .bool => .type "bool"
def rB (K : PySem.W.Frag) (p : Pl) (f : Bi) : List V → Hp → VK → Prop := fun vs H Q => ∃ W μ s as, SR K μ H s ∧ VRs K μ H as vs ∧ D.unders s.len as = true ∧ Post K p W μ s H (biD f as s) (QV K Q)
section
variable {K : PySem.W.Frag} {μ : Mu} {H : Hp}
theorem asBls_ok : ∀ {xs : List D} {vs : List V} {bs : List Bool}, VRs K μ H xs vs → asBls xs = some bs → vs = bs.map V.bl
  | [], _, _, h, e => by cases (show _ = [] from h); cases e; rfl
  | d :: xs, _, bs, ⟨v, r, q, h1, h2⟩, e => by
    subst q
    cases d with
    | bl b =>
      cases (show v = _ from h1)
      have e : (asBls xs).map (b :: ·) = some bs := e
      cases e2 : asBls xs with
      | none => rw [e2] at e; cases e
      | some cs =>
        rw [e2] at e
        cases e
        rw [asBls_ok h2 e2]
        rfl
    | _ => cases e
theorem asInts_ok : ∀ {xs : List D} {vs : List V} {bs : List Int}, VRs K μ H xs vs → asInts xs = some bs → vs = bs.map V.int
  | [], _, _, h, e => by cases (show _ = [] from h); cases e; rfl
  | d :: xs, _, bs, ⟨v, r, q, h1, h2⟩, e => by
    subst q
    cases d with
    | int b =>
      cases (show v = _ from h1)
      have e : (asInts xs).map (b :: ·) = some bs := e
      cases e2 : asInts xs with
      | none => rw [e2] at e; cases e
      | some cs =>
        rw [e2] at e
        cases e
        rw [asInts_ok h2 e2]
        rfl
    | _ => cases e
theorem VRs.one {d : D} {vs : List V} (h : VRs K μ H [d] vs) : ∃ v, vs = [v] ∧ VR K μ H d v := by
  obtain ⟨v, r, rfl, h1, h2⟩ := h
  cases (show r = [] from h2)
  exact ⟨v, rfl, h1⟩
theorem VRs.two {d e : D} {vs : List V} (h : VRs K μ H [d, e] vs) : ∃ v u, vs = [v, u] ∧ VR K μ H d v ∧ VR K μ H e u := by
  obtain ⟨v, r, rfl, h1, h2⟩ := h
  obtain ⟨u, rfl, h3⟩ := VRs.one h2
  exact ⟨v, u, rfl, h1, h3⟩
end
theorem unders_one {n : Nat} {d : D} (h : D.unders n [d] = true) : d.under n = true := unders_iff.mp h d (List.mem_singleton.mpr rfl)
section
variable {X : Cx} {p : Pl}
abbrev OneOk (X : Cx) (p : Pl) (f : Value) (g : D → S → Out D) : Prop := ∀ (pins : List (Addr × Obj)) (s0 : Shared) (σ : L2.St) (H : Hp) (v : V) (us : List Value) (Q : VK) (W : WE) (μ : Mu) (s : S) (d : D), Inv X pins σ H s0 → Vals [v] us →
  SR X.K μ H s → VR X.K μ H d v → d.under s.len = true → Post X.K p W μ s H (g d s) (QV X.K Q) → wpAny (model X.prog X.w) X.A (call f us) (EP X pins σ Q) X.xe s0
abbrev TwoOk (X : Cx) (p : Pl) (f : Value) (g : D → D → S → Out D) : Prop := ∀ (pins : List (Addr × Obj)) (s0 : Shared) (σ : L2.St) (H : Hp) (v u : V) (us : List Value) (Q : VK) (W : WE) (μ : Mu) (s : S) (d e : D), Inv X pins σ H s0 → Vals [v, u] us →
  SR X.K μ H s → VR X.K μ H d v → VR X.K μ H e u → Post X.K p W μ s H (g d e s) (QV X.K Q) → wpAny (model X.prog X.w) X.A (call f us) (EP X pins σ Q) X.xe s0
theorem len_ok : OneOk X p (.builtin "len") lenD := by
  intro pins s0 σ H v us Q W μ s d I rx r hv ud h
  cases d with
  | tup ds =>
    obtain ⟨a, ws, rfl, ta, hw⟩ := hv
    refine call_len_seq pins s0 σ H _ us Q I rx ⟨a, ws, rfl, .inr ta, ?_⟩
    rw [← hw.length]
    exact Post.val h r rfl rfl
  | str z =>
    cases (show v = _ from hv)
    have h : Post X.K p W μ s H (if z.length ≤ big then .ok (.int z.length) s else .bad) (QV X.K Q) := h
    by_cases hl : z.length ≤ big
    · rw [if_pos hl] at h
      refine call_len_str pins s0 σ H _ us Q I rx ⟨_, rfl, by rw [strLen, ← big_eq]; exact hl, ?_⟩
      rw [strLen]
      exact Post.val h r rfl rfl
    · rw [if_neg hl] at h
      exact h.elim
  | ref n =>
    cases (show v = _ from hv)
    have h : Post X.K p W μ s H (match s.rd n with | some xs => .ok (.int xs.length) s | none => .bad) (QV X.K Q) := h
    cases e : s.rd n with
    | none => rw [e] at h; exact h.elim
    | some ds =>
      rw [e] at h
      obtain ⟨⟨ws, g1, g2⟩, _, _⟩ := r.rd e
      refine call_len_seq pins s0 σ H _ us Q I rx ⟨_, ws, rfl, .inl g1, ?_⟩
      rw [← g2.length]
      exact Post.val h r rfl rfl
  | _ => exact h.elim
theorem tuple_ok : OneOk X p (.type "tuple") tupleD := by
  intro pins s0 σ H v us Q W μ s d I rx r hv ud h
  cases d with
  | tup ds =>
    obtain ⟨a, ws, rfl, ta, hw⟩ := hv
    exact call_tuple_of pins s0 σ H _ us Q I rx ⟨a, ws, rfl, .inr ⟨ta, Post.val (d := .tup ds) h r ⟨a, ws, rfl, ta, hw⟩ ud⟩⟩
  | ref n =>
    cases (show v = _ from hv)
    have h : Post X.K p W μ s H (match s.rd n with | some xs => .ok (.tup xs) s | none => .bad) (QV X.K Q) := h
    cases e : s.rd n with
    | none => rw [e] at h; exact h.elim
    | some ds =>
      rw [e] at h
      obtain ⟨⟨ws, g1, g2⟩, u, _⟩ := r.rd e
      refine call_tuple_of pins s0 σ H _ us Q I rx ⟨_, ws, rfl, .inl ⟨g1, fun l hl => ?_⟩⟩
      exact Post.val' (d := .tup ds) h (ext_tup r hl) (r.tup hl) ⟨l, ws, rfl, SqT.of upd_same, VRs.mono (ext_tup r hl) r _ _ u g2⟩ u
  | _ => exact h.elim
theorem list_ok : OneOk X p (.type "list") listD := by
  intro pins s0 σ H v us Q W μ s d I rx r hv ud h
  cases d with
  | tup ds =>
    obtain ⟨a, ws, rfl, ta, hw⟩ := hv
    exact call_list_of pins s0 σ H _ us Q I rx ⟨a, ws, rfl, .inr ta, (Post.newL h r hw ud).2⟩
  | ref n =>
    cases (show v = _ from hv)
    have h : Post X.K p W μ s H (match s.rd n with | some xs => s.newL xs | none => .bad) (QV X.K Q) := h
    cases e : s.rd n with
    | none => rw [e] at h; exact h.elim
    | some ds =>
      rw [e] at h
      obtain ⟨⟨ws, g1, g2⟩, u, _⟩ := r.rd e
      exact call_list_of pins s0 σ H _ us Q I rx ⟨_, ws, rfl, .inl g1, (Post.newL h r g2 u).2⟩
  | _ => exact h.elim
theorem int_ok : OneOk X p (.type "int") intD := by
  intro pins s0 σ H v us Q W μ s d I rx r hv ud h
  cases d with
  | int i =>
    cases (show v = _ from hv)
    exact call_int1 pins s0 σ H _ us Q I rx (.inl ⟨i, rfl, Post.val h r rfl rfl⟩)
  | _ => exact h.elim
theorem abs_ok : OneOk X p (.builtin "abs") absD := by
  intro pins s0 σ H v us Q W μ s d I rx r hv ud h
  cases d with
  | int i =>
    cases (show v = _ from hv)
    refine call_abs pins s0 σ H _ us Q I rx ⟨i, rfl, ?_⟩
    have e : (if i < 0 then -i else i) = (i.natAbs : Int) := by split <;> omega
    rw [e]
    exact Post.val h r rfl rfl
  | _ => exact h.elim
theorem all_ok (hc : X.calm = true) : OneOk X p (.builtin "all") allD := by
  intro pins s0 σ H v us Q W μ s d I rx r hv ud h
  cases d with
  | ref n =>
    cases (show v = _ from hv)
    have h : Post X.K p W μ s H (match (s.rd n).bind asBls with | some bs => .ok (.bl (bs.all id)) s | none => .bad) (QV X.K Q) := h
    cases e : s.rd n with
    | none => rw [e] at h; exact h.elim
    | some ds =>
      rw [e] at h
      obtain ⟨⟨ws, g1, g2⟩, _, _⟩ := r.rd e
      have h : Post X.K p W μ s H (match asBls ds with | some bs => .ok (.bl (bs.all id)) s | none => .bad) (QV X.K Q) := h
      cases e2 : asBls ds with
      | none => rw [e2] at h; exact h.elim
      | some bs =>
        rw [e2] at h
        rw [asBls_ok g2 e2] at g1
        exact cr_all hc pins s0 σ H _ us Q I rx ⟨_, bs, rfl, g1, Post.val h r rfl rfl⟩
  | _ => exact h.elim
theorem any_ok (hc : X.calm = true) : OneOk X p (.builtin "any") anyD := by
  intro pins s0 σ H v us Q W μ s d I rx r hv ud h
  cases d with
  | ref n =>
    cases (show v = _ from hv)
    have h : Post X.K p W μ s H (match (s.rd n).bind asBls with | some bs => .ok (.bl (bs.any id)) s | none => .bad) (QV X.K Q) := h
    cases e : s.rd n with
    | none => rw [e] at h; exact h.elim
    | some ds =>
      rw [e] at h
      obtain ⟨⟨ws, g1, g2⟩, _, _⟩ := r.rd e
      have h : Post X.K p W μ s H (match asBls ds with | some bs => .ok (.bl (bs.any id)) s | none => .bad) (QV X.K Q) := h
      cases e2 : asBls ds with
      | none => rw [e2] at h; exact h.elim
      | some bs =>
        rw [e2] at h
        rw [asBls_ok g2 e2] at g1
        exact cr_any hc pins s0 σ H _ us Q I rx ⟨_, bs, rfl, g1, Post.val h r rfl rfl⟩
  | _ => exact h.elim
theorem sum_ok (hc : X.calm = true) : OneOk X p (.builtin "sum") sumD := by
  intro pins s0 σ H v us Q W μ s d I rx r hv ud h
  cases d with
  | ref n =>
    cases (show v = _ from hv)
    have h : Post X.K p W μ s H (match (s.rd n).bind asInts with | some bs => .ok (.int bs.sum) s | none => .bad) (QV X.K Q) := h
    cases e : s.rd n with
    | none => rw [e] at h; exact h.elim
    | some ds =>
      rw [e] at h
      obtain ⟨⟨ws, g1, g2⟩, _, _⟩ := r.rd e
      have h : Post X.K p W μ s H (match asInts ds with | some bs => .ok (.int bs.sum) s | none => .bad) (QV X.K Q) := h
      cases e2 : asInts ds with
      | none => rw [e2] at h; exact h.elim
      | some bs =>
        rw [e2] at h
        rw [asInts_ok g2 e2] at g1
        exact cr_sum hc pins s0 σ H _ us Q I rx ⟨_, bs, rfl, g1, Post.val h r rfl rfl⟩
  | _ => exact h.elim
theorem min_ok (hc : X.calm = true) : TwoOk X p (.builtin "min") minD := by
  intro pins s0 σ H v u us Q W μ s d e I rx r hv hu h
  cases d with
  | int i =>
    cases e with
    | int j =>
      cases (show v = _ from hv)
      cases (show u = _ from hu)
      exact call_min2 hc pins s0 σ H _ us Q I rx ⟨i, j, rfl, Post.val h r rfl rfl⟩
    | _ => exact h.elim
  | _ => cases e <;> exact h.elim
theorem max_ok (hc : X.calm = true) : TwoOk X p (.builtin "max") maxD := by
  intro pins s0 σ H v u us Q W μ s d e I rx r hv hu h
  cases d with
  | int i =>
    cases e with
    | int j =>
      cases (show v = _ from hv)
      cases (show u = _ from hu)
      exact call_max2 hc pins s0 σ H _ us Q I rx ⟨i, j, rfl, Post.val h r rfl rfl⟩
    | _ => exact h.elim
  | _ => cases e <;> exact h.elim
theorem cr_of1 {f : Value} {g : D → S → Out D} (o : OneOk X p f g) : CallR X f (fun vs H Q => ∃ W μ s as, SR X.K μ H s ∧ VRs X.K μ H as vs ∧ D.unders s.len as = true ∧ Post X.K p W μ s H (un1 g as s) (QV X.K Q)) := by
  intro pins s0 σ H xs us Q I rx h
  obtain ⟨W, μ, s, as, r, vs, ud, h⟩ := h
  match as, vs, ud, h with
  | [d], vs, ud, h =>
    obtain ⟨v, rfl, hv⟩ := VRs.one vs
    exact o pins s0 σ H v us Q W μ s d I rx r hv (unders_one ud) h
  | [], _, _, h => exact h.elim
  | _ :: _ :: _, _, _, h => exact h.elim
theorem cr_of2 {f : Value} {g : D → D → S → Out D} (o : TwoOk X p f g) : CallR X f (fun vs H Q => ∃ W μ s as, SR X.K μ H s ∧ VRs X.K μ H as vs ∧ D.unders s.len as = true ∧ Post X.K p W μ s H (un2 g as s) (QV X.K Q)) := by
  intro pins s0 σ H xs us Q I rx h
  obtain ⟨W, μ, s, as, r, vs, ud, h⟩ := h
  match as, vs, ud, h with
  | [d, e], vs, ud, h =>
    obtain ⟨v, u, rfl, hv, hu⟩ := VRs.two vs
    exact o pins s0 σ H v u us Q W μ s d e I rx r hv hu h
  | [], _, _, h => exact h.elim
  | [_], _, _, h => exact h.elim
  | _ :: _ :: _ :: _, _, _, h => exact h.elim
theorem call_bi (hc : X.calm = true) (f : Bi) : CallR X (biV f) (rB X.K p f) := by
  have no : ∀ {f : Value}, CallR X f (fun vs H Q => ∃ (W : WE) (μ : Mu) (s : S) (as : List D), SR X.K μ H s ∧ VRs X.K μ H as vs ∧ D.unders s.len as = true ∧ Post X.K p W μ s H (.bad : Out D) (QV X.K Q)) := fun pins s0 σ H xs us Q I rx ⟨_, _, _, _, _, _, _, h⟩ => h.elim
  cases f
  · exact cr_of1 len_ok
  · exact cr_of1 tuple_ok
  · exact cr_of1 list_ok
  · exact cr_of1 int_ok
  · exact cr_of1 abs_ok
  · exact cr_of2 (min_ok hc)
  · exact cr_of2 (max_ok hc)
  · exact cr_of1 (all_ok hc)
  · exact cr_of1 (any_ok hc)
  · exact no
  · exact cr_of1 (sum_ok hc)
  · exact no
  · exact no
  · exact no
/-! ### methods of lists; stores -/
theorem seqIx0 {n : Nat} (h : 0 < n) : seqIndex? 0 n = some 0 := by
  obtain ⟨h1, _⟩ := ixN_seq (n := n) (i := 0) (j := 0) (by unfold ixN; rw [if_pos (by omega), if_pos (by omega)]; rfl)
  exact h1
def rLM (K : PySem.W.Frag) (p : Pl) (m : String) : V → List V → Hp → VK → Prop := fun v vs H Q => ∃ W μ s d as, SR K μ H s ∧ VR K μ H d v ∧ VRs K μ H as vs ∧ D.unders s.len as = true ∧ Post K p W μ s H (methD d m as s) (QV K Q)
theorem lm_parts {K : PySem.W.Frag} {m : String} {v : V} {vs : List V} {H : Hp} {Q : VK} (h : rLM K p m v vs H Q) : ∃ W μ s n as xs ws, SR K μ H s ∧ v = .ref (μ n) ∧ VRs K μ H as vs ∧ D.unders s.len as = true ∧ s.lst n = some xs ∧ H (μ n) = some (.lst ws) ∧ VRs K μ H xs ws ∧ D.unders s.len xs = true ∧
    Post K p W μ s H (if m = "append" then (match as with | [x] => if xs.length < big then .ok .non (s.put n (.lst (xs ++ [x])) x) else .bad | _ => .bad)
      else if m = "extend" then (match as with | [.ref k] => (match s.lst k with | some ys => if xs.length + ys.length ≤ big then .ok .non (s.puts n (.lst (xs ++ ys)) ys) else .bad | none => .bad) | _ => .bad)
      else if m = "pop" then (match as with
        | [] => (match xs.getLast? with | some y => .ok y (s.put n (.lst xs.dropLast) .non) | none => .bad)
        | [.int 0] => (match xs with | y :: r => .ok y (s.put n (.lst r) .non) | [] => .bad)
        | _ => .bad)
      else .bad) (QV K Q) := by
  obtain ⟨W, μ, s, d, as, r, vd, va, ua, h⟩ := h
  cases d with
  | ref n =>
    cases e : s.lst n with
    | none =>
      unfold methD at h
      simp only [e] at h
      exact h.elim
    | some xs =>
      unfold methD at h
      simp only [e] at h
      obtain ⟨⟨ws, g1, g2⟩, u, _⟩ := r.lst e
      exact ⟨W, μ, s, n, as, xs, ws, r, vd, va, ua, e, g1, g2, u, h⟩
  | _ => exact h.elim
theorem mt_appD : MtR X "list.append" (rLM X.K p "append") := by
  intro pins s0 σ H x xs v us Q I rx rxs h
  have h0 := lm_parts h
  clear h
  obtain ⟨W, μ, s, n, as, ys, ws, r, rfl, va, ua, e, g1, g2, u, h⟩ := h0
  rw [if_pos rfl] at h
  match as, va, ua, h with
  | [d], va, ua, h =>
    obtain ⟨y, rfl, hy⟩ := VRs.one va
    have h : Post X.K p W μ s H (if ys.length < big then .ok .non (s.put n (.lst (ys ++ [d])) d) else .bad) (QV X.K Q) := h
    by_cases hl : ys.length < big
    · rw [if_pos hl, put_eq] at h
      have ud := unders_one ua
      have hu : ∀ b, n < b → D.unders b ys = true → D.unders b [d] = true → D.unders b (ys ++ [d]) = true := fun b _ h1 h2 => unders_append h1 h2
      refine mt_append pins s0 σ H _ _ v us Q I rx rxs ⟨_, ws, y, rfl, rfl, g1, by rw [← g2.length, ← big_eq]; exact hl, ?_⟩
      exact h _ _ (ext_puts r e hu) (r.puts e hu (g2.append ⟨y, [], rfl, hy, rfl⟩) (unders_append u ua)) _ rfl rfl
    · rw [if_neg hl] at h
      exact h.elim
  | [], _, _, h => exact h.elim
  | _ :: _ :: _, _, _, h => exact h.elim
theorem mt_extD : MtR X "list.extend" (rLM X.K p "extend") := by
  intro pins s0 σ H x xs v us Q I rx rxs h
  have h0 := lm_parts h
  clear h
  obtain ⟨W, μ, s, n, as, ys, ws, r, rfl, va, ua, e, g1, g2, u, h⟩ := h0
  rw [if_neg (by decide), if_pos rfl] at h
  match as, va, ua, h with
  | [.ref k], va, ua, h =>
    obtain ⟨y, rfl, hy⟩ := VRs.one va
    cases (show y = _ from hy)
    have h : Post X.K p W μ s H (match s.lst k with | some zs => if ys.length + zs.length ≤ big then .ok .non (s.puts n (.lst (ys ++ zs)) zs) else .bad | none => .bad) (QV X.K Q) := h
    cases e2 : s.lst k with
    | none => rw [e2] at h; exact h.elim
    | some zs =>
      rw [e2] at h
      obtain ⟨⟨ts, g3, g4⟩, u2, _⟩ := r.lst e2
      have h : Post X.K p W μ s H (if ys.length + zs.length ≤ big then .ok .non (s.puts n (.lst (ys ++ zs)) zs) else .bad) (QV X.K Q) := h
      by_cases hl : ys.length + zs.length ≤ big
      · rw [if_pos hl] at h
        have hu : ∀ b, n < b → D.unders b ys = true → D.unders b zs = true → D.unders b (ys ++ zs) = true := fun b _ h1 h2 => unders_append h1 h2
        refine mt_extend pins s0 σ H _ _ v us Q I rx rxs ⟨_, _, ws, ts, rfl, rfl, g1, g3, by rw [← g2.length, ← g4.length, ← big_eq]; exact hl, ?_⟩
        exact h _ _ (ext_puts r e hu) (r.puts e hu (g2.append g4) (unders_append u u2)) _ rfl rfl
      · rw [if_neg hl] at h
        exact h.elim
  | [], _, _, h => exact h.elim
  | .non :: _, _, _, h => exact h.elim
  | .bl _ :: _, _, _, h => exact h.elim
  | .int _ :: _, _, _, h => exact h.elim
  | .str _ :: _, _, _, h => exact h.elim
  | .tup _ :: _, _, _, h => exact h.elim
  | .kl _ :: _, _, _, h => exact h.elim
  | .ref _ :: _ :: _, _, _, h => exact h.elim
theorem mt_popD0 : MtR X "list.pop" (fun v vs H Q => vs = [] ∧ rLM X.K p "pop" v vs H Q) := by
  intro pins s0 σ H x xs v us Q I rx rxs h
  obtain ⟨hnil, h⟩ := h
  have h0 := lm_parts h
  clear h
  obtain ⟨W, μ, s, n, as, ys, ws, r, rfl, va, ua, e, g1, g2, u, h⟩ := h0
  subst hnil
  cases as with
  | cons a q => obtain ⟨_, _, z, _⟩ := va; cases z
  | nil =>
    rw [if_neg (by decide), if_neg (by decide), if_pos rfl] at h
    have h : Post X.K p W μ s H (match ys.getLast? with | some y => .ok y (s.put n (.lst ys.dropLast) .non) | none => .bad) (QV X.K Q) := h
    cases e2 : ys.getLast? with
    | none => rw [e2] at h; exact h.elim
    | some d =>
      rw [e2] at h
      have h : Post X.K p W μ s H (.ok d (s.put n (.lst ys.dropLast) .non)) (QV X.K Q) := h
      rw [put_eq] at h
      rw [List.getLast?_eq_getElem?] at e2
      obtain ⟨y, q1, q2⟩ := g2.get e2
      rw [g2.length] at q1
      have hs : ∀ x ∈ ys.dropLast, x ∈ ys := fun x hx => List.dropLast_subset ys hx
      have hu : ∀ b, n < b → D.unders b ys = true → D.unders b [D.non] = true → D.unders b ys.dropLast = true := fun b _ h1 _ => unders_sub h1 hs
      refine mt_pop pins s0 σ H _ _ v us Q I rx rxs ⟨_, ws, y, rfl, rfl, g1, q1, ?_⟩
      have ex := ext_puts (o := HO.lst ws.dropLast) (zs := [D.non]) r e hu
      have ud := unders_iff.mp u d (List.mem_of_getElem? e2)
      exact h _ _ ex (r.puts e hu g2.dropLast (unders_sub u hs)) _ (VR.mono ex r d y ud q2) (by rw [len_puts]; exact ud)
theorem mt_popD1 : MtR X "list.pop" (fun v vs H Q => vs = [.int 0] ∧ rLM X.K p "pop" v vs H Q) := by
  intro pins s0 σ H x xs v us Q I rx rxs h
  obtain ⟨hnil, h⟩ := h
  have h0 := lm_parts h
  clear h
  obtain ⟨W, μ, s, n, as, ys, ws, r, rfl, va, ua, e, g1, g2, u, h⟩ := h0
  subst hnil
  rw [if_neg (by decide), if_neg (by decide), if_pos rfl] at h
  match as, va, ua, h with
  | [.int i], va, ua, h =>
    obtain ⟨y, q, hy⟩ := VRs.one va
    cases (show y = _ from hy)
    have : (0 : Int) = i := V.int.inj (List.cons.inj q).1
    subst this
    cases ys with
    | nil => exact h.elim
    | cons d ys =>
      have h : Post X.K p W μ s H (.ok d (s.put n (.lst ys) .non)) (QV X.K Q) := h
      rw [put_eq] at h
      obtain ⟨y, rs, rfl, q2, q3⟩ := g2
      have hs : ∀ x ∈ ys, x ∈ d :: ys := fun x hx => List.mem_cons_of_mem _ hx
      have hu : ∀ b, n < b → D.unders b (d :: ys) = true → D.unders b [D.non] = true → D.unders b ys = true := fun b _ h1 _ => unders_sub h1 hs
      refine mt_popAt pins s0 σ H _ _ v us Q I rx rxs ⟨_, y :: rs, 0, 0, y, rfl, rfl, g1, by decide, by decide, seqIx0 (Nat.succ_pos _), rfl, ?_⟩
      have ex := ext_puts (o := HO.lst rs) (zs := [D.non]) r e hu
      have ud := unders_iff.mp u d (List.mem_cons_self ..)
      exact h _ _ ex (r.puts e hu q3 (unders_sub u hs)) _ (VR.mono ex r d y ud q2) (by rw [len_puts]; exact ud)
  | [], va, _, _ => cases va
  | .non :: _, _, _, h => exact h.elim
  | .bl _ :: _, _, _, h => exact h.elim
  | .str _ :: _, _, _, h => exact h.elim
  | .tup _ :: _, _, _, h => exact h.elim
  | .ref _ :: _, _, _, h => exact h.elim
  | .kl _ :: _, _, _, h => exact h.elim
  | .int _ :: _ :: _, va, _, h => 
    obtain ⟨_, _, q, _, _, _, q2, _⟩ := va
    subst q2
    cases q
/-- o[i] = v -/
def rSet (K : PySem.W.Frag) (p : Pl) : TSet := fun o i v H Q => ∃ W μ s d e x, SR K μ H s ∧ VR K μ H d o ∧ VR K μ H e i ∧ VR K μ H x v ∧ x.under s.len = true ∧ Post K p W μ s H (setD d e x s) (fun _ _ _ H' => Q H')
theorem set_ok : PSet X (rSet X.K p) := by
  intro pins s0 σ H o i v ov iv u Q I ro ri rv h
  obtain ⟨W, μ, s, d, e, x, r, vd, ve, vx, ux, h⟩ := h
  cases d with
  | ref n =>
    cases e with
    | int k =>
      cases (show o = _ from vd)
      cases (show i = _ from ve)
      have h : Post X.K p W μ s H (match s.lst n with | some xs => (match ixOf xs.length k with | some j => .ok () (s.put n (.lst (xs.set j x)) x) | none => .bad) | none => .bad) (fun _ _ _ H' => Q H') := h
      cases e1 : s.lst n with
      | none => rw [e1] at h; exact h.elim
      | some xs =>
        rw [e1] at h
        obtain ⟨⟨ws, g1, g2⟩, uu, _⟩ := r.lst e1
        have h : Post X.K p W μ s H (match ixOf xs.length k with | some j => .ok () (s.put n (.lst (xs.set j x)) x) | none => .bad) (fun _ _ _ H' => Q H') := h
        cases e2 : ixOf xs.length k with
        | none => rw [e2] at h; exact h.elim
        | some j =>
          rw [e2] at h
          have h : Post X.K p W μ s H (.ok () (s.put n (.lst (xs.set j x)) x)) (fun _ _ _ H' => Q H') := h
          rw [put_eq] at h
          have hset : ∀ b, D.unders b xs = true → x.under b = true → D.unders b (xs.set j x) = true := fun b h1 h2 => by
            rw [unders_iff] at *
            intro y hy
            rcases List.mem_or_eq_of_mem_set hy with q | q
            · exact h1 y q
            · subst q; exact h2
          have hu : ∀ b, n < b → D.unders b xs = true → D.unders b [x] = true → D.unders b (xs.set j x) = true := fun b _ h1 h2 => hset b h1 (unders_one h2)
          refine set_list pins s0 σ H _ _ v ov iv u Q I ro ri rv ⟨_, ws, k, j, rfl, rfl, g1, by rw [← g2.length]; exact e2, ?_⟩
          exact h _ _ (ext_puts r e1 hu) (r.puts e1 hu (g2.set j vx) (hset _ uu ux))
    | _ => exact h.elim
  | _ => cases e <;> exact h.elim
end
end Ev

set_option linter.all false
set_option maxRecDepth 100000
set_option maxHeartbeats 1000000
/-! Ev5: which IR fits which syntax; expressions. -/
namespace Ev
open PySem L2
def nm (x : String) : Str := Str.ofString x
def glB (sc : Scope) (x : Str) : Bool := decide (sc.names.lookup x = some .globalImplicit) && !(x == ("__debug__" : Str)) && !(x == ("__name__" : Str))
def visB (sc : Scope) (x : Str) : Bool := (match sc.names.lookup x with | some .local => true | some .cell => true | some .free => true | _ => false) && !(x == ("__debug__" : Str)) && !(x == ("__classdict__" : Str))
def biN : Bi → String
  | .len => "len" | .tuple => "tuple" | .list => "list" | .int => "int" | .abs => "abs" | .min => "min" | .max => "max"
  | .all => "all" | .any => "any" | .sorted => "sorted" | .sum => "sum" | .str => "str" | .dict => "dict" | .bool => "bool"
/-- a target: its names and their places -/
def tgNames : Expr → Option (List Str)
  | .Name x _ => some [x]
  | .Tuple es _ _ => es.foldr (fun e o => match e, o with
    | .Name x _, some l => some (x :: l)
    | _, _ => none) (some [])
  | _ => none
def isTup : Expr → Bool
  | .Tuple _ _ _ => true
  | _ => false
/-- a target fits: each a name of ours with its place; a loop's (locals or cells) -/
def tgB (N : List Str) (sc : Scope) (tg : List Nat) (t : Expr) (loc : Str → Bool) : Bool := match t with
  | .Name x _ => (match tg with
    | [i] => decide (N[i]? = some x) && loc x
    | _ => false)
  | .Tuple es _ _ => decide (2 ≤ tg.length) && decide (es.length = tg.length) && (es.zip tg).all fun p => match p.1 with
    | .Name x _ => decide (N[p.2]? = some x) && loc x
    | _ => false
  | _ => false
def locB (sc : Scope) (x : Str) : Bool := match sc.names.lookup x with | some .local => true | some .cell => true | _ => false
def notStar : Expr → Bool
  | .Starred _ _ => false
  | _ => true
def notSlice : Expr → Bool
  | .Slice _ _ _ _ => false
  | _ => true
/-- the one place of pop(0) -/
def pop0 : Es → Bool
  | .cons (.int 0) .nil => true
  | _ => false
mutual
def simE (N : List Str) (sc : Scope) : E → Expr → Bool
  | .v i, x => (match x with
    | .Name x _ => decide (N[i]? = some x) && visB sc x
    | _ => false)
  | .non, x => (match x with
    | .Constant .none _ _ => true
    | _ => false)
  | .bl b, x => (match x with
    | .Constant (.bool c) _ _ => b == c
    | _ => false)
  | .int i, x => (match x with
    | .Constant (.int j) _ _ => i == j
    | _ => false)
  | .str s, x => (match x with
    | .Constant (.str z) _ _ => decide (z = ⟨s.toArray⟩)
    | _ => false)
  | .g x, y => (match y with
    | .Name z _ => decide (z = nm x) && glB sc z
    | _ => false)
  | .tup es, x => (match x with
    | .Tuple xs _ _ => simEs N sc es xs
    | _ => false)
  | .lst es, x => (match x with
    | .List xs _ => simEs N sc es xs
    | _ => false)
  | .bin o a b, x => (match x with
    | .BinOp l op r _ => decide (op = opOf o) && simE N sc a l && simE N sc b r
    | _ => false)
  | .neg a, x => (match x with
    | .UnaryOp .USub y _ => simE N sc a y
    | _ => false)
  | .cmp o a b, x => (match x with
    | .Compare l [op] [r] _ => decide (op = coOf o) && !(behindInMarks op r) && simE N sc a l && simE N sc b r
    | _ => false)
  | .chain o o' a b c, x => (match x with
    | .Compare l [op, op'] [r, r'] _ => decide (op = coOf o) && decide (op' = coOf o') && !(lastMarks [op, op'] [r, r']) && simE N sc a l && simE N sc b r && simE N sc c r'
    | _ => false)
  | .and a b, x => (match x with
    | .BoolOp .And [y, z] _ => simE N sc a y && simE N sc b z
    | .BoolOp .And (y :: z :: w :: r) p => simE N sc a y && simE N sc b (.BoolOp .And (z :: w :: r) p)
    | _ => false)
  | .or a b, x => (match x with
    | .BoolOp .Or [y, z] _ => simE N sc a y && simE N sc b z
    | .BoolOp .Or (y :: z :: w :: r) p => simE N sc a y && simE N sc b (.BoolOp .Or (z :: w :: r) p)
    | _ => false)
  | .not a, x => (match x with
    | .UnaryOp .Not y _ => simE N sc a y
    | _ => false)
  | .ite c a b, x => (match x with
    | .IfExp t y z _ => simE N sc c t && simE N sc a y && simE N sc b z
    | _ => false)
  | .call f es, x => (match x with
    | .Call (.Name z _) xs [] _ => decide (z = nm f) && glB sc z && simEs N sc es xs
    | _ => false)
  | .bi f es, x => (match x with
    | .Call (.Name z _) xs [] _ => decide (z = nm (biN f)) && glB sc z && !xs.isEmpty && simEs N sc es xs
    | _ => false)
  | .isi a t, x => (match x with
    | .Call (.Name z _) [y, .Name n _] [] _ => decide (z = nm "isinstance") && glB sc z && decide (n = nm (tyNm t)) && glB sc n && simE N sc a y
    | _ => false)
  | .lm o m es, x => (match x with
    | .Call (.Attribute y m' ap) xs [] cp => (match y with | .Name _ _ => true | _ => false) && decide (m' = nm m) && (ap.endLine == cp.line) && simE N sc o y && (m == "append" && xs.length == 1 || m == "extend" && xs.length == 1 || m == "pop" && xs.isEmpty || m == "pop" && pop0 es) && simEs N sc es xs
    | _ => false)
  | .idx a i, x => (match x with
    | .Subscript y z _ => notSlice z && simE N sc a y && simE N sc i z
    | _ => false)
  | .slc a lo hi, x => (match x with
    | .Subscript y (.Slice l h none _) _ => simE N sc a y && simO N sc lo l && simO N sc hi h
    | _ => false)
  | .lc tg it cs e, x => (match x with
    | .ListComp elt [⟨t, iter, ifs, 0⟩] scope _ => (match tgNames t with
      | some ns => blkC N sc scope (ns.zip tg) && decide (ns.length = tg.length) && tgB N (relS scope sc) tg t (locB scope) &&
        simI N sc it iter (isTup t) && simC N (relS scope sc) cs ifs && simE N (relS scope sc) e elt && (match iter with | .Set _ _ _ => false | _ => true)
      | none => false)
    | _ => false)
def simEs (N : List Str) (sc : Scope) : Es → List Expr → Bool
  | .nil, xs => xs.isEmpty
  | .cons e r, xs => (match xs with
    | x :: xs => notStar x && simE N sc e x && simEs N sc r xs
    | [] => false)
def simO (N : List Str) (sc : Scope) : Oe → Option Expr → Bool
  | .none, x => x.isNone
  | .some e, x => (match x with
    | some y => simE N sc e y
    | none => false)
def simC (N : List Str) (sc : Scope) : Oe → List Expr → Bool
  | .none, x => x.isEmpty
  | .some e, x => (match x with
    | [y] => simE N sc e y
    | _ => false)
/-- what is walked; tp: by a target that is a tuple -/
def simI (N : List Str) (sc : Scope) : IT → Expr → Bool → Bool
  | .plain e, x, _ => simE N sc e x && (match x with | .Call (.Name z _) _ _ _ => true | _ => true)
  | .range1 a, x, _ => (match x with
    | .Call (.Name z _) [y] [] _ => decide (z = nm "range") && glB sc z && notStar y && simE N sc a y
    | _ => false)
  | .range2 a b, x, _ => (match x with
    | .Call (.Name z _) [y, w] [] _ => decide (z = nm "range") && glB sc z && notStar y && notStar w && simE N sc a y && simE N sc b w
    | _ => false)
  | .enum a, x, tp => (match x with
    | .Call (.Name z _) [y] [] _ => tp && decide (z = nm "enumerate") && glB sc z && notStar y && simE N sc a y
    | _ => false)
end
/-! ### what stands around -/
/-- a def's promise -/
def spF (K : PySem.W.Frag) (p : Pl) (T : Tab) (d : Nat) (f : Fn) : Sp := fun vs H Q E => ∃ μ s as, SR K μ H s ∧ VRs K μ H as vs ∧ D.unders s.len as = true ∧ Post K p E μ s H (run T d f as s) (QV K Q)
structure Ok (P : Program) (w : World) (K : PySem.W.Frag) (mg : Str → Option Value) (base : Heap) (T : Tab) (p : Pl) (d : Nat) : Prop where
  fns : ∀ f fn, T.fns f = some fn → ∃ a fd ps, mg (nm f) = some (.ref a) ∧ PySem.W.keepIn K (.ref a) = true ∧ Binds K fd ps [] ∧ FnOk P w K mg base (L2.CX P w) d a fd ps (spF K p T d fn)
  gl : ∀ x v, T.gl x = some v → ∃ u val, mg (nm x) = some u ∧ RelV val u ∧ (∀ μ H, VR K μ H v val) ∧ v.pure = true
  bi : ∀ f, mg (nm (biN f)) = none
  ty : ∀ t, mg (nm (tyNm t)) = none
  isi : mg (nm "isinstance") = none
  rng : mg (nm "range") = none
  enu : mg (nm "enumerate") = none
structure Ctx (X : Cx) (T : Tab) (p : Pl) (d : Nat) (W : WX) : Prop where
  calm : X.calm = true
  nd : X.N.Nodup
  room : Room d X.A
  tk : Takes X W
  po : PassesOwn (model X.prog X.w) X.A X.env X.xe
  ok : Ok X.prog X.w X.K X.mg X.base T p d
section
variable {X : Cx} {T : Tab} {p : Pl} {d : Nat} {W : WX}
theorem Ctx.hu (c : Ctx X T p d W) : X.A.units + 65 < cLine := by have := c.room.un; omega
abbrev orc (T : Tab) (d : Nat) : Ocl := ⟨fun f => (T.fns f).map (run T d), T.gl⟩
abbrev atW (W : WX) (σ : L2.St) : WE := fun c dx H => W c dx σ H
/-- an expression's reading by the evaluator -/
def evT (X : Cx) (p : Pl) (W : WX) (m : En → S → Out D) : TE := fun σ H Q => ∃ μ s ρ, SR X.K μ H s ∧ ER X.K μ H s ρ σ ∧ Post X.K p (atW W σ) μ s H (m ρ s) (QV X.K Q)
def evTs (X : Cx) (p : Pl) (W : WX) (m : En → S → Out (List D)) : TA := fun σ H Q => ∃ μ s ρ, SR X.K μ H s ∧ ER X.K μ H s ρ σ ∧ Post X.K p (atW W σ) μ s H (m ρ s) (fun ds μ' s' H' => ∀ vs, VRs X.K μ' H' ds vs → D.unders s'.len ds = true → Q vs H')
def evTt (X : Cx) (p : Pl) (W : WX) (m : En → S → Out Bool) : TT := fun σ H Q => ∃ μ s ρ, SR X.K μ H s ∧ ER X.K μ H s ρ σ ∧ Post X.K p (atW W σ) μ s H (m ρ s) (fun b _ _ H' => Q b H')
def evTo (X : Cx) (p : Pl) (W : WX) (m : En → S → Out (Option Int)) : TO := fun σ H Q => ∃ μ s ρ, SR X.K μ H s ∧ ER X.K μ H s ρ σ ∧ Post X.K p (atW W σ) μ s H (m ρ s) (fun b _ _ H' => Q b H')
theorem PE.imp {x : Expr} {t t' : TE} (h : PE X x t) (i : ∀ σ H Q, t' σ H Q → t σ H Q) : PE X x t' := ⟨fun pins s σ H Q I q => h.run pins s σ H Q I (i _ _ _ q)⟩
theorem PA.imp {x : List Expr} {t t' : TA} (h : PA X x t) (i : ∀ σ H Q, t' σ H Q → t σ H Q) : PA X x t' := ⟨fun pos pins s σ H Q I q => h.run pos pins s σ H Q I (i _ _ _ q)⟩
theorem PT.imp {x : Expr} {t t' : TT} (h : PT X x t) (i : ∀ σ H Q, t' σ H Q → t σ H Q) : PT X x t' := ⟨fun pins s σ H Q I q => h.run pins s σ H Q I (i _ _ _ q)⟩
theorem PW.imp {x : Expr} {t t' : TT} (h : PW X x t) (i : ∀ σ H Q, t' σ H Q → t σ H Q) : PW X x t' := ⟨fun wh pins s σ H Q I q => h.run wh pins s σ H Q I (i _ _ _ q)⟩
theorem PO.imp {x : Option Expr} {t t' : TO} (h : PO X x t) (i : ∀ σ H Q, t' σ H Q → t σ H Q) : PO X x t' := ⟨fun pins s σ H Q I q => h.run pins s σ H Q I (i _ _ _ q)⟩
/-- one step further: a part has been evaluated -/
theorem stepE {m : En → S → Out D} {α : Type} {k : En → D → S → Out α} {σ : L2.St} {H : Hp} {μ : Mu} {s : S} {ρ : En} {Q : QA α} {R : V → Hp → Prop} (r : SR X.K μ H s) (e : ER X.K μ H s ρ σ) (h : Post X.K p (atW W σ) μ s H ((m ρ s).bind (k ρ)) Q)
    (go : ∀ x μ1 s1 H1 v, Ext μ s H μ1 s1 H1 → SR X.K μ1 H1 s1 → ER X.K μ1 H1 s1 ρ σ → VR X.K μ1 H1 x v → x.under s1.len = true → Post X.K p (atW W σ) μ1 s1 H1 (k ρ x s1) Q → R v H1) : evT X p W m σ H R :=
  ⟨μ, s, ρ, r, e, h.bind.imp fun x μ1 s1 H1 _ ex r1 q v hv u => go x μ1 s1 H1 v ex r1 (e.mono ex r) hv u q⟩
theorem stepEs {m : En → S → Out (List D)} {α : Type} {k : En → List D → S → Out α} {σ : L2.St} {H : Hp} {μ : Mu} {s : S} {ρ : En} {Q : QA α} {R : List V → Hp → Prop} (r : SR X.K μ H s) (e : ER X.K μ H s ρ σ) (h : Post X.K p (atW W σ) μ s H ((m ρ s).bind (k ρ)) Q)
    (go : ∀ x μ1 s1 H1 v, Ext μ s H μ1 s1 H1 → SR X.K μ1 H1 s1 → ER X.K μ1 H1 s1 ρ σ → VRs X.K μ1 H1 x v → D.unders s1.len x = true → Post X.K p (atW W σ) μ1 s1 H1 (k ρ x s1) Q → R v H1) : evTs X p W m σ H R :=
  ⟨μ, s, ρ, r, e, h.bind.imp fun x μ1 s1 H1 _ ex r1 q v hv u => go x μ1 s1 H1 v ex r1 (e.mono ex r) hv u q⟩
theorem stepB {m : En → S → Out Bool} {α : Type} {k : En → Bool → S → Out α} {σ : L2.St} {H : Hp} {μ : Mu} {s : S} {ρ : En} {Q : QA α} {R : Bool → Hp → Prop} (r : SR X.K μ H s) (e : ER X.K μ H s ρ σ) (h : Post X.K p (atW W σ) μ s H ((m ρ s).bind (k ρ)) Q)
    (go : ∀ x μ1 s1 H1, Ext μ s H μ1 s1 H1 → SR X.K μ1 H1 s1 → ER X.K μ1 H1 s1 ρ σ → Post X.K p (atW W σ) μ1 s1 H1 (k ρ x s1) Q → R x H1) : evTt X p W m σ H R :=
  ⟨μ, s, ρ, r, e, h.bind.imp fun x μ1 s1 H1 _ ex r1 q => go x μ1 s1 H1 ex r1 (e.mono ex r) q⟩
theorem stepO {m : En → S → Out (Option Int)} {α : Type} {k : En → Option Int → S → Out α} {σ : L2.St} {H : Hp} {μ : Mu} {s : S} {ρ : En} {Q : QA α} {R : Option Int → Hp → Prop} (r : SR X.K μ H s) (e : ER X.K μ H s ρ σ) (h : Post X.K p (atW W σ) μ s H ((m ρ s).bind (k ρ)) Q)
    (go : ∀ x μ1 s1 H1, Ext μ s H μ1 s1 H1 → SR X.K μ1 H1 s1 → ER X.K μ1 H1 s1 ρ σ → Post X.K p (atW W σ) μ1 s1 H1 (k ρ x s1) Q → R x H1) : evTo X p W m σ H R :=
  ⟨μ, s, ρ, r, e, h.bind.imp fun x μ1 s1 H1 _ ex r1 q => go x μ1 s1 H1 ex r1 (e.mono ex r) q⟩
/-! ### the parts -/
theorem and3 {a b : Bool} (h : (a && b) = true) : a = true ∧ b = true := Bool.and_eq_true_iff.mp h
theorem not_eq {a : Bool} (h : (!a) = true) : a = false := by cases a <;> first | rfl | cases h
theorem gl_of {sc : Scope} {x : Str} (h : glB sc x = true) : sc.names.lookup x = some .globalImplicit ∧ (x == ("__debug__" : Str)) = false ∧ x ≠ "__name__" := by
  obtain ⟨h, h3⟩ := and3 h
  obtain ⟨h1, h2⟩ := and3 h
  refine ⟨of_decide_eq_true h1, not_eq h2, fun e => ?_⟩
  rw [e] at h3
  have : (("__name__" : Str) == ("__name__" : Str)) = true := beq_self_eq_true _
  rw [this] at h3
  cases h3
theorem vis_of {sc : Scope} {x : Str} (h : visB sc x = true) : Vis sc x ∧ (x == ("__debug__" : Str)) = false ∧ (x == ("__classdict__" : Str)) = false := by
  obtain ⟨h, h3⟩ := and3 h
  obtain ⟨h1, h2⟩ := and3 h
  refine ⟨?_, not_eq h2, not_eq h3⟩
  split at h1
  · exact .inl (by assumption)
  · exact .inr (.inl (by assumption))
  · exact .inr (.inr (by assumption))
  · cases h1
theorem star_cons {e : Expr} {es : List Expr} {env : Env} (h : notStar e = true) : starEach (e :: es) env = (false, eval e env) :: starEach es env := by
  cases e <;> first | rfl | cases h
theorem star_plain {N : List Str} {sc : Scope} {env : Env} {pos : Pos} : ∀ {es : Es} {xs : List Expr}, simEs N sc es xs = true → (backTo pos (starEach xs env)).any (·.1) = false
  | .nil, [], _ => rfl
  | .cons e r, x :: xs, h => by
    obtain ⟨h1, h2⟩ := and3 (show (notStar x && simE N sc e x && simEs N sc r xs) = true from h)
    obtain ⟨h3, _⟩ := and3 h1
    rw [star_cons h3]
    have ih := star_plain (env := env) (pos := pos) h2
    simpa [backTo] using ih
theorem name_eval {x : Str} {pos : Pos} {env : Env} {w : Sem Value} {at_ : Str} : attributeBase (.Name x pos) at_ env w = w := rfl
end
end Ev

set_option linter.all false
set_option maxRecDepth 100000
set_option maxHeartbeats 1000000
/-! Ev6: expressions. -/
namespace Ev
open PySem L2
section
variable {X : Cx} {T : Tab} {p : Pl} {d : Nat} {W : WX}
theorem e_v {i : Nat} {x : Str} {pos : Pos} {O : Ocl} (h1 : X.N[i]? = some x) (h2 : visB X.env.scope x = true) : PE X (.Name x pos) (evT X p W (evE O (.v i))) := by
  obtain ⟨v1, v2, v3⟩ := vis_of h2
  refine PE.imp (pe_var h1 v1 v2 v3) fun σ H Q h => ?_
  obtain ⟨μ, s, ρ, r, e, h⟩ := h
  have h : Post X.K p (atW W σ) μ s H (match ρ[i]? with | some (some d) => .ok d s | _ => .bad) (QV X.K Q) := h
  split at h
  · rename_i d hd
    obtain ⟨v, g1, g2, g3⟩ := e.at_ i d hd
    exact ⟨v, g1, Post.val h r g2 g3⟩
  · exact h.elim
theorem e_c {x : Expr} {v : V} {d : D} {m : En → S → Out D} (hm : ∀ ρ s, m ρ s = .ok d s) (hv : ∀ μ H, VR X.K μ H d v) (hu : ∀ n, d.under n = true) (h : PE X x (tC v)) : PE X x (evT X p W m) := by
  refine PE.imp h fun σ H Q h => ?_
  obtain ⟨μ, s, ρ, r, e, h⟩ := h
  rw [hm] at h
  exact Post.val h r (hv μ H) (hu _)
theorem e_g {x : String} {z : Str} {pos : Pos} {O : Ocl} (c : Ctx X T p d W) (hO : O = orc T d) (h1 : z = nm x) (h2 : glB X.env.scope z = true) : PE X (.Name z pos) (evT X p W (evE O (.g x))) := by
  obtain ⟨g1, g2, g3⟩ := gl_of h2
  cases hg : T.gl x with
  | none =>
    refine ⟨fun pins s σ H Q I h => ?_⟩
    obtain ⟨μ, s, ρ, r, e, h⟩ := h
    have h : Post X.K p (atW W σ) μ s H (oD (O.gl x) s) (QV X.K Q) := h
    rw [hO, show (orc T d).gl x = T.gl x from rfl, hg] at h
    exact h.elim
  | some v =>
    obtain ⟨u, val, q1, q2, q3, q4⟩ := c.ok.gl x v hg
    refine e_c (d := v) (v := val) (fun ρ s => ?_) q3 (fun n => D.under_pure n v q4) (pe_glob g1 (by rw [h1]; exact q1) q2 g2)
    show oD (O.gl x) s = .ok v s
    rw [hO, show (orc T d).gl x = T.gl x from rfl, hg]
    rfl
theorem e_tup {es : Es} {xs : List Expr} {k : Nat} {pos : Pos} {O : Ocl} (h : PA X xs (evTs X p W (evEs O es))) : PE X (.Tuple xs k pos) (evT X p W (evE O (.tup es))) := by
  refine PE.imp (pe_tup h) fun σ H Q h => ?_
  obtain ⟨μ, s, ρ, r, e, h⟩ := h
  refine stepEs (k := fun _ xs s => newT s xs) r e h fun ds μ1 s1 H1 vs ex r1 e1 hv u q => ?_
  obtain ⟨h1, _, h3⟩ := Post.tupN q r1 hv u
  exact ⟨by rw [← hv.length, ← big_eq]; exact h1, h3⟩
theorem e_lst {es : Es} {xs : List Expr} {pos : Pos} {O : Ocl} (h : PA X xs (evTs X p W (evEs O es))) : PE X (.List xs pos) (evT X p W (evE O (.lst es))) := by
  refine PE.imp (pe_lst h) fun σ H Q h => ?_
  obtain ⟨μ, s, ρ, r, e, h⟩ := h
  refine stepEs (k := fun _ xs s => s.newL xs) r e h fun ds μ1 s1 H1 vs ex r1 e1 hv u q => ?_
  obtain ⟨h1, h3⟩ := Post.newL q r1 hv u
  exact ⟨by rw [← hv.length, ← big_eq]; exact h1, h3⟩
theorem e_two {f : D → D → S → Out D} {r0 : R2} {ma mb : En → S → Out D} {ta tb : TE} {σ : L2.St} {H : Hp} {Q : VK} (ha : ta = evT X p W ma) (hb : tb = evT X p W mb) (hr : r0 = rD X.K p f)
    (h : evT X p W (fun ρ s => (ma ρ s).bind fun x s => (mb ρ s).bind fun y s => f x y s) σ H Q) : tOp r0 ta tb σ H Q := by
  subst ha hb hr
  obtain ⟨μ, s, ρ, r, e, h⟩ := h
  refine stepE (k := fun ρ x s => (mb ρ s).bind fun y s => f x y s) r e h fun x μ1 s1 H1 v ex r1 e1 hv u q => ?_
  refine stepE (k := fun ρ y s => f x y s) r1 e1 q fun y μ2 s2 H2 w ex2 r2 e2 hw uw q2 => ?_
  exact ⟨_, μ2, s2, x, y, r2, VR.mono ex2 r1 x v u hv, D.under_mono ex2.le x u, hw, uw, q2⟩
theorem e_bin {o : Bo} {a b : E} {l r : Expr} {pos : Pos} {O : Ocl} (ha : PE X l (evT X p W (evE O a))) (hb : PE X r (evT X p W (evE O b))) : PE X (.BinOp l (opOf o) r pos) (evT X p W (evE O (.bin o a b))) :=
  PE.imp (pe_op (op_binD (p := p) o) ha hb) fun σ H Q h => e_two rfl rfl rfl h
theorem e_neg {a : E} {l : Expr} {pos : Pos} {O : Ocl} (ha : PE X l (evT X p W (evE O a))) : PE X (.UnaryOp .USub l pos) (evT X p W (evE O (.neg a))) := by
  refine PE.imp (pe_un un_neg ha) fun σ H Q h => ?_
  obtain ⟨μ, s, ρ, r, e, h⟩ := h
  refine stepE (k := fun _ x s => (match x with | .int i => Out.ok (D.int (-i)) s | _ => .bad)) r e h fun x μ1 s1 H1 v ex r1 e1 hv u q => ?_
  cases x with
  | int i => cases (show v = _ from hv); exact ⟨i, rfl, Post.val q r1 rfl rfl⟩
  | _ => exact q.elim
theorem e_cmp {o : Co} {a b : E} {l r : Expr} {pos : Pos} {O : Ocl} (c : Ctx X T p d W) (hm : behindInMarks (coOf o) r = false) (ha : PE X l (evT X p W (evE O a))) (hb : PE X r (evT X p W (evE O b))) : PE X (.Compare l [coOf o] [r] pos) (evT X p W (evE O (.cmp o a b))) :=
  PE.imp (pe_cmpR (op_cmpD (p := p) c.hu o) ha hb hm) fun σ H Q h => e_two rfl rfl rfl h
theorem e_chain {o o' : Co} {a b c : E} {l r r' : Expr} {pos : Pos} {O : Ocl} (cx : Ctx X T p d W) (hm : lastMarks [coOf o, coOf o'] [r, r'] = false) (ha : PE X l (evT X p W (evE O a))) (hb : PE X r (evT X p W (evE O b))) (hc : PE X r' (evT X p W (evE O c))) :
    PE X (.Compare l [coOf o, coOf o'] [r, r'] pos) (evT X p W (evE O (.chain o o' a b c))) := by
  refine PE.imp (pe_chain (op_cmpD (p := p) cx.hu o) (op_cmpD (p := p) cx.hu o') ha hb hc hm) fun σ H Q h => ?_
  obtain ⟨μ, s, ρ, r, e, h⟩ := h
  refine stepE (k := fun ρ x s => (evE O b ρ s).bind fun y s => (cmpD o x y s).bind fun r s => (match r with
    | .bl true => (evE O c ρ s).bind fun z s => cmpD o' y z s
    | .bl false => .ok (.bl false) s
    | _ => .bad)) r e h fun x μ1 s1 H1 v ex r1 e1 hv u q => ?_
  refine stepE (k := fun ρ y s => (cmpD o x y s).bind fun r s => (match r with
    | .bl true => (evE O c ρ s).bind fun z s => cmpD o' y z s
    | .bl false => .ok (.bl false) s
    | _ => .bad)) r1 e1 q fun y μ2 s2 H2 w ex2 r2 e2 hw uw q2 => ?_
  refine ⟨_, μ2, s2, x, y, r2, VR.mono ex2 r1 x v u hv, D.under_mono ex2.le x u, hw, uw, q2.bind.imp fun z μ3 s3 H3 _ ex3 r3 q3 zv hz uz => ?_⟩
  cases z with
  | bl t =>
    cases (show zv = _ from hz)
    refine ⟨t, rfl, ?_⟩
    cases t with
    | false => exact Post.val q3 r3 rfl rfl
    | true =>
      rw [if_pos rfl]
      refine stepE (k := fun ρ z s => cmpD o' y z s) r3 (e2.mono ex3 r2) q3 fun z μ4 s4 H4 zv ex4 r4 e4 hz uz q4 => ?_
      exact ⟨_, μ4, s4, y, z, r4, VR.mono ex4 r3 y w (D.under_mono ex3.le y uw) (VR.mono ex3 r2 y w uw hw), D.under_mono ex4.le y (D.under_mono ex3.le y uw), hz, uz, q4⟩
  | _ => exact q3.elim
/-- and, or: the second part b fits what is left of the chain -/
theorem e_and {a b : E} {y z : Expr} {rest : List Expr} {pos : Pos} {O : Ocl} (ha : PE X y (evT X p W (evE O a))) (hb : PE X (.BoolOp .And (z :: rest) pos) (evT X p W (evE O b))) : PE X (.BoolOp .And (y :: z :: rest) pos) (evT X p W (evE O (.and a b))) := by
  refine PE.imp (pe_andT ha hb) fun σ H Q h => ?_
  obtain ⟨μ, s, ρ, r, e, h⟩ := h
  refine stepE (k := fun ρ x s => (truthy x s).bind fun t s => if t then evE O b ρ s else .ok x s) r e h fun x μ1 s1 H1 v ex r1 e1 hv u q => ?_
  obtain ⟨k, g1, g2⟩ := truthy_ok r1 hv q.bind
  refine ⟨k, g1, ?_⟩
  cases k with
  | true => exact ⟨μ1, s1, ρ, r1, e1, g2⟩
  | false => exact Post.val g2 r1 hv u
theorem e_or {a b : E} {y z : Expr} {rest : List Expr} {pos : Pos} {O : Ocl} (ha : PE X y (evT X p W (evE O a))) (hb : PE X (.BoolOp .Or (z :: rest) pos) (evT X p W (evE O b))) : PE X (.BoolOp .Or (y :: z :: rest) pos) (evT X p W (evE O (.or a b))) := by
  refine PE.imp (pe_orT ha hb) fun σ H Q h => ?_
  obtain ⟨μ, s, ρ, r, e, h⟩ := h
  refine stepE (k := fun ρ x s => (truthy x s).bind fun t s => if t then .ok x s else evE O b ρ s) r e h fun x μ1 s1 H1 v ex r1 e1 hv u q => ?_
  obtain ⟨k, g1, g2⟩ := truthy_ok r1 hv q.bind
  refine ⟨k, g1, ?_⟩
  cases k with
  | false => exact ⟨μ1, s1, ρ, r1, e1, g2⟩
  | true => exact Post.val g2 r1 hv u
theorem e_not {a : E} {y : Expr} {pos : Pos} {O : Ocl} (ha : PE X y (evT X p W (evE O a))) : PE X (.UnaryOp .Not y pos) (evT X p W (evE O (.not a))) := by
  refine PE.imp (pe_notT ha) fun σ H Q h => ?_
  obtain ⟨μ, s, ρ, r, e, h⟩ := h
  refine stepE (k := fun ρ x s => (truthy x s).bind fun t s => Out.ok (D.bl (!t)) s) r e h fun x μ1 s1 H1 v ex r1 e1 hv u q => ?_
  obtain ⟨k, g1, g2⟩ := truthy_ok r1 hv q.bind
  exact ⟨k, g1, Post.val g2 r1 rfl rfl⟩
theorem bind_assoc' {α β γ : Type} (x : Out α) (f : α → S → Out β) (g : β → S → Out γ) : (x.bind f).bind g = x.bind fun a s => (f a s).bind g := by cases x <;> rfl
theorem e_ite {c a b : E} {t y z : Expr} {pos : Pos} {O : Ocl} (hc : PT X t (evTt X p W (evB O c))) (ha : PE X y (evT X p W (evE O a))) (hb : PE X z (evT X p W (evE O b))) : PE X (.IfExp t y z pos) (evT X p W (evE O (.ite c a b))) := by
  refine PE.imp (pe_ifExp hc ha hb) fun σ H Q h => ?_
  obtain ⟨μ, s, ρ, r, e, h⟩ := h
  have h : Post X.K p (atW W σ) μ s H ((evB O c ρ s).bind fun t s => if t then evE O a ρ s else evE O b ρ s) (QV X.K Q) := by
    unfold evB
    rw [bind_assoc']
    exact h
  refine stepB (k := fun ρ t s => if t then evE O a ρ s else evE O b ρ s) r e h fun x μ1 s1 H1 ex r1 e1 q => ?_
  cases x with
  | true => exact ⟨μ1, s1, ρ, r1, e1, q⟩
  | false => exact ⟨μ1, s1, ρ, r1, e1, q⟩
theorem e_call {f : String} {es : Es} {z : Str} {xs : List Expr} {p2 pos : Pos} {O : Ocl} (c : Ctx X T p d W) (hO : O = orc T d) (hz : z = nm f) (hg : glB X.env.scope z = true) (hs : simEs X.N X.env.scope es xs = true) (h : PA X xs (evTs X p W (evEs O es))) :
    PE X (.Call (.Name z p2) xs [] pos) (evT X p W (evE O (.call f es))) := by
  subst hO
  obtain ⟨g1, g2, g3⟩ := gl_of hg
  have un : ∀ ρ s, evE (orc T d) (.call f es) ρ s = (match (T.fns f).map (run T d) with | some g => (evEs (orc T d) es ρ s).bind g | none => .bad) := fun _ _ => rfl
  cases hf : T.fns f with
  | none =>
    refine ⟨fun pins s σ H Q I h => ?_⟩
    obtain ⟨μ, s, ρ, r, e, h⟩ := h
    rw [un, hf] at h
    exact h.elim
  | some fn =>
    obtain ⟨a, fd, ps, q1, q2, q3, q4⟩ := c.ok.fns f fn hf
    have key : ∀ σ H Q, evT X p W (evE (orc T d) (.call f es)) σ H Q → tCallS (spF X.K p T d fn) (L2.WE W) (evTs X p W (evEs (orc T d) es)) σ H Q := fun σ H Q h => by
      obtain ⟨μ, s, ρ, r, e, h⟩ := h
      rw [un, hf] at h
      refine stepEs (k := fun _ xs s => run T d fn xs s) r e h fun ds μ1 s1 H1 vs ex r1 e1 hv u q => ?_
      exact ⟨μ1, s1, ds, r1, hv, u, q⟩
    cases xs with
    | cons x xs =>
      obtain ⟨es1, es2, rfl⟩ : ∃ e r, es = .cons e r := by
        cases es with
        | nil => cases hs
        | cons e r => exact ⟨e, r, rfl⟩
      obtain ⟨h1, h2⟩ := and3 (show (notStar x && simE X.N X.env.scope es1 x && simEs X.N X.env.scope es2 xs) = true from hs)
      obtain ⟨h3, _⟩ := and3 h1
      exact PE.imp (pe_callS (E := L2.WE W) q4 c.room g1 (by rw [hz]; exact q1) q2 q3 (fun σ => passAt c.tk σ) h g2 (star_cons h3) (star_plain h2)) key
    | nil =>
      refine ⟨fun pins s σ H Q I hq => ?_⟩
      have k1 := key σ H Q hq
      refine wpAny_Call_Name_kw (ld_glob I g1 (by rw [hz]; exact q1) ?_ g2)
      cases es with
      | cons e r => cases hs
      | nil =>
        obtain ⟨μ, s', ρ, r, e, k2⟩ := k1
        exact PySem.W.callWith_K0 I.kIn q2 (run_fnS (us := []) (vs := []) q4 c.room q3 (passAt c.tk σ) I .nil (Post.ok (a := []) k2 r [] rfl rfl))
theorem e_bi {f : Bi} {es : Es} {z : Str} {xs : List Expr} {p2 pos : Pos} {O : Ocl} (c : Ctx X T p d W) (hz : z = nm (biN f)) (hg : glB X.env.scope z = true) (hne : xs.isEmpty = false) (hs : simEs X.N X.env.scope es xs = true) (h : PA X xs (evTs X p W (evEs O es))) :
    PE X (.Call (.Name z p2) xs [] pos) (evT X p W (evE O (.bi f es))) := by
  obtain ⟨g1, g2, g3⟩ := gl_of hg
  have key : ∀ σ H Q, evT X p W (evE O (.bi f es)) σ H Q → tCB (rB X.K p f) (evTs X p W (evEs O es)) σ H Q := fun σ H Q h => by
    obtain ⟨μ, s, ρ, r, e, h⟩ := h
    refine stepEs (k := fun _ xs s => biD f xs s) r e h fun ds μ1 s1 H1 vs ex r1 e1 hv u q => ?_
    exact ⟨_, μ1, s1, ds, r1, hv, u, q⟩
  cases xs with
  | nil => cases hne
  | cons x xs =>
    obtain ⟨es1, es2, rfl⟩ : ∃ e r, es = .cons e r := by
      cases es with
      | nil => cases hs
      | cons e r => exact ⟨e, r, rfl⟩
    obtain ⟨h1, h2⟩ := and3 (show (notStar x && simE X.N X.env.scope es1 x && simEs X.N X.env.scope es2 xs) = true from hs)
    obtain ⟨h3, _⟩ := and3 h1
    have hm : X.mg z = none := by rw [hz]; exact c.ok.bi f
    have cb := call_bi (X := X) (p := p) c.calm f
    refine PE.imp ?_ key
    subst hz
    cases f with
    | len => exact pe_callB (id := "len") cb g1 hm (by decide +kernel) h g3 g2 (star_cons h3) (star_plain h2)
    | tuple => exact pe_callTy (T := "tuple") cb g1 hm (by decide +kernel) h g3 g2 (star_cons h3) (star_plain h2)
    | list => exact pe_callTy (T := "list") cb g1 hm (by decide +kernel) h g3 g2 (star_cons h3) (star_plain h2)
    | int => exact pe_callTy (T := "int") cb g1 hm (by decide +kernel) h g3 g2 (star_cons h3) (star_plain h2)
    | abs => exact pe_callB (id := "abs") cb g1 hm (by decide +kernel) h g3 g2 (star_cons h3) (star_plain h2)
    | min => exact pe_callB (id := "min") cb g1 hm (by decide +kernel) h g3 g2 (star_cons h3) (star_plain h2)
    | max => exact pe_callB (id := "max") cb g1 hm (by decide +kernel) h g3 g2 (star_cons h3) (star_plain h2)
    | all => exact pe_callB (id := "all") cb g1 hm (by decide +kernel) h g3 g2 (star_cons h3) (star_plain h2)
    | any => exact pe_callB (id := "any") cb g1 hm (by decide +kernel) h g3 g2 (star_cons h3) (star_plain h2)
    | sorted => exact pe_callB (id := "sorted") cb g1 hm (by decide +kernel) h g3 g2 (star_cons h3) (star_plain h2)
    | sum => exact pe_callB (id := "sum") cb g1 hm (by decide +kernel) h g3 g2 (star_cons h3) (star_plain h2)
    | str => exact pe_callTy (T := "str") cb g1 hm (by decide +kernel) h g3 g2 (star_cons h3) (star_plain h2)
    | dict => exact pe_callTy (T := "dict") cb g1 hm (by decide +kernel) h g3 g2 (star_cons h3) (star_plain h2)
    | bool => exact pe_callTy (T := "bool") cb g1 hm (by decide +kernel) h g3 g2 (star_cons h3) (star_plain h2)
theorem bootTy : ∀ t : Ty, bootBuiltins (nm (tyNm t)) = some (.type (tyNm t)) := by intro t; cases t <;> decide +kernel
theorem e_isi {a : E} {t : Ty} {z n : Str} {y : Expr} {p2 p3 pos : Pos} {O : Ocl} (c : Ctx X T p d W) (hz : z = nm "isinstance") (hg : glB X.env.scope z = true) (hn : n = nm (tyNm t)) (hgn : glB X.env.scope n = true) (hy : notStar y = true) (h : PE X y (evT X p W (evE O a))) :
    PE X (.Call (.Name z p2) [y, .Name n p3] [] pos) (evT X p W (evE O (.isi a t))) := by
  obtain ⟨g1, g2, g3⟩ := gl_of hg
  obtain ⟨n1, n2, n3⟩ := gl_of hgn
  have hm : X.mg z = none := by rw [hz]; exact c.ok.isi
  have hb : PE X (.Name n p3) (tC (.ty (tyNm t))) := pe_bltn n1 (by rw [hn]; exact c.ok.ty t) (by rw [hn]; exact bootTy t) rfl n3 n2
  refine PE.imp (pe_callB (id := "isinstance") call_isi g1 hm (by rw [hz]; decide +kernel) (pa_cons h (pa_cons hb pa_nil) (star_cons hy)) g3 g2 (star_cons hy) (by rfl)) fun σ H Q h => ?_
  obtain ⟨μ, s, ρ, r, e, h⟩ := h
  refine stepE (k := fun _ x s => oB (isiD x t s) s) r e h fun x μ1 s1 H1 v ex r1 e1 hv u q => ?_
  obtain ⟨b, hb, q⟩ := Post.oB q r1
  obtain ⟨ty, k1, k2⟩ := isi_ok r1 hv hb
  exact ⟨v, .ty (tyNm t), .type ty, .type (tyNm t), b, rfl, .ty _, k1, kit_ty k2, q⟩
theorem e_idx {a i : E} {y z : Expr} {pos : Pos} {O : Ocl} (hz : notSlice z = true) (ha : PE X y (evT X p W (evE O a))) (hi : PE X z (evT X p W (evE O i))) : PE X (.Subscript y z pos) (evT X p W (evE O (.idx a i))) := by
  have pl : PlainIx z := fun o i => by cases z <;> first | rfl | cases hz
  refine PE.imp (pe_ix ix_seq ha hi pl) fun σ H Q h => ?_
  obtain ⟨μ, s, ρ, r, e, h⟩ := h
  refine stepE (k := fun ρ x s => (evE O i ρ s).bind fun y s => idxD x y s) r e h fun x μ1 s1 H1 v ex r1 e1 hv u q => ?_
  refine stepE (k := fun ρ y s => idxD x y s) r1 e1 q fun y μ2 s2 H2 w ex2 r2 e2 hw uw q2 => ?_
  exact ix_ok r2 (VR.mono ex2 r1 x v u hv) (D.under_mono ex2.le x u) hw q2
theorem e_slc {a : E} {lo hi : Oe} {y : Expr} {l h : Option Expr} {pos p2 : Pos} {O : Ocl} (ha : PE X y (evT X p W (evE O a))) (hl : PO X l (evTo X p W (evO O lo))) (hh : PO X h (evTo X p W (evO O hi))) : PE X (.Subscript y (.Slice l h none p2) pos) (evT X p W (evE O (.slc a lo hi))) := by
  refine PE.imp (pe_slice sl_any ha hl hh) fun σ H Q h => ?_
  obtain ⟨μ, s, ρ, r, e, h⟩ := h
  refine stepE (k := fun ρ x s => (evO O lo ρ s).bind fun l s => (evO O hi ρ s).bind fun h s => slcD x l h s) r e h fun x μ1 s1 H1 v ex r1 e1 hv u q => ?_
  refine stepO (k := fun ρ l s => (evO O hi ρ s).bind fun h s => slcD x l h s) r1 e1 q fun l μ2 s2 H2 ex2 r2 e2 q2 => ?_
  refine stepO (k := fun ρ h s => slcD x l h s) r2 e2 q2 fun h μ3 s3 H3 ex3 r3 e3 q3 => ?_
  exact sl_ok r3 (VR.mono ex3 r2 x v (D.under_mono ex2.le x u) (VR.mono ex2 r1 x v u hv)) (D.under_mono ex3.le x (D.under_mono ex2.le x u)) q3
theorem int0_of {N : List Str} {sc : Scope} {x : Expr} (h : simE N sc (.int 0) x = true) : ∃ j k, x = .Constant (.int 0) j k := by
  unfold simE at h
  split at h
  · rename_i j _ _
    have e : (0 : Int) = j := by simpa using h
    subst e
    exact ⟨_, _, rfl⟩
  · cases h
theorem e_lm {o : E} {m : String} {es : Es} {y : Expr} {n : Str} {ap cp : Pos} {xs : List Expr} {O : Ocl} (hy : ∃ x q, y = .Name x q) (hn : n = nm m) (hl : (ap.endLine == cp.line) = true)
    (hk : (m == "append" && xs.length == 1 || m == "extend" && xs.length == 1 || m == "pop" && xs.isEmpty || m == "pop" && pop0 es) = true)
    (hs : simEs X.N X.env.scope es xs = true) (ho : PE X y (evT X p W (evE O o))) (h : PA X xs (evTs X p W (evEs O es))) : PE X (.Call (.Attribute y n ap) xs [] cp) (evT X p W (evE O (.lm o m es))) := by
  obtain ⟨nx, nq, rfl⟩ := hy
  have key : ∀ {RR : V → List V → Hp → VK → Prop}, (∀ v vs H Q, rLM X.K p m v vs H Q → (∀ as μ s, VRs X.K μ H as vs → Post X.K p (fun _ _ _ => True) μ s H ((.ok as s : Out (List D))) (fun _ _ _ _ => True) → True) → RR v vs H Q) →
      ∀ σ H Q, evT X p W (evE O (.lm o m es)) σ H Q → evT X p W (evE O o) σ H (fun x H1 => tyV X.K "list" x H1 ∧ evTs X p W (evEs O es) σ H1 fun vs H2 => RR x vs H2 Q) := fun {RR} go σ H Q h => by
    obtain ⟨μ, s, ρ, r, e, h⟩ := h
    refine stepE (k := fun ρ x s => if isL x s then (evEs O es ρ s).bind fun xs s => methD x m xs s else .bad) r e h fun x μ1 s1 H1 v ex r1 e1 hv u q => ?_
    cases x with
    | ref k =>
      cases (show v = _ from hv)
      have q : Post X.K p (atW W σ) μ1 s1 H1 (if (s1.lst k).isSome then (evEs O es ρ s1).bind fun xs s => methD (.ref k) m xs s else .bad) (QV X.K Q) := q
      cases e2 : s1.lst k with
      | none => rw [e2] at q; exact q.elim
      | some ys =>
        rw [e2] at q
        obtain ⟨⟨ws, g1, _⟩, _, _⟩ := r1.lst e2
        refine ⟨.inl ⟨rfl, _, SqL.of g1⟩, ?_⟩
        refine stepEs (k := fun _ xs s => methD (.ref k) m xs s) r1 e1 q fun ds μ2 s2 H2 vs ex2 r2 e3 hvs us q2 => ?_
        exact go _ _ _ _ ⟨_, μ2, s2, .ref k, ds, r2, VR.mono ex2 r1 (.ref k) _ u rfl, hvs, us, q2⟩ fun _ _ _ _ _ => trivial
    | _ => exact q.elim
  have key0 : ∀ {RR : V → List V → Hp → VK → Prop}, es = .nil → (∀ v H Q, rLM X.K p m v [] H Q → RR v [] H Q) →
      ∀ σ H Q, evT X p W (evE O (.lm o m es)) σ H Q → tBM0 X.K "list" RR (evT X p W (evE O o)) σ H Q := fun {RR} hes go σ H Q h => by
    subst hes
    obtain ⟨μ, s, ρ, r, e, h⟩ := h
    refine stepE (k := fun ρ x s => if isL x s then (evEs O .nil ρ s).bind fun xs s => methD x m xs s else .bad) r e h fun x μ1 s1 H1 v ex r1 e1 hv u q => ?_
    cases x with
    | ref k =>
      cases (show v = _ from hv)
      have q : Post X.K p (atW W σ) μ1 s1 H1 (if (s1.lst k).isSome then methD (.ref k) m [] s1 else .bad) (QV X.K Q) := q
      cases e2 : s1.lst k with
      | none => rw [e2] at q; exact q.elim
      | some ys =>
        rw [e2] at q
        obtain ⟨⟨ws, g1, _⟩, _, _⟩ := r1.lst e2
        exact ⟨.inl ⟨rfl, _, SqL.of g1⟩, go _ _ _ ⟨_, μ1, s1, .ref k, [], r1, rfl, rfl, rfl, q⟩⟩
    | _ => exact q.elim
  simp only [Bool.or_eq_true, Bool.and_eq_true, beq_iff_eq] at hk
  have one : ∀ {x : Expr}, xs = [x] → notStar x = true := fun {x} hx => by
    subst hx
    cases es with
    | nil => cases hs
    | cons e r => exact (and3 (and3 (show (notStar x && simE X.N X.env.scope e x && simEs X.N X.env.scope r []) = true from hs)).1).1
  rcases hk with ((⟨rfl, hx⟩ | ⟨rfl, hx⟩) | ⟨rfl, hx⟩) | ⟨rfl, hx⟩
  · obtain ⟨x, rfl⟩ : ∃ x, xs = [x] := List.length_eq_one_iff.mp hx
    have hst := one rfl
    subst hn
    exact PE.imp (pe_bm PySem.F.plainAttrs_list PySem.F.slot_list_append PySem.F.type_list_append (mt_appD (p := p)) ho h rfl (by rw [star_cons hst]; rfl) hl (star_cons hst) rfl) (key fun v vs H Q h _ => h)
  · obtain ⟨x, rfl⟩ : ∃ x, xs = [x] := List.length_eq_one_iff.mp hx
    have hst := one rfl
    subst hn
    exact PE.imp (pe_bm PySem.F.plainAttrs_list PySem.F.slot_list_extend PySem.F.type_list_extend (mt_extD (p := p)) ho h rfl (by rw [star_cons hst]; rfl) hl (star_cons hst) rfl) (key fun v vs H Q h _ => h)
  · cases xs with
    | cons x r => cases hx
    | nil =>
      subst hn
      have hes : es = .nil := by cases es with | nil => rfl | cons e r => cases hs
      exact PE.imp (pe_bm0 PySem.F.plainAttrs_list PySem.F.slot_list_pop PySem.F.type_list_pop (mt_popD0 (p := p)) ho rfl hl) (key0 hes fun v H Q h => ⟨rfl, h⟩)
  · unfold pop0 at hx
    split at hx
    · subst hn
      clear one
      match xs, hs, h with
      | [x], hs, h =>
        have hx0 : simE X.N X.env.scope (.int 0) x = true := (and3 (and3 (show (notStar x && simE X.N X.env.scope (.int 0) x && simEs X.N X.env.scope .nil []) = true from hs)).1).2
        obtain ⟨j, k, rfl⟩ := int0_of hx0
        have h' : PA X [.Constant (.int 0) j k] (tCons (tC (.int 0)) tNil) := pa_cons pe_int pa_nil
        refine PE.imp (pe_bm PySem.F.plainAttrs_list PySem.F.slot_list_pop PySem.F.type_list_pop (mt_popD1 (p := p)) ho h' rfl (by rfl) hl rfl rfl) fun σ H Q hh => ?_
        have := key (RR := fun v vs H Q => rLM X.K p "pop" v vs H Q) (fun v vs H Q h _ => h) σ H Q hh
        obtain ⟨μ, s, ρ, r, e, q⟩ := this
        refine ⟨μ, s, ρ, r, e, q.imp fun x μ1 s1 H1 _ ex r1 q v hv u => ?_⟩
        obtain ⟨ty, μ2, s2, ρ2, r2, e2, q2⟩ := q v hv u
        have q3 : Post X.K p (atW W σ) μ2 s2 H1 (Out.ok [D.int 0] s2) (fun ds μ' s' H' => ∀ vs, VRs X.K μ' H' ds vs → D.unders s'.len ds = true → rLM X.K p "pop" v vs H' Q) := q2
        exact ⟨ty, rfl, Post.ok q3 r2 [V.int 0] ⟨_, _, rfl, rfl, rfl⟩ rfl⟩
      | [], hs, _ => cases hs
      | _ :: _ :: _, hs, _ =>
        obtain ⟨_, h2⟩ := and3 (show (_ && simEs X.N X.env.scope .nil (_ :: _)) = true from hs)
        cases h2
    · cases hx
end
end Ev

set_option linter.all false
set_option maxRecDepth 100000
set_option maxHeartbeats 1000000
/-! Ev7: what loops and comprehensions walk. -/
namespace Ev
open PySem L2 PySem.Spec PyProof.Rows
open AutoSeq1 (wpAny_loadPart')
/-! ### enumerate of a tuple, of a text -/
theorem enumNewB {v : Value} {o : Obj} {Hb : Heap → Prop} (B : Begins v o Hb) :
    Meets (Builtin.«enumerate.__new__» ⟨[.type "enumerate", v], []⟩) (fun _ R s => Hb s.heap ∧
      R (.ok (.ret (.ref (s.heap.push o).objs.size))) { s with heap := (s.heap.push o).push { cls := .type "enumerate", data := .fields #[.none, .bool false, .ref s.heap.objs.size, rawInt 0, .none, .none] } }) :=
  .of_wp fun prog w A R s h => by
    obtain ⟨hp, g, d, tk, os⟩ := s
    obtain ⟨h1, h⟩ := h
    have hsub := sub_enumerate
    have q1 : ∀ {A' : Around} {E : Value → Shared → Prop} {Q : Value → Shared → Prop}, Q (.ref hp.objs.size) ⟨hp.push o, g, d, tk, os⟩ → wpAny (model prog w) A' (pyIter v) Q E ⟨hp, g, d, tk, os⟩ :=
      fun q => B.iter prog w _ _ ⟨hp, g, d, tk, os⟩ _ h1 q
    wp_walk using q1
    refine wpAny_stack_any fun st => wpAny_pure ?_
    split
    · rename_i c _ _ _ _ _
      cases (c == Value.type "enumerate")
      · wp_walk using q1
        exact ⟨_, rfl, h⟩
      · wp_walk using q1
        exact ⟨_, rfl, h⟩
    · wp_walk using q1
      exact ⟨_, rfl, h⟩
theorem enumBegins {prog : Program} {w : World} {A : Around} {E : Value → Shared → Prop} {s : Shared} {v : Value} {o : Obj} {Hb : Heap → Prop} {Q : Value → Shared → Prop} (B : Begins v o Hb) (h1 : Hb s.heap)
    (h : ∀ h', IsEnum h' (s.heap.objs.size + 1) s.heap.objs.size 0 .none → h'.get? s.heap.objs.size = some o → h'.objs.size = s.heap.objs.size + 2 →
      (∀ b o, s.heap.get? b = some o → h'.get? b = some o) → Q (.ref (s.heap.objs.size + 1)) { s with heap := h' }) :
    wpAny (model prog w) A (call (.type "enumerate") [v]) Q E s := by
  refine callType_new F.called_enumerate (by decide) (F.typeCall_enumerate_1 _) (F.newCall_enumerate_1 _) (fun obj => F.args_object_init_2 obj _) F.entry_enumerate_new (enumNewB B) ⟨h1, ?_⟩
  have hz : (s.heap.push o).objs.size = s.heap.objs.size + 1 := Heap.size_push ..
  show _ ∧ _
  rw [hz]
  have he : IsEnum ((s.heap.push o).push { cls := .type "enumerate", data := .fields #[.none, .bool false, .ref s.heap.objs.size, rawInt 0, .none, .none] }) (s.heap.objs.size + 1) s.heap.objs.size 0 .none := by
    have := Heap.get?_push_size (s.heap.push o) (o := { cls := .type "enumerate", data := .fields #[.none, .bool false, .ref s.heap.objs.size, rawInt 0, .none, .none] }) rfl
    rw [hz] at this
    exact this
  exact ⟨⟨_, he, rfl⟩, h _ he (Heap.get?_push_of_some _ (Heap.get?_push_size _ B.free)) (by rw [Heap.size_push, hz]) fun b o x => Heap.get?_push_of_some _ (Heap.get?_push_of_some _ x)⟩
/-- one turn of an enumerate over what draws (n items, P, St); its own records e, it -/
theorem enumTurn {X : Cx} {pins : List (Addr × Obj)} {σ : L2.St} {H : Hp} {s : Shared} {E : Value → Shared → Prop} {elts : List Expr} {kk : Nat} {tpos : Pos} {e it : Addr} {fp : List Addr} {n i : Nat} {Pd : Nat → Value → Prop} {Sd : Nat → Heap → Prop} {old : Value}
    (I : Inv X pins σ H s) (hf : ∀ b ∈ [e, it], FpOk X pins H b) (D : Draws X.prog X.w X.A.in1 it fp n Pd Sd) (he : IsEnum s.heap e it ((i : Nat) : Int) old) (hst : Sd i s.heap) (hi : i < n) (hne : e ≠ it) (hef : e ∉ fp) (hit : it < s.heap.objs.size)
    {G : V → Hp → Heap → Prop} (hP : ∀ v, Pd i v → ∃ x, RelV x v ∧ ∀ h', (∃ old, IsEnum h' e it (((i + 1 : Nat) : Nat) : Int) old) → Sd (i + 1) h' → G (.ref s.heap.objs.size) (upd H s.heap.objs.size (.tup [.int (i : Nat), x])) h') :
    wpAny (model X.prog X.w) X.A (pyNext (.ref e)) (fun r s1 => ∃ u, r = some u ∧ wpAny (model X.prog X.w) X.A (letOwnedTupleGo (.Tuple elts kk tpos) (.ref e) u) (fun _ s2 => ∃ x H', Inv X pins σ H' s2 ∧ RelV x u ∧ G x H' s2.heap ∧ ∀ b ∈ [e, it], H' b = none) E s1) E s := by
  have hel : e < s.heap.objs.size := Heap.lt_size he
  refine wpAny_pyNext_enum_itemD D he hst hi hne hef fun v h' tk hv ho hs' hT hsz hk => ?_
  obtain ⟨x, rx, hG⟩ := hP v hv
  refine ⟨_, rfl, wpAny_letOwnedTupleGo_enum (s := { s with heap := h', toks := tk + 1 }) ho fun h'' he' sb => ?_⟩
  have hT2 : h''.get? s.heap.objs.size = some { cls := .type "tuple", data := .seq #[.int i tk, v] } := (sb.2 _ (Nat.ne_of_gt hel)).trans hT
  have new : ObjOk X.prog X.w (upd H s.heap.objs.size (.tup [.int (i : Nat), x])) h'' s.heap.objs.size (.tup [.int (i : Nat), x]) :=
    ⟨by show 2 ≤ sizeLine; decide, [.int i tk, v], .cons ⟨_, rfl⟩ (.cons rx .nil), ⟨_, hT2, rfl, _, rfl⟩⟩
  have I1 : Inv X pins σ (upd H s.heap.objs.size (.tup [.int (i : Nat), x])) { s with heap := h'', toks := tk + 1 } :=
    I.turnedNew (ch := [e, it]) (fun b ob hb q => (sb.2 b (fun z => hb (by simp [z]))).trans (hk b ob (fun z => hb (by simp [z])) (fun z => hb (by simp [z])) q)) hf (Nat.le_refl _) new
  have e1 : ((i + 1 : Nat) : Int) = (i : Int) + 1 := by omega
  refine ⟨.ref s.heap.objs.size, _, I1, rfl, hG _ ⟨v, by rw [e1]; exact he'⟩ (D.frame _ _ _ hs' fun b hb o y => (sb.2 b fun q => hef (q ▸ hb)).trans y), fun b hb => ?_⟩
  have hb' : b < s.heap.objs.size := by
    have e' : b = e ∨ b = it := by simpa using hb
    rcases e' with z | z
    · rw [z]; exact hel
    · rw [z]; exact hit
  rw [upd_ne (Nat.ne_of_lt hb')]
  exact (hf b hb).1
theorem enumDone {X : Cx} {pins : List (Addr × Obj)} {σ : L2.St} {H : Hp} {s : Shared} {E : Value → Shared → Prop} {e it : Addr} {fp : List Addr} {n i : Nat} {Pd : Nat → Value → Prop} {Sd : Nat → Heap → Prop} {old : Value}
    (I : Inv X pins σ H s) (hf : ∀ b ∈ [e, it], FpOk X pins H b) (D : Draws X.prog X.w X.A.in1 it fp n Pd Sd) (he : IsEnum s.heap e it ((i : Nat) : Int) old) (hst : Sd i s.heap) (hi : i = n) :
    wpAny (model X.prog X.w) X.A (pyNext (.ref e)) (fun r s1 => r = none ∧ Inv X pins σ H s1) E s := by
  subst hi
  obtain ⟨f0, f1, f2, f3, f4, f5⟩ := hf it (by simp)
  exact wpAny_pyNext_enum_endD D he hst fun h' eb => ⟨rfl, I.turned (t' := s.toks) (fun b o hb q => eb b o hb q) f0 f1 f3 f4 f5⟩
/-- .. over the tuple at a -/
def IteT (K : PySem.W.Frag) (a : Addr) (n : Nat) : L2.It :=
  ⟨fun i H => ∃ (xs : List V) (x : V), SqT K H a xs ∧ xs.length = n ∧ xs[i]? = some x, fun i H v H' => ∃ T x, v = .ref T ∧ H T = none ∧ H' = upd H T (.tup [.int (i : Nat), x]) ∧ ∀ xs, SqT K H a xs → xs[i]? = some x, fun i H => ∃ xs : List V, SqT K H a xs ∧ xs.length = n ∧ n ≤ i⟩
theorem turn_enumT {P : Program} {w : World} {K : PySem.W.Frag} {elts : List Expr} {kk : Nat} {tpos : Pos} (a e it : Addr) (n : Nat) (ha : a ≠ e ∧ a ≠ it) :
    Turn P w K (.Tuple elts kk tpos) (IteT K a n) [e, it] e (fun i h => (∃ old, IsEnum h e it ((i : Nat) : Int) old) ∧ h.IsTupleIter it a i ∧ e ≠ it ∧ i ≤ n) where
  mem := by simp
  obj := fun i h st b hb => by
    obtain ⟨⟨old, he⟩, ⟨o, ho, hc, hd⟩, _⟩ := st
    have e' : b = e ∨ b = it := by simpa using hb
    rcases e' with z | z
    · rw [z]; exact ⟨_, he, fun v q => nomatch q⟩
    · rw [z]; exact ⟨o, ho, fun v q => by rw [hd] at q; cases q⟩
  keep := fun i h h' st k => let ⟨⟨old, he⟩, hi, hne, hin⟩ := st; ⟨⟨old, k e (by simp) _ he⟩, hi.at fun o q => k it (by simp) o q, hne, hin⟩
  item := by
    intro X hP hw hK hc i pins s σ H E I hf st hg
    subst hP hw hK
    obtain ⟨⟨old, he⟩, hit, hne, hin⟩ := st
    obtain ⟨xs, x, hq, hxn, hx⟩ := hg
    obtain ⟨its, rv, p, hz⟩ := I.tuple hq
    have D := Draws.tuple (prog := X.prog) (w := X.w) (A := X.A.in1) (I.ok.hd hc) it a ha.2 its.toArray
    have hlt : i < its.toArray.size := by
      have := rv.length
      have h2 := (List.getElem?_eq_some_iff.mp hx).1
      simp
      omega
    have hil : it < s.heap.objs.size := by obtain ⟨_, q, _⟩ := hit; exact Heap.lt_size q
    refine wpAny_mono (enumTurn (elts := elts) (kk := kk) (tpos := tpos) (G := fun v H' h' => (IteT X.K a n).yld i H v H' ∧ (∃ old, IsEnum h' e it (((i + 1 : Nat) : Nat) : Int) old) ∧ h'.IsTupleIter it a (i + 1) ∧ e ≠ it ∧ i + 1 ≤ n) I hf D he ⟨hit, p⟩ hlt hne ?_ hil fun v hv => ?_) ?_ (fun _ _ z => z)
    · intro hm
      have e' : e = it ∨ e = a := by simpa using hm
      rcases e' with z | z
      · exact hne z
      · exact ha.1 z.symm
    · have hv : its.toArray[i]? = some v := hv
      obtain ⟨u, hu, ru⟩ := rv.get hx
      have : u = v := by
        rw [show its.toArray[i]? = its[i]? by simp, hu] at hv
        exact Option.some.inj hv
      subst this
      exact ⟨x, ru, fun h' h1 h2 => ⟨⟨_, x, rfl, I.hok.fresh (Nat.le_refl _), rfl, fun ys hy => by rw [I.tuple_inj hy hq]; exact hx⟩, h1, h2.1, hne, by have := (List.getElem?_eq_some_iff.mp hx).1; omega⟩⟩
    · rintro r s1 ⟨u, hr, h⟩
      refine ⟨u, hr, wpAny_mono h (fun _ s2 ⟨x, H', I', r', ⟨g1, g2⟩, g3⟩ => ⟨x, H', I', r', g1, g2, g3⟩) fun _ _ z => z⟩
  done := by
    intro X hP hw hK hc i pins s σ H E I hf st hg
    subst hP hw hK
    obtain ⟨⟨old, he⟩, hit, hne, hin⟩ := st
    obtain ⟨xs, hq, hxn, hx⟩ := hg
    obtain ⟨its, rv, p, hz⟩ := I.tuple hq
    have D := Draws.tuple (prog := X.prog) (w := X.w) (A := X.A.in1) (I.ok.hd hc) it a ha.2 its.toArray
    exact enumDone I hf D he ⟨hit, p⟩ (by have := rv.length; simp; omega)
  self := fun A i s Q E st h => let ⟨⟨_, he⟩, _⟩ := st; wpAny_pyIter_enum he h
/-- .. over a text -/
def IteS (x : Str) : L2.It :=
  ⟨fun i _ => i < x.cps.size, fun i H v H' => ∃ T c, v = .ref T ∧ H T = none ∧ H' = upd H T (.tup [.int (i : Nat), .str ⟨#[c]⟩]) ∧ x.cps[i]? = some c, fun i _ => x.cps.size ≤ i⟩
theorem turn_enumS {P : Program} {w : World} {K : PySem.W.Frag} {elts : List Expr} {kk : Nat} {tpos : Pos} (x : Str) (t : Tok) (e it : Addr) :
    Turn P w K (.Tuple elts kk tpos) (IteS x) [e, it] e (fun i h => (∃ old, IsEnum h e it ((i : Nat) : Int) old) ∧ h.IsStrIter it (strIterType x) x t i ∧ e ≠ it ∧ i ≤ x.cps.size) where
  mem := by simp
  obj := fun i h st b hb => by
    obtain ⟨⟨old, he⟩, ⟨o, ho, hc, hd⟩, _⟩ := st
    have e' : b = e ∨ b = it := by simpa using hb
    rcases e' with z | z
    · rw [z]; exact ⟨_, he, fun v q => nomatch q⟩
    · rw [z]; exact ⟨o, ho, fun v q => by rw [hd] at q; cases q⟩
  keep := fun i h h' st k => let ⟨⟨old, he⟩, ⟨o, ho, r⟩, hne, hin⟩ := st; ⟨⟨old, k e (by simp) _ he⟩, ⟨o, k it (by simp) o ho, r⟩, hne, hin⟩
  item := by
    intro X hP hw hK hc i pins s σ H E I hf st hg
    subst hP hw hK
    obtain ⟨⟨old, he⟩, hit, hne, hin⟩ := st
    have D := Draws.text (prog := X.prog) (w := X.w) (A := X.A.in1) (I.ok.hd hc) it x t
    have hil : it < s.heap.objs.size := by obtain ⟨_, q, _⟩ := hit; exact Heap.lt_size q
    refine wpAny_mono (enumTurn (elts := elts) (kk := kk) (tpos := tpos) (G := fun v H' h' => (IteS x).yld i H v H' ∧ (∃ old, IsEnum h' e it (((i + 1 : Nat) : Nat) : Int) old) ∧ h'.IsStrIter it (strIterType x) x t (i + 1) ∧ e ≠ it ∧ i + 1 ≤ x.cps.size) I hf D he hit hg hne (by simpa using hne) hil fun v hv => ?_) ?_ (fun _ _ z => z)
    · obtain ⟨c, u, h1, rfl⟩ := hv
      exact ⟨.str ⟨#[c]⟩, ⟨u, rfl⟩, fun h' h2 h3 => ⟨⟨_, c, rfl, I.hok.fresh (Nat.le_refl _), rfl, h1⟩, h2, h3, hne, hg⟩⟩
    · rintro r s1 ⟨u, hr, h⟩
      refine ⟨u, hr, wpAny_mono h (fun _ s2 ⟨x, H', I', r', ⟨g1, g2⟩, g3⟩ => ⟨x, H', I', r', g1, g2, g3⟩) fun _ _ z => z⟩
  done := by
    intro X hP hw hK hc i pins s σ H E I hf st hg
    subst hP hw hK
    obtain ⟨⟨old, he⟩, hit, hne, hin⟩ := st
    have D := Draws.text (prog := X.prog) (w := X.w) (A := X.A.in1) (I.ok.hd hc) it x t
    exact enumDone I hf D he hit (Nat.le_antisymm hin hg)
  self := fun A i s Q E st h => let ⟨⟨_, he⟩, _⟩ := st; wpAny_pyIter_enum he h
end Ev

set_option linter.all false
set_option maxRecDepth 100000
set_option maxHeartbeats 1000000
/-! Ev8: walks, targets, comprehensions. -/
namespace Ev
open PySem L2 PySem.Spec PyProof.Rows
abbrev WOk (K : PySem.W.Frag) (w : Wk) (J : L2.It) (μ0 : Mu) (s0 : S) (H0 : Hp) : Prop := ∀ μ s H i, Ext μ0 s0 H0 μ s H → SR K μ H s →
  (w s i = none → J.stop i H) ∧ ∀ d, w s i = some d → J.go i H ∧ ∀ x H', J.yld i H x H' → Ext μ s H μ s H' ∧ SR K μ H' s ∧ VR K μ H' d x ∧ d.under s.len = true
def evI (X : Cx) (p : Pl) (W : WX) (m : En → S → Out Wk) : TI := fun σ H R => ∃ μ s ρ, SR X.K μ H s ∧ ER X.K μ H s ρ σ ∧ Post X.K p (atW W σ) μ s H (m ρ s) (fun w μ' s' H' => ∀ J, WOk X.K w J μ' s' H' → R J H')
theorem PI.imp {X : Cx} {tg x : Expr} {t t' : TI} (h : PI X tg x t) (i : ∀ σ H Q, t' σ H Q → t σ H Q) : PI X tg x t' := ⟨fun pins s σ H Q I q => h.run pins s σ H Q I (i _ _ _ q)⟩
section
variable {K : PySem.W.Frag} {μ0 : Mu} {s0 : S} {H0 : Hp}
theorem w_list {n : Nat} (hn : n < s0.len) (hl : ∀ μ s H, Ext μ0 s0 H0 μ s H → SR K μ H s → ∃ xs, s.rd n = some xs) : WOk K (lstW n) (Itl K (μ0 n)) μ0 s0 H0 := by
  intro μ s H i e r
  obtain ⟨xs, hx⟩ := hl μ s H e r
  obtain ⟨⟨vs, g1, g2⟩, u, _⟩ := r.rd hx
  rw [e.agree n hn] at g1
  have hw : lstW n s i = xs[i]? := by unfold lstW; rw [hx]; rfl
  rw [hw]
  refine ⟨fun h => ⟨vs, g1, by rw [← g2.length]; exact List.getElem?_eq_none_iff.mp h⟩, fun d hd => ?_⟩
  obtain ⟨v, q1, q2⟩ := g2.get hd
  refine ⟨⟨vs, v, g1, q1⟩, fun x H' ⟨h1, h2⟩ => ?_⟩
  subst h1
  have := h2 vs g1
  rw [q1] at this
  cases this
  exact ⟨Ext.refl, r, q2, unders_iff.mp u d (List.mem_of_getElem? hd)⟩
theorem w_tup {xs : List D} {a : Addr} {vs : List V} (r0 : SR K μ0 H0 s0) (ha : SqT K H0 a vs) (hv : VRs K μ0 H0 xs vs) (u : D.unders s0.len xs = true) : WOk K (seqW xs) (Itt K a) μ0 s0 H0 := by
  intro μ s H i e r
  have g1 := e.tup r0 ha
  have g2 := VRs.mono e r0 xs vs u hv
  refine ⟨fun h => ⟨vs, g1, by rw [← g2.length]; exact List.getElem?_eq_none_iff.mp h⟩, fun d hd => ?_⟩
  obtain ⟨v, q1, q2⟩ := g2.get hd
  refine ⟨⟨vs, v, g1, q1⟩, fun x H' ⟨h1, h2⟩ => ?_⟩
  subst h1
  have := h2 vs g1
  rw [q1] at this
  cases this
  exact ⟨Ext.refl, r, q2, D.under_mono e.le d (unders_iff.mp u d (List.mem_of_getElem? hd))⟩
theorem w_str {x : List Nat} : WOk K (seqW (x.map fun c => .str [c])) (Its ⟨x.toArray⟩) μ0 s0 H0 := by
  intro μ s H i e r
  refine ⟨fun h => ?_, fun d hd => ?_⟩
  · have := List.getElem?_eq_none_iff.mp h
    show x.toArray.size ≤ i
    simpa using this
  · have hd : (x.map fun c => D.str [c])[i]? = some d := hd
    rw [List.getElem?_map] at hd
    cases q : x[i]? with
    | none => rw [q] at hd; cases hd
    | some c =>
      rw [q] at hd
      cases hd
      refine ⟨by show i < x.toArray.size; simpa using (List.getElem?_eq_some_iff.mp q).1, fun v H' ⟨h1, c', h2, h3⟩ => ?_⟩
      subst h1 h3
      have : c' = c := by
        have h2 : x.toArray[i]? = some c' := h2
        rw [show x.toArray[i]? = x[i]? by simp, q] at h2
        exact (Option.some.inj h2).symm
      subst this
      exact ⟨Ext.refl, r, rfl, rfl⟩
theorem w_range {a b : Int} : WOk K (rangeW a b) (Itr a (b - a).toNat) μ0 s0 H0 := by
  intro μ s H i e r
  unfold rangeW
  by_cases h : a + i < b
  · rw [if_pos h]
    refine ⟨fun z => (by cases z), fun d hd => ?_⟩
    cases hd
    refine ⟨by show i < (b - a).toNat; omega, fun x H' ⟨h1, h2⟩ => ?_⟩
    subst h1 h2
    exact ⟨Ext.refl, r, rfl, rfl⟩
  · rw [if_neg h]
    exact ⟨fun _ => by show (b - a).toNat ≤ i; omega, fun d hd => by cases hd⟩
theorem pair_ok {μ : Mu} {H : Hp} {s : S} {T : Addr} {i : Nat} {d : D} {v : V} (r : SR K μ H s) (hT : H T = none) (hv : VR K μ H d v) (u : d.under s.len = true) :
    Ext μ s H μ s (upd H T (.tup [.int (i : Nat), v])) ∧ SR K μ (upd H T (.tup [.int (i : Nat), v])) s ∧ VR K μ (upd H T (.tup [.int (i : Nat), v])) (.tup [.int i, d]) (.ref T) ∧ (D.tup [.int i, d]).under s.len = true := by
  have e := ext_tup (o := .tup [.int (i : Nat), v]) r hT
  refine ⟨e, r.tup hT, ⟨T, _, rfl, SqT.of upd_same, _, _, rfl, rfl, _, _, rfl, VR.mono e r d v u hv, rfl⟩, ?_⟩
  show (true && (d.under s.len && true)) = true
  rw [u]
  rfl
theorem w_enum {n : Nat} (hn : n < s0.len) (hl : ∀ μ s H, Ext μ0 s0 H0 μ s H → SR K μ H s → ∃ xs, s.rd n = some xs) : WOk K (enumW (lstW n)) (Ite K (μ0 n)) μ0 s0 H0 := by
  intro μ s H i e r
  obtain ⟨w1, w2⟩ := w_list hn hl μ s H i e r
  unfold enumW
  cases q : lstW n s i with
  | none => exact ⟨fun _ => w1 q, fun d hd => by cases hd⟩
  | some d =>
    obtain ⟨g1, g2⟩ := w2 d q
    refine ⟨fun z => (by cases z), fun d' hd => ?_⟩
    cases hd
    refine ⟨g1, fun x H' ⟨T, v, h1, h2, h3, h4⟩ => ?_⟩
    obtain ⟨_, _, k3, k4⟩ := g2 v H ⟨rfl, h4⟩
    subst h1 h3
    exact pair_ok r h2 k3 k4
theorem w_enumT {xs : List D} {a : Addr} {vs : List V} (r0 : SR K μ0 H0 s0) (ha : SqT K H0 a vs) (hv : VRs K μ0 H0 xs vs) (u : D.unders s0.len xs = true) : WOk K (enumW (seqW xs)) (IteT K a vs.length) μ0 s0 H0 := by
  intro μ s H i e r
  obtain ⟨w1, w2⟩ := w_tup r0 ha hv u μ s H i e r
  have g0 := e.tup r0 ha
  unfold enumW
  cases q : seqW xs s i with
  | none =>
    refine ⟨fun _ => ⟨vs, g0, rfl, ?_⟩, fun d hd => by cases hd⟩
    have : xs.length ≤ i := List.getElem?_eq_none_iff.mp q
    rw [← hv.length]
    exact this
  | some d =>
    obtain ⟨⟨ws, v0, k1, k2⟩, g2⟩ := w2 d q
    have hi : i < vs.length := by
      rw [← hv.length]
      exact (List.getElem?_eq_some_iff.mp (show xs[i]? = some d from q)).1
    refine ⟨fun z => (by cases z), fun d' hd => ?_⟩
    cases hd
    refine ⟨⟨vs, vs[i], g0, rfl, List.getElem?_eq_getElem hi⟩, fun x H' ⟨T, v, h1, h2, h3, h4⟩ => ?_⟩
    obtain ⟨_, _, k3, k4⟩ := g2 v H ⟨rfl, h4⟩
    subst h1 h3
    exact pair_ok r h2 k3 k4
theorem w_enumS {x : List Nat} : WOk K (enumW (seqW (x.map fun c => .str [c]))) (IteS ⟨x.toArray⟩) μ0 s0 H0 := by
  intro μ s H i e r
  obtain ⟨w1, w2⟩ := w_str (K := K) (μ0 := μ0) (s0 := s0) (H0 := H0) (x := x) μ s H i e r
  unfold enumW
  cases q : seqW (x.map fun c => D.str [c]) s i with
  | none => exact ⟨fun _ => w1 q, fun d hd => by cases hd⟩
  | some d =>
    obtain ⟨g1, g2⟩ := w2 d q
    refine ⟨fun z => (by cases z), fun d' hd => ?_⟩
    cases hd
    refine ⟨g1, fun v H' ⟨T, c, h1, h2, h3, h4⟩ => ?_⟩
    obtain ⟨_, _, k3, k4⟩ := g2 (.str ⟨#[c]⟩) H ⟨rfl, c, h4, rfl⟩
    subst h1 h3
    exact pair_ok r h2 k3 k4
end
/-- the list at n is there for good -/
theorem rd_stays {K : PySem.W.Frag} {μ0 μ : Mu} {s0 s : S} {H0 H : Hp} {n : Nat} {xs : List D} (h : s0.rd n = some xs) (r0 : SR K μ0 H0 s0) (e : Ext μ0 s0 H0 μ s H) (r : SR K μ H s) : ∃ ys, s.rd n = some ys := by
  have hn : n < s.len := Nat.lt_of_lt_of_le (r0.rd h).2.2 e.le
  obtain ⟨o, ho⟩ : ∃ o, s.get n = some o := ⟨_, List.getElem?_eq_getElem hn⟩
  cases o with
  | lst ys => exact ⟨ys, by unfold S.rd; rw [ho]⟩
  | ro ys => exact ⟨ys, by unfold S.rd; rw [ho]⟩
  | dct _ => exact (r.obj n _ ho).elim
  | ins _ _ => exact (r.obj n _ ho).elim
section
variable {X : Cx} {T : Tab} {p : Pl} {d : Nat} {W : WX} {tg : Expr}
theorem i_plain {e : E} {x : Expr} {O : Ocl} (h : PE X x (evT X p W (evE O e))) : PI X tg x (evI X p W (evIt O (.plain e))) := by
  refine ⟨fun pins s σ H R I hq => ?_⟩
  obtain ⟨μ, s0, ρ, r, er, q⟩ := hq
  have q : Post X.K p (atW W σ) μ s0 H ((evE O e ρ s0).bind fun x s => (match walkOf x s with | some w => .ok w s | none => .bad)) (fun w μ' s' H' => ∀ J, WOk X.K w J μ' s' H' → R J H') := q
  have h1 := h.run pins s σ H _ I (stepE (k := fun _ x s => (match walkOf x s with | some w => .ok w s | none => .bad)) (R := fun v H1 => ∃ x μ1 s1, SR X.K μ1 H1 s1 ∧ VR X.K μ1 H1 x v ∧ x.under s1.len = true ∧
    Post X.K p (atW W σ) μ1 s1 H1 (match walkOf x s1 with | some w => .ok w s1 | none => .bad) (fun w μ' s' H' => ∀ J, WOk X.K w J μ' s' H' → R J H')) r er q fun x μ1 s1 H1 v ex r1 e1 hv u q => ⟨x, μ1, s1, r1, hv, u, q⟩)
  refine thn h1 fun v t1 ⟨v1, H1, I1, rv, x, μ1, s1, r1, hv, u, q⟩ => ?_
  cases x with
  | tup xs =>
    obtain ⟨a, vs, rfl, ta, hvs⟩ := hv
    cases rv
    have q := Post.ok (a := seqW xs) q r1 (Itt X.K a) (w_tup r1 ta hvs u)
    obtain ⟨its, rvs, p', hz⟩ := I1.tuple ta
    refine wpAny_pyIter_tuple (show t1.heap.IsTuple a its.toArray from p') ?_
    exact pi_one (tk := t1.toks) I1 _ (turn_tuple a _) ⟨_, Heap.get?_push_size _ rfl, rfl, rfl⟩ q
  | str z =>
    cases (show v1 = _ from hv)
    obtain ⟨t, rfl⟩ := rv
    have q := Post.ok (a := seqW (z.map fun c => .str [c])) q r1 (Its ⟨z.toArray⟩) w_str
    cases ha : (⟨z.toArray⟩ : Str).cps.all (· < 128)
    · exact wpAny_pyIter_wide ha (pi_one (tk := t1.toks) I1 _ (turn_str _ _ t "str_iterator" (.inr rfl)) ⟨_, Heap.get?_push_size _ rfl, rfl, rfl⟩ q)
    · exact wpAny_pyIter_ascii ha (pi_one (tk := t1.toks) I1 _ (turn_str _ _ t "str_ascii_iterator" (.inl rfl)) ⟨_, Heap.get?_push_size _ rfl, rfl, rfl⟩ q)
  | ref n =>
    cases (show v1 = _ from hv)
    cases rv
    have q : Post X.K p (atW W σ) μ1 s1 H1 (match (match s1.rd n with | some _ => some (lstW n) | none => none) with | some w => .ok w s1 | none => .bad) (fun w μ' s' H' => ∀ J, WOk X.K w J μ' s' H' → R J H') := q
    cases e2 : s1.rd n with
    | none => rw [e2] at q; exact q.elim
    | some xs =>
      rw [e2] at q
      obtain ⟨⟨vs, g1, g2⟩, uu, hn⟩ := r1.rd e2
      have q := Post.ok (a := lstW n) q r1 (Itl X.K (μ1 n)) (w_list hn fun μ s H e r => rd_stays e2 r1 e r)
      obtain ⟨its, rvs, p', hz⟩ := I1.list g1
      refine wpAny_pyIter_list p'.isList ?_
      exact pi_one (tk := t1.toks) I1 _ (turn_list _ _) ⟨_, Heap.get?_push_size _ rfl, rfl, rfl⟩ q
  | _ => exact q.elim
theorem i_range1 {a : E} {y : Expr} {z : Str} {p2 pos : Pos} {O : Ocl} (c : Ctx X T p d W) (hz : z = nm "range") (hg : glB X.env.scope z = true) (hy : notStar y = true) (h : PE X y (evT X p W (evE O a))) : PI X tg (.Call (.Name z p2) [y] [] pos) (evI X p W (evIt O (.range1 a))) := by
  subst hz
  obtain ⟨g1, g2, g3⟩ := gl_of hg
  refine PI.imp (pi_range1 g1 c.ok.rng (pa_cons h pa_nil (star_cons hy)) (star_cons hy)) fun σ H R hq => ?_
  obtain ⟨μ, s0, ρ, r, er, q⟩ := hq
  refine stepE (k := fun _ x s => (match x with | .int i => if small62 i then .ok (rangeW 0 i) s else .bad | _ => .bad)) r er q fun x μ1 s1 H1 v ex r1 e1 hv u q => ?_
  cases x with
  | int i =>
    cases (show v = _ from hv)
    have q : Post X.K p (atW W σ) μ1 s1 H1 (if small62 i then .ok (rangeW 0 i) s1 else .bad) (fun w μ' s' H' => ∀ J, WOk X.K w J μ' s' H' → R J H') := q
    by_cases hs : small62 i = true
    · rw [if_pos hs] at q
      have hs' := of_decide_eq_true (show decide (-(2 ^ 62) ≤ i ∧ i < 2 ^ 62) = true from hs)
      have q := Post.ok (a := rangeW 0 i) q r1 (Itr 0 (i - 0).toNat) w_range
      rw [Int.sub_zero] at q
      exact ⟨i, rfl, hs'.1, hs'.2, q⟩
    · rw [if_neg hs] at q
      exact q.elim
  | _ => exact q.elim
theorem i_range2 {a b : E} {y w : Expr} {z : Str} {p2 pos : Pos} {O : Ocl} (c : Ctx X T p d W) (hz : z = nm "range") (hg : glB X.env.scope z = true) (hy : notStar y = true) (hw : notStar w = true) (h : PE X y (evT X p W (evE O a))) (h2 : PE X w (evT X p W (evE O b))) :
    PI X tg (.Call (.Name z p2) [y, w] [] pos) (evI X p W (evIt O (.range2 a b))) := by
  subst hz
  obtain ⟨g1, g2, g3⟩ := gl_of hg
  have s1 : starEach [w] X.env = [(false, eval w X.env)] := star_cons hw
  refine PI.imp (pi_range2 g1 c.ok.rng (pa_cons h (pa_cons h2 pa_nil s1) (star_cons hy)) (by rw [star_cons hy, s1]) s1) fun σ H R hq => ?_
  obtain ⟨μ, s0, ρ, r, er, q⟩ := hq
  refine stepE (k := fun ρ x s => (evE O b ρ s).bind fun y s => (match x, y with | .int i, .int j => if small62 i && small62 j then .ok (rangeW i j) s else .bad | _, _ => .bad)) r er q fun x μ1 s1 H1 v ex r1 e1 hv u q => ?_
  refine stepE (k := fun ρ y s => (match x, y with | .int i, .int j => if small62 i && small62 j then .ok (rangeW i j) s else .bad | _, _ => .bad)) r1 e1 q fun y μ2 s2 H2 v2 ex2 r2 e2 hv2 u2 q => ?_
  cases x with
  | int i =>
    cases y with
    | int j =>
      cases (show v = _ from hv)
      cases (show v2 = _ from hv2)
      have q : Post X.K p (atW W σ) μ2 s2 H2 (if small62 i && small62 j then .ok (rangeW i j) s2 else .bad) (fun w μ' s' H' => ∀ J, WOk X.K w J μ' s' H' → R J H') := q
      by_cases hs : (small62 i && small62 j) = true
      · rw [if_pos hs] at q
        obtain ⟨k1, k2⟩ := and3 hs
        have k1 := of_decide_eq_true (show decide (-(2 ^ 62) ≤ i ∧ i < 2 ^ 62) = true from k1)
        have k2 := of_decide_eq_true (show decide (-(2 ^ 62) ≤ j ∧ j < 2 ^ 62) = true from k2)
        exact ⟨i, j, rfl, ⟨k1.1, k1.2, k2.1, k2.2⟩, Post.ok (a := rangeW i j) q r2 (Itr i (j - i).toNat) w_range⟩
      · rw [if_neg hs] at q
        exact q.elim
    | _ => exact q.elim
  | _ => cases y <;> exact q.elim
theorem i_enum {e : E} {y : Expr} {z : Str} {p2 pos : Pos} {O : Ocl} (c : Ctx X T p d W) (ht : isTup tg = true) (hz : z = nm "enumerate") (hg : glB X.env.scope z = true) (hy : notStar y = true) (h : PE X y (evT X p W (evE O e))) :
    PI X tg (.Call (.Name z p2) [y] [] pos) (evI X p W (evIt O (.enum e))) := by
  subst hz
  obtain ⟨g1, g2, g3⟩ := gl_of hg
  obtain ⟨elts, kk, tp, rfl⟩ : ∃ elts kk tp, tg = .Tuple elts kk tp := by
    cases tg <;> first | exact ⟨_, _, _, rfl⟩ | cases ht
  have ha : PA X [y] (tCons (evT X p W (evE O e)) tNil) := pa_cons h pa_nil (star_cons hy)
  refine ⟨fun pins s σ H R I hq => ?_⟩
  obtain ⟨μ, s0, ρ, r, er, q⟩ := hq
  have q : Post X.K p (atW W σ) μ s0 H ((evE O e ρ s0).bind fun x s => (match walkOf x s with | some w => .ok (enumW w) s | none => .bad)) (fun w μ' s' H' => ∀ J, WOk X.K w J μ' s' H' → R J H') := q
  have h1 : tCons (evT X p W (evE O e)) tNil σ H (fun vs H1 => ∃ v x μ1 s1, vs = [v] ∧ SR X.K μ1 H1 s1 ∧ VR X.K μ1 H1 x v ∧ x.under s1.len = true ∧
    Post X.K p (atW W σ) μ1 s1 H1 (match walkOf x s1 with | some w => .ok (enumW w) s1 | none => .bad) (fun w μ' s' H' => ∀ J, WOk X.K w J μ' s' H' → R J H')) :=
    stepE (k := fun _ x s => (match walkOf x s with | some w => .ok (enumW w) s | none => .bad)) r er q fun x μ1 s1 H1 v ex r1 e1 hv u q => ⟨v, x, μ1, s1, rfl, r1, hv, u, q⟩
  refine Call_ (ld_blt I g1 c.ok.enu boot_enumerate (PyProof.Rows.callWith_type1 (thn (ha.run pos pins s σ H _ I h1) fun us t1 ⟨vs, H1, I1, rv, q1⟩ => ?_) (star_cons hy) rfl))
  obtain ⟨v1, x, μ1, s1, e0, r1, hv, u, q⟩ := q1
  subst e0
  have ru0 := Vals.one rv
  clear rv
  obtain ⟨uv, rfl, rv⟩ := ru0
  have two : ∀ b ∈ [t1.heap.objs.size + 1, t1.heap.objs.size], FpOk X pins H1 b := fun b hb => by
    have e' : b = t1.heap.objs.size + 1 ∨ b = t1.heap.objs.size := by simpa using hb
    have hle : t1.heap.objs.size ≤ b := by
      rcases e' with z | z
      · rw [z]; exact Nat.le_add_right _ _
      · rw [z]; exact Nat.le_refl _
    exact I1.fpOk hle (I1.hok.fresh hle)
  cases x with
  | tup xs =>
    obtain ⟨a, vs, rfl, ta, hvs⟩ := hv
    have rv' : uv = Value.ref a := rv
    subst rv'
    have q := Post.ok (a := enumW (seqW xs)) q r1 (IteT X.K a vs.length) (w_enumT r1 ta hvs u)
    obtain ⟨its, rvs, p', hz⟩ := I1.tuple ta
    have hlt : a < t1.heap.objs.size := p'.lt
    refine enumBegins (begins_tuple a its.toArray) p' ?_
    intro h' he hit hsz hk
    refine wpAny_pyIter_enum he ?_
    exact ⟨_, _, _, _, H1, rfl, I1.kept (t' := t1.toks) hk, turn_enumT a (t1.heap.objs.size + 1) t1.heap.objs.size vs.length ⟨Nat.ne_of_lt (Nat.lt_succ_of_lt hlt), Nat.ne_of_lt hlt⟩, ⟨⟨.none, he⟩, ⟨_, hit, rfl, rfl⟩, Nat.succ_ne_self _, Nat.zero_le _⟩, two, q⟩
  | str z =>
    cases (show v1 = _ from hv)
    obtain ⟨t, rfl⟩ := rv
    have q := Post.ok (a := enumW (seqW (z.map fun c => .str [c]))) q r1 (IteS ⟨z.toArray⟩) w_enumS
    refine call_enumerate_str ?_
    intro h' he hit hsz hk
    refine wpAny_pyIter_enum he ?_
    exact ⟨_, _, _, _, H1, rfl, I1.kept (t' := t1.toks) hk, turn_enumS _ t (t1.heap.objs.size + 1) t1.heap.objs.size, ⟨⟨.none, he⟩, hit, Nat.succ_ne_self _, Nat.zero_le _⟩, two, q⟩
  | ref n =>
    cases (show v1 = _ from hv)
    have rv' : uv = Value.ref (μ1 n) := rv
    subst rv'
    have q : Post X.K p (atW W σ) μ1 s1 H1 (match (match s1.rd n with | some _ => some (lstW n) | none => none) with | some w => .ok (enumW w) s1 | none => .bad) (fun w μ' s' H' => ∀ J, WOk X.K w J μ' s' H' → R J H') := q
    cases e2 : s1.rd n with
    | none => rw [e2] at q; exact q.elim
    | some xs =>
      rw [e2] at q
      obtain ⟨⟨vs, k1, k2⟩, uu, hn⟩ := r1.rd e2
      have q := Post.ok (a := enumW (lstW n)) q r1 (Ite X.K (μ1 n)) (w_enum hn fun μ s H e r => rd_stays e2 r1 e r)
      obtain ⟨its, rvs, p', hz⟩ := I1.list k1
      refine call_enumerate_list p'.isList ?_
      intro h' he hit hsz hk
      refine wpAny_pyIter_enum he ?_
      exact ⟨_, _, _, _, H1, rfl, I1.kept (t' := t1.toks) hk, turn_enum _ (t1.heap.objs.size + 1) t1.heap.objs.size, ⟨⟨.none, he⟩, hit, Nat.succ_ne_self _⟩, two, q⟩
  | _ => exact q.elim
end
end Ev

set_option linter.all false
set_option maxRecDepth 100000
set_option maxHeartbeats 1000000
/-! Ev9: targets, comprehensions. -/
namespace Ev
open PySem L2 PySem.Spec PyProof.Rows
/-! ### targets -/
def gsOf : List Nat → TGs
  | [] => gNil
  | i :: r => gCons (gName i) (gsOf r)
def gT (K : PySem.W.Frag) (tg : List Nat) : TG := match tg with
  | [i] => gName i
  | is => gTup K is.length (gsOf is)
/-- the slots but some -/
structure ERw (K : PySem.W.Frag) (μ : Mu) (H : Hp) (s : S) (tg : List Nat) (ρ : En) (σ : L2.St) : Prop where
  len : ρ.length = σ.length
  at_ : ∀ (i : Nat) (d : D), i ∉ tg → ρ[i]? = some (some d) → ∃ v, σ[i]? = some (some v) ∧ VR K μ H d v ∧ d.under s.len = true
section
variable {K : PySem.W.Frag} {μ : Mu} {H : Hp} {s : S} {ρ : En} {σ : L2.St}
theorem ERw.full (h : ERw K μ H s [] ρ σ) : ER K μ H s ρ σ := ⟨h.len, fun i d => h.at_ i d (by simp)⟩
theorem ER.weak (h : ER K μ H s ρ σ) (tg : List Nat) : ERw K μ H s tg ρ σ := ⟨h.len, fun i d _ => h.at_ i d⟩
theorem ERw.set {i : Nat} {r : List Nat} {d : D} {v : V} (h : ERw K μ H s (i :: r) ρ σ) (hv : VR K μ H d v) (u : d.under s.len = true) : ERw K μ H s r (ρ.set i (some d)) (σ.set i (some v)) := by
  refine ⟨by simp [h.len], fun j x hj hx => ?_⟩
  by_cases e : i = j
  · subst e
    by_cases hi : i < ρ.length
    · rw [List.getElem?_set_self hi] at hx
      have : d = x := Option.some.inj (Option.some.inj hx)
      subst this
      exact ⟨v, List.getElem?_set_self (by rw [← h.len]; exact hi), hv, u⟩
    · rw [List.getElem?_eq_none (by simpa using hi)] at hx
      cases hx
  · rw [List.getElem?_set_ne e] at hx ⊢
    exact h.at_ j x (by simp only [List.mem_cons, not_or]; exact ⟨fun z => e z.symm, hj⟩) hx
/-- what a target changes -/
def Only_ (tg : List Nat) (σ σ1 : L2.St) : Prop := σ1.length = σ.length ∧ ∀ i, i ∉ tg → σ1[i]? = σ[i]?
theorem gs_ok : ∀ (tg : List Nat) {xs : List D} {vs : List V} {ρ : En} {σ : L2.St} {Q : L2.St → Hp → Prop}, xs.length = tg.length → VRs K μ H xs vs → D.unders s.len xs = true → ERw K μ H s tg ρ σ →
    (∀ σ1, ER K μ H s ((tg.zip xs).foldl (fun ρ p => ρ.set p.1 (some p.2)) ρ) σ1 → Only_ tg σ σ1 → Q σ1 H) → gsOf tg vs σ H Q
  | [], [], vs, ρ, σ, Q, _, hv, _, e, go => by
    cases (show vs = [] from hv)
    exact ⟨rfl, go σ e.full ⟨rfl, fun _ _ => rfl⟩⟩
  | i :: tg, x :: xs, _, ρ, σ, Q, hl, ⟨v, r, q, h1, h2⟩, u, e, go => by
    subst q
    obtain ⟨u1, u2⟩ := Bool.and_eq_true_iff.mp (show (x.under s.len && D.unders s.len xs) = true from u)
    refine ⟨v, r, rfl, ?_⟩
    refine gs_ok tg (by simpa using hl) h2 u2 (e.set h1 u1) fun σ1 e1 o1 => go σ1 e1 ⟨by rw [o1.1]; simp, fun j hj => ?_⟩
    simp only [List.mem_cons, not_or] at hj
    rw [o1.2 j hj.2, List.getElem?_set_ne (fun z => hj.1 z.symm)]
  | [], _ :: _, _, _, _, _, hl, _, _, _, _ => by simp at hl
  | _ :: _, [], _, _, _, _, hl, _, _, _, _ => by simp at hl
theorem gT_ok {tg : List Nat} {d : D} {v : V} {ρ1 : En} {Q : L2.St → Hp → Prop} (h : bindT tg d ρ = some ρ1) (hv : VR K μ H d v) (u : d.under s.len = true) (e : ERw K μ H s tg ρ σ) (go : ∀ σ1, ER K μ H s ρ1 σ1 → Only_ tg σ σ1 → Q σ1 H) : gT K tg v σ H Q := by
  have one : ∀ i, tg = [i] → gT K tg v σ H Q := fun i hi => by
    subst hi
    have h : some (ρ.set i (some d)) = some ρ1 := h
    cases h
    exact go _ (e.set hv u).full ⟨by simp, fun j hj => List.getElem?_set_ne (fun z => hj (by simp [z]))⟩
  have tup : gT K tg = gTup K tg.length (gsOf tg) → bindT tg d ρ = bindTup tg d ρ → gT K tg v σ H Q := fun hg hb => by
    rw [hb] at h
    rw [hg]
    cases d with
    | tup xs =>
      obtain ⟨a, vs, rfl, ta, hvs⟩ := hv
      have h : (if xs.length = tg.length then some ((tg.zip xs).foldl (fun ρ p => ρ.set p.1 (some p.2)) ρ) else none) = some ρ1 := h
      by_cases hl : xs.length = tg.length
      · rw [if_pos hl] at h
        cases h
        exact ⟨a, vs, rfl, ta, by rw [← hvs.length]; exact hl, gs_ok tg hl hvs u e go⟩
      · rw [if_neg hl] at h
        cases h
    | _ => cases h
  rcases tg with _ | ⟨i, _ | ⟨j, r⟩⟩
  · exact tup rfl rfl
  · exact one i rfl
  · exact tup rfl rfl
end
theorem pgs_of {X : Cx} (hN : X.N.Nodup) {loc : Str → Bool} (hl : ∀ x, loc x = true → Loc X.env.scope x ∧ (X.fn x = true ∨ X.env.scope.names.lookup x = some .local)) : ∀ {es : List Expr} {is : List Nat}, es.length = is.length →
    ((es.zip is).all fun p => match p.1 with | .Name x _ => decide (X.N[p.2]? = some x) && loc x | _ => false) = true → PGs X es (gsOf is) ∧ (assignEach es X.env).length = is.length ∧ (assignEach es X.env).findIdx? (·.1) = none
  | [], [], _, _ => ⟨pgs_nil, rfl, rfl⟩
  | e :: es, i :: is, hn, h => by
    rw [List.zip_cons_cons, List.all_cons] at h
    obtain ⟨h1, h2⟩ := and3 h
    obtain ⟨g1, g2, g3⟩ := pgs_of hN hl (by simpa using hn) h2
    cases e with
    | Name x pos =>
      obtain ⟨k1, k2⟩ := and3 h1
      obtain ⟨l1, l2⟩ := hl x k2
      refine ⟨pgs_cons (pg_name hN (of_decide_eq_true k1) l1 l2) g1, ?_, ?_⟩
      · show (assignEach es X.env).length + 1 = is.length + 1
        rw [g2]
      · show ((false, _) :: assignEach es X.env).findIdx? (·.1) = none
        rw [List.findIdx?_cons]
        simp [g3]
    | _ => cases h1
  | [], _ :: _, hn, _ => by simp at hn
  | _ :: _, [], hn, _ => by simp at hn
theorem pg_T {X : Cx} (hc : X.calm = true) (hN : X.N.Nodup) {loc : Str → Bool} (hl : ∀ x, loc x = true → Loc X.env.scope x ∧ (X.fn x = true ∨ X.env.scope.names.lookup x = some .local)) {tg : List Nat} {t : Expr} (h : tgB X.N X.env.scope tg t loc = true) : PG X t (gT X.K tg) := by
  cases t with
  | Name x pos =>
    rcases tg with _ | ⟨i, _ | ⟨j, r⟩⟩
    · cases h
    · obtain ⟨k1, k2⟩ := and3 (show (decide (X.N[i]? = some x) && loc x) = true from h)
      obtain ⟨l1, l2⟩ := hl x k2
      exact pg_name hN (of_decide_eq_true k1) l1 l2
    · cases h
  | Tuple es k pos =>
    obtain ⟨h1, h2⟩ := and3 (show (decide (2 ≤ tg.length) && decide (es.length = tg.length) && _) = true from h)
    obtain ⟨h3, h4⟩ := and3 h1
    have h3 := of_decide_eq_true h3
    obtain ⟨g1, g2, g3⟩ := pgs_of hN hl (of_decide_eq_true h4) h2
    have e : gT X.K tg = gTup X.K tg.length (gsOf tg) := by
      match tg, h3 with
      | _ :: _ :: _, _ => rfl
    rw [e]
    exact pg_tup hc g1 g2 g3
  | _ => cases h
/-! ### a side object is written -/
section
variable {K : PySem.W.Frag} {μ μ' : Mu} {H H' : Hp} {s s' : S}
mutual
theorem VR.keep {n : Nat} (hm : ∀ k, k < n → μ' k = μ k) (ht : (∀ a vs, SqT K H a vs → SqT K H' a vs) ∧ ∀ a vs, KL K H a vs → KL K H' a vs) : ∀ (d : D) (v : V), d.under n = true → VR K μ H d v → VR K μ' H' d v
  | .non, _, _, h => h
  | .bl _, _, _, h => h
  | .int _, _, _, h => h
  | .str _, _, _, h => h
  | .tup xs, v, u, ⟨a, vs, h1, h2, h3⟩ => ⟨a, vs, h1, ht.1 a vs h2, VRs.keep hm ht xs vs u h3⟩
  | .ref k, v, u, h => by
    have hn : k < n := of_decide_eq_true u
    show v = .ref (μ' k)
    rw [hm k hn]
    exact h
  | .kl ns, v, _, ⟨a, h1, h2⟩ => ⟨a, h1, ht.2 a _ h2⟩
theorem VRs.keep {n : Nat} (hm : ∀ k, k < n → μ' k = μ k) (ht : (∀ a vs, SqT K H a vs → SqT K H' a vs) ∧ ∀ a vs, KL K H a vs → KL K H' a vs) : ∀ (ds : List D) (vs : List V), D.unders n ds = true → VRs K μ H ds vs → VRs K μ' H' ds vs
  | [], _, _, h => h
  | d :: ds, vs, u, ⟨v, q, h1, h2, h3⟩ => by
    obtain ⟨u1, u2⟩ := Bool.and_eq_true_iff.mp (show (d.under n && D.unders n ds) = true from u)
    exact ⟨v, q, h1, VR.keep hm ht d v u1 h2, VRs.keep hm ht ds q u2 h3⟩
end
/-- D0 is a list that the store does not know -/
theorem side_tup1 {D0 : Addr} {ws ws' : List V} (h : H D0 = some (.lst ws)) : ∀ a vs, SqT K H a vs → SqT K (upd H D0 (.lst ws')) a vs := fun a vs q => by
  rcases q with (q | ⟨o, q⟩) | q
  · have ne : a ≠ D0 := fun z => by rw [z, h] at q; cases q
    exact .inl (.inl (by rw [upd_ne ne]; exact q))
  · have ne : a ≠ D0 := fun z => by rw [z, h] at q; cases q
    exact .inl (.inr ⟨o, by rw [upd_ne ne]; exact q⟩)
  · exact .inr q
theorem side_tup {D0 : Addr} {ws ws' : List V} (h : H D0 = some (.lst ws)) : (∀ a vs, SqT K H a vs → SqT K (upd H D0 (.lst ws')) a vs) ∧ ∀ a vs, KL K H a vs → KL K (upd H D0 (.lst ws')) a vs := ⟨side_tup1 h, fun a vs q => by
  rcases q with ⟨o, q⟩ | q
  · have ne : a ≠ D0 := fun z => by rw [z, h] at q; cases q
    exact .inl ⟨o, by rw [upd_ne ne]; exact q⟩
  · exact .inr q⟩
theorem SR.side {D0 : Addr} {ws ws' : List V} (r : SR K μ H s) (h : H D0 = some (.lst ws)) (hn : ∀ n, n < s.len → μ n ≠ D0) : SR K μ (upd H D0 (.lst ws')) s := by
  refine ⟨r.inj, fun n o q => ?_, r.und⟩
  have na := hn n (S.get_lt q)
  have ob := r.obj n o q
  have um := r.und n o q
  cases o with
  | lst xs =>
    obtain ⟨us, q1, q2⟩ := ob
    exact ⟨us, by rw [upd_ne na]; exact q1, VRs.keep (fun _ _ => rfl) (side_tup h) xs us um q2⟩
  | ro xs =>
    exact ob.elim
  | dct _ => exact ob.elim
  | ins _ _ => exact ob.elim
theorem Ext.side {μ0 : Mu} {s0 : S} {H0 : Hp} {D0 : Addr} {o : HO} (e : Ext μ0 s0 H0 μ s H) (h : H0 D0 = none) : Ext μ0 s0 H0 μ s (upd H D0 o) :=
  ⟨e.agree, e.le, fun a ob q hn => by rw [upd_ne (ne_of_none q h)]; exact e.keep a ob q hn, fun a q => by
    by_cases z : a = D0
    · subst z; rw [upd_same]; exact fun z => nomatch z
    · rw [upd_ne z]; exact e.trk a q, e.new, e.lo, e.un⟩
/-- .. and comes to be known -/
theorem SR.adopt {D0 : Addr} {xs : List D} {ws : List V} (r : SR K μ H s) (h : H D0 = some (.lst ws)) (hn : ∀ n, n < s.len → μ n ≠ D0) (v : VRs K μ H xs ws) (u : D.unders s.len xs = true) : SR K (muPush μ s.len D0) H (s.push (.lst xs)) := by
  have kp : ∀ n, n < s.len → muPush μ s.len D0 n = μ n := fun n hl => muPush_lt hl
  refine ⟨fun i j hi hj q => ?_, fun n o q => ?_, fun n o q => ?_⟩
  · rw [len_push] at hi hj
    by_cases h1 : i < s.len <;> by_cases h2 : j < s.len
    · rw [kp i h1, kp j h2] at q
      exact r.inj i j h1 h2 q
    · have : j = s.len := by omega
      subst this
      rw [kp i h1, muPush_same] at q
      exact absurd q (hn i h1)
    · have : i = s.len := by omega
      subst this
      rw [kp j h2, muPush_same] at q
      exact absurd q.symm (hn j h2)
    · omega
  · rcases get_push q with ⟨hl, q⟩ | ⟨hl, q⟩
    · rw [kp n hl]
      have ob := r.obj n o q
      have um := r.und n o q
      cases o with
      | lst ys =>
        obtain ⟨us, q1, q2⟩ := ob
        exact ⟨us, q1, VRs.keep kp ⟨fun _ _ z => z, fun _ _ z => z⟩ ys us um q2⟩
      | ro ys =>
        exact ob.elim
      | dct _ => exact ob.elim
      | ins _ _ => exact ob.elim
    · rw [hl, q, muPush_same]
      exact ⟨ws, h, VRs.keep kp ⟨fun _ _ z => z, fun _ _ z => z⟩ xs ws u v⟩
  · rw [len_push]
    rcases get_push q with ⟨_, q⟩ | ⟨_, q⟩
    · exact Ob.under_mono (Nat.le_succ _) o (r.und n o q)
    · subst q
      exact Ob.under_mono (Nat.le_succ _) _ (show (Ob.lst xs).under s.len = true from u)
theorem Ext.adopt {μ0 : Mu} {s0 : S} {H0 : Hp} {D0 : Addr} {ob : Ob} (e : Ext μ0 s0 H0 μ s H) (h : H0 D0 = none) (u : ob.under s.len = true) : Ext μ0 s0 H0 (muPush μ s.len D0) (s.push ob) H where
  agree := fun n hn => (muPush_lt (Nat.lt_of_lt_of_le hn e.le)).trans (e.agree n hn)
  le := by rw [len_push]; exact Nat.le_trans e.le (Nat.le_succ _)
  keep := e.keep
  trk := e.trk
  new := fun n h1 h2 => by
    rw [len_push] at h2
    by_cases hn : n < s.len
    · rw [muPush_lt hn]
      exact e.new n h1 hn
    · have : n = s.len := by omega
      subst this
      rw [muPush_same]
      exact h
  lo := e.lo
  un := fun b hb q => by
    rcases e.un b hb q with z | z
    · exact .inl z
    · refine .inr fun n o hn hg => ?_
      rcases get_push hg with ⟨_, g⟩ | ⟨g, _⟩
      · exact z n o hn g
      · have := e.le
        omega
theorem Ext.apart {D0 : Addr} {o : HO} (e : Ext μ s H μ' s' H') (h : H D0 = some o) (hn : ∀ n, n < s.len → μ n ≠ D0) : ∀ n, n < s'.len → μ' n ≠ D0 := fun n hl z => by
  by_cases q : n < s.len
  · exact hn n q ((e.agree n q).symm.trans z)
  · have := e.new n (Nat.le_of_not_lt q) hl
    rw [z, h] at this
    cases this
end
theorem bind_inv {α β : Type} {o : Out α} {k : α → S → Out β} {x : β} {s' : S} (h : o.bind k = .ok x s') : ∃ a s1, o = .ok a s1 ∧ k a s1 = .ok x s' := by
  cases o with
  | ok a s1 => exact ⟨a, s1, rfl, h⟩
  | err c as s1 => cases h
  | bad => cases h
theorem Post.of_ok {α : Type} {K : PySem.W.Frag} {p : Pl} {W : WE} {μ : Mu} {s s' : S} {H : Hp} {o : Out α} {a : α} {Q : QA α} (e : o = .ok a s') (h : ∀ μ' H', Ext μ s H μ' s' H' → SR K μ' H' s' → Q a μ' s' H') : Post K p W μ s H o Q := by
  subst e
  exact h
theorem wipe_get (σ : L2.St) (i : Nat) : ∀ vs : List Nat, i ∉ vs → (wipe σ vs)[i]? = σ[i]?
  | [], _ => rfl
  | v :: vs, h => by
    simp only [List.mem_cons, not_or] at h
    unfold wipe
    rw [List.getElem?_set_ne (fun z => h.1 z.symm), wipe_get σ i vs h.2]
theorem wipe_in (σ : L2.St) (i : Nat) (hi : i < σ.length) : ∀ vs : List Nat, i ∈ vs → (wipe σ vs)[i]? = some none
  | v :: vs, h => by
    unfold wipe
    by_cases e : v = i
    · subst e
      rw [List.getElem?_set_self (by rw [wipe_length]; exact hi)]
    · rw [List.getElem?_set_ne e]
      rcases List.mem_cons.mp h with z | z
      · exact absurd z.symm e
      · exact wipe_in σ i hi vs z
theorem wipe_only {tg : List Nat} {σ σ1 : L2.St} (h : Only_ tg (wipe σ tg) σ1) : wipe σ1 tg = wipe σ tg := by
  have hl : σ1.length = σ.length := by rw [h.1, wipe_length]
  apply List.ext_getElem?
  intro i
  by_cases hi : i ∈ tg
  · by_cases hb : i < σ.length
    · rw [wipe_in σ1 i (by rw [hl]; exact hb) tg hi, wipe_in σ i hb tg hi]
    · rw [List.getElem?_eq_none (by rw [wipe_length, hl]; omega), List.getElem?_eq_none (by rw [wipe_length]; omega)]
  · rw [wipe_get σ1 i tg hi, h.2 i hi]
section
variable {X : Cx} {T : Tab} {p : Pl} {d : Nat} {W : WX}
abbrev W0 : WX := fun _ _ _ _ => False
def evTst (X : Cx) (p : Pl) (W : WX) (m : En → S → Out Bool) : TT := evTt X p W m
/-- the comprehension, given its parts -/
theorem e_lc {tg : List Nat} {it : IT} {cs : Oe} {e : E} {t iter elt : Expr} {ifs : List Expr} {scope : Scope} {ns : List Str} {pos : Pos} {O : Ocl} (c : Ctx X T p d W)
    (hI : PI X t iter (evI X p W (evIt O it))) (ok : blkC X.N X.env.scope scope (ns.zip tg) = true) (hln : ns.length = tg.length)
    (hg : ∀ (s : Shared) (H : Hp) (C : Addr) (cl : List (Str × Addr)) (fp : List Addr), PG (X.blk s H scope (compEnvC scope cl C X.env) fp) t (gT X.K tg))
    (ht : ∀ (s : Shared) (H : Hp) (C : Addr) (cl : List (Str × Addr)) (fp : List Addr), PTs (X.blk s H scope (compEnvC scope cl C X.env) fp) ifs (evTt (X.blk s H scope (compEnvC scope cl C X.env) fp) p W0 (evC O cs)))
    (he : ∀ (s : Shared) (H : Hp) (C : Addr) (cl : List (Str × Addr)) (fp : List Addr), PE (X.blk s H scope (compEnvC scope cl C X.env) fp) elt (evT (X.blk s H scope (compEnvC scope cl C X.env) fp) p W0 (evE O e))) :
    ∀ σ H Q, evT X p W (evE O (.lc tg it cs e)) σ H Q → tLc (evI X p W (evIt O it)) (gT X.K tg) (evTt X p W0 (evC O cs)) (evT X p W0 (evE O e)) ((ns.zip tg).map (·.2)) σ H Q := by
  intro σ H Q h
  obtain ⟨μ, s, ρ, r, er, h⟩ := h
  have hown : (ns.zip tg).map (·.2) = tg := by rw [List.map_snd_zip]; omega
  rw [hown]
  have h : Post X.K p (atW W σ) μ s H ((evIt O it ρ s).bind fun w s => (quiet (loopE w tg (evC O cs) (evE O e) ρ fuel 0 [] s)).bind fun xs s => s.newL xs) (QV X.K Q) := h
  refine ⟨μ, s, ρ, r, er, h.bind.imp fun w μ1 s1 H1 _ ex1 r1 q J hJ => ?_⟩
  intro D0 hD
  have er1 := er.mono ex1 r
  have e0 : Ext μ1 s1 H1 μ1 s1 (upd H1 D0 (.lst [])) := ext_tup r1 hD
  obtain ⟨xe, se, hloop, q⟩ : ∃ xe se, loopE w tg (evC O cs) (evE O e) ρ fuel 0 [] s1 = .ok xe se ∧ Post X.K p (atW W σ) μ1 s1 H1 (se.newL xe) (QV X.K Q) := by
    cases hq : loopE w tg (evC O cs) (evE O e) ρ fuel 0 [] s1 with
    | ok a s' => rw [hq] at q; exact ⟨a, s', rfl, q⟩
    | err cc as s' => rw [hq] at q; exact q.elim
    | bad => rw [hq] at q; exact q.elim
  refine ⟨fun i f H2 => ∃ μ2 s2 acc ws, Ext μ1 s1 H1 μ2 s2 H2 ∧ SR X.K μ2 H2 s2 ∧ H2 D0 = some (.lst ws) ∧ VRs X.K μ2 H2 acc ws ∧ D.unders s2.len acc = true ∧ (∀ n, n < s2.len → μ2 n ≠ D0) ∧
      loopE w tg (evC O cs) (evE O e) ρ f i acc s2 = .ok xe se,
    ⟨fuel, μ1, s1, [], [], e0, r1.tup hD, upd_same, rfl, rfl, fun n hn z => ?_, hloop⟩, ?_⟩
  · obtain ⟨ob, hob⟩ : ∃ ob, s1.get n = some ob := ⟨_, List.getElem?_eq_getElem hn⟩
    exact (r1.obj n ob hob).notup.1 (by rw [z]; exact hD)
  rintro i f H2 ⟨μ2, s2, acc, ws, ex2, r2, hD2, va, ua, nD, hl⟩
  obtain ⟨w1, w2⟩ := hJ μ2 s2 H2 i ex2 r2
  cases f with
  | zero => cases hl
  | succ f =>
    have hl : (match w s2 i with
        | none => Out.ok acc s2
        | some d => match bindT tg d ρ with
          | none => Out.bad
          | some ρ1 => (evC O cs ρ1 s2).bind fun b s => if b then (evE O e ρ1 s).bind fun x s => if acc.length < big then loopE w tg (evC O cs) (evE O e) ρ f (i + 1) (acc ++ [x]) s else .bad
            else loopE w tg (evC O cs) (evE O e) ρ f (i + 1) acc s) = .ok xe se := hl
    cases hw : w s2 i with
    | none =>
      refine .inl ⟨w1 hw, ?_⟩
      rw [hw] at hl
      obtain ⟨ea, es⟩ : xe = acc ∧ se = s2 := by cases hl; exact ⟨rfl, rfl⟩
      subst ea es
      have q : Post X.K p (atW W σ) μ1 s1 H1 (if xe.length ≤ big then se.new (.lst xe) else .bad) (QV X.K Q) := q
      by_cases hb : xe.length ≤ big
      · rw [if_pos hb] at q
        refine q _ _ (ex2.adopt hD (ob := .lst xe) ua) (r2.adopt hD2 nD va ua) _ ?_ ?_
        · show V.ref D0 = .ref (muPush μ2 se.len D0 se.len)
          rw [muPush_same]
        · show decide (se.len < (se.push _).len) = true
          rw [len_push]
          exact decide_eq_true (Nat.lt_succ_self _)
      · rw [if_neg hb] at q
        exact q.elim
    | some dd =>
      obtain ⟨go, yl⟩ := w2 dd hw
      rw [hw] at hl
      cases hb : bindT tg dd ρ with
      | none => simp only [hb] at hl; cases hl
      | some ρ1 =>
        simp only [hb] at hl
        obtain ⟨bt, st, ht1, hl⟩ := bind_inv hl
        refine .inr ⟨go, fun H' => ∃ μ2 s2 acc ws, Ext μ1 s1 H1 μ2 s2 H' ∧ SR X.K μ2 H' s2 ∧ H' D0 = some (.lst ws) ∧ VRs X.K μ2 H' acc ws ∧ D.unders s2.len acc = true ∧ (∀ n, n < s2.len → μ2 n ≠ D0) ∧
          loopE w tg (evC O cs) (evE O e) ρ f (i + 1) acc s2 = .ok xe se, fun H' hh => ⟨f, Nat.lt_succ_self _, hh⟩, fun x H3 hy => ?_⟩
        obtain ⟨ex3, r3, vx, ux⟩ := yl x H3 hy
        have ex13 := ex2.trans ex3
        have er3 : ER X.K μ2 H3 s2 ρ σ := er1.mono ex13 r1
        have ew : ERw X.K μ2 H3 s2 tg ρ (wipe σ tg) := ⟨by rw [wipe_length]; exact er3.len, fun j dj hj hd => by
          rw [wipe_get σ j tg hj]
          exact er3.at_ j dj hd⟩
        refine gT_ok hb vx ux ew fun σ2 e2 o2 => ⟨wipe_only o2, ?_⟩
        have hD3 : H3 D0 = some (.lst ws) := ex3.keep D0 _ hD2 nD
        have va3 := VRs.mono ex3 r2 acc ws ua va
        -- the test
        refine ⟨μ2, s2, ρ1, r3, e2, Post.of_ok ht1 fun μ4 H4 ex4 r4 => ?_⟩
        have nD4 := ex4.apart hD3 nD
        have hD4 := ex4.keep D0 _ hD3 nD
        have va4 := VRs.mono ex4 r3 acc ws ua va3
        have ua4 := D.unders_mono ex4.le acc ua
        cases bt with
        | false =>
          rw [if_neg Bool.false_ne_true] at hl
          exact iteF ⟨μ4, st, acc, ws, ex13.trans ex4, r4, hD4, va4, ua4, nD4, hl⟩
        | true =>
          rw [if_pos rfl] at hl
          refine iteT ?_
          obtain ⟨xv, sx, he1, hl⟩ := bind_inv hl
          by_cases hbig : acc.length < big
          · rw [if_pos hbig] at hl
            refine ⟨μ4, st, ρ1, r4, e2.mono ex4 r3, Post.of_ok he1 fun μ5 H5 ex5 r5 y hy5 uy5 => ?_⟩
            have nD5 := ex5.apart hD4 nD4
            have hD5 := ex5.keep D0 _ hD4 nD4
            have va5 := VRs.mono ex5 r4 acc ws ua4 va4
            have ua5 := D.unders_mono ex5.le acc ua4
            refine ⟨ws, hD5, by rw [← va5.length, ← big_eq]; exact hbig, μ5, sx, acc ++ [xv], ws ++ [y], ((ex13.trans ex4).trans ex5).side hD, r5.side hD5 nD5, upd_same, ?_, unders_append ua5 (unders_iff.mpr fun z hz => by rw [List.mem_singleton.mp hz]; exact uy5), nD5, hl⟩
            have stay := VRs.keep (K := X.K) (n := sx.len) (fun k (_ : k < sx.len) => (rfl : μ5 k = μ5 k)) (side_tup (ws' := ws ++ [y]) hD5)
            refine VRs.append (stay _ _ ua5 va5) ⟨y, [], rfl, ?_, rfl⟩
            exact VR.keep (K := X.K) (n := sx.len) (fun k (_ : k < sx.len) => (rfl : μ5 k = μ5 k)) (side_tup hD5) xv y uy5 hy5
          · rw [if_neg hbig] at hl
            cases hl
end
end Ev

set_option linter.all false
set_option maxRecDepth 100000
set_option maxHeartbeats 1000000
/-! Ev10: all expressions. -/
namespace Ev
open PySem L2 PySem.Spec PyProof.Rows
section
variable {X : Cx} {T : Tab} {p : Pl} {d : Nat} {W : WX}
theorem truthy_same {x : D} {s s' : S} {k : Bool} (h : truthy x s = .ok k s') : s' = s := by
  cases x with
  | str z =>
    have h : (if z.length ≤ big then Out.ok (z.length != 0) s else Out.bad) = .ok k s' := h
    by_cases hl : z.length ≤ big
    · rw [if_pos hl] at h; cases h; rfl
    · rw [if_neg hl] at h; cases h
  | ref n =>
    have h : (match s.rd n with | some xs => Out.ok (!xs.isEmpty) s | none => Out.bad) = .ok k s' := h
    cases e : s.rd n with
    | none => rw [e] at h; cases h
    | some xs => rw [e] at h; cases h; rfl
  | kl _ => cases h
  | _ => cases h; rfl
theorem truthy_noerr {x : D} {s s' : S} {c : String} {as : List D} (h : truthy x s = .err c as s') : False := by
  cases x with
  | str z =>
    have h : (if z.length ≤ big then Out.ok (z.length != 0) s else Out.bad) = .err c as s' := h
    by_cases hl : z.length ≤ big
    · rw [if_pos hl] at h; cases h
    · rw [if_neg hl] at h; cases h
  | ref n =>
    have h : (match s.rd n with | some xs => Out.ok (!xs.isEmpty) s | none => Out.bad) = .err c as s' := h
    cases e : s.rd n with
    | none => rw [e] at h; cases h
    | some xs => rw [e] at h; cases h
  | _ => cases h
/-- the first part of a chain of and, or: its value x, its truth t -/
theorem stepT {m : En → S → Out D} {k : En → D → Bool → S → Out Bool} {σ : L2.St} {H : Hp} {μ : Mu} {s : S} {ρ : En} {Q : QA Bool} {R : Bool → Hp → Prop} (r : SR X.K μ H s) (e : ER X.K μ H s ρ σ)
    (h : Post X.K p (atW W σ) μ s H ((m ρ s).bind fun x s => (truthy x s).bind fun t s => k ρ x t s) Q)
    (go : ∀ x t μ1 s1 H1, truthy x s1 = .ok t s1 → SR X.K μ1 H1 s1 → ER X.K μ1 H1 s1 ρ σ → Post X.K p (atW W σ) μ1 s1 H1 (k ρ x t s1) Q → R t H1) : evTt X p W (fun ρ s => (m ρ s).bind fun x s => truthy x s) σ H R := by
  refine ⟨μ, s, ρ, r, e, ?_⟩
  show Post X.K p (atW W σ) μ s H ((m ρ s).bind fun x s => truthy x s) _
  cases q : m ρ s with
  | bad => rw [q] at h; exact h
  | err c as s1 => rw [q] at h; exact h
  | ok x s1 =>
    rw [q] at h
    have h : Post X.K p (atW W σ) μ s H ((truthy x s1).bind fun t s => k ρ x t s) Q := h
    show Post X.K p (atW W σ) μ s H (truthy x s1) _
    cases q2 : truthy x s1 with
    | bad => rw [q2] at h; exact h
    | err c as s2 => exact (truthy_noerr q2).elim
    | ok t s2 =>
      have e2 := truthy_same q2
      subst e2
      rw [q2] at h
      exact fun μ1 H1 ex r1 => go x t μ1 s2 H1 q2 r1 (e.mono ex r) (Post.from ex h)
theorem t_and {a b : E} {y z : Expr} {rest : List Expr} {pos : Pos} {O : Ocl} (ha : PT X y (evTt X p W (evB O a))) (hb : PW X (.BoolOp .And (z :: rest) pos) (evTt X p W (evB O b))) : PW X (.BoolOp .And (y :: z :: rest) pos) (evTt X p W (evB O (.and a b))) := by
  refine PW.imp (pw_and ha hb) fun σ H Q h => ?_
  obtain ⟨μ, s, ρ, r, e, h⟩ := h
  have h : Post X.K p (atW W σ) μ s H (((evE O a ρ s).bind fun x s => (truthy x s).bind fun t s => if t then evE O b ρ s else .ok x s).bind fun x s => truthy x s) (fun b _ _ H' => Q b H') := h
  simp only [bind_assoc'] at h
  refine stepT (m := evE O a) (k := fun ρ x t s => (if t then evE O b ρ s else .ok x s).bind fun x s => truthy x s) r e h fun x t μ1 s1 H1 ht r1 e1 q => ?_
  cases t with
  | true => exact iteT ⟨μ1, s1, ρ, r1, e1, q⟩
  | false =>
    have q : Post X.K p (atW W σ) μ1 s1 H1 (truthy x s1) (fun b _ _ H' => Q b H') := q
    rw [ht] at q
    exact iteF (Post.ok q r1)
theorem t_or {a b : E} {y z : Expr} {rest : List Expr} {pos : Pos} {O : Ocl} (ha : PT X y (evTt X p W (evB O a))) (hb : PW X (.BoolOp .Or (z :: rest) pos) (evTt X p W (evB O b))) : PW X (.BoolOp .Or (y :: z :: rest) pos) (evTt X p W (evB O (.or a b))) := by
  refine PW.imp (pw_or ha hb) fun σ H Q h => ?_
  obtain ⟨μ, s, ρ, r, e, h⟩ := h
  have h : Post X.K p (atW W σ) μ s H (((evE O a ρ s).bind fun x s => (truthy x s).bind fun t s => if t then .ok x s else evE O b ρ s).bind fun x s => truthy x s) (fun b _ _ H' => Q b H') := h
  simp only [bind_assoc'] at h
  refine stepT (m := evE O a) (k := fun ρ x t s => (if t then .ok x s else evE O b ρ s).bind fun x s => truthy x s) r e h fun x t μ1 s1 H1 ht r1 e1 q => ?_
  cases t with
  | false => exact iteF ⟨μ1, s1, ρ, r1, e1, q⟩
  | true =>
    have q : Post X.K p (atW W σ) μ1 s1 H1 (truthy x s1) (fun b _ _ H' => Q b H') := q
    rw [ht] at q
    exact iteT (Post.ok q r1)
theorem t_not {a : E} {y : Expr} {pos : Pos} {O : Ocl} (ha : PT X y (evTt X p W (evB O a))) : PT X (.UnaryOp .Not y pos) (evTt X p W (evB O (.not a))) := by
  refine PT.imp (pt_not ha) fun σ H Q h => ?_
  obtain ⟨μ, s, ρ, r, e, h⟩ := h
  have h : Post X.K p (atW W σ) μ s H (((evE O a ρ s).bind fun x s => (truthy x s).bind fun t s => Out.ok (D.bl (!t)) s).bind fun x s => truthy x s) (fun b _ _ H' => Q b H') := h
  simp only [bind_assoc'] at h
  exact stepT (m := evE O a) (k := fun ρ x t s => (Out.ok (D.bl (!t)) s).bind fun x s => truthy x s) r e h fun x t μ1 s1 H1 ht r1 e1 q => Post.ok (a := !t) q r1
theorem t_ite {c a b : E} {t y z : Expr} {pos : Pos} {O : Ocl} (hc : PT X t (evTt X p W (evB O c))) (ha : PT X y (evTt X p W (evB O a))) (hb : PT X z (evTt X p W (evB O b))) : PT X (.IfExp t y z pos) (evTt X p W (evB O (.ite c a b))) := by
  refine ⟨fun pins s0 σ H Q I h => ?_⟩
  obtain ⟨μ, s, ρ, r, e, h⟩ := h
  have h : Post X.K p (atW W σ) μ s H (((evE O c ρ s).bind fun x s => (truthy x s).bind fun t s => if t then evE O a ρ s else evE O b ρ s).bind fun x s => truthy x s) (fun b _ _ H' => Q b H') := h
  simp only [bind_assoc'] at h
  have h1 := hc.run pins s0 σ H _ I (stepT (m := evE O c) (k := fun ρ x t s => (if t then evE O a ρ s else evE O b ρ s).bind fun x s => truthy x s) (R := fun t H1 => if t = true then evTt X p W (evB O a) σ H1 Q else evTt X p W (evB O b) σ H1 Q) r e h fun x t μ1 s1 H1 ht r1 e1 q => by
    cases t with
    | true => exact iteT ⟨μ1, s1, ρ, r1, e1, q⟩
    | false => exact iteF ⟨μ1, s1, ρ, r1, e1, q⟩)
  refine PyProof.Rows.isTrue_IfExp (thn h1 fun t s1 ⟨H1, I1, q⟩ => ?_)
  cases t with
  | true => exact ha.run pins s1 σ H1 Q I1 (by simpa using q)
  | false => exact hb.run pins s1 σ H1 Q I1 (by simpa using q)
/-- a test by the value -/
theorem t_of {e : E} {x : Expr} {O : Ocl} (h : PE X x (evT X p W (evE O e))) (he : ∀ whole, isTrue x X.env whole = (do let v ← whole; standAt x.pos; holding [v] (PySem.truthy v))) : PT X x (evTt X p W (evB O e)) := by
  refine PT.imp (pt_truth h he) fun σ H Q h => ?_
  obtain ⟨μ, s, ρ, r, er, h⟩ := h
  exact stepE (k := fun _ x s => truthy x s) r er h fun x μ1 s1 H1 v ex r1 e1 hv u q => truthy_ok r1 hv q
theorem oB_bl {o : Option Bool} {s s' : S} {z : D} (h : oB o s = .ok z s') : ∃ t, z = .bl t ∧ s' = s := by
  cases o with
  | none => cases h
  | some b => cases h; exact ⟨b, rfl, rfl⟩
theorem cmpD_bl {o : Co} {x y z : D} {s s' : S} (h : cmpD o x y s = .ok z s') : ∃ t, z = .bl t ∧ s' = s := by
  cases o with
  | eq => exact oB_bl h
  | ne => exact oB_bl h
  | is_ => exact oB_bl h
  | isnot => exact oB_bl h
  | in_ => exact oB_bl h
  | notin => exact oB_bl h
  | lt => cases x <;> cases y <;> first | (cases h; done) | (cases h; exact ⟨_, rfl, rfl⟩)
  | le => cases x <;> cases y <;> first | (cases h; done) | (cases h; exact ⟨_, rfl, rfl⟩)
  | gt => cases x <;> cases y <;> first | (cases h; done) | (cases h; exact ⟨_, rfl, rfl⟩)
  | ge => cases x <;> cases y <;> first | (cases h; done) | (cases h; exact ⟨_, rfl, rfl⟩)
theorem Post.cmp {o : Co} {x y : D} {w : WE} {μ : Mu} {s : S} {H : Hp} {Q : Bool → Hp → Prop} {R : VK} (hR : ∀ t H', Q t H' → R (.bl t) H') (h : Post X.K p w μ s H ((cmpD o x y s).bind fun x s => truthy x s) (fun b _ _ H' => Q b H')) : Post X.K p w μ s H (cmpD o x y s) (QV X.K R) := by
  cases q : cmpD o x y s with
  | bad => rw [q] at h; exact h
  | err c as s1 => rw [q] at h; exact h
  | ok z s1 =>
    obtain ⟨t, rfl, rfl⟩ := cmpD_bl q
    rw [q] at h
    intro μ' H' ex r' v hv u
    cases (show v = _ from hv)
    exact hR t H' (h μ' H' ex r')
theorem t_cmp {o : Co} {a b : E} {l r : Expr} {pos : Pos} {O : Ocl} (c : Ctx X T p d W) (hm : behindInMarks (coOf o) r = false) (ha : PE X l (evT X p W (evE O a))) (hb : PE X r (evT X p W (evE O b))) : PT X (.Compare l [coOf o] [r] pos) (evTt X p W (evB O (.cmp o a b))) := by
  refine PT.imp (pt_cmpR (op_cmpD (p := p) c.hu o) ha hb hm) fun σ H Q h => ?_
  obtain ⟨μ, s, ρ, r, er, h⟩ := h
  have h : Post X.K p (atW W σ) μ s H (((evE O a ρ s).bind fun x s => (evE O b ρ s).bind fun y s => cmpD o x y s).bind fun x s => truthy x s) (fun b _ _ H' => Q b H') := h
  simp only [bind_assoc'] at h
  refine stepE (k := fun ρ x s => (evE O b ρ s).bind fun y s => (cmpD o x y s).bind fun x s => truthy x s) r er h fun x μ1 s1 H1 v ex r1 e1 hv u q => ?_
  refine stepE (k := fun ρ y s => (cmpD o x y s).bind fun x s => truthy x s) r1 e1 q fun y μ2 s2 H2 w ex2 r2 e2 hw uw q2 => ?_
  exact ⟨_, μ2, s2, x, y, r2, VR.mono ex2 r1 x v u hv, D.under_mono ex2.le x u, hw, uw, Post.cmp (fun t H' q => ⟨t, rfl, q⟩) q2⟩
theorem t_chain {o o' : Co} {a b c : E} {l r r' : Expr} {pos : Pos} {O : Ocl} (cx : Ctx X T p d W) (hm : lastMarks [coOf o, coOf o'] [r, r'] = false) (ha : PE X l (evT X p W (evE O a))) (hb : PE X r (evT X p W (evE O b))) (hc : PE X r' (evT X p W (evE O c))) :
    PT X (.Compare l [coOf o, coOf o'] [r, r'] pos) (evTt X p W (evB O (.chain o o' a b c))) := by
  refine PT.imp (pt_chain (op_cmpD (p := p) cx.hu o) (op_cmpD (p := p) cx.hu o') ha hb hc hm) fun σ H Q h => ?_
  obtain ⟨μ, s, ρ, r, e, h⟩ := h
  have h : Post X.K p (atW W σ) μ s H (((evE O a ρ s).bind fun x s => (evE O b ρ s).bind fun y s => (cmpD o x y s).bind fun r s => (match r with
    | .bl true => (evE O c ρ s).bind fun z s => cmpD o' y z s
    | .bl false => .ok (.bl false) s
    | _ => .bad)).bind fun x s => truthy x s) (fun b _ _ H' => Q b H') := h
  simp only [bind_assoc'] at h
  refine stepE (k := fun ρ x s => (evE O b ρ s).bind fun y s => (cmpD o x y s).bind fun r s => Out.bind (match r with
    | .bl true => (evE O c ρ s).bind fun z s => cmpD o' y z s
    | .bl false => .ok (.bl false) s
    | _ => .bad) fun x s => truthy x s) r e h fun x μ1 s1 H1 v ex r1 e1 hv u q => ?_
  refine stepE (k := fun ρ y s => (cmpD o x y s).bind fun r s => Out.bind (match r with
    | .bl true => (evE O c ρ s).bind fun z s => cmpD o' y z s
    | .bl false => .ok (.bl false) s
    | _ => .bad) fun x s => truthy x s) r1 e1 q fun y μ2 s2 H2 w ex2 r2 e2 hw uw q2 => ?_
  refine ⟨_, μ2, s2, x, y, r2, VR.mono ex2 r1 x v u hv, D.under_mono ex2.le x u, hw, uw, q2.bind.imp fun z μ3 s3 H3 _ ex3 r3 q3 zv hz uz => ?_⟩
  cases z with
  | bl t =>
    cases (show zv = _ from hz)
    refine ⟨t, rfl, ?_⟩
    cases t with
    | false => exact iteF ⟨false, rfl, Post.ok (a := false) q3 r3⟩
    | true =>
      refine iteT ?_
      have q3 : Post X.K p (atW W σ) μ3 s3 H3 (((evE O c ρ s3).bind fun z s => cmpD o' y z s).bind fun x s => truthy x s) (fun b _ _ H' => Q b H') := q3
      simp only [bind_assoc'] at q3
      refine stepE (k := fun ρ z s => (cmpD o' y z s).bind fun x s => truthy x s) r3 (e2.mono ex3 r2) q3 fun z μ4 s4 H4 zv ex4 r4 e4 hz uz q4 => ?_
      exact ⟨_, μ4, s4, y, z, r4, VR.mono ex4 r3 y w (D.under_mono ex3.le y uw) (VR.mono ex3 r2 y w uw hw), D.under_mono ex4.le y (D.under_mono ex3.le y uw), hz, uz, Post.cmp (fun t H' q => ⟨t, rfl, q⟩) q4⟩
  | _ => exact q3.elim
/-! ### all of them -/
def GE (e : E) : Prop := ∀ {X : Cx} {T : Tab} {p : Pl} {d : Nat} {W : WX} {x : Expr}, Ctx X T p d W → simE X.N X.env.scope e x = true → PE X x (evT X p W (evE (orc T d) e))
def GT (e : E) : Prop := ∀ {X : Cx} {T : Tab} {p : Pl} {d : Nat} {W : WX} {x : Expr}, Ctx X T p d W → simE X.N X.env.scope e x = true → PT X x (evTt X p W (evB (orc T d) e))
def GW (e : E) : Prop := ∀ {X : Cx} {T : Tab} {p : Pl} {d : Nat} {W : WX} {o : BoolOp} {y z : Expr} {r : List Expr} {pos : Pos}, Ctx X T p d W → simE X.N X.env.scope e (.BoolOp o (y :: z :: r) pos) = true → PW X (.BoolOp o (y :: z :: r) pos) (evTt X p W (evB (orc T d) e))
def GA (e : E) : Prop := GE e ∧ GT e ∧ GW e
def GEs (es : Es) : Prop := ∀ {X : Cx} {T : Tab} {p : Pl} {d : Nat} {W : WX} {xs : List Expr}, Ctx X T p d W → simEs X.N X.env.scope es xs = true → PA X xs (evTs X p W (evEs (orc T d) es))
def GO (o : Oe) : Prop := (∀ {X : Cx} {T : Tab} {p : Pl} {d : Nat} {W : WX} {x : Option Expr}, Ctx X T p d W → simO X.N X.env.scope o x = true → PO X x (evTo X p W (evO (orc T d) o))) ∧
  (∀ {X : Cx} {T : Tab} {p : Pl} {d : Nat} {W : WX} {xs : List Expr}, Ctx X T p d W → simC X.N X.env.scope o xs = true → PTs X xs (evTt X p W (evC (orc T d) o)))
def GI (i : IT) : Prop := ∀ {X : Cx} {T : Tab} {p : Pl} {d : Nat} {W : WX} {x tg : Expr}, Ctx X T p d W → simI X.N X.env.scope i x (isTup tg) = true → PI X tg x (evI X p W (evIt (orc T d) i))
/-- a syntax whose test is its value's truth -/
def plainTest : Expr → Bool
  | .UnaryOp .Not _ _ => false
  | .BoolOp _ _ _ => false
  | .IfExp _ _ _ _ => false
  | .Compare _ _ _ _ => false
  | _ => true
theorem plain_is {x : Expr} {env : Env} (h : plainTest x = true) : ∀ whole, isTrue x env whole = (do let v ← whole; standAt x.pos; holding [v] (PySem.truthy v)) := by
  intro whole
  cases x with
  | UnaryOp o y q => cases o <;> first | rfl | cases h
  | BoolOp _ _ _ => cases h
  | IfExp _ _ _ _ => cases h
  | Compare _ _ _ _ => cases h
  | _ => rfl
theorem g_plain {e : E} (h : GE e) (hp : ∀ {N sc x}, simE N sc e x = true → plainTest x = true) : GA e :=
  ⟨h, fun c hs => t_of (h c hs) (plain_is (hp hs)), fun c hs => absurd (hp hs) (by simp [plainTest])⟩
end
end Ev

set_option linter.all false
set_option maxRecDepth 100000
set_option maxHeartbeats 1000000
/-! Ev11: every expression that fits is evaluated so. -/
namespace Ev
open PySem L2 PySem.Spec PyProof.Rows
theorem ctx_blk {X : Cx} {T : Tab} {p : Pl} {d : Nat} {W : WX} (c : Ctx X T p d W) (s : Shared) (H : Hp) (scope : Scope) (cenv : Env) (fp : List Addr) : Ctx (X.blk s H scope cenv fp) T p d W0 :=
  ⟨c.calm, c.nd, c.room, fun u s' ⟨_, _, _, _, _, _, _, _, _, _, _, _, _, _, _, _, w⟩ => w.elim, PassesOwn.never, c.ok⟩
theorem loc_blk {X : Cx} {s : Shared} {H : Hp} {scope : Scope} {C : Addr} {cl : List (Str × Addr)} {fp : List Addr} {x : Str} (h : locB scope x = true) :
    Loc (X.blk s H scope (compEnvC scope cl C X.env) fp).env.scope x ∧ ((X.blk s H scope (compEnvC scope cl C X.env) fp).fn x = true ∨ (X.blk s H scope (compEnvC scope cl C X.env) fp).env.scope.names.lookup x = some .local) := by
  have e : (X.blk s H scope (compEnvC scope cl C X.env) fp).env.scope = relS scope X.env.scope := rfl
  rw [e]
  unfold locB at h
  split at h
  · rename_i q
    have k := lookup_relS_keep (sc := X.env.scope) (by decide : NameKind.local ≠ .free) q
    exact ⟨.inl k, .inr k⟩
  · rename_i q
    have k := lookup_relS_keep (sc := X.env.scope) (by decide : NameKind.cell ≠ .free) q
    refine ⟨.inr k, .inl ?_⟩
    show (scope.names.lookup x == some .cell) = true
    rw [q]
    rfl
  · cases h
theorem notSet {x : Expr} {env : Env} (h : (match x with | .Set _ _ _ => false | _ => true) = true) : ∀ v, foldedSetIterable x env v = pure v := by
  intro v
  cases x <;> first | rfl | cases h
section
theorem g_v (i : Nat) : GA (.v i) := g_plain (fun {X T p d W x} c hs => by
  cases x with
  | Name y q => obtain ⟨h1, h2⟩ := and3 hs; exact e_v (of_decide_eq_true h1) h2
  | _ => cases hs) fun {N sc x} h => by cases x <;> first | rfl | cases h
theorem g_non : GA .non := g_plain (fun {X T p d W x} c hs => by
  cases x with
  | Constant k j q => cases k with
    | none => exact e_c (d := .non) (v := .non) (fun _ _ => rfl) (fun _ _ => rfl) (fun _ => rfl) pe_non
    | _ => cases hs
  | _ => cases hs) fun {N sc x} h => by cases x <;> first | rfl | cases h
theorem g_bl (b : Bool) : GA (.bl b) := g_plain (fun {X T p d W x} c hs => by
  cases x with
  | Constant k j q => cases k with
    | bool z =>
      have e : b = z := by simpa using (show (b == z) = true from hs)
      subst e
      exact e_c (d := .bl b) (v := .bl b) (fun _ _ => rfl) (fun _ _ => rfl) (fun _ => rfl) pe_bl
    | _ => cases hs
  | _ => cases hs) fun {N sc x} h => by cases x <;> first | rfl | cases h
theorem g_int (i : Int) : GA (.int i) := g_plain (fun {X T p d W x} c hs => by
  cases x with
  | Constant k j q => cases k with
    | int z =>
      have e : i = z := by simpa using (show (i == z) = true from hs)
      subst e
      exact e_c (d := .int i) (v := .int i) (fun _ _ => rfl) (fun _ _ => rfl) (fun _ => rfl) pe_int
    | _ => cases hs
  | _ => cases hs) fun {N sc x} h => by cases x <;> first | rfl | cases h
theorem g_str (i : List Nat) : GA (.str i) := g_plain (fun {X T p d W x} c hs => by
  cases x with
  | Constant k j q => cases k with
    | str z =>
      have e : z = ⟨i.toArray⟩ := of_decide_eq_true (show decide (z = ⟨i.toArray⟩) = true from hs)
      subst e
      exact e_c (d := .str i) (v := .str ⟨i.toArray⟩) (fun _ _ => rfl) (fun _ _ => rfl) (fun _ => rfl) pe_str
    | _ => cases hs
  | _ => cases hs) fun {N sc x} h => by cases x <;> first | rfl | cases h
theorem g_g (y : String) : GA (.g y) := g_plain (fun {X T p d W x} c hs => by
  cases x with
  | Name z q => obtain ⟨h1, h2⟩ := and3 hs; exact e_g c rfl (of_decide_eq_true h1) h2
  | _ => cases hs) fun {N sc x} h => by cases x <;> first | rfl | cases h
theorem g_tup {es : Es} (ih : GEs es) : GA (.tup es) := g_plain (fun {X T p d W x} c hs => by
  cases x with
  | Tuple xs k q => exact e_tup (ih c hs)
  | _ => cases hs) fun {N sc x} h => by cases x <;> first | rfl | cases h
theorem g_lst {es : Es} (ih : GEs es) : GA (.lst es) := g_plain (fun {X T p d W x} c hs => by
  cases x with
  | List xs q => exact e_lst (ih c hs)
  | _ => cases hs) fun {N sc x} h => by cases x <;> first | rfl | cases h
theorem g_bin {o : Bo} {a b : E} (ha : GA a) (hb : GA b) : GA (.bin o a b) := g_plain (fun {X T p d W x} c hs => by
  cases x with
  | BinOp l op r q =>
    obtain ⟨h1, h2⟩ := and3 hs
    obtain ⟨h3, h4⟩ := and3 h1
    have e := of_decide_eq_true h3
    subst e
    exact e_bin (ha.1 c h4) (hb.1 c h2)
  | _ => cases hs) fun {N sc x} h => by cases x <;> first | rfl | cases h
theorem g_neg {a : E} (ha : GA a) : GA (.neg a) := g_plain (fun {X T p d W x} c hs => by
  cases x with
  | UnaryOp op l q => cases op with
    | USub => exact e_neg (ha.1 c hs)
    | _ => cases hs
  | _ => cases hs) fun {N sc x} h => by cases x with
  | UnaryOp op l q => cases op <;> first | rfl | cases h
  | _ => first | rfl | cases h
theorem g_cmp {o : Co} {a b : E} (ha : GA a) (hb : GA b) : GA (.cmp o a b) := by
  have parts : ∀ {N : List Str} {sc : Scope} {x : Expr}, simE N sc (.cmp o a b) x = true → ∃ l r q, x = .Compare l [coOf o] [r] q ∧ behindInMarks (coOf o) r = false ∧ simE N sc a l = true ∧ simE N sc b r = true := fun {N sc x} hs => by
    unfold simE at hs
    split at hs
    · rename_i l op r q
      obtain ⟨h1, h2⟩ := and3 hs
      obtain ⟨h3, h4⟩ := and3 h1
      obtain ⟨h5, h6⟩ := and3 h3
      have e := of_decide_eq_true h5
      subst e
      exact ⟨l, r, q, rfl, not_eq h6, h4, h2⟩
    · cases hs
  refine ⟨fun {X T p d W x} c hs => ?_, fun {X T p d W x} c hs => ?_, fun {X T p d W o y z r pos} c hs => ?_⟩
  · obtain ⟨l, r, q, rfl, hm, h1, h2⟩ := parts hs
    exact e_cmp c hm (ha.1 c h1) (hb.1 c h2)
  · obtain ⟨l, r, q, rfl, hm, h1, h2⟩ := parts hs
    exact t_cmp c hm (ha.1 c h1) (hb.1 c h2)
  · obtain ⟨l, r, q, e, _⟩ := parts hs
    cases e
theorem g_chain {o o' : Co} {a b c : E} (ha : GA a) (hb : GA b) (hc : GA c) : GA (.chain o o' a b c) := by
  have parts : ∀ {N : List Str} {sc : Scope} {x : Expr}, simE N sc (.chain o o' a b c) x = true → ∃ l r r' q, x = .Compare l [coOf o, coOf o'] [r, r'] q ∧ lastMarks [coOf o, coOf o'] [r, r'] = false ∧ simE N sc a l = true ∧ simE N sc b r = true ∧ simE N sc c r' = true := fun {N sc x} hs => by
    unfold simE at hs
    split at hs
    · rename_i l op op' r r' q
      obtain ⟨h1, h2⟩ := and3 hs
      obtain ⟨h3, h4⟩ := and3 h1
      obtain ⟨h5, h6⟩ := and3 h3
      obtain ⟨h7, h8⟩ := and3 h5
      obtain ⟨h9, h10⟩ := and3 h7
      have e := of_decide_eq_true h9
      have e' := of_decide_eq_true h10
      subst e e'
      exact ⟨l, r, r', q, rfl, not_eq h8, h6, h4, h2⟩
    · cases hs
  refine ⟨fun {X T p d W x} cx hs => ?_, fun {X T p d W x} cx hs => ?_, fun {X T p d W o y z r pos} cx hs => ?_⟩
  · obtain ⟨l, r, r', q, rfl, hm, h1, h2, h3⟩ := parts hs
    exact e_chain cx hm (ha.1 cx h1) (hb.1 cx h2) (hc.1 cx h3)
  · obtain ⟨l, r, r', q, rfl, hm, h1, h2, h3⟩ := parts hs
    exact t_chain cx hm (ha.1 cx h1) (hb.1 cx h2) (hc.1 cx h3)
  · obtain ⟨l, r, r', q, e, _⟩ := parts hs
    cases e
theorem g_and {a b : E} (ha : GA a) (hb : GA b) : GA (.and a b) := by
  have pw : GW (.and a b) := fun {X T p d W o y z r pos} c hs => by
    cases o with
    | Or => cases hs
    | And =>
      cases r with
      | nil =>
        obtain ⟨h1, h2⟩ := and3 (show (simE X.N X.env.scope a y && simE X.N X.env.scope b z) = true from hs)
        exact t_and (ha.2.1 c h1) (pw_and1 (hb.2.1 c h2))
      | cons w r =>
        obtain ⟨h1, h2⟩ := and3 (show (simE X.N X.env.scope a y && simE X.N X.env.scope b (.BoolOp .And (z :: w :: r) pos)) = true from hs)
        exact t_and (ha.2.1 c h1) (hb.2.2 c h2)
  have shape : ∀ {N : List Str} {sc : Scope} {x : Expr}, simE N sc (.and a b) x = true → ∃ y z r q, x = .BoolOp .And (y :: z :: r) q := fun {N sc x} hs => by
    unfold simE at hs
    split at hs
    · exact ⟨_, _, _, _, rfl⟩
    · exact ⟨_, _, _, _, rfl⟩
    · cases hs
  refine ⟨fun {X T p d W x} c hs => ?_, fun {X T p d W x} c hs => ?_, pw⟩
  · obtain ⟨y, z, r, q, rfl⟩ := shape hs
    cases r with
    | nil =>
      obtain ⟨h1, h2⟩ := and3 (show (simE X.N X.env.scope a y && simE X.N X.env.scope b z) = true from hs)
      exact e_and (ha.1 c h1) (pe_one (hb.1 c h2))
    | cons w r =>
      obtain ⟨h1, h2⟩ := and3 (show (simE X.N X.env.scope a y && simE X.N X.env.scope b (.BoolOp .And (z :: w :: r) q)) = true from hs)
      exact e_and (ha.1 c h1) (hb.1 c h2)
  · obtain ⟨y, z, r, q, rfl⟩ := shape hs
    exact (pw c hs).pt
theorem g_or {a b : E} (ha : GA a) (hb : GA b) : GA (.or a b) := by
  have pw : GW (.or a b) := fun {X T p d W o y z r pos} c hs => by
    cases o with
    | And => cases hs
    | Or =>
      cases r with
      | nil =>
        obtain ⟨h1, h2⟩ := and3 (show (simE X.N X.env.scope a y && simE X.N X.env.scope b z) = true from hs)
        exact t_or (ha.2.1 c h1) (pw_or1 (hb.2.1 c h2))
      | cons w r =>
        obtain ⟨h1, h2⟩ := and3 (show (simE X.N X.env.scope a y && simE X.N X.env.scope b (.BoolOp .Or (z :: w :: r) pos)) = true from hs)
        exact t_or (ha.2.1 c h1) (hb.2.2 c h2)
  have shape : ∀ {N : List Str} {sc : Scope} {x : Expr}, simE N sc (.or a b) x = true → ∃ y z r q, x = .BoolOp .Or (y :: z :: r) q := fun {N sc x} hs => by
    unfold simE at hs
    split at hs
    · exact ⟨_, _, _, _, rfl⟩
    · exact ⟨_, _, _, _, rfl⟩
    · cases hs
  refine ⟨fun {X T p d W x} c hs => ?_, fun {X T p d W x} c hs => ?_, pw⟩
  · obtain ⟨y, z, r, q, rfl⟩ := shape hs
    cases r with
    | nil =>
      obtain ⟨h1, h2⟩ := and3 (show (simE X.N X.env.scope a y && simE X.N X.env.scope b z) = true from hs)
      exact e_or (ha.1 c h1) (pe_one (hb.1 c h2))
    | cons w r =>
      obtain ⟨h1, h2⟩ := and3 (show (simE X.N X.env.scope a y && simE X.N X.env.scope b (.BoolOp .Or (z :: w :: r) q)) = true from hs)
      exact e_or (ha.1 c h1) (hb.1 c h2)
  · obtain ⟨y, z, r, q, rfl⟩ := shape hs
    exact (pw c hs).pt
theorem g_not {a : E} (ha : GA a) : GA (.not a) := by
  have shape : ∀ {N : List Str} {sc : Scope} {x : Expr}, simE N sc (.not a) x = true → ∃ y q, x = .UnaryOp .Not y q ∧ simE N sc a y = true := fun {N sc x} hs => by
    unfold simE at hs
    split at hs
    · exact ⟨_, _, rfl, hs⟩
    · cases hs
  refine ⟨fun {X T p d W x} c hs => ?_, fun {X T p d W x} c hs => ?_, fun {X T p d W o y z r pos} c hs => ?_⟩
  · obtain ⟨y, q, rfl, h⟩ := shape hs
    exact e_not (ha.1 c h)
  · obtain ⟨y, q, rfl, h⟩ := shape hs
    exact t_not (ha.2.1 c h)
  · obtain ⟨_, _, e, _⟩ := shape hs
    cases e
theorem g_ite {c a b : E} (hc : GA c) (ha : GA a) (hb : GA b) : GA (.ite c a b) := by
  have shape : ∀ {N : List Str} {sc : Scope} {x : Expr}, simE N sc (.ite c a b) x = true → ∃ t y z q, x = .IfExp t y z q ∧ simE N sc c t = true ∧ simE N sc a y = true ∧ simE N sc b z = true := fun {N sc x} hs => by
    unfold simE at hs
    split at hs
    · obtain ⟨h1, h2⟩ := and3 hs
      obtain ⟨h3, h4⟩ := and3 h1
      exact ⟨_, _, _, _, rfl, h3, h4, h2⟩
    · cases hs
  refine ⟨fun {X T p d W x} cx hs => ?_, fun {X T p d W x} cx hs => ?_, fun {X T p d W o y z r pos} cx hs => ?_⟩
  · obtain ⟨t, y, z, q, rfl, h1, h2, h3⟩ := shape hs
    exact e_ite (hc.2.1 cx h1) (ha.1 cx h2) (hb.1 cx h3)
  · obtain ⟨t, y, z, q, rfl, h1, h2, h3⟩ := shape hs
    exact t_ite (hc.2.1 cx h1) (ha.2.1 cx h2) (hb.2.1 cx h3)
  · obtain ⟨_, _, _, _, e, _⟩ := shape hs
    cases e
theorem g_call {f : String} {es : Es} (ih : GEs es) : GA (.call f es) := by
  have shape : ∀ {N : List Str} {sc : Scope} {x : Expr}, simE N sc (.call f es) x = true → ∃ z q xs q2, x = .Call (.Name z q) xs [] q2 ∧ z = nm f ∧ glB sc z = true ∧ simEs N sc es xs = true := fun {N sc x} hs => by
    unfold simE at hs
    split at hs
    · obtain ⟨h1, h2⟩ := and3 hs
      obtain ⟨h3, h4⟩ := and3 h1
      exact ⟨_, _, _, _, rfl, of_decide_eq_true h3, h4, h2⟩
    · cases hs
  refine g_plain (fun {X T p d W x} c hs => ?_) fun {N sc x} h => ?_
  · obtain ⟨z, q, xs, q2, rfl, h1, h2, h3⟩ := shape hs
    exact e_call c rfl h1 h2 h3 (ih c h3)
  · obtain ⟨z, q, xs, q2, rfl, h1, h2, h3⟩ := shape h
    rfl
theorem g_bi {f : Bi} {es : Es} (ih : GEs es) : GA (.bi f es) := by
  have shape : ∀ {N : List Str} {sc : Scope} {x : Expr}, simE N sc (.bi f es) x = true → ∃ z q xs q2, x = .Call (.Name z q) xs [] q2 ∧ z = nm (biN f) ∧ glB sc z = true ∧ xs.isEmpty = false ∧ simEs N sc es xs = true := fun {N sc x} hs => by
    unfold simE at hs
    split at hs
    · obtain ⟨h1, h2⟩ := and3 hs
      obtain ⟨h3, h4⟩ := and3 h1
      obtain ⟨h5, h6⟩ := and3 h3
      exact ⟨_, _, _, _, rfl, of_decide_eq_true h5, h6, not_eq h4, h2⟩
    · cases hs
  refine g_plain (fun {X T p d W x} c hs => ?_) fun {N sc x} h => ?_
  · obtain ⟨z, q, xs, q2, rfl, h1, h2, h3, h4⟩ := shape hs
    exact e_bi c h1 h2 h3 h4 (ih c h4)
  · obtain ⟨z, q, xs, q2, rfl, h1, h2, h3, h4⟩ := shape h
    rfl
theorem g_isi {a : E} {t : Ty} (ha : GA a) : GA (.isi a t) := by
  have shape : ∀ {N : List Str} {sc : Scope} {x : Expr}, simE N sc (.isi a t) x = true → ∃ z q y n q3 q2, x = .Call (.Name z q) [y, .Name n q3] [] q2 ∧ z = nm "isinstance" ∧ glB sc z = true ∧ n = nm (tyNm t) ∧ glB sc n = true ∧ simE N sc a y = true := fun {N sc x} hs => by
    unfold simE at hs
    split at hs
    · obtain ⟨h1, h2⟩ := and3 hs
      obtain ⟨h3, h4⟩ := and3 h1
      obtain ⟨h5, h6⟩ := and3 h3
      obtain ⟨h7, h8⟩ := and3 h5
      exact ⟨_, _, _, _, _, _, rfl, of_decide_eq_true h7, h8, of_decide_eq_true h6, h4, h2⟩
    · cases hs
  refine g_plain (fun {X T p d W x} c hs => ?_) fun {N sc x} h => ?_
  · obtain ⟨z, q, y, n, q3, q2, rfl, h1, h2, h3, h4, h5⟩ := shape hs
    have hy : notStar y = true := by
      cases y <;> first | rfl | (cases a <;> cases h5)
    exact e_isi c h1 h2 h3 h4 hy (ha.1 c h5)
  · obtain ⟨z, q, y, n, q3, q2, rfl, _⟩ := shape h
    rfl
end
end Ev

set_option linter.all false
set_option maxRecDepth 100000
set_option maxHeartbeats 1000000
/-! Ev12: every expression, II; statements. -/
namespace Ev
open PySem L2 PySem.Spec PyProof.Rows
theorem g_idx {a i : E} (ha : GA a) (hi : GA i) : GA (.idx a i) := by
  have shape : ∀ {N : List Str} {sc : Scope} {x : Expr}, simE N sc (.idx a i) x = true → ∃ y z q, x = .Subscript y z q ∧ notSlice z = true ∧ simE N sc a y = true ∧ simE N sc i z = true := fun {N sc x} hs => by
    unfold simE at hs
    split at hs
    · obtain ⟨h1, h2⟩ := and3 hs
      obtain ⟨h3, h4⟩ := and3 h1
      exact ⟨_, _, _, rfl, h3, h4, h2⟩
    · cases hs
  refine g_plain (fun {X T p d W x} c hs => ?_) fun {N sc x} h => ?_
  · obtain ⟨y, z, q, rfl, h1, h2, h3⟩ := shape hs
    exact e_idx h1 (ha.1 c h2) (hi.1 c h3)
  · obtain ⟨y, z, q, rfl, _⟩ := shape h
    rfl
theorem g_slc {a : E} {lo hi : Oe} (ha : GA a) (hl : GO lo) (hh : GO hi) : GA (.slc a lo hi) := by
  have shape : ∀ {N : List Str} {sc : Scope} {x : Expr}, simE N sc (.slc a lo hi) x = true → ∃ y l h q q2, x = .Subscript y (.Slice l h none q) q2 ∧ simE N sc a y = true ∧ simO N sc lo l = true ∧ simO N sc hi h = true := fun {N sc x} hs => by
    unfold simE at hs
    split at hs
    · obtain ⟨h1, h2⟩ := and3 hs
      obtain ⟨h3, h4⟩ := and3 h1
      exact ⟨_, _, _, _, _, rfl, h3, h4, h2⟩
    · cases hs
  refine g_plain (fun {X T p d W x} c hs => ?_) fun {N sc x} h => ?_
  · obtain ⟨y, l, h, q, q2, rfl, h1, h2, h3⟩ := shape hs
    exact e_slc (ha.1 c h1) (hl.1 c h2) (hh.1 c h3)
  · obtain ⟨y, l, h, q, q2, rfl, _⟩ := shape h
    rfl
theorem g_lm {o : E} {m : String} {es : Es} (ho : GA o) (ih : GEs es) : GA (.lm o m es) := by
  have shape : ∀ {N : List Str} {sc : Scope} {x : Expr}, simE N sc (.lm o m es) x = true → ∃ y n ap xs cp, x = .Call (.Attribute y n ap) xs [] cp ∧ (∃ x q, y = .Name x q) ∧ n = nm m ∧ (ap.endLine == cp.line) = true ∧ simE N sc o y = true ∧
      (m == "append" && xs.length == 1 || m == "extend" && xs.length == 1 || m == "pop" && xs.isEmpty || m == "pop" && pop0 es) = true ∧ simEs N sc es xs = true := fun {N sc x} hs => by
    unfold simE at hs
    split at hs
    · rename_i y n ap xs cp
      obtain ⟨h1, h2⟩ := and3 hs
      obtain ⟨h3, h4⟩ := and3 h1
      obtain ⟨h5, h6⟩ := and3 h3
      obtain ⟨h7, h8⟩ := and3 h5
      obtain ⟨h9, h10⟩ := and3 h7
      have hy : ∃ x q, y = .Name x q := by
        split at h9
        · exact ⟨_, _, rfl⟩
        · cases h9
      exact ⟨_, _, _, _, _, rfl, hy, of_decide_eq_true h10, h8, h6, h4, h2⟩
    · cases hs
  refine g_plain (fun {X T p d W x} c hs => ?_) fun {N sc x} h => ?_
  · obtain ⟨y, n, ap, xs, cp, rfl, h1, h2, h3, h4, h5, h6⟩ := shape hs
    exact e_lm h1 h2 h3 h5 h6 (ho.1 c h4) (ih c h6)
  · obtain ⟨y, n, ap, xs, cp, rfl, _⟩ := shape h
    rfl
/-- what a comprehension's fitting holds -/
theorem lc_shape {tg : List Nat} {it : IT} {cs : Oe} {e : E} {N : List Str} {sc : Scope} {x : Expr} (hs : simE N sc (.lc tg it cs e) x = true) :
    ∃ elt t iter ifs scope q, ∃ ns : List Str, x = .ListComp elt [⟨t, iter, ifs, 0⟩] scope q ∧ blkC N sc scope (ns.zip tg) = true ∧ ns.length = tg.length ∧ tgB N (relS scope sc) tg t (locB scope) = true ∧
      simI N sc it iter (isTup t) = true ∧ simC N (relS scope sc) cs ifs = true ∧ simE N (relS scope sc) e elt = true ∧ (match iter with | .Set _ _ _ => false | _ => true) = true := by
  unfold simE at hs
  split at hs
  · rename_i elt t iter ifs scope q
    split at hs
    · rename_i ns hns
      obtain ⟨h1, h2⟩ := and3 hs
      obtain ⟨h3, h4⟩ := and3 h1
      obtain ⟨h5, h6⟩ := and3 h3
      obtain ⟨h7, h8⟩ := and3 h5
      obtain ⟨h9, h10⟩ := and3 h7
      obtain ⟨h11, h12⟩ := and3 h9
      exact ⟨elt, t, iter, ifs, scope, q, ns, rfl, h11, of_decide_eq_true h12, h10, h8, h6, h4, h2⟩
    · cases hs
  · cases hs
theorem g_lc {tg : List Nat} {it : IT} {cs : Oe} {e : E} (hi : GI it) (hc : GO cs) (he : GA e) : GA (.lc tg it cs e) := by
  refine g_plain (fun {X T p d W x} c hs => ?_) fun {N sc x} h => ?_
  · obtain ⟨elt, t, iter, ifs, scope, q, ns, rfl, h1, h2, h3, h4, h5, h6, h7⟩ := lc_shape hs
    have hI := hi c h4
    have hg : ∀ (s : Shared) (H : Hp) (C : Addr) (cl : List (Str × Addr)) (fp : List Addr), PG (X.blk s H scope (compEnvC scope cl C X.env) fp) t (gT X.K tg) := fun s H C cl fp => pg_T (X := X.blk s H scope (compEnvC scope cl C X.env) fp) c.calm c.nd (fun x hx => loc_blk hx) h3
    have ht : ∀ (s : Shared) (H : Hp) (C : Addr) (cl : List (Str × Addr)) (fp : List Addr), PTs (X.blk s H scope (compEnvC scope cl C X.env) fp) ifs (evTt (X.blk s H scope (compEnvC scope cl C X.env) fp) p W0 (evC (orc T d) cs)) := fun s H C cl fp => hc.2 (ctx_blk c s H scope _ fp) h5
    have hx : ∀ (s : Shared) (H : Hp) (C : Addr) (cl : List (Str × Addr)) (fp : List Addr), PE (X.blk s H scope (compEnvC scope cl C X.env) fp) elt (evT (X.blk s H scope (compEnvC scope cl C X.env) fp) p W0 (evE (orc T d) e)) := fun s H C cl fp => he.1 (ctx_blk c s H scope _ fp) h6
    exact PE.imp (pe_lc c.calm c.nd hI (blkOk_by h1) hg ht hx (notSet h7)) (e_lc (pos := q) c hI h1 h2 hg ht hx)
  · obtain ⟨elt, t, iter, ifs, scope, q, ns, rfl, _⟩ := lc_shape h
    rfl
theorem g_nil : GEs .nil := fun {X T p d W xs} c hs => by
  cases xs with
  | cons x r => cases hs
  | nil =>
    refine PA.imp pa_nil fun σ H Q h => ?_
    obtain ⟨μ, s, ρ, r, e, h⟩ := h
    have h : Post X.K p (atW W σ) μ s H (Out.ok ([] : List D) s) (fun ds μ' s' H' => ∀ vs, VRs X.K μ' H' ds vs → D.unders s'.len ds = true → Q vs H') := h
    exact Post.ok h r [] rfl rfl
theorem g_cons {e : E} {r : Es} (he : GA e) (hr : GEs r) : GEs (.cons e r) := fun {X T p d W xs} c hs => by
  cases xs with
  | nil => cases hs
  | cons x xs =>
    obtain ⟨h1, h2⟩ := and3 (show (notStar x && simE X.N X.env.scope e x && simEs X.N X.env.scope r xs) = true from hs)
    obtain ⟨h3, h4⟩ := and3 h1
    refine PA.imp (pa_cons (he.1 c h4) (hr c h2) (star_cons h3)) fun σ H Q h => ?_
    obtain ⟨μ, s, ρ, r', er, h⟩ := h
    refine stepE (k := fun ρ x s => (evEs (orc T d) r ρ s).bind fun xs s => Out.ok (x :: xs) s) r' er h fun x μ1 s1 H1 v ex r1 e1 hv u q => ?_
    refine stepEs (k := fun _ xs s => Out.ok (x :: xs) s) r1 e1 q fun ds μ2 s2 H2 vs ex2 r2 e2 hvs us q2 => ?_
    refine Post.ok q2 r2 (v :: vs) ⟨v, vs, rfl, VR.mono ex2 r1 x v u hv, hvs⟩ ?_
    show (x.under s2.len && D.unders s2.len ds) = true
    rw [D.under_mono ex2.le x u, us]
    rfl
theorem g_none : GO .none := by
  refine ⟨fun {X T p d W x} c hs => ?_, fun {X T p d W xs} c hs => ?_⟩
  · cases x with
    | some y => cases hs
    | none =>
      refine PO.imp po_none fun σ H Q h => ?_
      obtain ⟨μ, s, ρ, r, e, h⟩ := h
      exact Post.ok (a := (none : Option Int)) h r
  · cases xs with
    | cons y r => cases hs
    | nil =>
      refine ⟨fun pins s0 σ H Q I h => pts_nil.run pins s0 σ H Q I ?_⟩
      obtain ⟨μ, s, ρ, r, e, h⟩ := h
      exact Post.ok (a := true) h r
theorem g_some {e : E} (he : GA e) : GO (.some e) := by
  refine ⟨fun {X T p d W x} c hs => ?_, fun {X T p d W xs} c hs => ?_⟩
  · cases x with
    | none => cases hs
    | some y =>
      refine PO.imp (po_some (he.1 c hs)) fun σ H Q h => ?_
      obtain ⟨μ, s, ρ, r, er, h⟩ := h
      refine stepE (k := fun _ x s => (match x with | .int i => Out.ok (some i) s | _ => .bad)) r er h fun x μ1 s1 H1 v ex r1 e1 hv u q => ?_
      cases x with
      | int i => cases (show v = _ from hv); exact ⟨i, rfl, Post.ok (a := some i) q r1⟩
      | _ => exact q.elim
  · match xs, hs with
    | [y], hs => exact pts_one (he.2.1 c hs)
    | [], hs => cases hs
    | _ :: _ :: _, hs => cases hs
theorem g_plainI {e : E} (he : GA e) : GI (.plain e) := fun {X T p d W x tg} c hs => i_plain (he.1 c (and3 hs).1)
theorem g_range1 {a : E} (ha : GA a) : GI (.range1 a) := fun {X T p d W x tg} c hs => by
  unfold simI at hs
  split at hs
  · obtain ⟨h1, h2⟩ := and3 hs
    obtain ⟨h3, h4⟩ := and3 h1
    obtain ⟨h5, h6⟩ := and3 h3
    exact i_range1 c (of_decide_eq_true h5) h6 h4 (ha.1 c h2)
  · cases hs
theorem g_range2 {a b : E} (ha : GA a) (hb : GA b) : GI (.range2 a b) := fun {X T p d W x tg} c hs => by
  unfold simI at hs
  split at hs
  · obtain ⟨h1, h2⟩ := and3 hs
    obtain ⟨h3, h4⟩ := and3 h1
    obtain ⟨h5, h6⟩ := and3 h3
    obtain ⟨h7, h8⟩ := and3 h5
    obtain ⟨h9, h10⟩ := and3 h7
    exact i_range2 c (of_decide_eq_true h9) h10 h8 h6 (ha.1 c h4) (hb.1 c h2)
  · cases hs
theorem g_enum {e : E} (he : GA e) : GI (.enum e) := fun {X T p d W x tg} c hs => by
  unfold simI at hs
  split at hs
  · obtain ⟨h1, h2⟩ := and3 hs
    obtain ⟨h3, h4⟩ := and3 h1
    obtain ⟨h5, h6⟩ := and3 h3
    obtain ⟨h7, h8⟩ := and3 h5
    exact i_enum c h7 (of_decide_eq_true h8) h6 h4 (he.1 c h2)
  · cases hs
mutual
theorem all_E : ∀ e : E, GA e
  | .v i => g_v i
  | .non => g_non
  | .bl b => g_bl b
  | .int i => g_int i
  | .str s => g_str s
  | .g x => g_g x
  | .tup es => g_tup (all_Es es)
  | .lst es => g_lst (all_Es es)
  | .bin o a b => g_bin (all_E a) (all_E b)
  | .neg a => g_neg (all_E a)
  | .cmp o a b => g_cmp (all_E a) (all_E b)
  | .chain o o' a b c => g_chain (all_E a) (all_E b) (all_E c)
  | .and a b => g_and (all_E a) (all_E b)
  | .or a b => g_or (all_E a) (all_E b)
  | .not a => g_not (all_E a)
  | .ite c a b => g_ite (all_E c) (all_E a) (all_E b)
  | .call f es => g_call (all_Es es)
  | .bi f es => g_bi (all_Es es)
  | .isi a t => g_isi (all_E a)
  | .lm o m es => g_lm (all_E o) (all_Es es)
  | .idx a i => g_idx (all_E a) (all_E i)
  | .slc a lo hi => g_slc (all_E a) (all_O lo) (all_O hi)
  | .lc tg it cs e => g_lc (all_I it) (all_O cs) (all_E e)
theorem all_Es : ∀ es : Es, GEs es
  | .nil => g_nil
  | .cons e r => g_cons (all_E e) (all_Es r)
theorem all_O : ∀ o : Oe, GO o
  | .none => g_none
  | .some e => g_some (all_E e)
theorem all_I : ∀ i : IT, GI i
  | .plain e => g_plainI (all_E e)
  | .range1 a => g_range1 (all_E a)
  | .range2 a b => g_range2 (all_E a) (all_E b)
  | .enum e => g_enum (all_E e)
end
end Ev

set_option linter.all false
set_option maxRecDepth 100000
set_option maxHeartbeats 1000000
/-! Ev13: statements. -/
namespace Ev
open PySem L2 PySem.Spec PyProof.Rows
/-- no comprehension that would be stored, dropped -/
def notComp : Expr → Bool
  | .ListComp _ _ _ _ => false
  | .SetComp _ _ _ _ => false
  | .DictComp _ _ _ _ _ => false
  | _ => true
def notSetE : Expr → Bool
  | .Set _ _ _ => false
  | _ => true
theorem notSet' {x : Expr} {env : Env} (h : notSetE x = true) : ∀ v, foldedSetIterable x env v = pure v := by
  intro v
  cases x <;> first | rfl | cases h
def notTuple : Expr → Bool
  | .Tuple _ _ _ => false
  | _ => true
/-- y = v: a plain value; or a comprehension whose block doesn't bind y, on y's line -/
def swB (sc : Scope) (py : Pos) (y : Str) : Expr → Bool
  | .ListComp _ _ scope q => decide (sc.names.lookup y = some .local) && (py.line == q.line) && !(scope.names.any fun x => match x with | (n, k) => n == y && (k == NameKind.local || k == NameKind.cell))
  | v => notComp v
def isAS : Bo → Bool
  | .add => true
  | .sub => true
  | _ => false
mutual
def simS (N : List Str) (sc : Scope) (A : List Nat) : Stm → Stmt → Bool
  | .asg i e, x => (match x with
    | .Assign [.Name y py] v _ => decide (N[i]? = some y) && locB sc y && A.contains i && simE N sc e v && swB sc py y v
    | _ => false)
  | .asgT is e, x => (match x with
    | .Assign [.Tuple es k q] v _ => tgB N sc is (.Tuple es k q) (locB sc) && is.all (fun i => A.contains i) && simE N sc e v && notTuple v
    | _ => false)
  | .set o i e, x => (match x with
    | .Assign [.Subscript y z _] v _ => notSlice z && simE N sc o y && simE N sc i z && simE N sc e v
    | _ => false)
  | .aug i o e, x => (match x with
    | .AugAssign (.Name y _) op v _ => decide (N[i]? = some y) && locB sc y && A.contains i && isAS o && decide (op = opOf o) && simE N sc e v
    | _ => false)
  | .expr e, x => (match x with
    | .Expr v _ => simE N sc e v && notComp v
    | _ => false)
  | .ret e, x => (match x with
    | .Return (some v) _ => simE N sc e v
    | _ => false)
  | .retN, x => (match x with
    | .Return none _ => true
    | _ => false)
  | .pass, x => (match x with
    | .Pass _ => true
    | _ => false)
  | .brk, x => (match x with
    | .Break _ => true
    | _ => false)
  | .cont, x => (match x with
    | .Continue _ => true
    | _ => false)
  | .ite c a b, x => (match x with
    | .If t p q _ => simE N sc c t && simSs N sc A a p && simSs N sc A b q
    | _ => false)
  | .whil c b, x => (match x with
    | .While t p [] _ => simE N sc c t && simSs N sc A b p
    | _ => false)
  | .for_ tg it b, x => (match x with
    | .For t iter p [] _ => tgB N sc tg t (locB sc) && tg.all (fun i => A.contains i) && simI N sc it iter (isTup t) && simSs N sc A b p && notSetE iter
    | _ => false)
  | .raise _ _, _ => false
def simSs (N : List Str) (sc : Scope) (A : List Nat) : Stms → List Stmt → Bool
  | .nil, xs => xs.isEmpty
  | .cons a r, xs => (match xs with
    | x :: xs => simS N sc A a x && simSs N sc A r xs
    | [] => false)
end
theorem Only_.refl {A : List Nat} {σ : L2.St} : Only_ A σ σ := ⟨rfl, fun _ _ => rfl⟩
theorem Only_.trans {A : List Nat} {σ σ1 σ2 : L2.St} (h : Only_ A σ σ1) (g : Only_ A σ1 σ2) : Only_ A σ σ2 := ⟨g.1.trans h.1, fun i hi => (g.2 i hi).trans (h.2 i hi)⟩
theorem Only_.sub {A B : List Nat} {σ σ1 : L2.St} (h : Only_ A σ σ1) (s : ∀ i, i ∈ A → i ∈ B) : Only_ B σ σ1 := ⟨h.1, fun i hi => h.2 i fun z => hi (s i z)⟩
theorem Only_.set {A : List Nat} {σ : L2.St} {i : Nat} {v : Option V} (h : A.contains i = true) : Only_ A σ (σ.set i v) := ⟨List.length_set .., fun j hj => by
  have e : i ≠ j := fun e => hj (by subst e; exact List.contains_iff_mem.mp h)
  exact List.getElem?_set_ne e⟩
theorem all_in {A tg : List Nat} (h : (tg.all fun i => A.contains i) = true) : ∀ i, i ∈ tg → i ∈ A := fun i hi => List.contains_iff_mem.mp (List.all_eq_true.mp h i hi)
/-- what is asked of an error's way, whatever of A's places has been stored -/
def atA (W : WX) (A : List Nat) (σ : L2.St) : WE := fun c dx H => ∀ σ', Only_ A σ σ' → W c dx σ' H
def QS (K : PySem.W.Frag) (D : Ends) (A : List Nat) (σ : L2.St) : QA (Fl × En) := fun r μ' s' H' => match r.1 with
  | .nx => ∀ σ', ER K μ' H' s' r.2 σ' → Only_ A σ σ' → D.nx σ' H'
  | .bk => ∀ σ', ER K μ' H' s' r.2 σ' → Only_ A σ σ' → D.bk σ' H'
  | .ct => ∀ σ', ER K μ' H' s' r.2 σ' → Only_ A σ σ' → D.ct σ' H'
  | .rt d => ∀ v, VR K μ' H' d v → d.under s'.len = true → D.rt v H'
/-- a statement's reading by the evaluator -/
def evTS (X : Cx) (p : Pl) (W : WX) (A : List Nat) (m : En → S → Out (Fl × En)) : TS := fun D σ H => ∃ μ s ρ, SR X.K μ H s ∧ ER X.K μ H s ρ σ ∧ Post X.K p (atA W A σ) μ s H (m ρ s) (QS X.K D A σ)
theorem Post.wimp {α : Type} {K : PySem.W.Frag} {p : Pl} {W W' : WE} {μ : Mu} {s : S} {H : Hp} {Q : QA α} {o : Out α} (h : Post K p W μ s H o Q) (i : ∀ c dx H, W c dx H → W' c dx H) : Post K p W' μ s H o Q := by
  cases o with
  | ok a s1 => exact h
  | err c as s1 => exact fun μ' H' cls dx e r x => i _ _ _ (h μ' H' cls dx e r x)
  | bad => exact h
theorem atA.here {W : WX} {A : List Nat} {σ : L2.St} : ∀ c dx H, atA W A σ c dx H → atW W σ c dx H := fun c dx H h => h σ Only_.refl
theorem atA.on {W : WX} {A : List Nat} {σ σ1 : L2.St} (o : Only_ A σ σ1) : ∀ c dx H, atA W A σ c dx H → atA W A σ1 c dx H := fun c dx H h σ' g => h σ' (o.trans g)
theorem QS.on {K : PySem.W.Frag} {D : Ends} {A : List Nat} {σ σ1 : L2.St} (o : Only_ A σ σ1) {r : Fl × En} {μ : Mu} {s : S} {H : Hp} (h : QS K D A σ r μ s H) : QS K D A σ1 r μ s H := by
  obtain ⟨f, ρ⟩ := r
  cases f with
  | rt d => exact h
  | _ => exact fun σ' e g => h σ' e (o.trans g)
theorem Post.on {K : PySem.W.Frag} {p : Pl} {W : WX} {D : Ends} {A : List Nat} {σ σ1 : L2.St} (o : Only_ A σ σ1) {μ : Mu} {s : S} {H : Hp} {x : Out (Fl × En)} (h : Post K p (atA W A σ) μ s H x (QS K D A σ)) : Post K p (atA W A σ1) μ s H x (QS K D A σ1) :=
  (h.wimp (atA.on o)).imp fun _ _ _ _ _ _ _ q => q.on o
theorem PS.imp {X : Cx} {x : Stmt} {t t' : TS} (h : PS X x t) (i : ∀ D σ H, t' D σ H → t D σ H) : PS X x t' := ⟨fun pins s σ H D I q => h.run pins s σ H D I (i _ _ _ q)⟩
theorem PSs.imp {X : Cx} {x : List Stmt} {t t' : TS} (h : PSs X x t) (i : ∀ D σ H, t' D σ H → t D σ H) : PSs X x t' := ⟨fun pins s σ H D I q => h.run pins s σ H D I (i _ _ _ q)⟩
structure SCtx (X : Cx) (T : Tab) (p : Pl) (d : Nat) (W : WX) : Prop extends Ctx X T p d W where
  kind : X.env.scope.kind = .function
  fn : ∀ x, X.fn x = true
theorem loc_of {sc : Scope} {x : Str} (h : locB sc x = true) : L2.Loc sc x := by
  unfold locB at h
  split at h
  · exact .inl (by assumption)
  · exact .inr (by assumption)
  · cases h
section
variable {X : Cx} {T : Tab} {p : Pl} {d : Nat} {W : WX} {A : List Nat}
theorem sw_plain {v : Expr} (h : notComp v = true) (t : Option Expr) (l : Nat) (env : Env) : swapsWith v t l env = pure false := by cases v <;> first | rfl | cases h
theorem sw_sub {o i : Expr} {q : Pos} (v : Expr) (l : Nat) (env : Env) : swapsWithSole [.Subscript o i q] v l env = pure false := by cases v <;> rfl
theorem sw_tup {es : List Expr} {k : Nat} {q : Pos} (v : Expr) (l : Nat) (env : Env) : swapsWithSole [.Tuple es k q] v l env = pure false := by cases v <;> rfl
theorem st_tup {es : List Expr} {k : Nat} {q : Pos} {v : Expr} (h : notTuple v = true) (env : Env) : swappedStores [.Tuple es k q] v env = pure none := by cases v <;> first | rfl | cases h
/-- the first part of a statement: an expression -/
theorem stE {m : En → S → Out D} {k : En → D → S → Out (Fl × En)} {σ : L2.St} {H : Hp} {D : Ends} {R : V → Hp → Prop}
    (h : evTS X p W A (fun ρ s => (m ρ s).bind (k ρ)) D σ H)
    (go : ∀ ρ x μ1 s1 H1 v, SR X.K μ1 H1 s1 → ER X.K μ1 H1 s1 ρ σ → VR X.K μ1 H1 x v → x.under s1.len = true → Post X.K p (atA W A σ) μ1 s1 H1 (k ρ x s1) (QS X.K D A σ) → R v H1) : evT X p W m σ H R := by
  obtain ⟨μ, s, ρ, r, e, h⟩ := h
  exact ⟨μ, s, ρ, r, e, (h.bind.wimp atA.here).imp fun x μ1 s1 H1 _ ex r1 q v hv u => go ρ x μ1 s1 H1 v r1 (e.mono ex r) hv u q⟩
theorem stB {m : En → S → Out Bool} {k : En → Bool → S → Out (Fl × En)} {σ : L2.St} {H : Hp} {D : Ends} {R : Bool → Hp → Prop} {μ : Mu} {s : S} {ρ : En} (r : SR X.K μ H s) (e : ER X.K μ H s ρ σ)
    (h : Post X.K p (atA W A σ) μ s H ((m ρ s).bind (k ρ)) (QS X.K D A σ))
    (go : ∀ x μ1 s1 H1, Ext μ s H μ1 s1 H1 → SR X.K μ1 H1 s1 → ER X.K μ1 H1 s1 ρ σ → Post X.K p (atA W A σ) μ1 s1 H1 (k ρ x s1) (QS X.K D A σ) → R x H1) : evTt X p W m σ H R :=
  ⟨μ, s, ρ, r, e, (h.bind.wimp atA.here).imp fun x μ1 s1 H1 _ ex r1 q => go x μ1 s1 H1 ex r1 (e.mono ex r) q⟩
theorem ER.set' {K : PySem.W.Frag} {μ : Mu} {H : Hp} {s : S} {ρ : En} {σ : L2.St} (e : ER K μ H s ρ σ) {i : Nat} {x : D} {v : V} (h : VR K μ H x v) (u : x.under s.len = true) : ER K μ H s (ρ.set i (some x)) (σ.set i (some v)) := e.set i h u
theorem s_set {i : Nat} {e : E} {y : Str} {py pos : Pos} {v : Expr} {O : Ocl} (c : SCtx X T p d W) (hi : X.N[i]? = some y) (hl : locB X.env.scope y = true) (hA : A.contains i = true) (hc : notComp v = true) (h : PE X v (evT X p W (evE O e))) :
    PS X (.Assign [.Name y py] v pos) (evTS X p W A (evS O (.asg i e))) := by
  refine PS.imp (ps_set c.nd hi (loc_of hl) h (sw_plain hc _ _ _) (.inl (c.fn y))) fun D σ H h => ?_
  exact stE h fun ρ x μ1 s1 H1 v r1 e1 hv u q => Post.ok (a := (Fl.nx, ρ.set i (some x))) q r1 _ (e1.set i hv u) (Only_.set hA)
theorem s_setLc {i : Nat} {tg : List Nat} {it : IT} {cs : Oe} {e : E} {y : Str} {py pos : Pos} {v : Expr} (c : SCtx X T p d W) (hi : X.N[i]? = some y) (hA : A.contains i = true)
    {elt : Expr} {gs : List Comprehension} {scope : Scope} {q : Pos} (hv : v = .ListComp elt gs scope q) (hs : simE X.N X.env.scope (.lc tg it cs e) v = true) (hw : swB X.env.scope py y v = true) :
    PS X (.Assign [.Name y py] v pos) (evTS X p W A (evS (orc T d) (.asg i (.lc tg it cs e)))) := by
  obtain ⟨elt, t, iter, ifs, scope, q, ns, rfl, h1, h2, h3, h4, h5, h6, h7⟩ := lc_shape hs
  obtain ⟨w1, w2⟩ := and3 (show (decide (X.env.scope.names.lookup y = some .local) && (py.line == q.line) && !(scope.names.any fun x => match x with | (n, k) => n == y && (k == NameKind.local || k == NameKind.cell))) = true from hw)
  obtain ⟨w3, w4⟩ := and3 w1
  have hI := all_I it c.toCtx h4
  have hg : ∀ (s : Shared) (H : Hp) (C : Addr) (cl : List (Str × Addr)) (fp : List Addr), PG (X.blk s H scope (compEnvC scope cl C X.env) fp) t (gT X.K tg) := fun s H C cl fp => pg_T (X := X.blk s H scope (compEnvC scope cl C X.env) fp) c.calm c.nd (fun x hx => loc_blk hx) h3
  have ht : ∀ (s : Shared) (H : Hp) (C : Addr) (cl : List (Str × Addr)) (fp : List Addr), PTs (X.blk s H scope (compEnvC scope cl C X.env) fp) ifs (evTt (X.blk s H scope (compEnvC scope cl C X.env) fp) p W0 (evC (orc T d) cs)) := fun s H C cl fp => (all_O cs).2 (ctx_blk c.toCtx s H scope _ fp) h5
  have hx : ∀ (s : Shared) (H : Hp) (C : Addr) (cl : List (Str × Addr)) (fp : List Addr), PE (X.blk s H scope (compEnvC scope cl C X.env) fp) elt (evT (X.blk s H scope (compEnvC scope cl C X.env) fp) p W0 (evE (orc T d) e)) := fun s H C cl fp => (all_E e).1 (ctx_blk c.toCtx s H scope _ fp) h6
  refine PS.imp (ps_setLc (own := ns.zip tg) (te := evT X p W0 (evE (orc T d) e)) (tt := evTt X p W0 (evC (orc T d) cs)) c.calm c.nd hi (of_decide_eq_true w3) (sw_true c.kind (of_decide_eq_true w3) w4 (not_eq w2)) hI (blkOk_by h1) hg ht hx (notSet h7)) fun D σ H h => ?_
  refine e_lc (pos := q) c.toCtx hI h1 h2 hg ht hx σ H _ ?_
  exact stE h fun ρ x μ1 s1 H1 v r1 e1 hv u q => Post.ok (a := (Fl.nx, ρ.set i (some x))) q r1 _ (e1.set i hv u) (Only_.set hA)
theorem s_asgT {is : List Nat} {e : E} {es : List Expr} {k : Nat} {q pos : Pos} {v : Expr} {O : Ocl} (c : SCtx X T p d W) (ht : tgB X.N X.env.scope is (.Tuple es k q) (locB X.env.scope) = true) (hA : ∀ i, i ∈ is → i ∈ A) (hn : notTuple v = true) (h : PE X v (evT X p W (evE O e))) :
    PS X (.Assign [.Tuple es k q] v pos) (evTS X p W A (evS O (.asgT is e))) := by
  refine PS.imp (ps_asg h (pg_T c.calm c.nd (fun x hx => ⟨loc_of hx, .inl (c.fn x)⟩) ht) (sw_tup _ _ _) (st_tup hn _) (by rfl)) fun D σ H h => ?_
  refine stE h fun ρ x μ1 s1 H1 v r1 e1 hv u q => ?_
  have q : Post X.K p (atA W A σ) μ1 s1 H1 (match bindT is x ρ with | some ρ1 => Out.ok (Fl.nx, ρ1) s1 | none => .bad) (QS X.K D A σ) := q
  cases hb : bindT is x ρ with
  | none => rw [hb] at q; exact q.elim
  | some ρ1 =>
    rw [hb] at q
    exact gT_ok hb hv u (e1.weak _) fun σ1 e2 o => Post.ok (a := (Fl.nx, ρ1)) q r1 _ e2 (o.sub hA)
theorem s_put {o i e : E} {y z v : Expr} {q pos : Pos} {O : Ocl} (c : SCtx X T p d W) (hz : notSlice z = true) (ho : PE X y (evT X p W (evE O o))) (hi : PE X z (evT X p W (evE O i))) (he : PE X v (evT X p W (evE O e))) :
    PS X (.Assign [.Subscript y z q] v pos) (evTS X p W A (evS O (.set o i e))) := by
  refine PS.imp (ps_asg he (pg_sub ho hi (set_ok (p := p)) fun w => by cases z <;> first | rfl | cases hz) (sw_sub _ _ _) (by rfl) (by rfl)) fun D σ H h => ?_
  refine stE h fun ρ x μ1 s1 H1 vx r1 e1 hx ux q => ?_
  have q : Post X.K p (atA W A σ) μ1 s1 H1 ((evE O o ρ s1).bind fun y s => (evE O i ρ s).bind fun z s => (setD y z x s).bind fun _ s => .ok (Fl.nx, ρ) s) (QS X.K D A σ) := q
  refine stepE (k := fun ρ y s => (evE O i ρ s).bind fun z s => (setD y z x s).bind fun _ s => .ok (Fl.nx, ρ) s) r1 e1 (q.wimp atA.here) fun y μ2 s2 H2 vy ex2 r2 e2 hy uy q => ?_
  refine stepE (k := fun ρ z s => (setD y z x s).bind fun _ s => .ok (Fl.nx, ρ) s) r2 e2 q fun z μ3 s3 H3 vz ex3 r3 e3 hz uz q => ?_
  have ex13 := ex2.trans ex3
  refine ⟨atW W σ, μ3, s3, y, z, x, r3, VR.mono ex3 r2 y vy uy hy, hz, VR.mono ex13 r1 x vx ux hx, Ev.D.under_mono ex13.le x ux, ?_⟩
  exact q.bind.imp fun _ μ4 s4 H4 _ ex4 r4 q => Post.ok (a := (Fl.nx, ρ)) q r4 _ (e3.mono ex4 r3) Only_.refl
theorem s_expr {e : E} {v : Expr} {pos : Pos} {O : Ocl} (hc : notComp v = true) (h : PE X v (evT X p W (evE O e))) : PS X (.Expr v pos) (evTS X p W A (evS O (.expr e))) := by
  refine PS.imp (ps_expr h (sw_plain hc _ _ _)) fun D σ H h => ?_
  exact stE h fun ρ x μ1 s1 H1 v r1 e1 hv u q => Post.ok (a := (Fl.nx, ρ)) q r1 _ e1 Only_.refl
theorem s_ret {e : E} {v : Expr} {pos : Pos} {O : Ocl} (h : PE X v (evT X p W (evE O e))) : PS X (.Return (some v) pos) (evTS X p W A (evS O (.ret e))) := by
  refine PS.imp (ps_ret h) fun D σ H h => ?_
  exact stE h fun ρ x μ1 s1 H1 v r1 e1 hv u q => Post.ok (a := (Fl.rt x, ρ)) q r1 _ hv u
theorem s_retN {pos : Pos} {O : Ocl} : PS X (.Return none pos) (evTS X p W A (evS O .retN)) := PS.imp ps_retN fun D σ H ⟨μ, s, ρ, r, e, h⟩ => Post.ok (a := (Fl.rt .non, ρ)) h r V.non rfl rfl
theorem s_pass {pos : Pos} {O : Ocl} : PS X (.Pass pos) (evTS X p W A (evS O .pass)) := PS.imp ps_pass fun D σ H ⟨μ, s, ρ, r, e, h⟩ => Post.ok (a := (Fl.nx, ρ)) h r _ e Only_.refl
theorem s_brk {pos : Pos} {O : Ocl} : PS X (.Break pos) (evTS X p W A (evS O .brk)) := PS.imp ps_break fun D σ H ⟨μ, s, ρ, r, e, h⟩ => Post.ok (a := (Fl.bk, ρ)) h r _ e Only_.refl
theorem s_cont {pos : Pos} {O : Ocl} : PS X (.Continue pos) (evTS X p W A (evS O .cont)) := PS.imp ps_continue fun D σ H ⟨μ, s, ρ, r, e, h⟩ => Post.ok (a := (Fl.ct, ρ)) h r _ e Only_.refl
theorem s_aug {i : Nat} {o : Bo} {e : E} {y : Str} {py pos : Pos} {v : Expr} {O : Ocl} (c : SCtx X T p d W) (hi : X.N[i]? = some y) (hl : locB X.env.scope y = true) (hA : A.contains i = true) (ho : o = .add ∨ o = .sub) (h : PE X v (evT X p W (evE O e))) :
    PS X (.AugAssign (.Name y py) (opOf o) v pos) (evTS X p W A (evS O (.aug i o e))) := by
  have key : ∀ (f : Int → Int → Int), (∀ (ρ : En) (x y : D) (s : S) r, (match o, x, y with | .add, .int a, .int b => Out.ok (Fl.nx, ρ.set i (some (.int (a + b)))) s | .sub, .int a, .int b => .ok (Fl.nx, ρ.set i (some (.int (a - b)))) s | _, _, _ => .bad) = r →
      r = .bad ∨ ∃ a b, x = .int a ∧ y = .int b ∧ r = .ok (Fl.nx, ρ.set i (some (.int (f a b)))) s) → ∀ D σ H, evTS X p W A (evS O (.aug i o e)) D σ H → tAug i (evT X p W (evE O e)) (ipI f) D σ H := fun f hf D σ H h => by
    obtain ⟨μ, s, ρ, r, er, h⟩ := h
    have h : Post X.K p (atA W A σ) μ s H (match ρ[i]? with | some (some x) => (evE O e ρ s).bind fun y s => (match o, x, y with | .add, .int a, .int b => .ok (Fl.nx, ρ.set i (some (.int (a + b)))) s | .sub, .int a, .int b => .ok (Fl.nx, ρ.set i (some (.int (a - b)))) s | _, _, _ => .bad) | _ => .bad) (QS X.K D A σ) := h
    cases hx : ρ[i]? with
    | none => rw [hx] at h; exact h.elim
    | some ox =>
      cases ox with
      | none => rw [hx] at h; exact h.elim
      | some x =>
        rw [hx] at h
        obtain ⟨vx, g1, g2, g3⟩ := er.at_ i x hx
        refine ⟨vx, g1, stepE (k := fun ρ y s => (match o, x, y with | .add, .int a, .int b => .ok (Fl.nx, ρ.set i (some (.int (a + b)))) s | .sub, .int a, .int b => .ok (Fl.nx, ρ.set i (some (.int (a - b)))) s | _, _, _ => .bad)) r er (h.wimp atA.here) fun y μ1 s1 H1 vy ex1 r1 e1 hy uy q => ?_⟩
        rcases hf ρ x y s1 _ rfl with z | ⟨a, b, rfl, rfl, z⟩
        · simp only [z] at q; exact q.elim
        · simp only [z] at q
          cases (show vx = _ from g2)
          cases (show vy = _ from hy)
          exact ⟨a, b, rfl, rfl, Post.ok q r1 _ (e1.set i (d := .int (f a b)) (v := .int (f a b)) rfl rfl) (Only_.set hA)⟩
  rcases ho with rfl | rfl
  · exact PS.imp (ps_aug c.nd hi (loc_of hl) h ip_add (.inl (c.fn y))) (key _ fun ρ x y s r hr => by
      subst hr
      cases x <;> cases y <;> first | exact .inl rfl | exact .inr ⟨_, _, rfl, rfl, rfl⟩)
  · exact PS.imp (ps_aug c.nd hi (loc_of hl) h ip_sub (.inl (c.fn y))) (key _ fun ρ x y s r hr => by
      subst hr
      cases x <;> cases y <;> first | exact .inl rfl | exact .inr ⟨_, _, rfl, rfl, rfl⟩)
end
end Ev

set_option linter.all false
set_option maxRecDepth 100000
set_option maxHeartbeats 1000000
/-! Ev14: loops; every statement. -/
namespace Ev
open PySem L2 PySem.Spec PyProof.Rows
section
variable {X : Cx} {T : Tab} {p : Pl} {d : Nat} {W : WX} {A : List Nat}
theorem ss_nil {O : Ocl} : PSs X [] (evTS X p W A (evSs O .nil)) := PSs.imp pss_nil fun D σ H ⟨μ, s, ρ, r, e, h⟩ => Post.ok (a := (Fl.nx, ρ)) h r _ e Only_.refl
theorem ss_cons {a : Stm} {r : Stms} {st : Stmt} {rest : List Stmt} {O : Ocl} (h : PS X st (evTS X p W A (evS O a))) (g : PSs X rest (evTS X p W A (evSs O r))) : PSs X (st :: rest) (evTS X p W A (evSs O (.cons a r))) := by
  refine PSs.imp (pss_cons h g) fun D σ H h => ?_
  obtain ⟨μ, s, ρ, r1, e, h⟩ := h
  have h : Post X.K p (atA W A σ) μ s H ((evS O a ρ s).bind fun x s => (match x.1 with | .nx => evSs O r x.2 s | _ => .ok x s)) (QS X.K D A σ) := h
  refine ⟨μ, s, ρ, r1, e, h.bind.imp fun x μ1 s1 H1 _ ex r2 q => ?_⟩
  obtain ⟨f, ρ1⟩ := x
  cases f with
  | nx => exact fun σ' e' o => ⟨μ1, s1, ρ1, r2, e', Post.on o q⟩
  | rt v => exact (show Post X.K p (atA W A σ) μ1 s1 H1 (.ok (Fl.rt v, ρ1) s1) (QS X.K D A σ) from q) _ _ Ext.refl r2
  | bk => exact (show Post X.K p (atA W A σ) μ1 s1 H1 (.ok (Fl.bk, ρ1) s1) (QS X.K D A σ) from q) _ _ Ext.refl r2
  | ct => exact (show Post X.K p (atA W A σ) μ1 s1 H1 (.ok (Fl.ct, ρ1) s1) (QS X.K D A σ) from q) _ _ Ext.refl r2
theorem s_if {c : E} {a b : Stms} {t : Expr} {p1 q1 : List Stmt} {pos : Pos} {O : Ocl} (hc : PT X t (evTt X p W (evB O c))) (ha : PSs X p1 (evTS X p W A (evSs O a))) (hb : PSs X q1 (evTS X p W A (evSs O b))) :
    PS X (.If t p1 q1 pos) (evTS X p W A (evS O (.ite c a b))) := by
  refine PS.imp (ps_if hc ha hb) fun D σ H h => ?_
  obtain ⟨μ, s, ρ, r1, e, h⟩ := h
  refine stB (k := fun ρ t s => if t then evSs O a ρ s else evSs O b ρ s) r1 e h fun x μ1 s1 H1 ex r2 e2 q => ?_
  cases x with
  | true => exact iteT ⟨μ1, s1, ρ, r2, e2, q⟩
  | false => exact iteF ⟨μ1, s1, ρ, r2, e2, q⟩
theorem evS_whil {O : Ocl} {c : E} {b : Stms} : evS O (.whil c b) = loopW (evB O c) (evSs O b) fuel := by
  funext ρ s
  rw [evS]
theorem evS_for {O : Ocl} {tg : List Nat} {it : IT} {b : Stms} {ρ : En} {s : S} : evS O (.for_ tg it b) ρ s = (evIt O it ρ s).bind fun w s => loopF w tg (evSs O b) fuel 0 ρ s := by
  rw [evS]
theorem s_while {c : E} {b : Stms} {t : Expr} {p1 : List Stmt} {pos : Pos} {O : Ocl} (cx : SCtx X T p d W) (hc : PT X t (evTt X p W (evB O c))) (hb : PSs X p1 (evTS X p W A (evSs O b))) :
    PS X (.While t p1 [] pos) (evTS X p W A (evS O (.whil c b))) := by
  rw [evS_whil]
  refine PS.imp (ps_while cx.po hc hb) fun D σ0 H0 h => ?_
  refine ⟨fun m σ H => Only_ A σ0 σ ∧ evTS X p W A (loopW (evB O c) (evSs O b) m) D σ H, ⟨fuel, Only_.refl, h⟩, fun m σ H ⟨o, h⟩ => ?_⟩
  obtain ⟨μ, s, ρ, r1, e, h⟩ := h
  cases m with
  | zero => exact h.elim
  | succ f =>
    refine stB (k := fun ρ t s => if t then (evSs O b ρ s).bind fun r s => (match r.1 with
      | .nx => loopW (evB O c) (evSs O b) f r.2 s
      | .ct => loopW (evB O c) (evSs O b) f r.2 s
      | .bk => .ok (.nx, r.2) s
      | .rt d => .ok (.rt d, r.2) s)
    else .ok (.nx, ρ) s) r1 e h fun x μ1 s1 H1 ex r2 e2 q => ?_
    cases x with
    | false => exact iteF (Post.ok (a := (Fl.nx, ρ)) q r2 _ e2 Only_.refl)
    | true =>
      have q : Post X.K p (atA W A σ) μ1 s1 H1 ((evSs O b ρ s1).bind fun r s => (match r.1 with
      | .nx => loopW (evB O c) (evSs O b) f r.2 s
      | .ct => loopW (evB O c) (evSs O b) f r.2 s
      | .bk => .ok (.nx, r.2) s
      | .rt d => .ok (.rt d, r.2) s)) (QS X.K D A σ) := q
      refine iteT ⟨fun σ H => Only_ A σ0 σ ∧ evTS X p W A (loopW (evB O c) (evSs O b) f) D σ H, fun σ' H' hh => ⟨f, Nat.lt_succ_self _, hh⟩, μ1, s1, ρ, r2, e2, q.bind.imp fun x μ2 s2 H2 _ ex2 r3 q => ?_⟩
      obtain ⟨fl, ρ1⟩ := x
      cases fl with
      | nx => exact fun σ' e' o' => ⟨o.trans o', μ2, s2, ρ1, r3, e', Post.on o' q⟩
      | ct => exact fun σ' e' o' => ⟨o.trans o', μ2, s2, ρ1, r3, e', Post.on o' q⟩
      | bk => exact (show Post X.K p (atA W A σ) μ2 s2 H2 (.ok (Fl.nx, ρ1) s2) (QS X.K D A σ) from q) _ _ Ext.refl r3
      | rt v => exact (show Post X.K p (atA W A σ) μ2 s2 H2 (.ok (Fl.rt v, ρ1) s2) (QS X.K D A σ) from q) _ _ Ext.refl r3
theorem s_for {tg : List Nat} {it : IT} {b : Stms} {t iter : Expr} {p1 : List Stmt} {pos : Pos} {O : Ocl} (cx : SCtx X T p d W) (ht : tgB X.N X.env.scope tg t (locB X.env.scope) = true) (hA : ∀ i, i ∈ tg → i ∈ A)
    (hI : PI X t iter (evI X p W (evIt O it))) (hn : notSetE iter = true) (hb : PSs X p1 (evTS X p W A (evSs O b))) :
    PS X (.For t iter p1 [] pos) (evTS X p W A (evS O (.for_ tg it b))) := by
  refine PS.imp (ps_for cx.po cx.calm hI (pg_T cx.calm cx.nd (fun x hx => ⟨loc_of hx, .inl (cx.fn x)⟩) ht) hb (notSet' hn)) fun D σ0 H0 h => ?_
  obtain ⟨μ, s, ρ, r1, e, h⟩ := h
  rw [evS_for] at h
  refine ⟨μ, s, ρ, r1, e, (h.bind.wimp atA.here).imp fun w μ1 s1 H1 _ ex1 r2 q J hJ => ?_⟩
  have e1 := e.mono ex1 r1
  refine ⟨fun i m σ H => Only_ A σ0 σ ∧ ∃ μ2 s2 ρ2, Ext μ1 s1 H1 μ2 s2 H ∧ SR X.K μ2 H s2 ∧ ER X.K μ2 H s2 ρ2 σ ∧ Post X.K p (atA W A σ) μ2 s2 H (loopF w tg (evSs O b) m i ρ2 s2) (QS X.K D A σ),
    ⟨fuel, Only_.refl, μ1, s1, ρ, Ext.refl, r2, e1, q⟩, fun i m σ H ⟨o, μ2, s2, ρ2, ex2, r3, e2, h⟩ => ?_⟩
  obtain ⟨w1, w2⟩ := hJ μ2 s2 H i ex2 r3
  cases m with
  | zero => exact h.elim
  | succ f =>
    have h : Post X.K p (atA W A σ) μ2 s2 H (match w s2 i with
      | none => .ok (.nx, ρ2) s2
      | some d => match bindT tg d ρ2 with
        | none => .bad
        | some ρ1 => (evSs O b ρ1 s2).bind fun r s => (match r.1 with
          | .nx => loopF w tg (evSs O b) f (i + 1) r.2 s
          | .ct => loopF w tg (evSs O b) f (i + 1) r.2 s
          | .bk => .ok (.nx, r.2) s
          | .rt d => .ok (.rt d, r.2) s)) (QS X.K D A σ) := h
    cases hw : w s2 i with
    | none =>
      rw [hw] at h
      exact .inl ⟨w1 hw, Post.ok (a := (Fl.nx, ρ2)) h r3 _ e2 Only_.refl⟩
    | some dd =>
      obtain ⟨go, yl⟩ := w2 dd hw
      rw [hw] at h
      cases hb : bindT tg dd ρ2 with
      | none => simp only [hb] at h; exact h.elim
      | some ρ1 =>
        simp only [hb] at h
        refine .inr ⟨go, fun σ H => Only_ A σ0 σ ∧ ∃ μ2 s2 ρ2, Ext μ1 s1 H1 μ2 s2 H ∧ SR X.K μ2 H s2 ∧ ER X.K μ2 H s2 ρ2 σ ∧ Post X.K p (atA W A σ) μ2 s2 H (loopF w tg (evSs O b) f (i + 1) ρ2 s2) (QS X.K D A σ),
          fun σ' H' hh => ⟨f, Nat.lt_succ_self _, hh⟩, fun x H3 hy => ?_⟩
        obtain ⟨ex3, r4, vx, ux⟩ := yl x H3 hy
        refine gT_ok hb vx ux ((e2.mono ex3 r3).weak _) fun σ2 e3 o2 => ?_
        have o2 : Only_ A σ σ2 := o2.sub hA
        refine ⟨μ2, s2, ρ1, r4, e3, (Post.bind (Post.from ex3 (Post.on o2 h))).imp fun x μ4 s4 H4 _ ex4 r5 q => ?_⟩
        obtain ⟨fl, ρ4⟩ := x
        have ex14 := (ex2.trans ex3).trans ex4
        cases fl with
        | nx => exact fun σ' e' o' => ⟨(o.trans o2).trans o', μ4, s4, ρ4, ex14, r5, e', Post.on o' q⟩
        | ct => exact fun σ' e' o' => ⟨(o.trans o2).trans o', μ4, s4, ρ4, ex14, r5, e', Post.on o' q⟩
        | bk => exact (show Post X.K p (atA W A σ2) μ4 s4 H4 (.ok (Fl.nx, ρ4) s4) (QS X.K D A σ2) from q) _ _ Ext.refl r5
        | rt v => exact (show Post X.K p (atA W A σ2) μ4 s4 H4 (.ok (Fl.rt v, ρ4) s4) (QS X.K D A σ2) from q) _ _ Ext.refl r5
mutual
theorem all_S (cx : SCtx X T p d W) : ∀ (a : Stm) {x : Stmt}, simS X.N X.env.scope A a x = true → PS X x (evTS X p W A (evS (orc T d) a))
  | .asg i e, x, hs => by
    unfold simS at hs
    split at hs
    · rename_i y py v pos
      obtain ⟨h1, h2⟩ := and3 hs
      obtain ⟨h3, h4⟩ := and3 h1
      obtain ⟨h5, h6⟩ := and3 h3
      obtain ⟨h7, h8⟩ := and3 h5
      by_cases hc : notComp v = true
      · exact s_set cx (of_decide_eq_true h7) h8 h6 hc ((all_E e).1 cx.toCtx h4)
      · cases v with
        | ListComp elt gs scope q =>
          cases e with
          | lc tg it cs e => exact s_setLc cx (of_decide_eq_true h7) h6 rfl h4 h2
          | _ => cases h4
        | SetComp => cases h2
        | DictComp => cases h2
        | _ => exact absurd rfl hc
    · cases hs
  | .asgT is e, x, hs => by
    unfold simS at hs
    split at hs
    · obtain ⟨h1, h2⟩ := and3 hs
      obtain ⟨h3, h4⟩ := and3 h1
      obtain ⟨h5, h6⟩ := and3 h3
      exact s_asgT cx h5 (all_in h6) h2 ((all_E e).1 cx.toCtx h4)
    · cases hs
  | .set o i e, x, hs => by
    unfold simS at hs
    split at hs
    · obtain ⟨h1, h2⟩ := and3 hs
      obtain ⟨h3, h4⟩ := and3 h1
      obtain ⟨h5, h6⟩ := and3 h3
      exact s_put cx h5 ((all_E o).1 cx.toCtx h6) ((all_E i).1 cx.toCtx h4) ((all_E e).1 cx.toCtx h2)
    · cases hs
  | .aug i o e, x, hs => by
    unfold simS at hs
    split at hs
    · obtain ⟨h1, h2⟩ := and3 hs
      obtain ⟨h3, h4⟩ := and3 h1
      obtain ⟨h5, h6⟩ := and3 h3
      obtain ⟨h7, h8⟩ := and3 h5
      obtain ⟨h9, h10⟩ := and3 h7
      have ho : o = .add ∨ o = .sub := by cases o <;> first | exact .inl rfl | exact .inr rfl | cases h6
      rw [of_decide_eq_true h4]
      exact s_aug cx (of_decide_eq_true h9) h10 h8 ho ((all_E e).1 cx.toCtx h2)
    · cases hs
  | .expr e, x, hs => by
    unfold simS at hs
    split at hs
    · obtain ⟨h1, h2⟩ := and3 hs
      exact s_expr h2 ((all_E e).1 cx.toCtx h1)
    · cases hs
  | .ret e, x, hs => by
    unfold simS at hs
    split at hs
    · exact s_ret ((all_E e).1 cx.toCtx hs)
    · cases hs
  | .retN, x, hs => by
    unfold simS at hs
    split at hs
    · exact s_retN
    · cases hs
  | .pass, x, hs => by
    unfold simS at hs
    split at hs
    · exact s_pass
    · cases hs
  | .brk, x, hs => by
    unfold simS at hs
    split at hs
    · exact s_brk
    · cases hs
  | .cont, x, hs => by
    unfold simS at hs
    split at hs
    · exact s_cont
    · cases hs
  | .ite c a b, x, hs => by
    unfold simS at hs
    split at hs
    · obtain ⟨h1, h2⟩ := and3 hs
      obtain ⟨h3, h4⟩ := and3 h1
      exact s_if ((all_E c).2.1 cx.toCtx h3) (all_Ss cx a h4) (all_Ss cx b h2)
    · cases hs
  | .whil c b, x, hs => by
    unfold simS at hs
    split at hs
    · obtain ⟨h1, h2⟩ := and3 hs
      exact s_while cx ((all_E c).2.1 cx.toCtx h1) (all_Ss cx b h2)
    · cases hs
  | .for_ tg it b, x, hs => by
    unfold simS at hs
    split at hs
    · obtain ⟨h1, h2⟩ := and3 hs
      obtain ⟨h3, h4⟩ := and3 h1
      obtain ⟨h5, h6⟩ := and3 h3
      obtain ⟨h7, h8⟩ := and3 h5
      exact s_for cx h7 (all_in h8) (all_I it cx.toCtx h6) h2 (all_Ss cx b h4)
    · cases hs
  | .raise c es, x, hs => by cases hs
theorem all_Ss (cx : SCtx X T p d W) : ∀ (a : Stms) {xs : List Stmt}, simSs X.N X.env.scope A a xs = true → PSs X xs (evTS X p W A (evSs (orc T d) a))
  | .nil, xs, hs => by
    cases xs with
    | nil => exact ss_nil
    | cons x r => cases hs
  | .cons a r, xs, hs => by
    cases xs with
    | nil => cases hs
    | cons x xs =>
      obtain ⟨h1, h2⟩ := and3 (show (simS X.N X.env.scope A a x && simSs X.N X.env.scope A r xs) = true from hs)
      exact ss_cons (all_S cx a h1) (all_Ss cx r h2)
end
end
end Ev

set_option linter.all false
set_option maxRecDepth 100000
set_option maxHeartbeats 1000000
/-! Ev15: defs. -/
namespace Ev
open PySem L2 PySem.Spec PyProof.Rows
section
variable {K : PySem.W.Frag} {p : Pl} {μ μ' : Mu} {H H' : Hp} {s s' : S}
/-- the store as a def's body begins -/
abbrev S.beg (s : S) : S := ⟨s.objs, s.len⟩
theorem SR.beg (r : SR K μ H s) : SR K μ H s.beg := ⟨r.inj, r.obj, r.und⟩
theorem ER.beg {ρ : En} {σ : L2.St} (e : ER K μ H s ρ σ) : ER K μ H s.beg ρ σ := ⟨e.len, e.at_⟩
theorem SR.relow {l : Nat} (r : SR K μ H s) : SR K μ H ⟨s.objs, l⟩ := ⟨r.inj, r.obj, r.und⟩
/-- what a def that wrote below its own has done -/
theorem ext_out1 (e : Ext μ s.beg H μ' s' H') : Ext μ s H μ' ⟨s'.objs, min s.low s'.low⟩ H' where
  agree := e.agree
  le := e.le
  keep := e.keep
  trk := e.trk
  new := e.new
  lo := Nat.min_le_left ..
  un := fun b hb hl => by
    rcases e.un b hb hl with h | h
    · exact .inl (Nat.lt_of_le_of_lt (Nat.min_le_right ..) h)
    · exact .inr h
theorem low_of (e : Ext μ s.beg H μ' s' H') (hl : ¬ s'.low < s.len) {b : Nat} (hb : b ≤ s.len) (h : Low s b) : Low s' b := by
  rcases e.un b hb h with g | g
  · exact absurd (Nat.lt_of_lt_of_le g hb) hl
  · exact g
theorem ext_out2 (e : Ext μ s.beg H μ' s' H') (hl : ¬ s'.low < s.len) : Ext μ s H μ' ⟨s'.objs, s.low⟩ H' where
  agree := e.agree
  le := e.le
  keep := e.keep
  trk := e.trk
  new := e.new
  lo := Nat.le_refl _
  un := fun b hb h => .inr fun n o hn ho => low_of e hl hb h n o hn ho
theorem take_len (e : Ext μ s.beg H μ' s' H') : (⟨s'.objs.take s.len, s.low⟩ : S).len = s.len := by
  have h : s.len ≤ s'.objs.length := e.le
  simp [S.len] at h ⊢
  exact Nat.min_eq_left h
theorem take_get {n l : Nat} {o : Ob} (h : (⟨s'.objs.take s.len, l⟩ : S).get n = some o) : n < s.len ∧ s'.get n = some o := by
  have h : (s'.objs.take s.len)[n]? = some o := h
  rw [List.getElem?_take] at h
  by_cases hn : n < s.len
  · rw [if_pos hn] at h; exact ⟨hn, h⟩
  · rw [if_neg hn] at h; cases h
theorem ext_cut (e : Ext μ s.beg H μ' s' H') (hl : ¬ s'.low < s.len) : Ext μ s H μ' ⟨s'.objs.take s.len, s.low⟩ H' where
  agree := e.agree
  le := Nat.le_of_eq (take_len e).symm
  keep := e.keep
  trk := e.trk
  new := fun n h1 h2 => absurd (Nat.lt_of_lt_of_le h2 (Nat.le_of_eq (take_len e))) (Nat.not_lt.mpr h1)
  lo := Nat.le_refl _
  un := fun b hb h => .inr fun n o hn ho => low_of e hl hb h n o hn (take_get ho).2
theorem sr_cut (r : SR K μ H s) (e : Ext μ s.beg H μ' s' H') (r' : SR K μ' H' s') (hl : ¬ s'.low < s.len) : SR K μ' H' ⟨s'.objs.take s.len, s.low⟩ where
  inj := fun i j hi hj h => by
    rw [take_len e] at hi hj
    exact r'.inj i j (Nat.lt_of_lt_of_le hi e.le) (Nat.lt_of_lt_of_le hj e.le) h
  obj := fun n o h => r'.obj n o (take_get h).2
  und := fun n o h => by
    rw [take_len e]
    exact low_of e hl (Nat.le_refl _) (fun m o' _ ho => r.und m o' ho) n o (take_get h).1 (take_get h).2
theorem under_of_pures {n : Nat} {xs : List D} (h : D.pures xs = true) : D.unders n xs = true := D.unders_pure n xs h
theorem push_eq {l : Nat} {xs : List Ob} {o : Ob} : (⟨xs ++ [o], l⟩ : S) = (⟨xs, l⟩ : S).push o := rfl
/-- the one list that is handed back takes the first free place -/
theorem SR.adopt' {D0 : Addr} {xs : List D} {ws : List V} (r : SR K μ H s) (h : H D0 = some (.lst ws)) (hn : ∀ n, n < s.len → μ n ≠ D0) (v : VRs K μ H xs ws) (u : D.unders s.len xs = true) : SR K (muPush μ s.len D0) H (s.push (.lst xs)) := r.adopt h hn v u
theorem retD_ok {Q : VK} {W : WE} {v : D} (r : SR K μ H s) (h : Post K p W μ s H (retD s.len s.low v s') (QV K Q)) (e : Ext μ s.beg H μ' s' H') (r' : SR K μ' H' s') : ∀ vv, VR K μ' H' v vv → v.under s'.len = true → Q vv H' := by
  intro vv hv hu
  unfold retD at h
  by_cases hl : s'.low < s.len
  · rw [if_pos hl] at h
    exact h μ' H' (ext_out1 e) r'.relow vv hv hu
  · rw [if_neg hl] at h
    by_cases hp : v.pure = true
    · rw [if_pos hp] at h
      exact h μ' H' (ext_cut e hl) (sr_cut r e r' hl) vv hv (D.under_pure _ v hp)
    · rw [if_neg hp] at h
      cases v with
      | ref n =>
        have h : Post K p W μ s H (match s'.lst n with | some xs => if (decide (s.len ≤ n) && D.pures xs) = true then .ok (.ref s.len) ⟨s'.objs.take s.len ++ [.lst xs], s.low⟩ else .ok (.ref n) ⟨s'.objs, s.low⟩ | none => .ok (.ref n) ⟨s'.objs, s.low⟩) (QV K Q) := h
        cases hx : s'.lst n with
        | none => rw [hx] at h; exact h μ' H' (ext_out2 e hl) r'.relow vv hv hu
        | some xs =>
          rw [hx] at h
          have h : Post K p W μ s H (if (decide (s.len ≤ n) && D.pures xs) = true then .ok (.ref s.len) ⟨s'.objs.take s.len ++ [.lst xs], s.low⟩ else .ok (.ref n) ⟨s'.objs, s.low⟩) (QV K Q) := h
          by_cases hc : (decide (s.len ≤ n) && D.pures xs) = true
          · rw [if_pos hc, push_eq] at h
            obtain ⟨c1, c2⟩ := Bool.and_eq_true_iff.mp hc
            have c1 := of_decide_eq_true c1
            obtain ⟨⟨ws, g1, g2⟩, _, g3⟩ := r'.lst hx
            have ec := ext_cut e hl
            have rc := sr_cut r e r' hl
            have hn : ∀ m, m < (⟨s'.objs.take s.len, s.low⟩ : S).len → μ' m ≠ μ' n := fun m hm z => by
              rw [take_len e] at hm
              have := r'.inj m n (Nat.lt_of_lt_of_le hm e.le) g3 z
              exact absurd hm (Nat.not_lt.mpr (this ▸ c1))
            have hH : H (μ' n) = none := e.new n c1 g3
            refine h _ _ (ec.adopt hH (ob := .lst xs) (under_of_pures c2)) (rc.adopt g1 hn g2 (under_of_pures c2)) vv ?_ ?_
            · show vv = .ref (muPush μ' _ (μ' n) s.len)
              rw [take_len e, muPush_same]
              exact hv
            · show decide (s.len < _) = true
              rw [len_push, take_len e]
              exact decide_eq_true (Nat.lt_succ_self _)
          · rw [if_neg hc] at h
            exact h μ' H' (ext_out2 e hl) r'.relow vv hv hu
      | tup xs => exact h μ' H' (ext_out2 e hl) r'.relow vv hv hu
      | kl xs => exact h μ' H' (ext_out2 e hl) r'.relow vv hv hu
      | _ => exact absurd rfl hp
theorem errD_ok {Q : VK} {W : WE} {c : String} {as : List D} (r : SR K μ H s) (h : Post K p W μ s H (errD s.len s.low c as s') (QV K Q)) (e : Ext μ s.beg H μ' s' H') (r' : SR K μ' H' s') : ∀ cls dx, XR K p μ' H' cls dx c as → W cls dx H' := by
  intro cls dx hx
  unfold errD at h
  by_cases hl : s'.low < s.len
  · rw [if_pos hl] at h
    exact h μ' H' cls dx (ext_out1 e) r'.relow hx
  · rw [if_neg hl] at h
    by_cases hp : D.pures as = true
    · rw [if_pos hp] at h
      exact h μ' H' cls dx (ext_cut e hl) (sr_cut r e r' hl) hx
    · rw [if_neg hp] at h
      exact h.elim
theorem finish_ok {Q : VK} {E : XK} {A : List Nat} {σ : L2.St} {o : Out (Fl × En)} (r : SR K μ H s) (h : Post K p E μ s H (finish s.len s.low o) (QV K Q)) :
    Post K p (atA (fun c dx _ H => E c dx H) A σ) μ s.beg H o (QS K { nx := fun _ H' => Q V.non H', rt := Q } A σ) := by
  cases o with
  | bad => exact h.elim
  | err c as s' => exact fun μ' H' cls dx e r' x σ' _ => errD_ok r h e r' cls dx x
  | ok a s' =>
    obtain ⟨f, ρ⟩ := a
    cases f with
    | bk => exact h.elim
    | ct => exact h.elim
    | nx => exact fun μ' H' e r' σ' _ _ => retD_ok (v := .non) r h e r' V.non rfl rfl
    | rt v => exact fun μ' H' e r' => retD_ok r h e r'
/-- from an empty store: all that stood stays -/
theorem ext_whole {s : S} (r : SR K μ H s) (e : Ext μ ⟨[], 0⟩ H μ' s' H') : Ext μ s H μ s H' where
  agree := fun _ _ => rfl
  le := Nat.le_refl _
  keep := fun a o h _ => e.keep a o h fun n hn => absurd hn (Nat.not_lt_zero n)
  trk := e.trk
  new := fun n h1 h2 => absurd (Nat.lt_of_lt_of_le h2 h1) (Nat.lt_irrefl _)
  lo := Nat.le_refl _
  un := fun b _ h => .inr h
theorem sr_empty : SR K μ H ⟨[], 0⟩ := ⟨fun i j h => absurd h (Nat.not_lt_zero i), (fun n o h => nomatch h), (fun n o h => nomatch h)⟩
theorem sr_whole {s : S} (r : SR K μ H s) (e : Ext μ ⟨[], 0⟩ H μ' s' H') : SR K μ H' s := by
  refine ⟨r.inj, fun n o h => ?_, r.und⟩
  have ob := r.obj n o h
  have um := r.und n o h
  cases o with
  | lst xs =>
    obtain ⟨vs, q1, q2⟩ := ob
    exact ⟨vs, e.keep _ _ q1 fun n hn => absurd hn (Nat.not_lt_zero n), VRs.keep (n := s.len) (fun _ _ => rfl) ⟨fun a vs q => e.tup sr_empty q, fun a vs q => e.kl sr_empty q⟩ xs vs um q2⟩
  | _ => exact ob.elim
theorem liftV_ok {Q : VK} {W : WE} {v : D} {o : Out D} (r : SR K μ H s) (hl : liftV s v s' = some o) (h : Post K p W μ s H o (QV K Q)) (e : Ext μ ⟨[], 0⟩ H μ' s' H') (r' : SR K μ' H' s') : ∀ vv, VR K μ' H' v vv → v.under s'.len = true → Q vv H' := by
  intro vv hv hu
  unfold liftV at hl
  have stay : ∀ (d : D) (v : V), d.pure = true → VR K μ' H' d v → ∀ μ2 : Mu, VR K μ2 H' d v := fun d v hd h μ2 => VR.keep (n := 0) (fun k hk => absurd hk (Nat.not_lt_zero k)) ⟨fun _ _ z => z, fun _ _ z => z⟩ d v (D.under_pure 0 d hd) h
  by_cases hp : v.pure = true
  · rw [if_pos hp] at hl
    cases hl
    exact h μ H' (ext_whole r e) (sr_whole r e) vv (stay v vv hp hv μ) (D.under_pure _ v hp)
  · rw [if_neg hp] at hl
    cases v with
    | ref n =>
      have hl : (match s'.lst n with | some xs => if D.pures xs then some (Out.ok (.ref s.len) (s.push (.lst xs))) else none | none => none) = some o := hl
      cases hx : s'.lst n with
      | none => rw [hx] at hl; cases hl
      | some xs =>
        rw [hx] at hl
        have hl : (if D.pures xs then some (Out.ok (.ref s.len) (s.push (.lst xs))) else none) = some o := hl
        by_cases hc : D.pures xs = true
        · rw [if_pos hc] at hl
          cases hl
          obtain ⟨⟨ws, g1, g2⟩, _, g3⟩ := r'.lst hx
          have hH : H (μ' n) = none := e.new n (Nat.zero_le n) g3
          have hn : ∀ m, m < s.len → μ m ≠ μ' n := fun m hm z => by
            obtain ⟨ob, hob⟩ : ∃ ob, s.get m = some ob := ⟨_, List.getElem?_eq_getElem hm⟩
            exact (r.obj m ob hob).notup.1 (by rw [z]; exact hH)
          refine h _ _ ((ext_whole r e).adopt hH (ob := .lst xs) (under_of_pures hc)) ((sr_whole r e).adopt g1 hn ?_ (under_of_pures hc)) vv ?_ ?_
          · exact VRs.keep (n := 0) (fun k hk => absurd hk (Nat.not_lt_zero k)) ⟨fun _ _ z => z, fun _ _ z => z⟩ xs ws (under_of_pures hc) g2
          · show vv = .ref (muPush μ s.len (μ' n) s.len)
            rw [muPush_same]
            exact hv
          · show decide (s.len < _) = true
            rw [len_push]
            exact decide_eq_true (Nat.lt_succ_self _)
        · rw [if_neg hc] at hl; cases hl
    | _ => cases hl
theorem lift_ok {Q : VK} {E : XK} {A : List Nat} {σ : L2.St} {o : Out (Fl × En)} {x : Out D} (r : SR K μ H s) (hl : lift s o = some x) (h : Post K p E μ s H x (QV K Q)) :
    Post K p (atA (fun c dx _ H => E c dx H) A σ) μ ⟨[], 0⟩ H o (QS K { nx := fun _ H' => Q V.non H', rt := Q } A σ) := by
  cases o with
  | bad => cases hl; exact h.elim
  | err c as s' =>
    intro μ' H' cls dx e r' hx σ' _
    have hl : (if D.pures as then some (Out.err c as s) else none) = some x := hl
    by_cases hp : D.pures as = true
    · rw [if_pos hp] at hl
      cases hl
      refine h μ H' cls dx (ext_whole r e) (sr_whole r e) ?_
      match as, hp, hx with
      | [], _, hx => exact hx
      | [y], hp, ⟨h1, dd, vv, h2, h3, h4⟩ => exact ⟨h1, dd, vv, h2, h3, VR.keep (n := 0) (fun k hk => absurd hk (Nat.not_lt_zero k)) ⟨fun _ _ z => z, fun _ _ z => z⟩ y vv (D.under_pure 0 y (pures_iff.mp hp y (List.mem_cons_self ..))) h4⟩
      | _ :: _ :: _, _, hx => exact hx.elim
    · rw [if_neg hp] at hl; cases hl
  | ok a s' =>
    obtain ⟨f, ρ⟩ := a
    cases f with
    | bk => cases hl; exact h.elim
    | ct => cases hl; exact h.elim
    | nx =>
      cases hl
      exact fun μ' H' e r' σ' _ _ => h μ H' (ext_whole r e) (sr_whole r e) V.non rfl rfl
    | rt v => exact fun μ' H' e r' => liftV_ok r hl h e r'
end
theorem er_start {K : PySem.W.Frag} {μ : Mu} {H : Hp} {s : S} {N : List Str} : ∀ {as : List D} {vs : List V}, VRs K μ H as vs → D.unders s.len as = true → ER K μ H s (as.map some ++ List.replicate (N.length - as.length) none) (L2.start N vs) := fun {as vs} v u => by
  have hl := v.length
  refine ⟨by simp [L2.start, hl], fun i d h => ?_⟩
  by_cases hi : i < as.length
  · rw [List.getElem?_append_left (by simpa using hi), List.getElem?_map] at h
    cases hx : as[i]? with
    | none => rw [hx] at h; cases h
    | some x =>
      rw [hx] at h
      have e : x = d := by injection h with h; injection h
      subst e
      obtain ⟨w, g1, g2⟩ := v.get hx
      refine ⟨w, ?_, g2, unders_iff.mp u x (List.mem_of_getElem? hx)⟩
      rw [L2.start, List.getElem?_append_left (by rw [List.length_map, ← hl]; exact hi), List.getElem?_map, g1]
      rfl
  · rw [List.getElem?_append_right (by simpa using Nat.not_lt.mp hi)] at h
    rw [List.getElem?_replicate] at h
    split at h <;> cases h
/-- a run's promise: of the body over one store or the other -/
theorem run_ok {K : PySem.W.Frag} {p : Pl} {μ : Mu} {H : Hp} {s : S} {Q : VK} {E : XK} {A : List Nat} {σ : L2.St} {T : Tab} {d : Nat} {fn : Fn} {as : List D} {vs : List V} (r : SR K μ H s) (v : VRs K μ H as vs) (u : D.unders s.len as = true) (h : Post K p E μ s H (run T (d + 1) fn as s) (QV K Q)) :
    as.length = fn.ps ∧ ∃ s0, SR K μ H s0 ∧ D.unders s0.len as = true ∧ Post K p (atA (fun c dx _ H => E c dx H) A σ) μ s0 H (evSs (orc T d) fn.body (as.map some ++ List.replicate (fn.n - fn.ps) none) s0) (QS K { nx := fun _ H' => Q V.non H', rt := Q } A σ) := by
  rw [run] at h
  by_cases hl : as.length = fn.ps
  · rw [if_pos hl] at h
    refine ⟨hl, ?_⟩
    by_cases hp : D.pures as = true
    · rw [if_pos hp] at h
      cases hx : lift s (evSs ⟨fun f => (T.fns f).map (run T d), T.gl⟩ fn.body (as.map some ++ List.replicate (fn.n - fn.ps) none) ⟨[], 0⟩) with
      | some o =>
        rw [hx] at h
        exact ⟨⟨[], 0⟩, sr_empty, D.unders_pure _ _ hp, lift_ok r hx h⟩
      | none =>
        rw [hx] at h
        exact ⟨s.beg, r.beg, u, finish_ok r h⟩
    · rw [if_neg hp] at h
      exact ⟨s.beg, r.beg, u, finish_ok r h⟩
  · rw [if_neg hl] at h
    exact h.elim
/-- a def whose form fits does what the evaluator says -/
theorem fn_ok {P : Program} {w : World} {K : PySem.W.Frag} {mg : Str → Option Value} {base : Heap} {T : Tab} {p : Pl} {d : Nat} {x qual : Str} {params : Arguments} {body : List Stmt} {scope : Scope} {dvs : List V} {kws : List (Str × V)}
    {f : Addr} {fd : FuncData} {N ps : List Str} {fn : Fn} (F : FunD K x qual params body scope dvs kws f fd) (S : FnScope N ps scope) (ok : Ok P w K mg base T p d) (hp : fn.ps = ps.length) (hn : fn.n = N.length)
    (sim : simSs N scope (List.range fn.n) fn.body body = true) : FnOk P w K mg base (L2.CX P w) (d + 1) f fd ps (spF K p T (d + 1) fn) := by
  refine F.ok S (fun vs H Q E ⟨μ, s, as, r, v, u, h⟩ => ?_) fun cdv A outer s H vs Q E hr ⟨μ, t, as, r, v, u, h⟩ => ?_
  · exact v.length.symm.trans ((run_ok (A := []) (σ := []) r v u h).1.trans hp)
  · have cx : SCtx (cxOf (L2.CX P w) P w K mg base N qual scope f cdv A outer s H E) T p d (fun c dx _ H => E c dx H) :=
      { calm := rfl, nd := S.nd, room := hr, tk := takes_of rfl rfl rfl rfl, po := passes_of rfl, ok := ok, kind := S.kind, fn := fun _ => rfl }
    obtain ⟨l, s0, r0, u0, h0⟩ := run_ok (A := List.range fn.n) (σ := L2.start N vs) r v u h
    refine ⟨evTS _ p _ (List.range fn.n) (evSs (orc T d) fn.body), all_Ss cx fn.body sim, μ, s0, as.map some ++ List.replicate (fn.n - fn.ps) none, r0, ?_, h0⟩
    rw [hn, ← l]
    exact er_start v u0
end Ev

set_option linter.all false
set_option maxRecDepth 100000
set_option maxHeartbeats 1000000
/-! Ev16: a whole top. -/
namespace Ev
open PySem L2 PySem.Spec PyProof.Rows
/-- a def of the top: its name, parameters, slots, form, statement -/
structure DefRow where
  key : String
  ps : List Str
  N : List Str
  body : Stms
  st : Stmt
def DefRow.fn (r : DefRow) : Fn := ⟨r.ps.length, r.N.length, r.body⟩
abbrev DefRow.dd (r : DefRow) : He.DefD := ⟨(nm r.key, none), nm r.key, nm r.key, defArgs r.st, defBody r.st, defScope r.st, [], []⟩
structure DefRow.Good (r : DefRow) : Prop where
  sc : FnScope r.N r.ps (defScope r.st)
  sim : simSs r.N (defScope r.st) (List.range r.N.length) r.body (defBody r.st) = true
  bind : ∀ (kV doc pm : Value) (an : Option Addr) (cdv ct : Value) (us : List Value), us.length = r.ps.length →
    bindArgs (PySem.W.fnOf (nm r.key) (nm r.key) (defArgs r.st) (defBody r.st) (defScope r.st) Value.none kV doc pm an cdv ct) { pos := us } = pure (r.ps.zip us)
def AllG : List DefRow → Prop
  | [] => True
  | r :: rs => r.Good ∧ AllG rs
theorem AllG.get : ∀ {rs : List DefRow}, AllG rs → ∀ {i : Nat} {r : DefRow}, rs[i]? = some r → r.Good
  | [], _, i, r, h => by cases h
  | r :: rs, ⟨h1, h2⟩, i, x, h => by
    cases i with
    | zero => cases h; exact h1
    | succ i => exact h2.get (i := i) h
/-- a global of the top that stands still -/
inductive Gl where
  | int (x : String) (i : Int)
  | str (x : String) (s : List Nat)
def Gl.key : Gl → String
  | .int x _ => x
  | .str x _ => x
def Gl.val : Gl → D
  | .int _ i => .int i
  | .str _ s => .str s
def Gl.fa : Gl → He.Fa
  | .int x i => .int (nm x) i
  | .str x s => .str (nm x) ⟨s.toArray⟩
def tabOf (rows : List DefRow) (gls : List Gl) : Tab := ⟨fun f => (rows.find? (·.key == f)).map DefRow.fn, fun x => (gls.find? (·.key == x)).map Gl.val⟩
def frees : List String := ["len", "tuple", "list", "int", "abs", "min", "max", "all", "any", "sorted", "sum", "str", "dict", "bool", "isinstance", "range", "enumerate"]
def faOf (rows : List DefRow) (gls : List Gl) : List He.Fa := rows.map (fun r => He.Fa.glo (nm r.key)) ++ (gls.map Gl.fa ++ frees.map fun x => He.Fa.free (nm x))
theorem fact_in {fa : List He.Fa} {fn : List He.DefD} {K : PySem.W.Frag} (c : He.SaysD fa fn K) {f : He.Fa} (h : f ∈ fa) : He.Fa.ok K f = true := by
  obtain ⟨i, hi⟩ := List.getElem?_of_mem h
  exact c.fact i hi
section
variable {P : Program} {w : World} {K : PySem.W.Frag} {mg : Str → Option Value} {h : Heap} {rows : List DefRow} {gls : List Gl} {p : Pl}
theorem free_in (c : He.SaysD (faOf rows gls) (rows.map DefRow.dd) K) (KX : K.In h) (G : h.Ns mainGlobals mg) {x : String} (hx : x ∈ frees) : mg (nm x) = none :=
  He.free_ok KX G (fact_in c (List.mem_append_right _ (List.mem_append_right _ (List.mem_map_of_mem hx))))
theorem row_at {rs : List DefRow} {f : String} {r : DefRow} (h : rs.find? (·.key == f) = some r) : ∃ i : Nat, rs[i]? = some r ∧ r.key = f := by
  have h1 := List.find?_some h
  obtain ⟨i, hi⟩ := List.getElem?_of_mem (List.mem_of_find?_eq_some h)
  exact ⟨i, hi, by simpa using h1⟩
theorem row_ok (c : He.SaysD (faOf rows gls) (rows.map DefRow.dd) K) (KX : K.In h) (G : h.Ns mainGlobals mg) (good : AllG rows) {f : String} {fn : Fn} (hf : (tabOf rows gls).fns f = some fn) :
    ∃ (r : DefRow) (fd : FuncData), r.fn = fn ∧ r.Good ∧ mg (nm f) = some (.ref (He.fAd K (nm r.key, none))) ∧ FunD K (nm r.key) (nm r.key) (defArgs r.st) (defBody r.st) (defScope r.st) [] [] (He.fAd K (nm r.key, none)) fd := by
  have hf : (rows.find? (·.key == f)).map DefRow.fn = some fn := hf
  cases hq : rows.find? (·.key == f) with
  | none => rw [hq] at hf; cases hf
  | some r =>
    rw [hq] at hf
    cases hf
    obtain ⟨i, hi, hk⟩ := row_at hq
    obtain ⟨fd, F⟩ := c.def_ i (d := r.dd) (by rw [List.getElem?_map, hi]; rfl)
    refine ⟨r, fd, rfl, good.get hi, ?_, F⟩
    rw [← hk]
    exact He.glo_ok KX G (fact_in c (List.mem_append_left _ (List.mem_map.mpr ⟨r, List.mem_of_getElem? hi, rfl⟩)))
theorem tops_ok (c : He.SaysD (faOf rows gls) (rows.map DefRow.dd) K) (KX : K.In h) (G : h.Ns mainGlobals mg) (good : AllG rows) (base : Heap) : ∀ d, Ok P w K mg base (tabOf rows gls) p d := by
  have gl : ∀ x v, (tabOf rows gls).gl x = some v → ∃ u val, mg (nm x) = some u ∧ RelV val u ∧ (∀ μ H, VR K μ H v val) ∧ v.pure = true := fun x v hx => by
    have hx : (gls.find? (·.key == x)).map Gl.val = some v := hx
    cases hq : gls.find? (·.key == x) with
    | none => rw [hq] at hx; cases hx
    | some g =>
      rw [hq] at hx
      cases hx
      have hk : g.key = x := by simpa using List.find?_some hq
      have hm := fact_in c (List.mem_append_right (rows.map (fun r => He.Fa.glo (nm r.key))) (List.mem_append_left (frees.map fun x => He.Fa.free (nm x)) (List.mem_map_of_mem (f := Gl.fa) (List.mem_of_find?_eq_some hq))))
      subst hk
      cases g with
      | int x i =>
        obtain ⟨t, ht⟩ := He.int_ok KX G hm
        exact ⟨_, .int i, ht, ⟨t, rfl⟩, fun _ _ => rfl, rfl⟩
      | str x s =>
        obtain ⟨t, ht⟩ := He.str_ok KX G hm
        exact ⟨_, .str ⟨s.toArray⟩, ht, ⟨t, rfl⟩, fun _ _ => rfl, rfl⟩
  have fr : ∀ x, x ∈ frees → mg (nm x) = none := fun x hx => free_in c KX G hx
  have base_of : ∀ d, (∀ f fn, (tabOf rows gls).fns f = some fn → ∃ a fd ps, mg (nm f) = some (.ref a) ∧ PySem.W.keepIn K (.ref a) = true ∧ Binds K fd ps [] ∧ FnOk P w K mg base (L2.CX P w) d a fd ps (spF K p (tabOf rows gls) d fn)) → Ok P w K mg base (tabOf rows gls) p d := fun d hf =>
    { fns := hf, gl := gl, bi := fun f => fr _ (by cases f <;> decide), ty := fun t => fr _ (by cases t <;> decide), isi := fr _ (by decide), rng := fr _ (by decide), enu := fr _ (by decide) }
  intro d
  induction d with
  | zero =>
    refine base_of 0 fun f fn hf => ?_
    obtain ⟨r, fd, e, g, hm, F⟩ := row_ok c KX G good hf
    exact ⟨_, fd, r.ps, hm, F.kp, F.bindsN g.bind, ⟨fun vs H Q E ⟨μ, s, as, _, _, _, h⟩ => h.elim, fun A outer s H args us vs Q E _ _ _ _ ⟨μ, s', as, _, _, _, h⟩ => h.elim⟩⟩
  | succ d ih =>
    refine base_of (d + 1) fun f fn hf => ?_
    obtain ⟨r, fd, e, g, hm, F⟩ := row_ok c KX G good hf
    subst e
    exact ⟨_, fd, r.ps, hm, F.kp, F.bindsN g.bind, fn_ok F g.sc ih rfl rfl g.sim⟩
/-- a law's own promise -/
def spL (K : PySem.W.Frag) (p : Pl) (T : Tab) (d : Nat) (f : Fn) : Sp := fun vs H Q _ => ∃ μ s as, SR K μ H s ∧ VRs K μ H as vs ∧ D.unders s.len as = true ∧ Post K p (fun _ _ _ => False) μ s H (run T d f as s) (QV K Q)
theorem law_ok {T : Tab} {d : Nat} {base : Heap} {x qual : Str} {params : Arguments} {body : List Stmt} {scope : Scope} {dvs : List V} {kws : List (Str × V)}
    {f : Addr} {fd : FuncData} {N ps : List Str} {fn : Fn} (F : FunD K x qual params body scope dvs kws f fd) (S : FnScope N ps scope) (ok : Ok P w K mg base T p d) (hp : fn.ps = ps.length) (hn : fn.n = N.length)
    (sim : simSs N scope (List.range fn.n) fn.body body = true) : FnOk P w K mg base CX0 (d + 1) f fd ps (spL K p T (d + 1) fn) := by
  refine F.ok S (fun vs H Q E ⟨μ, s, as, r, v, u, h⟩ => ?_) fun cdv A outer s H vs Q E hr ⟨μ, t, as, r, v, u, h⟩ => ?_
  · exact v.length.symm.trans ((run_ok (A := []) (σ := []) (E := fun _ _ _ => False) r v u h).1.trans hp)
  · have cx : SCtx (cxOf CX0 P w K mg base N qual scope f cdv A outer s H E) T p d W0 :=
      { calm := rfl, nd := S.nd, room := hr, tk := fun u s' ⟨_, _, _, _, _, _, _, _, _, _, _, _, _, _, _, _, w⟩ => w.elim, po := passes_of rfl, ok := ok, kind := S.kind, fn := fun _ => rfl }
    obtain ⟨l, s0, r0, u0, h0⟩ := run_ok (A := List.range fn.n) (σ := L2.start N vs) (E := fun _ _ _ => False) r v u h
    refine ⟨evTS _ p W0 (List.range fn.n) (evSs (orc T d) fn.body), all_Ss cx fn.body sim, μ, s0, as.map some ++ List.replicate (fn.n - fn.ps) none, r0, ?_, h0⟩
    rw [hn, ← l]
    exact er_start v u0
theorem kl_of {H : Hp} {a : Addr} {xs : List V} (o : Only H) (h : SqL K H a xs) : KL K H a xs := by
  rcases h with (h | h) | h
  · rcases o a with z | ⟨ob, ys, z⟩
    · rw [z] at h; cases h
    · rw [z] at h; cases h
  · exact .inl h
  · exact .inr h
end
/-- the law holds where the evaluator says so of each script -/
theorem law_walk {l : PySem.W.OpenLaw} {q : Program} {loose : List Str} {XP : (Str → Option Value) → Heap → Prop} {d : DefRec} {rows : List DefRow} {gls : List Gl} {D n i : Nat} {r : DefRow} {M : Nat}
    (hn : l.most = some n) (hn2 : n ≤ sizeLine) (hdf : d.params.defaults = []) (hr : Room (D + 1) callerA) (good : AllG rows)
    (hd : d.name = nm "law") (hi : rows[i]? = some r) (hk : r.key = "law") (hp : r.ps = [nm "script"])
    (hlaw : ∀ ns : List Int, ns.length ≤ n → ∃ s, run (tabOf rows gls) (D + 1) r.fn [.kl ns] ⟨[], 0⟩ = .ok (.bl true) s) :
    PySem.W.WalkO q loose XP (He.hookD M (faOf rows gls) (rows.map DefRow.dd)).says l.row.toRowW d [] fun f vs => PySem.call f vs := by
  refine walk_ofE (k := D + 1) (x := nm "script") (CX := CX0) hn hn2 hdf hr (fun w mg fa h Y G hmg => ?_) (fun _ _ _ _ z => z)
  obtain ⟨K, KX, c⟩ := Y
  have c : He.SaysD (faOf rows gls) (rows.map DefRow.dd) K := c
  obtain ⟨fd, F⟩ := c.def_ i (d := r.dd) (by rw [List.getElem?_map, hi]; rfl)
  have g := good.get hi
  have hg : mg (nm r.key) = some (.ref (He.ga K (nm r.key))) := He.glo_ok KX G (fact_in c (List.mem_append_left _ (List.mem_map.mpr ⟨r, List.mem_of_getElem? hi, rfl⟩)))
  rw [hd, ← hk] at hmg
  have e := hmg.symm.trans hg
  cases e
  have b := FunD.bindsA (ps := r.ps) F g.bind
  refine ⟨K, fd, spL K ⟨fun _ => default, fun _ => default⟩ (tabOf rows gls) (D + 1) r.fn, KX, fun s u => ?_, fun H a ns hl o hS => ?_, fun base KB GB => ?_⟩
  · have := b s [u] (by rw [hp]; rfl)
    rw [hp] at this
    exact this
  · obtain ⟨s, hs⟩ := hlaw ns hl
    refine ⟨fun _ => a, ⟨[], 0⟩, [.kl ns], ⟨fun i j h => absurd h (Nat.not_lt_zero i), (fun n o h => nomatch h), (fun n o h => nomatch h)⟩, ⟨.ref a, [], rfl, ⟨a, rfl, kl_of o hS⟩, rfl⟩, rfl, ?_⟩
    rw [hs]
    exact fun μ' H' _ _ v hv _ => hv
  · have := law_ok (p := ⟨fun _ => default, fun _ => default⟩) (P := l.prog) (w := w) (mg := mg) F g.sc (tops_ok c KX G good base D) (fn := r.fn) rfl rfl g.sim
    rw [hp] at this
    exact this
end Ev

set_option linter.all false
set_option maxRecDepth 100000
set_option maxHeartbeats 1000000
/-! Ev17: how a run is told: o.to Q. -/
namespace Ev
def Out.to {α : Type} (o : Out α) (Q : α → S → Prop) : Prop := match o with
  | .ok a s => Q a s
  | _ => False
section
variable {α β : Type} {Q Q' : α → S → Prop} {a : α} {s s' : S}
theorem to_ok : (Out.ok a s).to Q = Q a s := rfl
theorem to_bad : (Out.bad : Out α).to Q = False := rfl
theorem to_err {c : String} {as : List D} : (Out.err c as s : Out α).to Q = False := rfl
theorem to_bind {o : Out β} {k : β → S → Out α} : (o.bind k).to Q = o.to fun a s => (k a s).to Q := by cases o <;> rfl
theorem Out.to.mono {o : Out α} (h : o.to Q) (i : ∀ a s, Q a s → Q' a s) : o.to Q' := by
  cases o with
  | ok a s => exact i a s h
  | _ => exact h
theorem Out.to.eq {o : Out α} (h : o.to fun b t => b = a ∧ t = s) : o = .ok a s := by
  cases o with
  | ok b t => obtain ⟨rfl, rfl⟩ := h; rfl
  | _ => exact h.elim
theorem to_of {o : Out α} (h : o = .ok a s) (q : Q a s) : o.to Q := by rw [h]; exact q
theorem to_ex {o : Out α} (h : o.to Q) : ∃ a s, o = .ok a s ∧ Q a s := by
  cases o with
  | ok a s => exact ⟨a, s, rfl, h⟩
  | _ => exact h.elim
theorem to_ite {c : Prop} [Decidable c] {o o' : Out α} : (if c then o else o').to Q = if c then o.to Q else o'.to Q := by split <;> rfl
end
/-- what a def hands back, told: it got objects -/
theorem run_to {T : Tab} {d : Nat} {fn : Fn} {as : List D} {s : S} {Q : D → S → Prop} (hl : as.length = fn.ps) (hp : D.pures as = false)
    (h : (evSs ⟨fun f => (T.fns f).map (run T d), T.gl⟩ fn.body (as.map some ++ List.replicate (fn.n - fn.ps) none) ⟨s.objs, s.objs.length⟩).to fun r s' => match r.1 with
      | .rt v => (retD s.len s.low v s').to Q
      | .nx => (retD s.len s.low .non s').to Q
      | _ => False) : (run T (d + 1) fn as s).to Q := by
  rw [run, if_pos hl, hp]
  obtain ⟨⟨f, ρ⟩, s', e, q⟩ := to_ex h
  show (finish s.len s.low (evSs ⟨fun f => (T.fns f).map (run T d), T.gl⟩ fn.body (as.map some ++ List.replicate (fn.n - fn.ps) none) ⟨s.objs, s.objs.length⟩)).to Q
  rw [e]
  cases f with
  | nx => exact q
  | rt v => exact q
  | bk => exact q.elim
  | ct => exact q.elim
/-- .. it got plain data alone: it ran over an empty store -/
theorem run_top {T : Tab} {d : Nat} {fn : Fn} {as : List D} {s : S} {Q : D → S → Prop} (hl : as.length = fn.ps) (hp : D.pures as = true)
    (h : (evSs ⟨fun f => (T.fns f).map (run T d), T.gl⟩ fn.body (as.map some ++ List.replicate (fn.n - fn.ps) none) ⟨[], 0⟩).to fun r s' => match r.1 with
      | .rt v => (v.pure = true ∧ Q v s) ∨ ∃ n xs, v = .ref n ∧ s'.lst n = some xs ∧ D.pures xs = true ∧ Q (.ref s.len) (s.push (.lst xs))
      | .nx => Q .non s
      | _ => False) : (run T (d + 1) fn as s).to Q := by
  rw [run, if_pos hl, if_pos hp]
  obtain ⟨⟨f, ρ⟩, s', e, q⟩ := to_ex h
  rw [e]
  cases f with
  | nx => exact q
  | bk => exact q.elim
  | ct => exact q.elim
  | rt v =>
    rcases q with ⟨hv, q⟩ | ⟨n, xs, rfl, hx, hxs, q⟩
    · show (orElse (liftV s v s') _).to Q
      unfold liftV
      rw [if_pos hv]
      exact q
    · show (orElse (liftV s (.ref n) s') _).to Q
      unfold liftV
      rw [if_neg (by intro z; cases z)]
      simp only [hx, hxs, if_true]
      exact q
theorem lift_any {b : Out (Fl × En)} {v : D} (s : S) (hv : v.pure = true) (h : orElse (lift ⟨[], 0⟩ b) (fun _ => finish 0 0 b) = .ok v ⟨[], 0⟩) : lift s b = some (.ok v s) := by
  cases b with
  | bad => cases h
  | err c as s' =>
    exfalso
    by_cases hq : D.pures as = true
    · simp only [lift, if_pos hq, orElse] at h
      cases h
    · simp only [lift, if_neg hq, orElse, finish, errD, Nat.not_lt_zero, if_false] at h
      cases h
  | ok r s' =>
    obtain ⟨f, ρ⟩ := r
    cases f with
    | bk => cases h
    | ct => cases h
    | nx => cases h; rfl
    | rt w =>
      by_cases hw : w.pure = true
      · have h : orElse (liftV ⟨[], 0⟩ w s') (fun _ => finish 0 0 (.ok (.rt w, ρ) s')) = .ok v ⟨[], 0⟩ := h
        unfold liftV at h
        rw [if_pos hw] at h
        cases h
        show liftV s v s' = _
        unfold liftV
        rw [if_pos hw]
      · exfalso
        have h : orElse (liftV ⟨[], 0⟩ w s') (fun _ => retD 0 0 w s') = .ok v ⟨[], 0⟩ := h
        have bad : ∀ x : D, x.pure = false → ∀ t : S, Out.ok x t = .ok v ⟨[], 0⟩ → False := fun x hx t e => by
          cases e
          rw [hv] at hx
          cases hx
        unfold liftV retD at h
        rw [if_neg hw, if_neg (Nat.not_lt_zero _), if_neg hw] at h
        cases w with
        | ref n =>
          simp only at h
          cases hx : s'.lst n with
          | none => rw [hx] at h; exact bad _ rfl _ h
          | some xs =>
            rw [hx] at h
            simp only at h
            by_cases hc : D.pures xs = true
            · rw [if_pos hc] at h; exact bad _ rfl _ h
            · rw [if_neg hc] at h
              have h : (if (decide (0 ≤ n) && D.pures xs) = true then Out.ok (.ref 0) ⟨s'.objs.take 0 ++ [.lst xs], 0⟩ else .ok (.ref n) ⟨s'.objs, 0⟩) = .ok v ⟨[], 0⟩ := h
              rw [if_neg (by rw [Bool.and_eq_true_iff]; exact fun z => hc z.2)] at h
              exact bad _ rfl _ h
        | tup xs => exact bad _ (by simpa using hw) _ h
        | kl ns => exact bad _ rfl _ h
        | _ => exact absurd rfl hw
/-- .. told of one store, it is so of each -/
theorem run_any {T : Tab} {fn : Fn} {as : List D} {v : D} (s : S) : ∀ {d : Nat}, D.pures as = true → run T d fn as ⟨[], 0⟩ = .ok v ⟨[], 0⟩ → v.pure = true → run T d fn as s = .ok v s
  | 0, _, h, _ => by cases h
  | d + 1, hp, h, hv => by
    rw [run] at h ⊢
    by_cases hl : as.length = fn.ps
    · rw [if_pos hl, if_pos hp] at h ⊢
      rw [lift_any s hv h]
      rfl
    · rw [if_neg hl] at h
      cases h
/-- .. a value without refs: the store is as t says -/
theorem ret_pure {b low : Nat} {v : D} {s' t : S} {Q : D → S → Prop} (hl : ¬ s'.low < b) (hp : v.pure = true) (ht : s'.objs.take b = t.objs) (hw : low = t.low) (q : Q v t) : (retD b low v s').to Q := by
  unfold retD
  rw [if_neg hl, if_pos hp, ht, hw]
  exact q
/-- .. a list of its own, of such values -/
theorem ret_list {b low n : Nat} {xs : List D} {s' t : S} {Q : D → S → Prop} (hl : ¬ s'.low < b) (hg : s'.lst n = some xs) (hn : b ≤ n) (hp : D.pures xs = true) (ht : s'.objs.take b = t.objs) (hw : low = t.low)
    (hb : t.objs.length = b) (q : Q (.ref b) (t.push (.lst xs))) : (retD b low (.ref n) s').to Q := by
  unfold retD
  rw [if_neg hl, if_neg (by intro h; cases h)]
  simp only [hg, hn, hp, decide_true, Bool.and_self, if_true, ht, hw]
  exact q
/-- a plain answer, judged by the kernel -/
def isB (o : Out D) (b : Bool) : Bool := match o with
  | .ok (.bl c) ⟨[], 0⟩ => c == b
  | _ => false
theorem isB_eq {o : Out D} {b : Bool} (h : isB o b = true) : o = .ok (.bl b) ⟨[], 0⟩ := by
  unfold isB at h
  split at h
  · rw [eq_of_beq h]
  · cases h
theorem get_push0 {s : S} {o : Ob} : (s.push o).get s.len = some o := by simp [S.get, S.push, S.len]
theorem evSs_cons {O : Ocl} {a : Stm} {r : Stms} {ρ : En} {s : S} {Q : Fl × En → S → Prop} : (evSs O (.cons a r) ρ s).to Q = (evS O a ρ s).to fun x s => match x.1 with
    | .nx => (evSs O r x.2 s).to Q
    | _ => Q x s := by
  rw [evSs, to_bind]
  congr
  funext x s
  obtain ⟨f, ρ⟩ := x
  cases f <;> rfl
end Ev

set_option linter.all false
set_option maxRecDepth 100000
set_option maxHeartbeats 1000000
/-! Ev18: loops told; the two defs that every law has. -/
namespace Ev
section
variable {Q : Fl × En → S → Prop}
/-- a walk that ends at N -/
theorem for_to {w : Wk} {tg : List Nat} {b : En → S → Out (Fl × En)} {N : Nat} (Inv : Nat → En → S → Prop)
    (h : ∀ j ρ s, Inv j ρ s → j ≤ N ∧ (j = N → w s j = none ∧ Q (.nx, ρ) s) ∧ (j < N → ∃ d ρ1, w s j = some d ∧ bindT tg d ρ = some ρ1 ∧ (b ρ1 s).to fun r s' => match r.1 with
      | .nx => Inv (j + 1) r.2 s'
      | .ct => Inv (j + 1) r.2 s'
      | .bk => Q (.nx, r.2) s'
      | .rt d => Q (.rt d, r.2) s')) : ∀ (f j : Nat) (ρ : En) (s : S), N < f + j → Inv j ρ s → (loopF w tg b f j ρ s).to Q
  | 0, j, ρ, s, hf, hi => by have := (h j ρ s hi).1; omega
  | f + 1, j, ρ, s, hf, hi => by
    obtain ⟨h1, h2, h3⟩ := h j ρ s hi
    rw [loopF]
    by_cases e : j = N
    · obtain ⟨q1, q2⟩ := h2 e
      rw [q1]
      exact q2
    · obtain ⟨d, ρ1, q1, q2, q3⟩ := h3 (by omega)
      rw [q1]
      simp only [q2]
      rw [to_bind]
      refine q3.mono fun r s' g => ?_
      obtain ⟨fl, ρ2⟩ := r
      cases fl with
      | nx => exact for_to Inv h f (j + 1) ρ2 s' (by omega) g
      | ct => exact for_to Inv h f (j + 1) ρ2 s' (by omega) g
      | bk => exact g
      | rt d => exact g
theorem while_to {c : En → S → Out Bool} {b : En → S → Out (Fl × En)} (Inv : Nat → En → S → Prop)
    (h : ∀ m ρ s, Inv m ρ s → (c ρ s).to fun t s1 => if t then (b ρ s1).to fun r s' => match r.1 with
      | .nx => ∃ m', m' < m ∧ Inv m' r.2 s'
      | .ct => ∃ m', m' < m ∧ Inv m' r.2 s'
      | .bk => Q (.nx, r.2) s'
      | .rt d => Q (.rt d, r.2) s'
      else Q (.nx, ρ) s1) : ∀ (f m : Nat) (ρ : En) (s : S), m < f → Inv m ρ s → (loopW c b f ρ s).to Q
  | 0, m, ρ, s, hf, hi => by omega
  | f + 1, m, ρ, s, hf, hi => by
    rw [loopW, to_bind]
    refine (h m ρ s hi).mono fun t s1 g => ?_
    cases t with
    | false => exact g
    | true =>
      show (Out.bind (b ρ s1) _).to Q
      rw [to_bind]
      refine Out.to.mono (show (b ρ s1).to _ from g) fun r s' g => ?_
      obtain ⟨fl, ρ2⟩ := r
      cases fl with
      | nx => obtain ⟨m', h1, h2⟩ := g; exact while_to Inv h f m' ρ2 s' (by omega) h2
      | ct => obtain ⟨m', h1, h2⟩ := g; exact while_to Inv h f m' ρ2 s' (by omega) h2
      | bk => exact g
      | rt d => exact g
end
/-- a comprehension's walk that ends at N -/
theorem lc_to {w : Wk} {tg : List Nat} {test : En → S → Out Bool} {elt : En → S → Out D} {ρ : En} {N : Nat} {Q : List D → S → Prop} (Inv : Nat → List D → S → Prop)
    (h : ∀ j acc s, Inv j acc s → j ≤ N ∧ acc.length ≤ j ∧ (j = N → w s j = none ∧ Q acc s) ∧ (j < N → ∃ d ρ1, w s j = some d ∧ bindT tg d ρ = some ρ1 ∧ (test ρ1 s).to fun t s1 => if t then (elt ρ1 s1).to fun x s' => Inv (j + 1) (acc ++ [x]) s' else Inv (j + 1) acc s1))
    (hN : N ≤ big) : ∀ (f j : Nat) (acc : List D) (s : S), N < f + j → Inv j acc s → (loopE w tg test elt ρ f j acc s).to Q
  | 0, j, acc, s, hf, hi => by have := (h j acc s hi).1; omega
  | f + 1, j, acc, s, hf, hi => by
    obtain ⟨h1, h0, h2, h3⟩ := h j acc s hi
    rw [loopE]
    by_cases e : j = N
    · obtain ⟨q1, q2⟩ := h2 e
      rw [q1]
      exact q2
    · obtain ⟨d, ρ1, q1, q2, q3⟩ := h3 (by omega)
      rw [q1]
      simp only [q2]
      rw [to_bind]
      refine q3.mono fun t s1 g => ?_
      cases t with
      | false => exact lc_to Inv h hN f (j + 1) acc s1 (by omega) g
      | true =>
        show (Out.bind (elt ρ1 s1) _).to Q
        rw [to_bind]
        refine Out.to.mono (show (elt ρ1 s1).to _ from g) fun x s' g => ?_
        show (if acc.length < big then _ else _ : Out (List D)).to Q
        rw [if_pos (by omega)]
        exact lc_to Inv h hN f (j + 1) (acc ++ [x]) s' (by omega) g
theorem quiet_to {α : Type} {o : Out α} {Q : α → S → Prop} : (quiet o).to Q = o.to Q := by cases o <;> rfl
theorem evS_for' {O : Ocl} {tg : List Nat} {it : IT} {b : Stms} {ρ : En} {s : S} : evS O (.for_ tg it b) ρ s = (evIt O it ρ s).bind fun w s => loopF w tg (evSs O b) fuel 0 ρ s := by rw [evS]
theorem evS_whil' {O : Ocl} {c : E} {b : Stms} {ρ : En} {s : S} : evS O (.whil c b) ρ s = loopW (evB O c) (evSs O b) fuel ρ s := by rw [evS]
theorem evS_ite' {O : Ocl} {c : E} {a b : Stms} {ρ : En} {s : S} {Q : Fl × En → S → Prop} : (evS O (.ite c a b) ρ s).to Q = (evE O c ρ s).to fun x s => (truthy x s).to fun t s => if t then (evSs O a ρ s).to Q else (evSs O b ρ s).to Q := by
  rw [evS, evB, to_bind, to_bind]
  congr
  funext x s
  congr
  funext t s
  split <;> rfl
theorem evSs_nil {O : Ocl} {ρ : En} {s : S} {Q : Fl × En → S → Prop} : (evSs O .nil ρ s).to Q = Q (.nx, ρ) s := by rw [evSs]; rfl
theorem evSs_last {O : Ocl} {a : Stm} {ρ : En} {s : S} {Q : Fl × En → S → Prop} : (evSs O (.cons a .nil) ρ s).to Q = (evS O a ρ s).to Q := by
  rw [evSs_cons]
  congr
  funext x s
  obtain ⟨f, ρ⟩ := x
  cases f <;> first | rfl | (show (evSs O .nil ρ s).to Q = _; rw [evSs_nil])
theorem evE_lc {O : Ocl} {tg : List Nat} {it : IT} {cs : Oe} {e : E} {ρ : En} {s : S} {Q : D → S → Prop} : (evE O (.lc tg it cs e) ρ s).to Q = (evIt O it ρ s).to fun w s => (loopE w tg (evC O cs) (evE O e) ρ fuel 0 [] s).to fun xs s => (s.newL xs).to Q := by
  rw [evE, to_bind]
  congr
  funext w s
  rw [to_bind, quiet_to]
theorem newL_to {xs : List D} {s : S} {Q : D → S → Prop} (h : xs.length ≤ big) : (s.newL xs).to Q = Q (.ref s.len) (s.push (.lst xs)) := by rw [S.newL, if_pos h]; rfl
theorem fuel_big : big < fuel := by decide
/-! (no rfl: the kernel would count) -/
theorem bin_add : binD .add = addD := by simp only [binD]
theorem bin_sub : binD .sub = subD := by simp only [binD]
theorem bin_mul : binD .mul = mulD := by simp only [binD]
theorem bin_mod : binD .mod = modD := by simp only [binD]
theorem bin_fdiv : binD .fdiv = fdivD := by simp only [binD]
theorem bin_pow : binD .pow = powD := by simp only [binD]
/-! ### stores written out -/
section
variable {P : List Ob} {x y z u : Ob} {r : List Ob} {l : Nat} {a b c : List D}
theorem at0 : (P ++ x :: r)[P.length]? = some x := by simp
theorem at1 : (P ++ x :: y :: r)[P.length + 1]? = some y := by simp [List.getElem?_append_right]
theorem at2 : (P ++ x :: y :: z :: r)[P.length + 2]? = some z := by simp [List.getElem?_append_right]
theorem at3 : (P ++ x :: y :: z :: u :: r)[P.length + 3]? = some u := by simp [List.getElem?_append_right]
theorem lst0 : (⟨P ++ .lst a :: r, l⟩ : S).lst P.length = some a := by simp only [S.lst, S.get, at0]
theorem lst1 : (⟨P ++ x :: .lst a :: r, l⟩ : S).lst (P.length + 1) = some a := by simp only [S.lst, S.get, at1]
theorem lst2 : (⟨P ++ x :: y :: .lst a :: r, l⟩ : S).lst (P.length + 2) = some a := by simp only [S.lst, S.get, at2]
theorem lst3 : (⟨P ++ x :: y :: z :: .lst a :: r, l⟩ : S).lst (P.length + 3) = some a := by simp only [S.lst, S.get, at3]
theorem rd0 : (⟨P ++ .lst a :: r, l⟩ : S).rd P.length = some a := by simp only [S.rd, S.get, at0]
theorem rd1 : (⟨P ++ x :: .lst a :: r, l⟩ : S).rd (P.length + 1) = some a := by simp only [S.rd, S.get, at1]
theorem rd2 : (⟨P ++ x :: y :: .lst a :: r, l⟩ : S).rd (P.length + 2) = some a := by simp only [S.rd, S.get, at2]
theorem rd3 : (⟨P ++ x :: y :: z :: .lst a :: r, l⟩ : S).rd (P.length + 3) = some a := by simp only [S.rd, S.get, at3]
theorem set0 : (P ++ x :: r).set P.length y = P ++ y :: r := by simp
theorem set1 : (P ++ x :: y :: r).set (P.length + 1) z = P ++ x :: z :: r := by simp [List.set_append_right]
theorem set2 : (P ++ x :: y :: z :: r).set (P.length + 2) u = P ++ x :: y :: u :: r := by simp [List.set_append_right]
theorem len1 : (⟨P ++ [x], l⟩ : S).len = P.length + 1 := by simp [S.len]
theorem len2 : (⟨P ++ [x, y], l⟩ : S).len = P.length + 2 := by simp [S.len]
theorem len3 : (⟨P ++ [x, y, z], l⟩ : S).len = P.length + 3 := by simp [S.len]
end
theorem rd_lst {s : S} {n : Nat} {xs : List D} (h : s.lst n = some xs) : s.rd n = some xs := by
  unfold S.lst at h
  unfold S.rd
  split at h
  · rename_i e; rw [e]; exact h
  · cases h
/-! ### _law_next: the first number, and it is gone -/
def bNext : Stms := .cons (.ite (.not (.v 0)) (.cons (.ret (.int 0)) .nil) .nil)
  (.cons (.ret (.bin .mod (.bi .int (.cons (.lm (.v 0) "pop" (.cons (.int 0) .nil)) .nil)) (.v 1))) .nil)
def S.setL (s : S) (n : Nat) (xs : List D) : S := ⟨s.objs.set n (.lst xs), s.low⟩
/-- a list of whole numbers -/
def S.ints (s : S) (n : Nat) (ds : List Int) : Prop := s.lst n = some (ds.map D.int)
theorem next_to {T : Tab} {d : Nat} {s : S} {n : Nat} {ds : List Int} {m : Int} {Q : D → S → Prop} (h : s.ints n ds) (hm : 0 < m)
    (q : ∀ (r : Int) (ds' : List Int), 0 ≤ r → r < m → Q (.int r) (s.setL n (ds'.map D.int))) : (run T (d + 1) ⟨2, 2, bNext⟩ [.ref n, .int m] s).to Q := by
  have h2 := rd_lst h
  have hn : n < s.objs.length := by
    unfold S.ints S.lst at h
    split at h
    · rename_i e; exact (List.getElem?_eq_some_iff.mp e).1
    · cases h
  have hb : ∀ l, (⟨s.objs, l⟩ : S).lst n = s.lst n := fun l => rfl
  have hb2 : ∀ l, (⟨s.objs, l⟩ : S).rd n = s.rd n := fun l => rfl
  refine run_to rfl rfl ?_
  show (evSs _ bNext [some (.ref n), some (.int m)] _).to _
  cases ds with
  | nil =>
    simp only [bNext, evSs_cons, evSs_nil, evB, evE, to_bind, to_ok, List.getElem?_cons_zero, truthy, hb2, h2, List.map_nil, List.isEmpty_nil, Bool.not_true, Bool.not_false, if_true, evS, to_ok, bind_ok]
    have : s.setL n (([] : List Int).map D.int) = s := by
      show (⟨s.objs.set n (.lst []), s.low⟩ : S) = s
      have e : s.objs.set n (.lst []) = s.objs := by
        unfold S.ints S.lst S.get at h
        split at h
        · rename_i ys e
          have : ys = [] := by simpa using h
          subst this
          obtain ⟨h1, h2⟩ := List.getElem?_eq_some_iff.mp e
          rw [← h2]
          exact List.set_getElem_self h1
        · cases h
      rw [e]
    exact ret_pure (t := s) (Nat.lt_irrefl _) rfl List.take_length rfl (by have := q 0 [] (Int.le_refl _) hm; rw [‹s.setL n _ = s›] at this; exact this)
  | cons e ds =>
    have h : s.lst n = some (.int e :: ds.map D.int) := h
    rw [h] at hb
    rw [h2] at hb2
    have hm' : (0 : Int) < m := hm
    simp only [bNext, evSs_cons, evSs_nil, evB, evE, evEs, to_bind, to_ok, List.getElem?_cons_zero, List.getElem?_cons_succ, truthy, hb2, hb, List.map_cons, List.isEmpty_cons, Bool.not_true, Bool.not_false, if_true, evS, to_ok, bind_ok, isL, Option.isSome_some, methD, biD, un1, intD, binD, modD, if_pos hm', Bool.false_eq_true, if_false, reduceIte, String.reduceEq]
    refine ret_pure (t := s.setL n (ds.map D.int)) ?_ rfl ?_ rfl (q _ ds (Int.emod_nonneg _ (Int.ne_of_gt hm)) (Int.emod_lt_of_pos _ hm))
    · show ¬ s.objs.length < s.objs.length
      exact Nat.lt_irrefl _
    · show (s.objs.set n _).take s.objs.length = _
      rw [List.take_of_length_le (by simp)]
      rfl
end Ev

set_option linter.all false
set_option maxRecDepth 100000
set_option maxHeartbeats 1000000
/-! Ev19: _law_draws: it hands back a new list of whole numbers. -/
namespace Ev
def bDraws : Stms := (.cons (.asg 2 (.lc [3] (.plain (.slc (.v 0) .none (.some (.int 63)))) .none (.bi .abs (.cons (.bi .int (.cons (.v 3) .nil)) .nil))))
  (.cons (.ite (.not (.v 2))
   (.cons (.asg 2 (.lst (.cons (.int 0) .nil)))
   .nil)
   .nil)
  (.cons (.asg 4 (.bi .list (.cons (.v 2) .nil)))
  (.cons (.asg 5 (.lst .nil))
  (.cons (.for_ [6] (.range1 (.v 1))
   (.cons (.asg 7 (.bin .mod (.bi .int (.cons (.v 6) .nil)) (.bi .len (.cons (.v 2) .nil))))
   (.cons (.ite (.and (.cmp .ge (.idx (.v 2) (.v 7)) (.bin .pow (.int 10) (.int 18))) (.cmp .gt (.idx (.v 4) (.v 7)) (.int 0)))
    (.cons (.expr (.lm (.v 5) "append" (.cons (.bin .mod (.bi .int (.cons (.idx (.v 4) (.v 7)) .nil)) (.int 1000)) .nil)))
    (.cons (.set (.v 4) (.v 7) (.bin .fdiv (.idx (.v 4) (.v 7)) (.int 1000)))
    .nil))
    (.cons (.asg 8 (.bin .mod (.bi .int (.cons (.bin .add (.bin .mul (.bin .add (.idx (.v 2) (.v 7)) (.int 7)) (.int 48271)) (.bin .mul (.bin .add (.v 6) (.int 1)) (.int 69621))) .nil)) (.int 2147483647)))
    (.cons (.asg 8 (.bin .mod (.bi .int (.cons (.bin .add (.bin .add (.bin .mul (.v 8) (.int 16807)) (.bin .mul (.bin .mul (.v 6) (.v 6)) (.int 40692))) (.int 12345)) .nil)) (.int 2147483399)))
    (.cons (.expr (.lm (.v 5) "append" (.cons (.bin .fdiv (.v 8) (.int 64)) .nil)))
    .nil))))
   .nil)))
  (.cons (.ret (.v 5))
  .nil))))))
/-- a turn of the loop -/
def bTurn : Stms := match bDraws with
  | .cons _ (.cons _ (.cons _ (.cons _ (.cons (.for_ _ _ b) _)))) => b
  | _ => .nil
def bRest : Stms := match bDraws with
  | .cons _ (.cons _ r) => r
  | _ => .nil
theorem pures_ints (ds : List Int) : D.pures (ds.map D.int) = true := by
  induction ds with
  | nil => rfl
  | cons e r ih => exact ih
theorem cutIx_63 {n : Nat} : cutIx n n (some 63) = min 63 n := rfl
/-- the index of a nonnegative number -/
theorem atD_of {α : Type} {xs : List α} {i : Int} (h : 0 ≤ i) (h2 : i < xs.length) : ∃ x, atD xs i = some x ∧ ixOf xs.length i = some i.toNat ∧ xs[i.toNat]? = some x := by
  have hn : i.toNat < xs.length := by omega
  refine ⟨xs[i.toNat], ?_, ?_, List.getElem?_eq_getElem hn⟩
  · unfold atD ixOf
    rw [if_pos h, if_pos (by omega)]
    exact List.getElem?_eq_getElem hn
  · unfold ixOf
    rw [if_pos h, if_pos (by omega)]
section
variable {O : Ocl} {P : List Ob} {l : Nat} {sc : D} {m : Int} {cs ls ds : List Int} {a3 a6 a7 a8 : Option D}
abbrev dEn (P : List Ob) (sc : D) (m : Int) (a3 a6 a7 a8 : Option D) : En := [some sc, some (.int m), some (.ref P.length), a3, some (.ref (P.length + 1)), some (.ref (P.length + 2)), a6, a7, a8]
abbrev dS (P : List Ob) (l : Nat) (cs ls ds : List Int) : S := ⟨P ++ [.lst (cs.map D.int), .lst (ls.map D.int), .lst (ds.map D.int)], l⟩
theorem idx_ints {xs : List Int} {i : Int} (h : 0 ≤ i) (h2 : i < xs.length) : ∃ x : Int, atD (xs.map D.int) i = some (.int x) ∧ ixOf (xs.map D.int).length i = some i.toNat := by
  obtain ⟨y, h3, h4, h5⟩ := atD_of (xs := xs.map D.int) h (by rw [List.length_map]; exact h2)
  rw [List.getElem?_map] at h5
  cases hx : xs[i.toNat]? with
  | none => rw [hx] at h5; cases h5
  | some x => rw [hx] at h5; cases h5; exact ⟨x, h3, h4⟩
theorem small_mul {a b : Int} {s : S} (h : small64 b = true) : mulD (.int a) (.int b) s = .ok (.int (a * b)) s := by
  show (if (small64 a || small64 b) = true then _ else _) = _
  rw [h, Bool.or_true, if_pos rfl]
theorem mod_pos {a b : Int} {s : S} (h : 0 < b) : modD (.int a) (.int b) s = .ok (.int (a % b)) s := by
  show (if 0 < b then _ else _) = _
  rw [if_pos h]
theorem fdiv_pos {a b : Int} {s : S} (h : 0 < b ∧ b < 1073741824) : fdivD (.int a) (.int b) s = .ok (.int (a / b)) s := by
  show (if 0 < b ∧ b < 1073741824 then _ else _) = _
  rw [if_pos h]
theorem add_int {a b : Int} {s : S} : addD (.int a) (.int b) s = .ok (.int (a + b)) s := rfl
theorem turn_to {k : Int} {Q : Fl × En → S → Prop} (hc : cs.length ≠ 0) (he : ls.length = cs.length) (hk0 : 0 ≤ k) (hk : k < 1000000) (hd : ds.length < 1000000)
    (q : ∀ ls' e a7 a8, ls'.length = cs.length → Q (.nx, dEn P sc m a3 (some (.int k)) a7 a8) (dS P l cs ls' (ds ++ [e]))) : (evSs O bTurn (dEn P sc m a3 (some (.int k)) a7 a8) (dS P l cs ls ds)).to Q := by
  have hcs : (0 : Int) < (cs.map D.int).length := by rw [List.length_map]; omega
  have hm0 : 0 ≤ k % (cs.map D.int).length := Int.emod_nonneg _ (Int.ne_of_gt hcs)
  have hm1 : k % (cs.map D.int).length < (cs.map D.int).length := Int.emod_lt_of_pos _ hcs
  generalize hM : k % (cs.map D.int).length = M at hm0 hm1
  obtain ⟨x, hx, _⟩ := idx_ints (xs := cs) hm0 (by rw [List.length_map] at hm1; exact hm1)
  obtain ⟨y, hy, hyi⟩ := idx_ints (xs := ls) hm0 (by rw [List.length_map] at hm1; rw [he]; exact hm1)
  have hpw : (0 : Int) ≤ 18 ∧ (18 : Int) ≤ 1000000 ∧ (10 : Int).natAbs < 2 ^ 64 := by decide
  obtain ⟨B, p1⟩ : ∃ B, ∀ s, powD (.int 10) (.int 18) s = .ok (.int B) s := ⟨(10 : Int) ^ (18 : Int).toNat, fun s => by unfold powD; simp only [if_pos hpw]⟩
  have M1 : ∀ a s, mulD (.int a) (.int 48271) s = .ok (.int (a * 48271)) s := fun a s => small_mul (by decide)
  have M2 : ∀ a s, mulD (.int a) (.int 69621) s = .ok (.int (a * 69621)) s := fun a s => small_mul (by decide)
  have M3 : ∀ a s, mulD (.int a) (.int 16807) s = .ok (.int (a * 16807)) s := fun a s => small_mul (by decide)
  have M4 : ∀ a s, mulD (.int a) (.int 40692) s = .ok (.int (a * 40692)) s := fun a s => small_mul (by decide)
  have M5 : ∀ a s, mulD (.int a) (.int k) s = .ok (.int (a * k)) s := fun a s => small_mul (decide_eq_true (by omega))
  have D1 : ∀ a s, modD (.int a) (.int 2147483647) s = .ok (.int (a % 2147483647)) s := fun a s => mod_pos (by decide)
  have D2 : ∀ a s, modD (.int a) (.int 2147483399) s = .ok (.int (a % 2147483399)) s := fun a s => mod_pos (by decide)
  have D3 : ∀ a s, fdivD (.int a) (.int 64) s = .ok (.int (a / 64)) s := fun a s => fdiv_pos (by decide)
  have D4 : ∀ a s, modD (.int a) (.int 1000) s = .ok (.int (a % 1000)) s := fun a s => mod_pos (by decide)
  have D5 : ∀ a s, fdivD (.int a) (.int 1000) s = .ok (.int (a / 1000)) s := fun a s => fdiv_pos (by decide)
  have hdb : (ds.map D.int).length < big := by rw [List.length_map]; exact Nat.lt_trans hd (by decide)
  have put2 : ∀ (e : Int) (ls : List Int), S.put (dS P l cs ls ds) (P.length + 2) (.lst (ds.map D.int ++ [.int e])) (.int e) = dS P l cs ls (ds ++ [e]) := fun e ls => by
    show (⟨(P ++ [Ob.lst (cs.map D.int), Ob.lst (ls.map D.int), Ob.lst (ds.map D.int)]).set (P.length + 2) _, l⟩ : S) = _
    rw [set2]
    simp only [dS, List.map_append, List.map_cons, List.map_nil]
  have put1 : ∀ (e : Int) (ds : List Int), S.put (dS P l cs ls ds) (P.length + 1) (.lst ((ls.map D.int).set M.toNat (.int e))) (.int e) = dS P l cs (ls.set M.toNat e) ds := fun e ds => by
    show (⟨(P ++ [Ob.lst (cs.map D.int), Ob.lst (ls.map D.int), Ob.lst (ds.map D.int)]).set (P.length + 1) _, l⟩ : S) = _
    rw [set1]
    simp only [dS, List.map_set]
  have other : ∀ (a7 a8 : Option D), (evSs O (.cons (.asg 8 (.bin .mod (.bi .int (.cons (.bin .add (.bin .mul (.bin .add (.idx (.v 2) (.v 7)) (.int 7)) (.int 48271)) (.bin .mul (.bin .add (.v 6) (.int 1)) (.int 69621))) .nil)) (.int 2147483647)))
    (.cons (.asg 8 (.bin .mod (.bi .int (.cons (.bin .add (.bin .add (.bin .mul (.v 8) (.int 16807)) (.bin .mul (.bin .mul (.v 6) (.v 6)) (.int 40692))) (.int 12345)) .nil)) (.int 2147483399)))
    (.cons (.expr (.lm (.v 5) "append" (.cons (.bin .fdiv (.v 8) (.int 64)) .nil)))
    .nil))) (dEn P sc m a3 (some (.int k)) (some (.int M)) a8) (dS P l cs ls ds)).to Q := fun a7 a8 => by
    simp only [evSs_cons, evSs_nil, evS, evE, evEs, evB, to_bind, to_ok, bind_ok, List.getElem?_cons_zero, List.getElem?_cons_succ, List.set_cons_zero, List.set_cons_succ, idxD, rd0, rd1, rd2, lst0, lst1, lst2, hx, hy, oD, bin_add, bin_mul, bin_mod, bin_fdiv, bin_pow, bin_sub, add_int, M1, M2, M3, M4, M5, D1, D2, D3, biD, un1, intD, isL, Option.isSome_some, if_true, methD, if_pos hdb, put2, reduceIte]
    exact q _ _ _ _ he
  show (evSs O (.cons _ (.cons (.ite _ _ _) .nil)) _ _).to Q
  rw [evSs_cons]
  simp only [evS, evE, evEs, to_bind, to_ok, List.getElem?_cons_zero, List.getElem?_cons_succ, List.set_cons_zero, List.set_cons_succ, rd0, rd1, rd2, bin_mod, biD, un1, intD, lenD, mod_pos hcs, hM]
  rw [evSs_last, evS_ite']
  simp only [evE, evEs, to_bind, to_ok, List.getElem?_cons_zero, List.getElem?_cons_succ, idxD, rd0, rd1, rd2, hx, hy, oD, bin_pow, cmpD, truthy, p1]
  by_cases hB : B ≤ x
  · simp only [hB, decide_true, if_true, evE, to_bind, to_ok, List.getElem?_cons_zero, List.getElem?_cons_succ, idxD, rd0, rd1, rd2, hx, hy, oD, cmpD, truthy]
    by_cases hy0 : 0 < y
    · simp only [hy0, decide_true, if_true]
      simp only [evSs_cons, evSs_nil, evS, evE, evEs, to_bind, to_ok, bind_ok, List.getElem?_cons_zero, List.getElem?_cons_succ, idxD, rd0, rd1, rd2, lst0, lst1, lst2, hy, oD, bin_mod, bin_fdiv, biD, un1, intD, D4, D5, isL, Option.isSome_some, if_true, methD, if_pos hdb, put2, reduceIte, setD, hyi, put1]
      exact q _ _ _ _ (by rw [List.length_set]; exact he)
    · simp only [hy0, decide_false, Bool.false_eq_true, if_false]
      exact other none a8
  · simp only [hB, decide_false, Bool.false_eq_true, if_false, to_ok, truthy]
    exact other none a8
theorem rest_to {T : Tab} {d : Nat} {Q : Fl × En → S → Prop} (hc : cs.length ≠ 0) (hcb : cs.length ≤ big) (h0 : 0 ≤ m) (h1 : m < 1000000) (h2 : small62 m = true)
    (q : ∀ ls ds ρ, Q (.rt (.ref (P.length + 2)), ρ) (dS P l cs ls ds)) :
    (evSs O bRest [some sc, some (.int m), some (.ref P.length), none, none, none, none, none, none] ⟨P ++ [.lst (cs.map D.int)], l⟩).to Q := by
  have hb : (cs.map D.int).length ≤ big := by rw [List.length_map]; exact hcb
  have e1 : (⟨P ++ [.lst (cs.map D.int)], l⟩ : S).push (.lst (cs.map D.int)) = ⟨P ++ [.lst (cs.map D.int), .lst (cs.map D.int)], l⟩ := by simp [S.push]
  have e2 : (⟨P ++ [.lst (cs.map D.int), .lst (cs.map D.int)], l⟩ : S).push (.lst []) = dS P l cs cs [] := by simp [S.push, dS]
  have hnb : ([] : List D).length ≤ big := Nat.zero_le _
  show (evSs O (.cons (.asg 4 _) (.cons (.asg 5 _) (.cons (.for_ [6] (.range1 (.v 1)) bTurn) (.cons (.ret (.v 5)) .nil)))) _ _).to Q
  rw [evSs_cons]
  simp only [evS, evE, evEs, to_bind, to_ok, List.getElem?_cons_zero, List.getElem?_cons_succ, List.set_cons_zero, List.set_cons_succ, biD, un1, listD, rd0, newL_to hb, len1, e1]
  rw [evSs_cons]
  simp only [evS, evE, evEs, to_bind, to_ok, List.set_cons_zero, List.set_cons_succ, newL_to hnb, len2, e2]
  rw [evSs_cons, evS_for', to_bind]
  simp only [evIt, evE, to_bind, to_ok, List.getElem?_cons_zero, List.getElem?_cons_succ, h2, if_true]
  refine for_to (N := m.toNat) (fun j ρ s' => j ≤ m.toNat ∧ ∃ ls ds a6 a7 a8, ls.length = cs.length ∧ ds.length = j ∧ ρ = dEn P sc m none a6 a7 a8 ∧ s' = dS P l cs ls ds) ?_ fuel 0 _ _ (by rw [show fuel = 100000000 from rfl]; omega) ⟨Nat.zero_le _, cs, [], none, none, none, rfl, rfl, rfl, rfl⟩
  rintro j ρ s' ⟨hj, ls, ds, a6, a7, a8, g1, g2, rfl, rfl⟩
  refine ⟨hj, fun e => ⟨?_, ?_⟩, fun e => ?_⟩
  · unfold rangeW
    rw [if_neg (by omega)]
  · show (evSs O (.cons (.ret (.v 5)) .nil) (dEn P sc m none a6 a7 a8) (dS P l cs ls ds)).to Q
    rw [evSs_last]
    simp only [evS, evE, to_bind, to_ok, List.getElem?_cons_zero, List.getElem?_cons_succ]
    exact q ls ds _
  · obtain ⟨kk, hkk⟩ : ∃ kk : Int, kk = 0 + (j : Int) := ⟨_, rfl⟩
    refine ⟨.int kk, dEn P sc m none (some (.int kk)) a7 a8, ?_, rfl, ?_⟩
    · unfold rangeW
      rw [← hkk, if_pos (by omega)]
    · refine turn_to hc g1 (by omega) (by omega) (by omega) fun ls' e' b7 b8 hl' => ?_
      exact ⟨by omega, ls', ds ++ [e'], some (.int kk), b7, b8, hl', by rw [List.length_append]; simp; omega, rfl, rfl⟩
end
/-- _law_draws -/
theorem draws_to {T : Tab} {d : Nat} {s : S} {ns : List Int} {m : Int} {Q : D → S → Prop} (h0 : 0 ≤ m) (h1 : m < 1000000) (h2 : small62 m = true)
    (q : ∀ ds : List Int, Q (.ref s.len) (s.push (.lst (ds.map D.int)))) : (run T (d + 1) ⟨2, 9, bDraws⟩ [.kl ns, .int m] s).to Q := by
  refine run_to rfl rfl ?_
  obtain ⟨xs, hxs, hcut⟩ : ∃ xs : List Int, xs.length ≤ 63 ∧ cutD (ns.map D.int) none (some 63) = xs.map D.int := ⟨cutD ns none (some 63), by
      unfold cutD
      rw [List.length_take]
      show min (min (Int.toNat 63) ns.length - 0) _ ≤ 63
      have : Int.toNat 63 = 63 := rfl
      omega, by
      unfold cutD
      rw [List.length_map, List.map_take, List.map_drop]⟩
  have hxb : (xs.map D.int).length ≤ big := by rw [List.length_map]; exact Nat.le_trans hxs (by decide)
  have fin : ∀ (P : List Ob) (cs ls ds : List Int), P.take s.objs.length = s.objs → s.objs.length ≤ P.length → (retD s.len s.low (.ref (P.length + 2)) (dS P s.objs.length cs ls ds)).to Q := fun P cs ls ds hP hl => by
    refine ret_list (t := s) (Nat.lt_irrefl _) (xs := ds.map D.int) lst2 (by show s.objs.length ≤ _; omega) (pures_ints ds) ?_ rfl rfl (q ds)
    show (P ++ _).take s.objs.length = s.objs
    rw [List.take_append_of_le_length hl, hP]
  show (evSs _ bDraws [some (.kl ns), some (.int m), none, none, none, none, none, none, none] ⟨s.objs, s.objs.length⟩).to _
  show (evSs _ (.cons (.asg 2 _) (.cons (.ite _ _ _) bRest)) _ _).to _
  rw [evSs_cons, evS, to_bind, evE_lc]
  simp only [evIt, evE, evO, to_bind, to_ok, bind_ok, List.getElem?_cons_zero, slcD, hcut, newL_to hxb]
  have hw : ∀ (o : Ob), walkOf (.ref (⟨s.objs, s.objs.length⟩ : S).len) ((⟨s.objs, s.objs.length⟩ : S).push (.lst (xs.map D.int))) = some (lstW s.objs.length) := fun o => by
    show (match S.rd (⟨s.objs ++ [.lst (xs.map D.int)], s.objs.length⟩ : S) s.objs.length with | some _ => some (lstW s.objs.length) | none => none) = _
    rw [rd0]
  simp only [hw (.lst []), to_ok]
  refine lc_to (N := xs.length) (fun j acc s' => j ≤ xs.length ∧ s' = (⟨s.objs ++ [.lst (xs.map D.int)], s.objs.length⟩ : S) ∧ ∃ as : List Int, acc = as.map D.int ∧ as.length = j) ?_ (Nat.le_trans hxs (by decide)) fuel 0 [] _ (by rw [show fuel = 100000000 from rfl]; omega) ⟨Nat.zero_le _, rfl, [], rfl, rfl⟩
  rintro j acc s' ⟨hj, rfl, as, rfl, ha⟩
  refine ⟨hj, by rw [List.length_map]; omega, fun e => ⟨?_, ?_⟩, fun e => ?_⟩
  · show (S.rd _ s.objs.length).bind _ = none
    rw [rd0]
    show (xs.map D.int)[j]? = none
    rw [List.getElem?_eq_none (by rw [List.length_map]; omega)]
  · have hab : (as.map D.int).length ≤ big := by rw [List.length_map]; exact Nat.le_trans (by omega : as.length ≤ 63) (by decide)
    rw [newL_to hab]
    have el : (⟨s.objs ++ [.lst (xs.map D.int)], s.objs.length⟩ : S).len = s.objs.length + 1 := len1
    have ep : (⟨s.objs ++ [.lst (xs.map D.int)], s.objs.length⟩ : S).push (.lst (as.map D.int)) = ⟨(s.objs ++ [.lst (xs.map D.int)]) ++ [.lst (as.map D.int)], s.objs.length⟩ := rfl
    simp only [to_ok, List.set_cons_zero, List.set_cons_succ, el, ep]
    rw [evSs_cons, evS_ite']
    have el2 : s.objs.length + 1 = (s.objs ++ [Ob.lst (xs.map D.int)]).length := by simp
    simp only [el2]
    simp only [evE, to_bind, to_ok, List.getElem?_cons_zero, List.getElem?_cons_succ, truthy, rd0]
    cases as with
    | nil =>
      simp only [List.map_nil, List.isEmpty_nil, Bool.not_true, Bool.not_false, if_true]
      have e3 : (⟨(s.objs ++ [Ob.lst (xs.map D.int)]) ++ [.lst []], s.objs.length⟩ : S).push (.lst [.int 0]) = ⟨(s.objs ++ [.lst (xs.map D.int), .lst []]) ++ [.lst (([0] : List Int).map D.int)], s.objs.length⟩ := by simp [S.push]
      have e4 : (⟨(s.objs ++ [Ob.lst (xs.map D.int)]) ++ [.lst []], s.objs.length⟩ : S).len = (s.objs ++ [Ob.lst (xs.map D.int), .lst []]).length := by simp [S.len]
      have h1b : ([.int 0] : List D).length ≤ big := by decide
      rw [evSs_last]
      simp only [evS, evE, evEs, to_bind, to_ok, bind_ok, newL_to h1b, e3, e4, List.set_cons_zero, List.set_cons_succ]
      refine rest_to (T := T) (d := d) (by decide) (by decide) h0 h1 h2 fun ls ds ρ => fin _ _ _ _ ?_ ?_
      · rw [List.take_append_of_le_length (Nat.le_refl _), List.take_length]
      · simp
    | cons a r =>
      simp only [List.map_cons, List.isEmpty_cons, Bool.not_false, Bool.not_true, Bool.false_eq_true, if_false]
      rw [evSs_nil]
      refine rest_to (T := T) (d := d) (cs := a :: r) (by simp) (Nat.le_trans (by omega : (a :: r).length ≤ 63) (by decide)) h0 h1 h2 fun ls ds ρ => fin _ _ _ _ ?_ ?_
      · rw [List.take_append_of_le_length (Nat.le_refl _), List.take_length]
      · simp
  · obtain ⟨x, hx⟩ : ∃ x, xs[j]? = some x := ⟨_, List.getElem?_eq_getElem e⟩
    refine ⟨.int x, _, ?_, rfl, ?_⟩
    · show (S.rd _ s.objs.length).bind _ = _
      rw [rd0]
      show (xs.map D.int)[j]? = _
      rw [List.getElem?_map, hx]
      rfl
    · simp only [evC, evE, evEs, to_bind, to_ok, bind_ok, if_true, List.set_cons_zero, List.set_cons_succ, List.getElem?_cons_zero, List.getElem?_cons_succ, biD, un1, intD, absD]
      exact ⟨by omega, trivial, as ++ [(x.natAbs : Int)], by rw [List.map_append]; rfl, by rw [List.length_append, ha]; rfl⟩
end Ev

set_option linter.all false
set_option maxRecDepth 100000
set_option maxHeartbeats 1000000
/-! Ev20: a store in which but the list of numbers is new, and things that nobody knows of. -/
namespace Ev
structure Gd (s : S) (n : Nat) (s1 : S) : Prop where
  low : s1.low = s.low
  pre : n < s.objs.length ∧ ∃ (ds : List Int) (g : List Ob), s1.objs = s.objs.set n (.lst (ds.map D.int)) ++ g
section
variable {s s1 : S} {n : Nat}
theorem Gd.start {ds : List Int} {l : Nat} (h : s.ints n ds) : Gd ⟨s.objs, l⟩ n ⟨s.objs, l⟩ := by
  unfold S.ints S.lst at h
  split at h
  · rename_i ys e
    have hn : n < s.objs.length := (List.getElem?_eq_some_iff.mp e).1
    refine ⟨rfl, hn, ds, [], ?_⟩
    cases h
    rw [List.append_nil]
    obtain ⟨h1, h2⟩ := List.getElem?_eq_some_iff.mp (show s.objs[n]? = _ from e)
    rw [← h2]
    exact (List.set_getElem_self h1).symm
  · cases h
theorem Gd.push (h : Gd s n s1) (o : Ob) : Gd s n (s1.push o) := by
  obtain ⟨h1, hn, ds, g, e⟩ := h
  refine ⟨h1, hn, ds, g ++ [o], ?_⟩
  show s1.objs ++ [o] = _
  rw [e, List.append_assoc]
theorem Gd.len (h : Gd s n s1) : s.objs.length ≤ s1.objs.length := by
  obtain ⟨_, hn, ds, g, e⟩ := h
  rw [e, List.length_append, List.length_set]
  omega
theorem Gd.ints (h : Gd s n s1) : ∃ ds, s1.ints n ds := by
  obtain ⟨_, hn, ds, g, e⟩ := h
  refine ⟨ds, ?_⟩
  unfold S.ints S.lst S.get
  rw [e, List.getElem?_append_left (by rw [List.length_set]; exact hn), List.getElem?_set_self hn]
theorem Gd.other (h : Gd s n s1) {k : Nat} {xs : List D} (hk : s.lst k = some xs) (ne : k ≠ n) : s1.lst k = some xs := by
  obtain ⟨_, hn, ds, g, e⟩ := h
  have hl : k < s.objs.length := by
    unfold S.lst at hk
    split at hk
    · rename_i e; exact (List.getElem?_eq_some_iff.mp e).1
    · cases hk
  have : s1.get k = s.get k := by
    unfold S.get
    rw [e, List.getElem?_append_left (by rw [List.length_set]; exact hl), List.getElem?_set_ne (Ne.symm ne)]
  unfold S.lst at hk ⊢
  rw [this]
  exact hk
theorem Gd.set (h : Gd s n s1) (ds : List Int) : Gd s n (s1.setL n (ds.map D.int)) := by
  obtain ⟨h1, hn, ds0, g, e⟩ := h
  refine ⟨h1, hn, ds, g, ?_⟩
  show s1.objs.set n _ = _
  rw [e, List.set_append_left _ _ (by rw [List.length_set]; exact hn), List.set_set]
/-- a list behind s is written -/
theorem Gd.put (h : Gd s n s1) {k : Nat} {o : Ob} {v : D} (hk : s.objs.length ≤ k) (hv : v.pure = true) : Gd s n (s1.put k o v) := by
  obtain ⟨h1, hn, ds0, g, e⟩ := h
  refine ⟨?_, hn, ds0, g.set (k - s.objs.length) o, ?_⟩
  · show (if v.under (k + 1) then s1.low else _) = _
    have : v.under (k + 1) = true := D.under_pure _ v hv
    rw [if_pos this]
    exact h1
  · show s1.objs.set k o = _
    rw [e, List.set_append_right _ _ (by rw [List.length_set]; exact hk), List.length_set]
/-- what a def hands back -/
theorem Gd.ret {v : D} {Q : D → S → Prop} (h : Gd ⟨s.objs, s.objs.length⟩ n s1) (hv : v.pure = true) (q : ∀ ds : List Int, Q v (s.setL n (ds.map D.int))) : (retD s.len s.low v s1).to Q := by
  obtain ⟨h1, hn, ds, g, e⟩ := h
  refine ret_pure (t := s.setL n (ds.map D.int)) ?_ hv ?_ rfl (q ds)
  · rw [h1]
    exact Nat.lt_irrefl _
  · rw [e]
    show (s.objs.set n _ ++ g).take s.objs.length = s.objs.set n _
    rw [List.take_append_of_le_length (by rw [List.length_set]; exact Nat.le_refl _), List.take_of_length_le (by rw [List.length_set]; exact Nat.le_refl _)]
theorem setL_other {k : Nat} {xs ys : List D} (h : s1.lst k = some ys) (ne : k ≠ n) : (s1.setL n xs).lst k = some ys := by
  have : (s1.setL n xs).get k = s1.get k := List.getElem?_set_ne (Ne.symm ne)
  unfold S.lst at h ⊢
  rw [this]
  exact h
theorem lst_push {k : Nat} {o : Ob} {ys : List D} (h : s1.lst k = some ys) : (s1.push o).lst k = some ys := by
  have hl : k < s1.objs.length := by
    unfold S.lst at h
    split at h
    · rename_i e; exact (List.getElem?_eq_some_iff.mp e).1
    · cases h
  have : (s1.push o).get k = s1.get k := List.getElem?_append_left hl
  unfold S.lst at h ⊢
  rw [this]
  exact h
theorem lst_pushed {xs : List D} : (s1.push (.lst xs)).lst s1.len = some xs := by
  unfold S.lst
  rw [get_push0]
theorem Gd.ne (h : Gd s n s1) : s1.len ≠ n := by
  have := h.len
  have := h.pre.1
  show s1.objs.length ≠ n
  omega
theorem next_g {T : Tab} {d : Nat} {m : Int} {Q : D → S → Prop} (h : Gd s n s1) (hm : 0 < m) (q : ∀ r s2, 0 ≤ r → r < m → Gd s n s2 → (∀ k xs, k ≠ n → s1.lst k = some xs → s2.lst k = some xs) → Q (.int r) s2) : (run T (d + 1) ⟨2, 2, bNext⟩ [.ref n, .int m] s1).to Q := by
  obtain ⟨ds, hd⟩ := h.ints
  exact next_to hd hm fun r ds' h0 h1 => q r _ h0 h1 (h.set ds') fun k xs ne hk => setL_other hk ne
end
theorem newT1 {s : S} {a : D} : newT s [a] = .ok (.tup [a]) s := rfl
theorem newT2 {s : S} {a b : D} : newT s [a, b] = .ok (.tup [a, b]) s := rfl
theorem newT3 {s : S} {a b c : D} : newT s [a, b, c] = .ok (.tup [a, b, c]) s := rfl
theorem rd_push {s : S} {xs : List D} : (s.push (.lst xs)).rd s.len = some xs := by
  unfold S.rd
  rw [get_push0]
theorem atD_mem {xs : List D} {i : Int} (h : 0 ≤ i) (h2 : i < xs.length) : ∃ x, x ∈ xs ∧ atD xs i = some x := by
  obtain ⟨x, h3, _, h5⟩ := atD_of h h2
  exact ⟨x, List.mem_of_getElem? h5, h3⟩
end Ev

set_option linter.all false
set_option maxRecDepth 100000
set_option maxHeartbeats 1000000
namespace Ev
open PySem L2 PySem.Spec PyProof.Rows
def top (i : Nat) : Stmt := PySem.Challenge.pw_textglass_k72_code_judged.main.body.getD i (.Pass ⟨0, 0, 0, 0⟩)
def b_is_whole : Stms := (.cons (.ret (.and (.isi (.v 0) .int) (.not (.isi (.v 0) .bool))))
  .nil)
abbrev st_is_whole : Stmt := top 2
def r_is_whole : DefRow := ⟨"is_whole", [nm "thing"], [nm "thing"], b_is_whole, st_is_whole⟩
theorem g_is_whole : r_is_whole.Good := ⟨⟨rfl, rfl, rfl, by decide +kernel, rfl, by decide +kernel, by decide +kernel⟩, by decide +kernel, fun _ _ _ _ _ _ us hl => match us, hl with | [_], _ => rfl⟩
def b_is_within : Stms := (.cons (.ret (.and (.call "is_whole" (.cons (.v 0) .nil)) (.chain .le .le (.v 1) (.v 0) (.v 2))))
  .nil)
abbrev st_is_within : Stmt := top 3
def r_is_within : DefRow := ⟨"is_within", [nm "thing", nm "low", nm "high"], [nm "thing", nm "low", nm "high"], b_is_within, st_is_within⟩
theorem g_is_within : r_is_within.Good := ⟨⟨rfl, rfl, rfl, by decide +kernel, rfl, by decide +kernel, by decide +kernel⟩, by decide +kernel, fun _ _ _ _ _ _ us hl => match us, hl with | [_, _, _], _ => rfl⟩
def b_is_signs : Stms := (.cons (.ret (.and (.isi (.v 0) .str) (.and (.cmp .le (.bi .len (.cons (.v 0) .nil)) (.v 1)) (.bi .all (.cons (.lc [2] (.plain (.v 0)) .none (.cmp .in_ (.v 2) (.g "SIGNS"))) .nil)))))
  .nil)
abbrev st_is_signs : Stmt := top 4
def r_is_signs : DefRow := ⟨"is_signs", [nm "thing", nm "most"], [nm "thing", nm "most", nm "sign"], b_is_signs, st_is_signs⟩
theorem g_is_signs : r_is_signs.Good := ⟨⟨rfl, rfl, rfl, by decide +kernel, rfl, by decide +kernel, by decide +kernel⟩, by decide +kernel, fun _ _ _ _ _ _ us hl => match us, hl with | [_, _], _ => rfl⟩
def b_is_rising : Stms := (.cons (.ret (.bi .all (.cons (.lc [1] (.range2 (.int 1) (.bi .len (.cons (.v 0) .nil))) .none (.cmp .lt (.idx (.v 0) (.bin .sub (.v 1) (.int 1))) (.idx (.v 0) (.v 1)))) .nil)))
  .nil)
abbrev st_is_rising : Stmt := top 5
def r_is_rising : DefRow := ⟨"is_rising", [nm "things"], [nm "things", nm "at"], b_is_rising, st_is_rising⟩
theorem g_is_rising : r_is_rising.Good := ⟨⟨rfl, rfl, rfl, by decide +kernel, rfl, by decide +kernel, by decide +kernel⟩, by decide +kernel, fun _ _ _ _ _ _ us hl => match us, hl with | [_], _ => rfl⟩
def b_inner_kinds : Stms := (.cons (.ite (.or (.not (.isi (.v 0) .tuple)) (.or (.not (.chain .le .le (.int 1) (.bi .len (.cons (.v 0) .nil)) (.int 3))) (.not (.isi (.idx (.v 0) (.int 0)) .str))))
   (.cons (.ret .non)
   .nil)
   .nil)
  (.cons (.asg 1 (.idx (.v 0) (.int 0)))
  (.cons (.ite (.cmp .eq (.v 1) (.str [110, 111, 110, 101]))
   (.cons (.ret (.ite (.cmp .eq (.bi .len (.cons (.v 0) .nil)) (.int 1)) (.lst .nil) .non))
   .nil)
   .nil)
  (.cons (.ite (.cmp .eq (.v 1) (.str [116, 101, 120, 116]))
   (.cons (.ret (.ite (.and (.cmp .eq (.bi .len (.cons (.v 0) .nil)) (.int 2)) (.call "is_signs" (.cons (.idx (.v 0) (.int 1)) (.cons (.int 20) .nil)))) (.lst .nil) .non))
   .nil)
   .nil)
  (.cons (.ite (.cmp .eq (.v 1) (.str [115, 105, 103, 110]))
   (.cons (.ite (.or (.cmp .ne (.bi .len (.cons (.v 0) .nil)) (.int 2)) (.or (.not (.call "is_signs" (.cons (.idx (.v 0) (.int 1)) (.cons (.bi .len (.cons (.g "SIGNS") .nil)) .nil)))) (.not (.idx (.v 0) (.int 1)))))
    (.cons (.ret .non)
    .nil)
    .nil)
   (.cons (.ret (.ite (.call "is_rising" (.cons (.idx (.v 0) (.int 1)) .nil)) (.lst .nil) .non))
   .nil))
   .nil)
  (.cons (.ite (.cmp .eq (.v 1) (.str [109, 97, 110, 121]))
   (.cons (.ret (.ite (.cmp .eq (.bi .len (.cons (.v 0) .nil)) (.int 2)) (.lst (.cons (.idx (.v 0) (.int 1)) .nil)) .non))
   .nil)
   .nil)
  (.cons (.ite (.cmp .in_ (.v 1) (.tup (.cons (.str [116, 104, 101, 110]) (.cons (.str [111, 114]) (.cons (.str [98, 117, 116]) .nil)))))
   (.cons (.ret (.ite (.cmp .eq (.bi .len (.cons (.v 0) .nil)) (.int 3)) (.lst (.cons (.idx (.v 0) (.int 1)) (.cons (.idx (.v 0) (.int 2)) .nil))) .non))
   .nil)
   .nil)
  (.cons (.ret .non)
  .nil))))))))
abbrev st_inner_kinds : Stmt := top 7
def r_inner_kinds : DefRow := ⟨"inner_kinds", [nm "thing"], [nm "thing", nm "word"], b_inner_kinds, st_inner_kinds⟩
theorem g_inner_kinds : r_inner_kinds.Good := ⟨⟨rfl, rfl, rfl, by decide +kernel, rfl, by decide +kernel, by decide +kernel⟩, by decide +kernel, fun _ _ _ _ _ _ us hl => match us, hl with | [_], _ => rfl⟩
def b_is_kind_of : Stms := (.cons (.asg 3 (.lst (.cons (.v 0) .nil)))
  (.cons (.asg 4 (.int 0))
  (.cons (.asg 5 (.int 0))
  (.cons (.whil (.v 3)
   (.cons (.aug 5 .add (.int 1))
   (.cons (.aug 4 .add (.bi .len (.cons (.v 3) .nil)))
   (.cons (.ite (.or (.cmp .gt (.v 5) (.v 2)) (.cmp .gt (.v 4) (.v 1)))
    (.cons (.ret (.bl false))
    .nil)
    .nil)
   (.cons (.asg 6 (.lst .nil))
   (.cons (.for_ [7] (.plain (.v 3))
    (.cons (.asg 8 (.call "inner_kinds" (.cons (.v 7) .nil)))
    (.cons (.ite (.cmp .is_ (.v 8) .non)
     (.cons (.ret (.bl false))
     .nil)
     .nil)
    (.cons (.expr (.lm (.v 6) "extend" (.cons (.v 8) .nil)))
    .nil))))
   (.cons (.asg 3 (.v 6))
   .nil)))))))
  (.cons (.ret (.bl true))
  .nil)))))
abbrev st_is_kind_of : Stmt := top 8
def r_is_kind_of : DefRow := ⟨"is_kind_of", [nm "thing", nm "most", nm "deep"], [nm "thing", nm "most", nm "deep", nm "layer", nm "many", nm "depth", nm "below", nm "one", nm "found"], b_is_kind_of, st_is_kind_of⟩
theorem g_is_kind_of : r_is_kind_of.Good := ⟨⟨rfl, rfl, rfl, by decide +kernel, rfl, by decide +kernel, by decide +kernel⟩, by decide +kernel, fun _ _ _ _ _ _ us hl => match us, hl with | [_, _, _], _ => rfl⟩
def b_is_kind : Stms := (.cons (.ret (.call "is_kind_of" (.cons (.v 0) (.cons (.int 60) (.cons (.int 12) .nil)))))
  .nil)
abbrev st_is_kind : Stmt := top 9
def r_is_kind : DefRow := ⟨"is_kind", [nm "thing"], [nm "thing"], b_is_kind, st_is_kind⟩
theorem g_is_kind : r_is_kind.Good := ⟨⟨rfl, rfl, rfl, by decide +kernel, rfl, by decide +kernel, by decide +kernel⟩, by decide +kernel, fun _ _ _ _ _ _ us hl => match us, hl with | [_], _ => rfl⟩
def b_is_step : Stms := (.cons (.ite (.or (.not (.isi (.v 0) .tuple)) (.or (.not (.chain .le .le (.int 1) (.bi .len (.cons (.v 0) .nil)) (.int 3))) (.not (.isi (.idx (.v 0) (.int 0)) .str))))
   (.cons (.ret (.bl false))
   .nil)
   .nil)
  (.cons (.asg 2 (.idx (.v 0) (.int 0)))
  (.cons (.ite (.cmp .in_ (.v 2) (.tup (.cons (.str [100, 114, 111, 112]) (.cons (.str [116, 119, 105, 99, 101]) (.cons (.str [115, 119, 97, 112]) (.cons (.str [106, 111, 105, 110]) (.cons (.str [115, 104, 117, 116]) (.cons (.str [101, 110, 100]) .nil))))))))
   (.cons (.ret (.cmp .eq (.bi .len (.cons (.v 0) .nil)) (.int 1)))
   .nil)
   .nil)
  (.cons (.ite (.cmp .eq (.v 2) (.str [100, 105, 103]))
   (.cons (.ret (.and (.cmp .eq (.bi .len (.cons (.v 0) .nil)) (.int 2)) (.call "is_within" (.cons (.idx (.v 0) (.int 1)) (.cons (.int 1) (.cons (.int 9) .nil))))))
   .nil)
   .nil)
  (.cons (.ite (.cmp .eq (.v 2) (.str [115, 97, 121]))
   (.cons (.ret (.and (.cmp .eq (.bi .len (.cons (.v 0) .nil)) (.int 2)) (.call "is_signs" (.cons (.idx (.v 0) (.int 1)) (.cons (.int 20) .nil)))))
   .nil)
   .nil)
  (.cons (.ite (.cmp .eq (.v 2) (.str [98, 101, 103, 105, 110]))
   (.cons (.ret (.and (.cmp .eq (.bi .len (.cons (.v 0) .nil)) (.int 2)) (.call "is_kind" (.cons (.idx (.v 0) (.int 1)) .nil))))
   .nil)
   .nil)
  (.cons (.ite (.cmp .in_ (.v 2) (.tup (.cons (.str [103, 111]) (.cons (.str [101, 97, 99, 104]) (.cons (.str [111, 116, 104, 101, 114]) (.cons (.str [103, 97, 116, 104, 101, 114]) .nil))))))
   (.cons (.ret (.and (.cmp .eq (.bi .len (.cons (.v 0) .nil)) (.int 2)) (.call "is_within" (.cons (.idx (.v 0) (.int 1)) (.cons (.int 0) (.cons (.bin .sub (.v 1) (.int 1)) .nil))))))
   .nil)
   .nil)
  (.cons (.ite (.cmp .eq (.v 2) (.str [99, 117, 116]))
   (.cons (.ret (.and (.cmp .eq (.bi .len (.cons (.v 0) .nil)) (.int 3)) (.and (.call "is_kind" (.cons (.idx (.v 0) (.int 1)) .nil)) (.call "is_kind" (.cons (.idx (.v 0) (.int 2)) .nil)))))
   .nil)
   .nil)
  (.cons (.ret (.and (.cmp .eq (.v 2) (.str [97, 115, 107])) (.and (.cmp .eq (.bi .len (.cons (.v 0) .nil)) (.int 3)) (.and (.call "is_kind" (.cons (.idx (.v 0) (.int 1)) .nil)) (.call "is_within" (.cons (.idx (.v 0) (.int 2)) (.cons (.int 0) (.cons (.bin .sub (.v 1) (.int 1)) .nil))))))))
  .nil)))))))))
abbrev st_is_step : Stmt := top 12
def r_is_step : DefRow := ⟨"is_step", [nm "thing", nm "many"], [nm "thing", nm "many", nm "word"], b_is_step, st_is_step⟩
theorem g_is_step : r_is_step.Good := ⟨⟨rfl, rfl, rfl, by decide +kernel, rfl, by decide +kernel, by decide +kernel⟩, by decide +kernel, fun _ _ _ _ _ _ us hl => match us, hl with | [_, _], _ => rfl⟩
def b_is_code : Stms := (.cons (.ite (.or (.not (.isi (.v 0) .tuple)) (.not (.chain .le .le (.int 1) (.bi .len (.cons (.v 0) .nil)) (.g "MOST_STEPS"))))
   (.cons (.ret (.bl false))
   .nil)
   .nil)
  (.cons (.ite (.not (.bi .all (.cons (.lc [1] (.plain (.v 0)) .none (.call "is_step" (.cons (.v 1) (.cons (.bi .len (.cons (.v 0) .nil)) .nil)))) .nil)))
   (.cons (.ret (.bl false))
   .nil)
   .nil)
  (.cons (.ret (.cmp .eq (.lc [2, 1] (.enum (.v 0)) (.some (.cmp .eq (.idx (.v 1) (.int 0)) (.str [101, 110, 100]))) (.v 2)) (.lst (.cons (.bin .sub (.bi .len (.cons (.v 0) .nil)) (.int 1)) .nil))))
  .nil)))
abbrev st_is_code : Stmt := top 13
def r_is_code : DefRow := ⟨"is_code", [nm "thing"], [nm "thing", nm "step", nm "at"], b_is_code, st_is_code⟩
theorem g_is_code : r_is_code.Good := ⟨⟨rfl, rfl, rfl, by decide +kernel, rfl, by decide +kernel, by decide +kernel⟩, by decide +kernel, fun _ _ _ _ _ _ us hl => match us, hl with | [_], _ => rfl⟩
def b__law_draws : Stms := (.cons (.asg 2 (.lc [3] (.plain (.slc (.v 0) .none (.some (.int 63)))) .none (.bi .abs (.cons (.bi .int (.cons (.v 3) .nil)) .nil))))
  (.cons (.ite (.not (.v 2))
   (.cons (.asg 2 (.lst (.cons (.int 0) .nil)))
   .nil)
   .nil)
  (.cons (.asg 4 (.bi .list (.cons (.v 2) .nil)))
  (.cons (.asg 5 (.lst .nil))
  (.cons (.for_ [6] (.range1 (.v 1))
   (.cons (.asg 7 (.bin .mod (.bi .int (.cons (.v 6) .nil)) (.bi .len (.cons (.v 2) .nil))))
   (.cons (.ite (.and (.cmp .ge (.idx (.v 2) (.v 7)) (.bin .pow (.int 10) (.int 18))) (.cmp .gt (.idx (.v 4) (.v 7)) (.int 0)))
    (.cons (.expr (.lm (.v 5) "append" (.cons (.bin .mod (.bi .int (.cons (.idx (.v 4) (.v 7)) .nil)) (.int 1000)) .nil)))
    (.cons (.set (.v 4) (.v 7) (.bin .fdiv (.idx (.v 4) (.v 7)) (.int 1000)))
    .nil))
    (.cons (.asg 8 (.bin .mod (.bi .int (.cons (.bin .add (.bin .mul (.bin .add (.idx (.v 2) (.v 7)) (.int 7)) (.int 48271)) (.bin .mul (.bin .add (.v 6) (.int 1)) (.int 69621))) .nil)) (.int 2147483647)))
    (.cons (.asg 8 (.bin .mod (.bi .int (.cons (.bin .add (.bin .add (.bin .mul (.v 8) (.int 16807)) (.bin .mul (.bin .mul (.v 6) (.v 6)) (.int 40692))) (.int 12345)) .nil)) (.int 2147483399)))
    (.cons (.expr (.lm (.v 5) "append" (.cons (.bin .fdiv (.v 8) (.int 64)) .nil)))
    .nil))))
   .nil)))
  (.cons (.ret (.v 5))
  .nil))))))
abbrev st__law_draws : Stmt := top 15
def r__law_draws : DefRow := ⟨"_law_draws", [nm "script", nm "many"], [nm "script", nm "many", nm "cells", nm "cell", nm "left", nm "draws", nm "k", nm "at", nm "mixed"], b__law_draws, st__law_draws⟩
theorem g__law_draws : r__law_draws.Good := ⟨⟨rfl, rfl, rfl, by decide +kernel, rfl, by decide +kernel, by decide +kernel⟩, by decide +kernel, fun _ _ _ _ _ _ us hl => match us, hl with | [_, _], _ => rfl⟩
def b__law_next : Stms := (.cons (.ite (.not (.v 0))
   (.cons (.ret (.int 0))
   .nil)
   .nil)
  (.cons (.ret (.bin .mod (.bi .int (.cons (.lm (.v 0) "pop" (.cons (.int 0) .nil)) .nil)) (.v 1)))
  .nil))
abbrev st__law_next : Stmt := top 16
def r__law_next : DefRow := ⟨"_law_next", [nm "draws", nm "many"], [nm "draws", nm "many"], b__law_next, st__law_next⟩
theorem g__law_next : r__law_next.Good := ⟨⟨rfl, rfl, rfl, by decide +kernel, rfl, by decide +kernel, by decide +kernel⟩, by decide +kernel, fun _ _ _ _ _ _ us hl => match us, hl with | [_, _], _ => rfl⟩
def b__law_code_step : Stms := (.cons (.asg 4 (.call "_law_next" (.cons (.v 0) (.cons (.int 18) .nil))))
  (.cons (.asg 5 (.idx (.v 3) (.call "_law_next" (.cons (.v 0) (.cons (.bi .len (.cons (.v 3) .nil)) .nil)))))
  (.cons (.asg 6 (.call "_law_next" (.cons (.v 0) (.cons (.v 2) .nil))))
  (.cons (.ite (.cmp .gt (.call "_law_next" (.cons (.v 0) (.cons (.int 3) .nil))) (.int 0))
   (.cons (.asg 6 (.bi .min (.cons (.bin .sub (.v 2) (.int 1)) (.cons (.bin .add (.bin .add (.v 1) (.int 1)) (.call "_law_next" (.cons (.v 0) (.cons (.int 3) .nil)))) .nil))))
   .nil)
   .nil)
  (.cons (.ite (.cmp .lt (.v 4) (.int 3))
   (.cons (.ret (.tup (.cons (.str [115, 97, 121]) (.cons (.idx (.lst (.cons (.str []) (.cons (.str [97]) (.cons (.str [97, 98]) (.cons (.str [98, 97]) .nil))))) (.call "_law_next" (.cons (.v 0) (.cons (.int 4) .nil)))) .nil))))
   .nil)
   .nil)
  (.cons (.ite (.cmp .lt (.v 4) (.int 8))
   (.cons (.ret (.idx (.lst (.cons (.tup (.cons (.str [100, 114, 111, 112]) .nil)) (.cons (.tup (.cons (.str [116, 119, 105, 99, 101]) .nil)) (.cons (.tup (.cons (.str [115, 119, 97, 112]) .nil)) (.cons (.tup (.cons (.str [106, 111, 105, 110]) .nil)) (.cons (.tup (.cons (.str [115, 104, 117, 116]) .nil)) .nil)))))) (.bin .sub (.v 4) (.int 3))))
   .nil)
   .nil)
  (.cons (.ite (.cmp .eq (.v 4) (.int 8))
   (.cons (.ret (.tup (.cons (.str [100, 105, 103]) (.cons (.bin .add (.int 1) (.call "_law_next" (.cons (.v 0) (.cons (.int 3) .nil)))) .nil))))
   .nil)
   .nil)
  (.cons (.ite (.cmp .lt (.v 4) (.int 11))
   (.cons (.ret (.tup (.cons (.str [99, 117, 116]) (.cons (.v 5) (.cons (.idx (.v 3) (.call "_law_next" (.cons (.v 0) (.cons (.bi .len (.cons (.v 3) .nil)) .nil)))) .nil)))))
   .nil)
   .nil)
  (.cons (.ite (.cmp .eq (.v 4) (.int 11))
   (.cons (.ret (.tup (.cons (.str [97, 115, 107]) (.cons (.v 5) (.cons (.v 6) .nil)))))
   .nil)
   .nil)
  (.cons (.ite (.cmp .lt (.v 4) (.int 14))
   (.cons (.ret (.tup (.cons (.str [103, 111]) (.cons (.v 6) .nil))))
   .nil)
   .nil)
  (.cons (.ite (.cmp .eq (.v 4) (.int 14))
   (.cons (.ret (.tup (.cons (.str [98, 101, 103, 105, 110]) (.cons (.v 5) .nil))))
   .nil)
   .nil)
  (.cons (.ret (.tup (.cons (.idx (.lst (.cons (.str [101, 97, 99, 104]) (.cons (.str [111, 116, 104, 101, 114]) (.cons (.str [103, 97, 116, 104, 101, 114]) .nil)))) (.bin .sub (.v 4) (.int 15))) (.cons (.v 6) .nil))))
  .nil))))))))))))
abbrev st__law_code_step : Stmt := top 17
def r__law_code_step : DefRow := ⟨"_law_code_step", [nm "draws", nm "at", nm "size", nm "kinds"], [nm "draws", nm "at", nm "size", nm "kinds", nm "choice", nm "kind", nm "to"], b__law_code_step, st__law_code_step⟩
theorem g__law_code_step : r__law_code_step.Good := ⟨⟨rfl, rfl, rfl, by decide +kernel, rfl, by decide +kernel, by decide +kernel⟩, by decide +kernel, fun _ _ _ _ _ _ us hl => match us, hl with | [_, _, _, _], _ => rfl⟩
def b__law_any_code : Stms := (.cons (.asg 1 (.lst (.cons (.tup (.cons (.str [109, 97, 110, 121]) (.cons (.tup (.cons (.str [115, 105, 103, 110]) (.cons (.str [97, 98]) .nil))) .nil))) (.cons (.tup (.cons (.str [115, 105, 103, 110]) (.cons (.str [97, 98]) .nil))) (.cons (.tup (.cons (.str [116, 101, 120, 116]) (.cons (.str [97]) .nil))) (.cons (.tup (.cons (.str [116, 104, 101, 110]) (.cons (.tup (.cons (.str [116, 101, 120, 116]) (.cons (.str [97]) .nil))) (.cons (.tup (.cons (.str [109, 97, 110, 121]) (.cons (.tup (.cons (.str [116, 101, 120, 116]) (.cons (.str [98]) .nil))) .nil))) .nil)))) .nil))))))
  (.cons (.asg 2 (.bin .add (.int 2) (.call "_law_next" (.cons (.v 0) (.cons (.int 18) .nil)))))
  (.cons (.asg 3 (.lst .nil))
  (.cons (.whil (.cmp .lt (.bi .len (.cons (.v 3) .nil)) (.bin .sub (.v 2) (.int 1)))
   (.cons (.asg 4 (.call "_law_next" (.cons (.v 0) (.cons (.int 9) .nil))))
   (.cons (.asg 5 (.bi .len (.cons (.v 3) .nil)))
   (.cons (.ite (.cmp .eq (.v 4) (.int 0))
    (.cons (.asg 3 (.bin .add (.v 3) (.lst (.cons (.tup (.cons (.str [115, 97, 121]) (.cons (.str [97]) .nil))) (.cons (.tup (.cons (.str [100, 114, 111, 112]) .nil)) .nil)))))
    .nil)
    (.cons (.ite (.cmp .eq (.v 4) (.int 1))
     (.cons (.asg 3 (.bin .add (.v 3) (.lst (.cons (.tup (.cons (.str [99, 117, 116]) (.cons (.idx (.v 1) (.int 0)) (.cons (.idx (.v 1) (.int 0)) .nil)))) (.cons (.tup (.cons (.str [115, 119, 97, 112]) .nil)) (.cons (.tup (.cons (.str [115, 119, 97, 112]) .nil)) .nil))))))
     .nil)
     (.cons (.ite (.cmp .eq (.v 4) (.int 2))
      (.cons (.asg 3 (.bin .add (.v 3) (.lst (.cons (.tup (.cons (.str [115, 97, 121]) (.cons (.str [98]) .nil))) (.cons (.tup (.cons (.str [115, 97, 121]) (.cons (.str [97, 97]) .nil))) (.cons (.tup (.cons (.str [106, 111, 105, 110]) .nil)) .nil))))))
      .nil)
      (.cons (.ite (.cmp .eq (.v 4) (.int 3))
       (.cons (.asg 3 (.bin .add (.v 3) (.lst (.cons (.tup (.cons (.str [103, 111]) (.cons (.bi .min (.cons (.bin .sub (.v 2) (.int 1)) (.cons (.bin .add (.v 5) (.int 1)) .nil))) .nil))) .nil))))
       .nil)
       (.cons (.expr (.lm (.v 3) "append" (.cons (.call "_law_code_step" (.cons (.v 0) (.cons (.v 5) (.cons (.v 2) (.cons (.v 1) .nil))))) .nil)))
       .nil))
      .nil))
     .nil))
    .nil))
   .nil))))
  (.cons (.ret (.bin .add (.bi .tuple (.cons (.slc (.v 3) .none (.some (.bin .sub (.v 2) (.int 1)))) .nil)) (.tup (.cons (.tup (.cons (.str [101, 110, 100]) .nil)) .nil))))
  .nil)))))
abbrev st__law_any_code : Stmt := top 18
def r__law_any_code : DefRow := ⟨"_law_any_code", [nm "draws"], [nm "draws", nm "kinds", nm "size", nm "code", nm "choice", nm "at"], b__law_any_code, st__law_any_code⟩
theorem g__law_any_code : r__law_any_code.Good := ⟨⟨rfl, rfl, rfl, by decide +kernel, rfl, by decide +kernel, by decide +kernel⟩, by decide +kernel, fun _ _ _ _ _ _ us hl => match us, hl with | [_], _ => rfl⟩
def b__law_wrongs : Stms := (.cons (.asg 2 (.call "_law_next" (.cons (.v 0) (.cons (.bi .len (.cons (.v 1) .nil)) .nil))))
  (.cons (.asg 3 (.bin .add (.bi .len (.cons (.v 1) .nil)) (.int 1)))
  (.cons (.asg 4 (.tup (.cons (.str [115, 105, 103, 110]) (.cons (.str [97]) .nil))))
  (.cons (.asg 5 (.lst (.cons (.tup (.cons (.str [103, 111]) (.cons (.v 3) .nil))) (.cons (.tup (.cons (.str [103, 111]) (.cons (.bin .sub (.int 0) (.int 1)) .nil))) (.cons (.tup (.cons (.str [103, 111]) (.cons (.bl true) .nil))) (.cons (.tup (.cons (.str [103, 111]) (.cons .non .nil))) (.cons (.tup (.cons (.str [103, 111]) .nil)) (.cons (.tup (.cons (.str [103, 111]) (.cons (.int 0) (.cons (.int 0) .nil)))) (.cons (.tup (.cons (.str [97, 115, 107]) (.cons (.v 4) (.cons (.v 3) .nil)))) .nil)))))))))
  (.cons (.expr (.lm (.v 5) "append" (.cons (.tup (.cons (.str [97, 115, 107]) (.cons (.int 0) (.cons (.int 0) .nil)))) .nil)))
  (.cons (.asg 5 (.bin .add (.v 5) (.lst (.cons (.tup (.cons (.str [97, 115, 107]) (.cons (.v 4) .nil))) (.cons (.tup (.cons (.str [101, 97, 99, 104]) (.cons (.v 3) .nil))) (.cons (.tup (.cons (.str [111, 116, 104, 101, 114]) (.cons (.v 3) .nil))) (.cons (.tup (.cons (.str [103, 97, 116, 104, 101, 114]) (.cons (.v 3) .nil))) (.cons (.tup (.cons (.str [101, 97, 99, 104]) .nil)) (.cons (.tup (.cons (.str [115, 104, 117, 116]) (.cons (.int 0) .nil))) (.cons (.tup (.cons (.str [100, 114, 111, 112]) (.cons (.int 0) .nil))) .nil))))))))))
  (.cons (.asg 5 (.bin .add (.v 5) (.lst (.cons (.tup (.cons (.str [100, 105, 103]) (.cons (.int 0) .nil))) (.cons (.tup (.cons (.str [100, 105, 103]) (.cons (.int 10) .nil))) (.cons (.tup (.cons (.str [100, 105, 103]) (.cons (.bl true) .nil))) (.cons (.tup (.cons (.str [100, 105, 103]) .nil)) (.cons (.tup (.cons (.str [115, 97, 121]) (.cons (.str [65]) .nil))) (.cons (.tup (.cons (.str [115, 97, 121]) (.cons (.bin .mul (.str [97]) (.int 21)) .nil))) (.cons (.tup (.cons (.str [115, 97, 121]) .nil)) .nil))))))))))
  (.cons (.expr (.lm (.v 5) "append" (.cons (.tup (.cons (.str [115, 97, 121]) (.cons (.int 0) .nil))) .nil)))
  (.cons (.asg 5 (.bin .add (.v 5) (.lst (.cons (.tup (.cons (.str [99, 117, 116]) (.cons (.v 4) .nil))) (.cons (.tup (.cons (.str [99, 117, 116]) (.cons (.v 4) (.cons (.tup (.cons (.str [115, 105, 103, 110]) (.cons (.str [98, 97]) .nil))) .nil)))) (.cons (.tup (.cons (.str [99, 117, 116]) (.cons (.int 0) (.cons (.v 4) .nil)))) (.cons (.tup (.cons (.str [98, 101, 103, 105, 110]) (.cons (.tup (.cons (.str [109, 97, 110, 121]) .nil)) .nil))) (.cons (.tup (.cons (.str [98, 101, 103, 105, 110]) .nil)) .nil))))))))
  (.cons (.expr (.lm (.v 5) "append" (.cons (.tup (.cons (.str [115, 119, 97, 112]) (.cons (.int 1) .nil))) .nil)))
  (.cons (.asg 5 (.bin .add (.v 5) (.lst (.cons (.tup (.cons (.str [110, 111, 116]) .nil)) (.cons (.tup .nil) (.cons .non (.cons (.str [101, 110, 100]) (.cons (.lst (.cons (.str [100, 114, 111, 112]) .nil)) (.cons (.tup (.cons (.str [101, 110, 100]) (.cons (.int 0) .nil))) (.cons (.tup (.cons (.int 1) .nil)) (.cons (.tup (.cons (.str [101, 110, 100]) .nil)) (.cons (.tup (.cons (.str [116, 119, 105, 99, 101]) (.cons (.str [97]) .nil))) (.cons (.tup (.cons (.str [106, 111, 105, 110]) (.cons (.int 0) .nil))) .nil)))))))))))))
  (.cons (.asg 6 (.lc [7] (.plain (.v 5)) .none (.bin .add (.bin .add (.slc (.v 1) .none (.some (.v 2))) (.tup (.cons (.v 7) .nil))) (.slc (.v 1) (.some (.v 2)) .none))))
  (.cons (.asg 6 (.bin .add (.v 6) (.lst (.cons (.slc (.v 1) .none (.some (.bin .sub (.bi .len (.cons (.v 1) .nil)) (.int 1)))) (.cons (.bin .add (.v 1) (.tup (.cons (.tup (.cons (.str [101, 110, 100]) .nil)) .nil))) (.cons (.bin .add (.v 1) (.tup (.cons (.tup (.cons (.str [100, 114, 111, 112]) .nil)) .nil))) (.cons (.tup .nil) (.cons .non (.cons (.bi .list (.cons (.v 1) .nil)) (.cons (.str [99, 111, 100, 101]) .nil))))))))))
  (.cons (.asg 8 (.bin .mul (.tup (.cons (.tup (.cons (.str [115, 97, 121]) (.cons (.str [97]) .nil))) (.cons (.tup (.cons (.str [100, 114, 111, 112]) .nil)) .nil))) (.int 100)))
  (.cons (.ret (.bin .add (.v 6) (.lst (.cons (.bin .add (.v 8) (.tup (.cons (.tup (.cons (.str [101, 110, 100]) .nil)) .nil))) .nil))))
  .nil)))))))))))))))
abbrev st__law_wrongs : Stmt := top 19
def r__law_wrongs : DefRow := ⟨"_law_wrongs", [nm "draws", nm "code"], [nm "draws", nm "code", nm "at", nm "size", nm "a", nm "steps", nm "told", nm "step", nm "long"], b__law_wrongs, st__law_wrongs⟩
theorem g__law_wrongs : r__law_wrongs.Good := ⟨⟨rfl, rfl, rfl, by decide +kernel, rfl, by decide +kernel, by decide +kernel⟩, by decide +kernel, fun _ _ _ _ _ _ us hl => match us, hl with | [_, _], _ => rfl⟩
def b_law : Stms := (.cons (.asg 1 (.call "_law_draws" (.cons (.v 0) (.cons (.int 400) .nil))))
  (.cons (.for_ [2] (.range1 (.int 3))
   (.cons (.asg 3 (.call "_law_any_code" (.cons (.v 1) .nil)))
   (.cons (.ite (.cmp .isnot (.call "is_code" (.cons (.v 3) .nil)) (.bl true))
    (.cons (.ret (.bl false))
    .nil)
    .nil)
   (.cons (.for_ [4] (.plain (.call "_law_wrongs" (.cons (.v 1) (.cons (.v 3) .nil))))
    (.cons (.ite (.cmp .isnot (.call "is_code" (.cons (.v 4) .nil)) (.bl false))
     (.cons (.ret (.bl false))
     .nil)
     .nil)
    .nil))
   .nil))))
  (.cons (.asg 5 (.bin .mul (.tup (.cons (.tup (.cons (.str [115, 97, 121]) (.cons (.str [97]) .nil))) (.cons (.tup (.cons (.str [100, 114, 111, 112]) .nil)) .nil))) (.int 99)))
  (.cons (.ite (.or (.cmp .isnot (.call "is_code" (.cons (.tup (.cons (.tup (.cons (.str [101, 110, 100]) .nil)) .nil)) .nil)) (.bl true)) (.cmp .isnot (.call "is_code" (.cons (.bin .add (.v 5) (.tup (.cons (.tup (.cons (.str [103, 111]) (.cons (.int 0) .nil))) (.cons (.tup (.cons (.str [101, 110, 100]) .nil)) .nil)))) .nil)) (.bl true)))
   (.cons (.ret (.bl false))
   .nil)
   .nil)
  (.cons (.ret (.cmp .is_ (.call "is_code" (.cons (.tup (.cons (.tup (.cons (.str [100, 105, 103]) (.cons (.int 9) .nil))) (.cons (.tup (.cons (.str [100, 105, 103]) (.cons (.int 1) .nil))) (.cons (.tup (.cons (.str [103, 111]) (.cons (.int 0) .nil))) (.cons (.tup (.cons (.str [111, 116, 104, 101, 114]) (.cons (.int 4) .nil))) (.cons (.tup (.cons (.str [101, 110, 100]) .nil)) .nil)))))) .nil)) (.bl true)))
  .nil)))))
abbrev st_law : Stmt := top 20
def r_law : DefRow := ⟨"law", [nm "script"], [nm "script", nm "draws", nm "k", nm "code", nm "wrong", nm "long"], b_law, st_law⟩
theorem g_law : r_law.Good := ⟨⟨rfl, rfl, rfl, by decide +kernel, rfl, by decide +kernel, by decide +kernel⟩, by decide +kernel, fun _ _ _ _ _ _ us hl => match us, hl with | [_], _ => rfl⟩
def rows : List DefRow := [r_is_whole, r_is_within, r_is_signs, r_is_rising, r_inner_kinds, r_is_kind_of, r_is_kind, r_is_step, r_is_code, r__law_draws, r__law_next, r__law_code_step, r__law_any_code, r__law_wrongs, r_law]
def gls : List Gl := [.str "SIGNS" [32, 44, 45, 46, 47, 48, 49, 50, 51, 52, 53, 54, 55, 56, 57, 58, 59, 61, 97, 98, 99, 100, 101, 102, 103, 104, 105, 106, 107, 108, 109, 110, 111, 112, 113, 114, 115, 116, 117, 118, 119, 120, 121, 122], .int "MOST_STEPS" 200]
theorem good : AllG rows := ⟨g_is_whole, g_is_within, g_is_signs, g_is_rising, g_inner_kinds, g_is_kind_of, g_is_kind, g_is_step, g_is_code, g__law_draws, g__law_next, g__law_code_step, g__law_any_code, g__law_wrongs, g_law, trivial⟩
-- law at top 20; loose: ["SIGNS", "is_whole", "is_within", "is_signs", "is_rising", "inner_kinds", "is_kind_of", "is_kind", "MOST_STEPS", "is_step", "is_code", "_law_draws", "_law_next", "_law_code_step", "_law_any_code", "_law_wrongs"]
-- rows 15, law row 14, not printed 0
end Ev

set_option linter.all false
set_option maxRecDepth 100000
set_option maxHeartbeats 1000000
/-! K72b: steps judged by the kernel. -/
namespace Ev
abbrev T : Tab := tabOf rows gls
def kMany : D := .tup [.str [109, 97, 110, 121], .tup [.str [115, 105, 103, 110], .str [97, 98]]]
def kSign : D := .tup [.str [115, 105, 103, 110], .str [97, 98]]
def kText : D := .tup [.str [116, 101, 120, 116], .str [97]]
def kThen : D := .tup [.str [116, 104, 101, 110], .tup [.str [116, 101, 120, 116], .str [97]], .tup [.str [109, 97, 110, 121], .tup [.str [116, 101, 120, 116], .str [98]]]]
def KN : List D := [kMany, kSign, kText, kThen]
def fixedS : List D := [.tup [.str [115, 97, 121], .str []], .tup [.str [115, 97, 121], .str [97]], .tup [.str [115, 97, 121], .str [97, 98]], .tup [.str [115, 97, 121], .str [98, 97]], .tup [.str [115, 97, 121], .str [98]], .tup [.str [115, 97, 121], .str [97, 97]],
  .tup [.str [100, 114, 111, 112]], .tup [.str [116, 119, 105, 99, 101]], .tup [.str [115, 119, 97, 112]], .tup [.str [106, 111, 105, 110]], .tup [.str [115, 104, 117, 116]], .tup [.str [100, 105, 103], .int 1], .tup [.str [100, 105, 103], .int 2], .tup [.str [100, 105, 103], .int 3]]
  ++ (KN.flatMap fun k => KN.map fun l => .tup [.str [99, 117, 116], k, l]) ++ KN.map fun k => .tup [.str [98, 101, 103, 105, 110], k]
def jumpS (to : Int) : List D := [.tup [.str [103, 111], .int to], .tup [.str [101, 97, 99, 104], .int to], .tup [.str [111, 116, 104, 101, 114], .int to], .tup [.str [103, 97, 116, 104, 101, 114], .int to]] ++ KN.map fun k => .tup [.str [97, 115, 107], k, .int to]
def endS : D := .tup [.str [101, 110, 100]]
def stpB (n : Nat) (v : D) (many : Int) (b : Bool) : Bool := isB (run T n r_is_step.fn [v, .int many] ⟨[], 0⟩) b
theorem k_fixed : (endS :: fixedS).all (fun v => (List.range 22).all fun m => stpB 50 v m true) = true := by decide +kernel
def jumpB (to : Nat) : Bool := (jumpS to).all fun v => (List.range 22).all fun m => stpB 50 v m (decide (to < m))
theorem kj0 : jumpB 0 = true := by decide +kernel
theorem kj1 : jumpB 1 = true := by decide +kernel
theorem kj2 : jumpB 2 = true := by decide +kernel
theorem kj3 : jumpB 3 = true := by decide +kernel
theorem kj4 : jumpB 4 = true := by decide +kernel
theorem kj5 : jumpB 5 = true := by decide +kernel
theorem kj6 : jumpB 6 = true := by decide +kernel
theorem kj7 : jumpB 7 = true := by decide +kernel
theorem kj8 : jumpB 8 = true := by decide +kernel
theorem kj9 : jumpB 9 = true := by decide +kernel
theorem kj10 : jumpB 10 = true := by decide +kernel
theorem kj11 : jumpB 11 = true := by decide +kernel
theorem kj12 : jumpB 12 = true := by decide +kernel
theorem kj13 : jumpB 13 = true := by decide +kernel
theorem kj14 : jumpB 14 = true := by decide +kernel
theorem kj15 : jumpB 15 = true := by decide +kernel
theorem kj16 : jumpB 16 = true := by decide +kernel
theorem kj17 : jumpB 17 = true := by decide +kernel
theorem kj18 : jumpB 18 = true := by decide +kernel
theorem kj19 : jumpB 19 = true := by decide +kernel
theorem k_jump : (List.range 20).all jumpB = true := by
  rw [show List.range 20 = [0, 1, 2, 3, 4, 5, 6, 7, 8, 9, 10, 11, 12, 13, 14, 15, 16, 17, 18, 19] from rfl]
  simp only [List.all_cons, List.all_nil, kj0, kj1, kj2, kj3, kj4, kj5, kj6, kj7, kj8, kj9, kj10, kj11, kj12, kj13, kj14, kj15, kj16, kj17, kj18, kj19, Bool.and_true]
end Ev

set_option linter.all false
set_option maxRecDepth 100000
set_option maxHeartbeats 1000000
/-! K72c: the drawn steps. -/
namespace Ev
theorem f_next : T.fns "_law_next" = some (⟨2, 2, bNext⟩ : Fn) := rfl
def StepOk (sz : Int) (v : D) : Prop := v ∈ fixedS ∨ ∃ to, 0 ≤ to ∧ to < sz ∧ v ∈ jumpS to
theorem kn_pure {k : D} (h : k ∈ KN) : k.pure = true := by
  simp only [KN, List.mem_cons, List.not_mem_nil, or_false] at h
  rcases h with rfl | rfl | rfl | rfl <;> rfl
theorem truthy_bl {b : Bool} {s : S} : truthy (.bl b) s = .ok b s := rfl
theorem min_int {a b : Int} {s : S} : minD (.int a) (.int b) s = .ok (.int (if b < a then b else a)) s := rfl
theorem sub_int {a b : Int} {s : S} : subD (.int a) (.int b) s = .ok (.int (a - b)) s := rfl
theorem cmp_lt {a b : Int} {s : S} : cmpD .lt (.int a) (.int b) s = .ok (.bl (decide (a < b))) s := rfl
theorem cmp_gt {a b : Int} {s : S} : cmpD .gt (.int a) (.int b) s = .ok (.bl (decide (b < a))) s := rfl
theorem cmp_eqi {a b : Int} {s : S} : cmpD .eq (.int a) (.int b) s = .ok (.bl (a == b)) s := rfl
theorem len_lst {n : Nat} {xs : List D} {s : S} (h : s.lst n = some xs) : lenD (.ref n) s = .ok (.int xs.length) s := by
  show (match s.rd n with | some xs => _ | none => _) = _
  rw [rd_lst h]
theorem idx_lst {n : Nat} {xs : List D} {i : Int} {s : S} (h : s.lst n = some xs) : idxD (.ref n) (.int i) s = oD (atD xs i) s := by
  show (match s.rd n with | some xs => _ | none => _) = _
  rw [rd_lst h]
theorem kn_at {s1 : S} {k : Nat} {i : Int} (h : s1.lst k = some KN) (h0 : 0 ≤ i) (h1 : i < 4) : ∃ kd ∈ KN, idxD (.ref k) (.int i) s1 = .ok kd s1 := by
  obtain ⟨x, hx, e⟩ := atD_mem (xs := KN) h0 h1
  exact ⟨x, hx, by rw [idx_lst h, e]; rfl⟩
section
variable {s s1 : S} {n k : Nat} {d : Nat} {at_ size : Int}
theorem lst_any {s2 : S} {l : Nat} (h : s.lst k = some KN) (ne : k ≠ n) (g : Gd ⟨s.objs, l⟩ n s2) : s2.lst k = some KN := g.other (s := ⟨s.objs, l⟩) h ne
/-- what the choice says -/
def bChoose : Stms := match b__law_code_step with
  | .cons _ (.cons _ (.cons _ (.cons _ r))) => r
  | _ => .nil
theorem choose_to {c to : Int} {kd : D} {ds : List Int} {Q : D → S → Prop} (hk : s.lst k = some KN) (ne : k ≠ n) (g : Gd ⟨s.objs, s.objs.length⟩ n s1) (c0 : 0 ≤ c) (c1 : c < 18) (hkd : kd ∈ KN) (t0 : 0 ≤ to) (t1 : to < size)
    (q : ∀ v (ds : List Int), StepOk size v → Q v (s.setL n (ds.map D.int))) :
    (evSs ⟨fun f => (T.fns f).map (run T (d + 1)), T.gl⟩ bChoose [some (.ref n), some (.int at_), some (.int size), some (.ref k), some (.int c), some kd, some (.int to)] s1).to fun r s' => match r.1 with
      | .rt v => (retD s.len s.low v s').to Q
      | .nx => (retD s.len s.low .non s').to Q
      | _ => False := by
  have fin : ∀ {v : D} {s2 : S}, Gd ⟨s.objs, s.objs.length⟩ n s2 → v.pure = true → StepOk size v → (retD s.len s.low v s2).to Q := fun g hv h => g.ret hv fun ds => q _ ds h
  have four : (0 : Int) < 4 := by decide
  have three : (0 : Int) < 3 := by decide
  have pk := kn_pure hkd
  show (evSs _ (.cons (.ite _ _ _) _) _ _).to _
  rw [evSs_cons, evS_ite']
  simp only [evS, evE, evEs, evO, to_bind, to_ok, bind_ok, List.getElem?_cons_zero, List.getElem?_cons_succ, List.set_cons_zero, List.set_cons_succ, f_next, Option.map_some, cmp_lt, truthy_bl]
  have mf : ∀ {v : D} (i : Nat), fixedS[i]? = some v → v ∈ fixedS := fun i h => List.mem_of_getElem? h
  have idxL : ∀ {s2 s3 : S} {xs : List D} {i : Int}, s2.lst s3.len = some xs → 0 ≤ i → i < xs.length → ∃ x ∈ xs, idxD (.ref s3.len) (.int i) s2 = .ok x s2 := fun {s2 s3 xs i} h h0 h1 => by
    obtain ⟨x, hx, e⟩ := atD_mem h0 h1
    exact ⟨x, hx, by rw [idx_lst h, e]; rfl⟩
  by_cases h3 : c < 3
  · simp only [h3, decide_true, if_true]
    rw [evSs_last]
    have l4 : ∀ a b c d : D, ([a, b, c, d] : List D).length ≤ big := fun _ _ _ _ => by show 4 ≤ big; decide
    simp only [evS, evE, evEs, evO, to_bind, to_ok, bind_ok, List.getElem?_cons_zero, List.getElem?_cons_succ, List.set_cons_zero, List.set_cons_succ, f_next, Option.map_some, newL_to (l4 _ _ _ _)]
    refine next_g (g.push _) four fun r s2 r0 r1 g2 ot => ?_
    obtain ⟨x, hx, e⟩ := idxL (ot _ _ g.ne lst_pushed) r0 r1
    simp only [e, to_ok, newT2]
    refine fin g2 ?_ (.inl ?_) <;> (simp only [List.mem_cons, List.not_mem_nil, or_false] at hx; rcases hx with rfl | rfl | rfl | rfl <;> first | rfl | exact mf 0 rfl | exact mf 1 rfl | exact mf 2 rfl | exact mf 3 rfl)
  simp only [h3, decide_false, Bool.false_eq_true, if_false]
  rw [evSs_nil]
  show (evSs _ (.cons (.ite _ _ _) _) _ _).to _
  rw [evSs_cons, evS_ite']
  simp only [evS, evE, evEs, evO, to_bind, to_ok, bind_ok, List.getElem?_cons_zero, List.getElem?_cons_succ, List.set_cons_zero, List.set_cons_succ, f_next, Option.map_some, cmp_lt, truthy_bl]
  by_cases h8 : c < 8
  · simp only [h8, decide_true, if_true]
    rw [evSs_last]
    have l5 : ∀ a b c d e : D, ([a, b, c, d, e] : List D).length ≤ big := fun _ _ _ _ _ => by show 5 ≤ big; decide
    simp only [evS, evE, evEs, evO, to_bind, to_ok, bind_ok, List.getElem?_cons_zero, List.getElem?_cons_succ, List.set_cons_zero, List.set_cons_succ, f_next, Option.map_some, newT1, newL_to (l5 _ _ _ _ _), bin_sub, sub_int]
    obtain ⟨x, hx, e⟩ := idxL (s2 := s1.push (.lst [.tup [.str [100, 114, 111, 112]], .tup [.str [116, 119, 105, 99, 101]], .tup [.str [115, 119, 97, 112]], .tup [.str [106, 111, 105, 110]], .tup [.str [115, 104, 117, 116]]])) (s3 := s1) (i := c - 3) lst_pushed (by omega) (by show c - 3 < 5; omega)
    simp only [e, to_ok]
    refine fin (g.push _) ?_ (.inl ?_) <;> (simp only [List.mem_cons, List.not_mem_nil, or_false] at hx; rcases hx with rfl | rfl | rfl | rfl | rfl <;> first | rfl | exact mf 6 rfl | exact mf 7 rfl | exact mf 8 rfl | exact mf 9 rfl | exact mf 10 rfl)
  simp only [h8, decide_false, Bool.false_eq_true, if_false]
  rw [evSs_nil]
  show (evSs _ (.cons (.ite _ _ _) _) _ _).to _
  rw [evSs_cons, evS_ite']
  simp only [evS, evE, evEs, evO, to_bind, to_ok, bind_ok, List.getElem?_cons_zero, List.getElem?_cons_succ, List.set_cons_zero, List.set_cons_succ, f_next, Option.map_some, cmp_eqi, truthy_bl]
  have mj : ∀ {v : D} (i : Nat), (jumpS to)[i]? = some v → StepOk size v := fun i h => .inr ⟨to, t0, t1, List.mem_of_getElem? h⟩
  have mb : ∀ {l : D}, l ∈ KN → ∀ (i : Nat), KN[i]? = some l → True := fun _ _ _ => trivial
  by_cases h8' : c = 8
  · have hb : (c == 8) = true := by rw [h8']; rfl
    simp only [hb, if_true]
    rw [evSs_last]
    simp only [evS, evE, evEs, evO, to_bind, to_ok, bind_ok, List.getElem?_cons_zero, List.getElem?_cons_succ, List.set_cons_zero, List.set_cons_succ, f_next, Option.map_some]
    refine next_g g three fun r s2 r0 r1 g2 ot => ?_
    simp only [bin_add, add_int, to_ok, newT2]
    refine fin g2 rfl (.inl ?_)
    have : r = 0 ∨ r = 1 ∨ r = 2 := by omega
    rcases this with rfl | rfl | rfl
    · exact mf 11 rfl
    · exact mf 12 rfl
    · exact mf 13 rfl
  have hb : (c == 8) = false := by simpa using h8'
  simp only [hb, Bool.false_eq_true, if_false]
  rw [evSs_nil]
  show (evSs _ (.cons (.ite _ _ _) _) _ _).to _
  rw [evSs_cons, evS_ite']
  simp only [evS, evE, evEs, evO, to_bind, to_ok, bind_ok, List.getElem?_cons_zero, List.getElem?_cons_succ, List.set_cons_zero, List.set_cons_succ, f_next, Option.map_some, cmp_lt, truthy_bl]
  by_cases h11 : c < 11
  · simp only [h11, decide_true, if_true]
    rw [evSs_last]
    simp only [evS, evE, evEs, evO, to_bind, to_ok, bind_ok, List.getElem?_cons_zero, List.getElem?_cons_succ, List.set_cons_zero, List.set_cons_succ, f_next, Option.map_some, biD, un1, len_lst (lst_any hk ne g)]
    refine next_g g (show (0 : Int) < (KN.length : Int) by decide) fun r s2 r0 r1 g2 ot => ?_
    obtain ⟨kd2, hkd2, e⟩ := kn_at (lst_any hk ne g2) r0 (show r < 4 from r1)
    simp only [e, to_ok, newT3]
    refine fin g2 ?_ (.inl ?_)
    · show (true && (kd.pure && (kd2.pure && true))) = true
      rw [pk, kn_pure hkd2]
      rfl
    · simp only [KN, List.mem_cons, List.not_mem_nil, or_false] at hkd hkd2
      rcases hkd with rfl | rfl | rfl | rfl <;> rcases hkd2 with rfl | rfl | rfl | rfl <;> first | exact mf 14 rfl | exact mf 15 rfl | exact mf 16 rfl | exact mf 17 rfl | exact mf 18 rfl | exact mf 19 rfl | exact mf 20 rfl | exact mf 21 rfl | exact mf 22 rfl | exact mf 23 rfl | exact mf 24 rfl | exact mf 25 rfl | exact mf 26 rfl | exact mf 27 rfl | exact mf 28 rfl | exact mf 29 rfl
  simp only [h11, decide_false, Bool.false_eq_true, if_false]
  rw [evSs_nil]
  show (evSs _ (.cons (.ite _ _ _) _) _ _).to _
  rw [evSs_cons, evS_ite']
  simp only [evS, evE, evEs, evO, to_bind, to_ok, bind_ok, List.getElem?_cons_zero, List.getElem?_cons_succ, List.set_cons_zero, List.set_cons_succ, f_next, Option.map_some, cmp_eqi, truthy_bl]
  by_cases h11' : c = 11
  · have hb : (c == 11) = true := by rw [h11']; rfl
    simp only [hb, if_true]
    rw [evSs_last]
    simp only [evS, evE, evEs, evO, to_bind, to_ok, bind_ok, List.getElem?_cons_zero, List.getElem?_cons_succ, List.set_cons_zero, List.set_cons_succ, f_next, Option.map_some, newT3]
    refine fin g ?_ ?_
    · show (true && (kd.pure && (true && true))) = true
      rw [pk]
      rfl
    · simp only [KN, List.mem_cons, List.not_mem_nil, or_false] at hkd
      rcases hkd with rfl | rfl | rfl | rfl <;> first | exact mj 4 rfl | exact mj 5 rfl | exact mj 6 rfl | exact mj 7 rfl
  have hb : (c == 11) = false := by simpa using h11'
  simp only [hb, Bool.false_eq_true, if_false]
  rw [evSs_nil]
  show (evSs _ (.cons (.ite _ _ _) _) _ _).to _
  rw [evSs_cons, evS_ite']
  simp only [evS, evE, evEs, evO, to_bind, to_ok, bind_ok, List.getElem?_cons_zero, List.getElem?_cons_succ, List.set_cons_zero, List.set_cons_succ, f_next, Option.map_some, cmp_lt, truthy_bl]
  by_cases h14 : c < 14
  · simp only [h14, decide_true, if_true]
    rw [evSs_last]
    simp only [evS, evE, evEs, evO, to_bind, to_ok, bind_ok, List.getElem?_cons_zero, List.getElem?_cons_succ, List.set_cons_zero, List.set_cons_succ, f_next, Option.map_some, newT2]
    exact fin g rfl (mj 0 rfl)
  simp only [h14, decide_false, Bool.false_eq_true, if_false]
  rw [evSs_nil]
  show (evSs _ (.cons (.ite _ _ _) _) _ _).to _
  rw [evSs_cons, evS_ite']
  simp only [evS, evE, evEs, evO, to_bind, to_ok, bind_ok, List.getElem?_cons_zero, List.getElem?_cons_succ, List.set_cons_zero, List.set_cons_succ, f_next, Option.map_some, cmp_eqi, truthy_bl]
  by_cases h14' : c = 14
  · have hb : (c == 14) = true := by rw [h14']; rfl
    simp only [hb, if_true]
    rw [evSs_last]
    simp only [evS, evE, evEs, evO, to_bind, to_ok, bind_ok, List.getElem?_cons_zero, List.getElem?_cons_succ, List.set_cons_zero, List.set_cons_succ, f_next, Option.map_some, newT2]
    refine fin g ?_ (.inl ?_)
    · show (true && (kd.pure && true)) = true
      rw [pk]
      rfl
    · simp only [KN, List.mem_cons, List.not_mem_nil, or_false] at hkd
      rcases hkd with rfl | rfl | rfl | rfl <;> first | exact mf 30 rfl | exact mf 31 rfl | exact mf 32 rfl | exact mf 33 rfl
  have hb : (c == 14) = false := by simpa using h14'
  simp only [hb, Bool.false_eq_true, if_false]
  rw [evSs_nil]
  show (evSs _ (.cons (.ret _) .nil) _ _).to _
  rw [evSs_last]
  have l3 : ∀ a b c : D, ([a, b, c] : List D).length ≤ big := fun _ _ _ => by show 3 ≤ big; decide
  simp only [evS, evE, evEs, evO, to_bind, to_ok, bind_ok, List.getElem?_cons_zero, List.getElem?_cons_succ, List.set_cons_zero, List.set_cons_succ, f_next, Option.map_some, newL_to (l3 _ _ _), bin_sub, sub_int]
  obtain ⟨x, hx, e⟩ := idxL (s2 := s1.push (.lst [.str [101, 97, 99, 104], .str [111, 116, 104, 101, 114], .str [103, 97, 116, 104, 101, 114]])) (s3 := s1) (i := c - 15) lst_pushed (by omega) (by show c - 15 < 3; omega)
  simp only [e, to_ok, newT2]
  simp only [List.mem_cons, List.not_mem_nil, or_false] at hx
  rcases hx with rfl | rfl | rfl
  · exact fin (g.push _) rfl (mj 1 rfl)
  · exact fin (g.push _) rfl (mj 2 rfl)
  · exact fin (g.push _) rfl (mj 3 rfl)
theorem step_to {ds : List Int} {Q : D → S → Prop} (hd : s.ints n ds) (hk : s.lst k = some KN) (ne : k ≠ n) (ha : 0 ≤ at_) (hs : 0 < size) (q : ∀ v (ds : List Int), StepOk size v → Q v (s.setL n (ds.map D.int))) :
    (run T (d + 2) r__law_code_step.fn [.ref n, .int at_, .int size, .ref k] s).to Q := by
  have g : Gd ⟨s.objs, s.objs.length⟩ n ⟨s.objs, s.objs.length⟩ := Gd.start hd
  have four : (0 : Int) < (KN.length : Int) := by decide
  have three : (0 : Int) < 3 := by decide
  refine run_to rfl rfl ?_
  show (evSs _ (.cons (.asg 4 _) (.cons (.asg 5 _) (.cons (.asg 6 _) (.cons (.ite _ _ _) bChoose)))) [some (.ref n), some (.int at_), some (.int size), some (.ref k), none, none, none] _).to _
  rw [evSs_cons]
  simp only [evS, evE, evEs, evO, to_bind, to_ok, bind_ok, List.getElem?_cons_zero, List.getElem?_cons_succ, List.set_cons_zero, List.set_cons_succ, f_next, Option.map_some]
  refine next_g g (show (0 : Int) < 18 by decide) fun c s2 c0 c1 g2 ot => ?_
  try simp only [evS, evE, evEs, evO, to_bind, to_ok, bind_ok, List.getElem?_cons_zero, List.getElem?_cons_succ, List.set_cons_zero, List.set_cons_succ, f_next, Option.map_some]
  rw [evSs_cons]
  simp only [evS, evE, evEs, evO, to_bind, to_ok, bind_ok, List.getElem?_cons_zero, List.getElem?_cons_succ, List.set_cons_zero, List.set_cons_succ, f_next, Option.map_some, biD, un1, len_lst (lst_any hk ne g2)]
  refine next_g g2 four fun r s3 r0 r1 g3 ot => ?_
  obtain ⟨kd, hkd, e⟩ := kn_at (lst_any hk ne g3) r0 (show r < 4 from r1)
  simp only [e, to_ok]
  rw [evSs_cons]
  simp only [evS, evE, evEs, evO, to_bind, to_ok, bind_ok, List.getElem?_cons_zero, List.getElem?_cons_succ, List.set_cons_zero, List.set_cons_succ, f_next, Option.map_some]
  refine next_g g3 hs fun to s4 t0 t1 g4 ot => ?_
  try simp only [evS, evE, evEs, evO, to_bind, to_ok, bind_ok, List.getElem?_cons_zero, List.getElem?_cons_succ, List.set_cons_zero, List.set_cons_succ, f_next, Option.map_some]
  rw [evSs_cons, evS_ite']
  simp only [evS, evE, evEs, evO, to_bind, to_ok, bind_ok, List.getElem?_cons_zero, List.getElem?_cons_succ, List.set_cons_zero, List.set_cons_succ, f_next, Option.map_some]
  refine next_g g4 three fun r s5 r0 r1 g5 ot => ?_
  simp only [cmp_gt, to_ok, truthy_bl]
  by_cases hr : 0 < r
  · simp only [hr, decide_true, if_true]
    rw [evSs_last]
    simp only [evS, evE, evEs, evO, to_bind, to_ok, bind_ok, List.getElem?_cons_zero, List.getElem?_cons_succ, List.set_cons_zero, List.set_cons_succ, f_next, Option.map_some, biD, un2, bin_sub, bin_add, sub_int, add_int]
    refine next_g g5 three fun r' s6 r0' r1' g6 ot => ?_
    simp only [evS, evE, evEs, evO, to_bind, to_ok, bind_ok, List.getElem?_cons_zero, List.getElem?_cons_succ, List.set_cons_zero, List.set_cons_succ, f_next, Option.map_some, add_int, min_int]
    refine choose_to (ds := ds) hk ne g6 c0 c1 hkd ?_ ?_ q <;> split <;> omega
  · simp only [hr, decide_false, Bool.false_eq_true, if_false]
    rw [evSs_nil]
    exact choose_to (ds := ds) hk ne g5 c0 c1 hkd t0 t1 q
end
end Ev

set_option linter.all false
set_option maxRecDepth 100000
set_option maxHeartbeats 1000000
/-! K72d: the drawn code. -/
namespace Ev
theorem f_step : T.fns "_law_code_step" = some r__law_code_step.fn := rfl
theorem fixed_pure : fixedS.all D.pure = true := by decide +kernel
theorem stepOk_pure {sz : Int} {v : D} (h : StepOk sz v) : v.pure = true := by
  rcases h with h | ⟨to, _, _, h⟩
  · exact List.all_eq_true.mp fixed_pure v h
  · simp only [jumpS, KN, List.map_cons, List.map_nil, List.cons_append, List.nil_append, List.mem_cons, List.not_mem_nil, or_false] at h
    rcases h with rfl | rfl | rfl | rfl | rfl | rfl | rfl | rfl <;> rfl
theorem mfix {sz : Int} {v : D} (i : Nat) (h : fixedS[i]? = some v) : StepOk sz v := .inl (List.mem_of_getElem? h)
theorem tup_add {xs ys : List D} {s : S} (h : (xs ++ ys).length ≤ big) : addD (.tup xs) (.tup ys) s = .ok (.tup (xs ++ ys)) s := if_pos h
theorem lst_add {a b : Nat} {xs ys : List D} {s : S} (h : s.lst a = some xs) (h2 : s.lst b = some ys) : addD (.ref a) (.ref b) s = s.newL (xs ++ ys) := by
  show (match s.lst a, s.lst b with | some xs, some ys => _ | _, _ => _) = _
  rw [h, h2]
theorem lst_put {s : S} {k : Nat} {xs : List D} {v : D} (h : k < s.objs.length) : (s.put k (.lst xs) v).lst k = some xs := by
  have : (s.put k (.lst xs) v).get k = some (.lst xs) := List.getElem?_set_self h
  unfold S.lst
  rw [this]
theorem lst_put_ne {s : S} {j k : Nat} {xs ys : List D} {v : D} (h : s.lst j = some ys) (ne : j ≠ k) : (s.put k (.lst xs) v).lst j = some ys := by
  have : (s.put k (.lst xs) v).get j = s.get j := List.getElem?_set_ne (Ne.symm ne)
  unfold S.lst at h ⊢
  rw [this]
  exact h
theorem lst_lt {s : S} {k : Nat} {xs : List D} (h : s.lst k = some xs) : k < s.objs.length := by
  unfold S.lst at h
  split at h
  · rename_i e; exact (List.getElem?_eq_some_iff.mp e).1
  · cases h
theorem cut_take {α : Type} {xs : List α} {m : Int} (h : 0 ≤ m) : cutD xs none (some m) = xs.take m.toNat := by
  show (xs.drop 0).take ((if m < 0 then (m + xs.length).toNat else min m.toNat xs.length) - 0) = _
  rw [if_neg (by omega)]
  rw [List.drop_zero, Nat.sub_zero, List.take_eq_take_iff]
  omega
structure CInv (s : S) (n kk : Nat) (sz : Int) (m : Nat) (ρ : En) (s1 : S) : Prop where
  ex : ∃ j xs c a, ρ = [some (.ref n), some (.ref kk), some (.int sz), some (.ref j), c, a] ∧ s1.lst j = some xs ∧ s.objs.length ≤ j ∧ j ≠ kk ∧ j ≠ n ∧ (∀ x ∈ xs, StepOk sz x) ∧ m = (sz - 1).toNat - xs.length ∧ xs.length ≤ 30
  g : Gd ⟨s.objs, s.objs.length⟩ n s1
  kn : s1.lst kk = some KN
def bBody : Stms := match b__law_any_code with
  | .cons _ (.cons _ (.cons _ (.cons (.whil _ b) _))) => b
  | _ => .nil
section
variable {s s1 : S} {n kk : Nat} {sz : Int} {d : Nat} {m : Nat} {ρ : En}
theorem body_to {Q : Fl × En → S → Prop} {j : Nat} {xs : List D} {c a : Option D} (hz : 2 ≤ sz ∧ sz ≤ 19) (hj : s1.lst j = some xs) (hb : s.objs.length ≤ j) (jk : j ≠ kk) (jn : j ≠ n) (kn : kk ≠ n) (hx : ∀ x ∈ xs, StepOk sz x) (hl : (xs.length : Int) < sz - 1)
    (g : Gd ⟨s.objs, s.objs.length⟩ n s1) (hk : s1.lst kk = some KN)
    (q : ∀ j' ys c' a' s2, s2.lst j' = some (xs ++ ys) → s.objs.length ≤ j' → j' ≠ kk → j' ≠ n → (∀ x ∈ ys, StepOk sz x) → 0 < ys.length → ys.length ≤ 3 → Gd ⟨s.objs, s.objs.length⟩ n s2 → s2.lst kk = some KN →
      Q (.nx, [some (.ref n), some (.ref kk), some (.int sz), some (.ref j'), c', a']) s2) :
    (evSs ⟨fun f => (T.fns f).map (run T (d + 2)), T.gl⟩ bBody [some (.ref n), some (.ref kk), some (.int sz), some (.ref j), c, a] s1).to Q := by
  have hl30 : xs.length ≤ 30 := by omega
  -- code = code + [..]
  have plus : ∀ {s2 : S} {ys : List D} {c' a' : Option D}, s2.lst j = some xs → s2.lst kk = some KN → Gd ⟨s.objs, s.objs.length⟩ n s2 → (∀ x ∈ ys, StepOk sz x) → 0 < ys.length → ys.length ≤ 3 →
      (addD (.ref j) (.ref s2.len) (s2.push (.lst ys))).to fun v s3 => Q (.nx, [some (.ref n), some (.ref kk), some (.int sz), some v, c', a']) s3 := fun {s2 ys c' a'} h1 h2 g2 h3 h4 h5 => by
    have hb : (xs ++ ys).length ≤ big := by
      rw [List.length_append]
      exact Nat.le_trans (by omega : _ ≤ 33) (by decide)
    rw [lst_add (lst_push h1) lst_pushed, newL_to hb]
    have gl := (g2.push (.lst ys)).len
    refine q _ ys _ _ _ lst_pushed gl ?_ (g2.push _).ne h3 h4 h5 ((g2.push _).push _) (lst_push (lst_push h2))
    have := lst_lt (lst_push (o := .lst ys) h2)
    show (s2.push (.lst ys)).objs.length ≠ kk
    omega
  show (evSs _ (.cons (.asg 4 _) (.cons (.asg 5 _) (.cons (.ite _ _ _) .nil))) _ _).to _
  rw [evSs_cons]
  simp only [evS, evE, evEs, evO, to_bind, to_ok, bind_ok, List.getElem?_cons_zero, List.getElem?_cons_succ, List.set_cons_zero, List.set_cons_succ, f_next, Option.map_some]
  refine next_g g (show (0 : Int) < 9 by decide) fun ch s2 c0 c1 g2 ot => ?_
  have hj2 := ot _ _ jn hj
  have hk2 := ot _ _ kn hk
  rw [evSs_cons]
  simp only [evS, evE, evEs, evO, to_bind, to_ok, bind_ok, List.getElem?_cons_zero, List.getElem?_cons_succ, List.set_cons_zero, List.set_cons_succ, f_next, Option.map_some, biD, un1, len_lst hj2]
  rw [evSs_last, evS_ite']
  simp only [evS, evE, evEs, evO, to_bind, to_ok, bind_ok, List.getElem?_cons_zero, List.getElem?_cons_succ, List.set_cons_zero, List.set_cons_succ, f_next, Option.map_some, cmp_eqi, truthy_bl]
  by_cases e0 : (ch == 0) = true
  · simp only [e0, if_true]
    rw [evSs_last]
    have l2 : ∀ a b : D, ([a, b] : List D).length ≤ big := fun _ _ => by show 2 ≤ big; decide
    simp only [evS, evE, evEs, evO, to_bind, to_ok, bind_ok, List.getElem?_cons_zero, List.getElem?_cons_succ, List.set_cons_zero, List.set_cons_succ, f_next, Option.map_some, newT1, newT2, newL_to (l2 _ _), bin_add]
    refine plus hj2 hk2 g2 (fun x hx => ?_) (by decide) (by decide)
    simp only [List.mem_cons, List.not_mem_nil, or_false] at hx
    rcases hx with rfl | rfl
    · exact mfix 1 rfl
    · exact mfix 6 rfl
  simp only [eq_false_of_ne_true e0, Bool.false_eq_true, if_false]
  rw [evSs_last, evS_ite']
  simp only [evS, evE, evEs, evO, to_bind, to_ok, bind_ok, List.getElem?_cons_zero, List.getElem?_cons_succ, List.set_cons_zero, List.set_cons_succ, f_next, Option.map_some, cmp_eqi, truthy_bl]
  by_cases e1 : (ch == 1) = true
  · simp only [e1, if_true]
    rw [evSs_last]
    have l3 : ∀ a b c : D, ([a, b, c] : List D).length ≤ big := fun _ _ _ => by show 3 ≤ big; decide
    have k0 : atD KN 0 = some kMany := rfl
    simp only [evS, evE, evEs, evO, to_bind, to_ok, bind_ok, List.getElem?_cons_zero, List.getElem?_cons_succ, List.set_cons_zero, List.set_cons_succ, f_next, Option.map_some, newT1, newT2, newT3, idx_lst hk2, k0, oD, newL_to (l3 _ _ _), bin_add]
    refine plus hj2 hk2 g2 (fun x hx => ?_) (by decide) (by decide)
    simp only [List.mem_cons, List.not_mem_nil, or_false] at hx
    rcases hx with rfl | rfl | rfl
    · exact mfix 14 rfl
    · exact mfix 8 rfl
    · exact mfix 8 rfl
  simp only [eq_false_of_ne_true e1, Bool.false_eq_true, if_false]
  rw [evSs_last, evS_ite']
  simp only [evS, evE, evEs, evO, to_bind, to_ok, bind_ok, List.getElem?_cons_zero, List.getElem?_cons_succ, List.set_cons_zero, List.set_cons_succ, f_next, Option.map_some, cmp_eqi, truthy_bl]
  by_cases e2 : (ch == 2) = true
  · simp only [e2, if_true]
    rw [evSs_last]
    have l3 : ∀ a b c : D, ([a, b, c] : List D).length ≤ big := fun _ _ _ => by show 3 ≤ big; decide
    simp only [evS, evE, evEs, evO, to_bind, to_ok, bind_ok, List.getElem?_cons_zero, List.getElem?_cons_succ, List.set_cons_zero, List.set_cons_succ, f_next, Option.map_some, newT1, newT2, newL_to (l3 _ _ _), bin_add]
    refine plus hj2 hk2 g2 (fun x hx => ?_) (by decide) (by decide)
    simp only [List.mem_cons, List.not_mem_nil, or_false] at hx
    rcases hx with rfl | rfl | rfl
    · exact mfix 4 rfl
    · exact mfix 5 rfl
    · exact mfix 9 rfl
  simp only [eq_false_of_ne_true e2, Bool.false_eq_true, if_false]
  rw [evSs_last, evS_ite']
  simp only [evS, evE, evEs, evO, to_bind, to_ok, bind_ok, List.getElem?_cons_zero, List.getElem?_cons_succ, List.set_cons_zero, List.set_cons_succ, f_next, Option.map_some, cmp_eqi, truthy_bl]
  by_cases e3 : (ch == 3) = true
  · simp only [e3, if_true]
    rw [evSs_last]
    have l1 : ∀ a : D, ([a] : List D).length ≤ big := fun _ => by show 1 ≤ big; decide
    simp only [evS, evE, evEs, evO, to_bind, to_ok, bind_ok, List.getElem?_cons_zero, List.getElem?_cons_succ, List.set_cons_zero, List.set_cons_succ, f_next, Option.map_some, biD, un2, newT2, newL_to (l1 _), bin_add, bin_sub, sub_int, add_int, min_int]
    refine plus hj2 hk2 g2 (fun x hx => ?_) (Nat.succ_pos 0) (show 1 ≤ 3 by decide)
    simp only [List.mem_cons, List.not_mem_nil, or_false] at hx
    subst hx
    exact .inr ⟨_, by split <;> omega, by split <;> omega, List.mem_of_getElem? (i := 0) rfl⟩
  simp only [eq_false_of_ne_true e3, Bool.false_eq_true, if_false]
  rw [evSs_last]
  have il : isL (.ref j) s2 = true := by show (s2.lst j).isSome = true; rw [hj2]; rfl
  simp only [evS, evE, evEs, evO, to_bind, to_ok, bind_ok, List.getElem?_cons_zero, List.getElem?_cons_succ, List.set_cons_zero, List.set_cons_succ, f_next, Option.map_some, il, if_true, f_step]
  obtain ⟨ds2, hd2⟩ := g2.ints
  refine step_to hd2 hk2 kn (by omega) (by omega) fun v ds hv => ?_
  have hj3 : (s2.setL n (ds.map D.int)).lst j = some xs := setL_other hj2 jn
  have hb3 : xs.length < big := Nat.lt_of_le_of_lt hl30 (by decide)
  simp only [to_ok, methD, hj3, if_pos hb3, if_true]
  have g3 := g2.set ds
  have jl := lst_lt hj3
  exact q j [v] _ _ _ (lst_put jl) hb jk jn (fun x hx => by rw [List.mem_singleton.mp hx]; exact hv) (Nat.succ_pos 0) (show 1 ≤ 3 by decide) (g3.put (s := ⟨s.objs, s.objs.length⟩) hb (stepOk_pure hv)) (lst_put_ne (setL_other hk2 kn) (Ne.symm jk))
theorem any_to {ds : List Int} {Q : D → S → Prop} (hd : s.ints n ds) (q : ∀ (sz : Int) (xs : List D) (ds : List Int), 2 ≤ sz → sz ≤ 19 → (xs.length : Int) = sz - 1 → (∀ x ∈ xs, StepOk sz x) → Q (.tup (xs ++ [endS])) (s.setL n (ds.map D.int))) :
    (run T (d + 3) r__law_any_code.fn [.ref n] s).to Q := by
  have g : Gd ⟨s.objs, s.objs.length⟩ n ⟨s.objs, s.objs.length⟩ := Gd.start hd
  refine run_to rfl rfl ?_
  show (evSs _ (.cons (.asg 1 _) (.cons (.asg 2 _) (.cons (.asg 3 _) (.cons (.whil _ bBody) (.cons (.ret _) .nil))))) [some (.ref n), none, none, none, none, none] _).to _
  rw [evSs_cons]
  have l4 : ∀ a b c d : D, ([a, b, c, d] : List D).length ≤ big := fun _ _ _ _ => by show 4 ≤ big; decide
  have l0 : ([] : List D).length ≤ big := Nat.zero_le _
  simp only [evS, evE, evEs, evO, to_bind, to_ok, bind_ok, List.getElem?_cons_zero, List.getElem?_cons_succ, List.set_cons_zero, List.set_cons_succ, f_next, Option.map_some, newT1, newT2, newT3, newL_to (l4 _ _ _ _)]
  have gk := g.push (.lst KN)
  have hk1 : (S.push ⟨s.objs, s.objs.length⟩ (.lst KN)).lst s.objs.length = some KN := lst_pushed
  have kn : s.objs.length ≠ n := g.ne
  rw [evSs_cons]
  simp only [evS, evE, evEs, evO, to_bind, to_ok, bind_ok, List.getElem?_cons_zero, List.getElem?_cons_succ, List.set_cons_zero, List.set_cons_succ, f_next, Option.map_some]
  refine next_g gk (show (0 : Int) < 18 by decide) fun r s2 r0 r1 g2 ot => ?_
  have hk2 := ot _ _ kn hk1
  simp only [bin_add, add_int, to_ok, List.set_cons_zero, List.set_cons_succ]
  rw [evSs_cons]
  simp only [evS, evE, evEs, evO, to_bind, to_ok, bind_ok, List.getElem?_cons_zero, List.getElem?_cons_succ, List.set_cons_zero, List.set_cons_succ, f_next, Option.map_some, newL_to l0]
  rw [evSs_cons, evS_whil']
  generalize hsz : 2 + r = sz
  have hz : 2 ≤ sz ∧ sz ≤ 19 := by omega
  refine while_to (fun m ρ s1 => CInv s n s.objs.length sz m ρ s1) ?_ fuel (sz - 1).toNat _ _ (by rw [show fuel = 100000000 from rfl]; omega) ⟨⟨s2.len, [], none, none, rfl, lst_pushed, g2.len, ?_, g2.ne, (fun x hx => nomatch hx), by simp, Nat.zero_le _⟩, g2.push _, lst_push hk2⟩
  · rintro m ρ s1 ⟨⟨j, xs, c, a, rfl, h1, h2, h3, h4, h5, h6, h7⟩, g1, k1⟩
    unfold evB
    simp only [evS, evE, evEs, evO, to_bind, to_ok, bind_ok, List.getElem?_cons_zero, List.getElem?_cons_succ, List.set_cons_zero, List.set_cons_succ, f_next, Option.map_some, biD, un1, len_lst h1, bin_sub, sub_int, cmp_lt, truthy_bl]
    by_cases hl : (xs.length : Int) < sz - 1
    · simp only [hl, decide_true, if_true]
      refine body_to (s := s) hz h1 h2 h3 h4 kn h5 hl g1 k1 fun j' ys c' a' s3 b1 b2 b3 b4 b5 b6 b7 b8 b9 => ?_
      have le : (xs ++ ys).length = xs.length + ys.length := List.length_append
      exact ⟨_, by omega, ⟨⟨j', xs ++ ys, c', a', rfl, b1, b2, b3, b4, (fun x hx => (List.mem_append.mp hx).elim (h5 x) (b5 x)), rfl, by omega⟩, b8, b9⟩⟩
    · simp only [hl, decide_false, Bool.false_eq_true, if_false]
      rw [evSs_last]
      have ct : cutD xs none (some (sz - 1)) = xs.take (sz - 1).toNat := cut_take (by omega)
      have lt : (xs.take (sz - 1).toNat).length = (sz - 1).toNat := by rw [List.length_take]; omega
      have lb : (xs.take (sz - 1).toNat).length ≤ big := by rw [lt]; exact Nat.le_trans (by omega : _ ≤ 30) (by decide)
      have lb2 : (xs.take (sz - 1).toNat ++ [endS]).length ≤ big := by rw [List.length_append, lt]; exact Nat.le_trans (by show _ + 1 ≤ 31; omega : _ ≤ 31) (by decide)
      have hs : ∀ s : S, s.lst j = some xs → ∀ l, slcD (.ref j) none (some l) s = s.newL (cutD xs none (some l)) := fun s h l => by
        show (match s.rd j with | some xs => _ | none => _) = _
        rw [rd_lst h]
      have ht : ∀ (s : S) (ys : List D), tupleD (.ref s.len) (s.push (.lst ys)) = .ok (.tup ys) (s.push (.lst ys)) := fun s ys => by
        show (match S.rd _ _ with | some xs => _ | none => _) = _
        rw [rd_push]
      simp only [evS, evE, evEs, evO, to_bind, to_ok, bind_ok, List.getElem?_cons_zero, List.getElem?_cons_succ, List.set_cons_zero, List.set_cons_succ, f_next, Option.map_some, biD, un1, bin_sub, sub_int, hs _ h1, ct, newL_to lb, ht, newT1, bin_add]
      rw [show (D.tup [D.str [101, 110, 100]]) = endS from rfl, tup_add lb2]
      refine (g1.push _).ret (v := .tup (xs.take (sz - 1).toNat ++ [endS])) ?_ fun ds' => q sz _ ds' hz.1 hz.2 (by rw [lt]; omega) fun x hx => h5 x (List.mem_of_mem_take hx)
      refine pures_iff.mpr fun x hx => ?_
      rcases List.mem_append.mp hx with hx | hx
      · exact stepOk_pure (h5 x (List.mem_of_mem_take hx))
      · rw [List.mem_singleton.mp hx]; rfl
  · have := lst_lt hk2
    show s2.objs.length ≠ s.objs.length
    omega
end
end Ev

set_option linter.all false
set_option maxRecDepth 100000
set_option maxHeartbeats 1000000
/-! K72e: is_code. -/
namespace Ev
theorem f_is_step : T.fns "is_step" = some r_is_step.fn := rfl
theorem g_most : T.gl "MOST_STEPS" = some (.int 200) := rfl
def isEnd : D → Bool
  | .tup (.str w :: _) => w == [101, 110, 100]
  | _ => false
def Head (x : D) : Prop := ∃ w r, x = .tup (.str w :: r)
def ends (xs : List D) (j : Nat) : List Int := ((List.range j).filter fun i => isEnd (xs.getD i .non)).map fun i : Nat => (i : Int)
theorem asBls_map : ∀ bs : List Bool, asBls (bs.map D.bl) = some bs
  | [] => rfl
  | b :: bs => by
    show (asBls (bs.map D.bl)).map (b :: ·) = _
    rw [asBls_map bs]
    rfl
theorem slims_ints : ∀ ns : List Int, D.slims (ns.map D.int) = true
  | [] => rfl
  | n :: ns => slims_ints ns
theorem depths_ints : ∀ ns : List Int, D.depths (ns.map D.int) = 0
  | [] => rfl
  | n :: ns => by
    show max 0 (D.depths (ns.map D.int)) = 0
    rw [depths_ints ns]
    rfl
theorem fit_ints (ns : List Int) : (D.tup (ns.map D.int)).fit = true := by
  show (D.pures _ && D.slims _ && decide (D.depths _ + 1 ≤ 60)) = true
  rw [pures_ints, slims_ints, depths_ints]
  rfl
theorem eqvs_ints : ∀ ns ms : List Int, D.eqvs (ns.map D.int) (ms.map D.int) = decide (ns = ms)
  | [], [] => rfl
  | [], m :: ms => rfl
  | n :: ns, [] => rfl
  | n :: ns, m :: ms => by
    show (n == m && D.eqvs (ns.map D.int) (ms.map D.int)) = _
    rw [eqvs_ints ns ms]
    rw [Bool.eq_iff_iff]
    simp
theorem eq_lists {s : S} {a b : Nat} {ns ms : List Int} (h : s.lst a = some (ns.map D.int)) (h2 : s.lst b = some (ms.map D.int)) : cmpD .eq (.ref a) (.ref b) s = .ok (.bl (decide (ns = ms))) s := by
  show oB (match dataOf (.ref a) s, dataOf (.ref b) s with | some x, some y => some (Dt.eqv x y) | _, _ => none) s = _
  have d1 : dataOf (.ref a) s = some (.ls (ns.map D.int)) := by
    show (match s.rd a with | some xs => if (D.tup xs).fit then some (Dt.ls xs) else none | none => none) = _
    rw [rd_lst h]
    show (if (D.tup (ns.map D.int)).fit = true then _ else _) = _
    rw [if_pos (fit_ints ns)]
  have d2 : dataOf (.ref b) s = some (.ls (ms.map D.int)) := by
    show (match s.rd b with | some xs => if (D.tup xs).fit then some (Dt.ls xs) else none | none => none) = _
    rw [rd_lst h2]
    show (if (D.tup (ms.map D.int)).fit = true then _ else _) = _
    rw [if_pos (fit_ints ms)]
  rw [d1, d2]
  show oB (some (D.eqvs _ _)) s = _
  rw [eqvs_ints]
  rfl
theorem ends_succ {xs : List D} {j : Nat} {x : D} (h : xs[j]? = some x) : ends xs (j + 1) = if isEnd x then ends xs j ++ [(j : Int)] else ends xs j := by
  unfold ends
  rw [List.range_succ, List.filter_append, List.map_append]
  have : xs.getD j .non = x := by rw [List.getD_eq_getElem?_getD, h]; rfl
  by_cases e : isEnd x = true
  · rw [if_pos e]
    simp [List.filter, h, e]
  · rw [if_neg e]
    simp [List.filter, h, e]
theorem ends_len {xs : List D} : ∀ j, (ends xs j).length ≤ j
  | j => by
    unfold ends
    rw [List.length_map]
    exact Nat.le_trans (List.length_filter_le ..) (by simp)
theorem len_tup {xs : List D} {s : S} : lenD (.tup xs) s = .ok (.int xs.length) s := rfl
section
variable {d : Nat} {xs : List D} {s : S} {b : D → Bool}
theorem code_body {s0 : S} (h1 : 1 ≤ xs.length) (h2 : xs.length ≤ 200) (hb : ∀ x ∈ xs, run T d r_is_step.fn [x, .int xs.length] s0 = .ok (.bl (b x)) s0) (hh : xs.all b = true → ∀ x ∈ xs, Head x) :
    (evSs ⟨fun f => (T.fns f).map (run T d), T.gl⟩ b_is_code [some (.tup xs), none, none] s0).to fun r t => (∃ ρ, r = (.rt (.bl (xs.all b && decide (ends xs xs.length = [(xs.length : Int) - 1]))), ρ)) ∧ ∃ g, t = ⟨s0.objs ++ g, s0.low⟩ := by
  generalize hn : (xs.length : Int) = n at hb
  show (evSs _ (.cons (.ite _ _ _) (.cons (.ite _ _ _) (.cons (.ret _) .nil))) [some (.tup xs), none, none] s0).to _
  rw [evSs_cons, evS_ite']
  have c1 : (1 : Int) ≤ n := by omega
  have c2 : n ≤ 200 := by omega
  have cl : ∀ (a b : Int) (s : S), cmpD .le (.int a) (.int b) s = .ok (.bl (decide (a ≤ b))) s := fun _ _ _ => rfl
  have tr : ∀ (b : Bool) (s : S), truthy (.bl b) s = .ok b s := fun _ _ => rfl
  have ob : ∀ (b : Bool) (s : S), oB (some b) s = .ok (.bl b) s := fun _ _ => rfl
  have ist : isiD (.tup xs) .tuple s0 = some true := rfl
  simp only [evS, evE, evEs, evO, evC, evIt, quiet_to, to_bind, to_ok, bind_ok, List.getElem?_cons_zero, List.getElem?_cons_succ, List.set_cons_zero, List.set_cons_succ, Option.map_some, ist, ob, tr, Bool.not_true, Bool.false_eq_true, if_false, biD, un1, len_tup, hn, cl, c1, c2, decide_true, g_most, oD]
  rw [evSs_nil]
  show (evSs _ (.cons (.ite _ _ _) (.cons (.ret _) .nil)) [some (.tup xs), none, none] _).to _
  have nb : ∀ {α : Type} {l : List α}, l.length ≤ 200 → l.length ≤ big := fun h => Nat.le_trans h (by decide)
  have wk : walkOf (.tup xs) s0 = some (seqW xs) := rfl
  rw [evSs_cons, evS_ite']
  simp only [evS, evE, evEs, evO, evC, evIt, quiet_to, to_bind, to_ok, bind_ok, List.getElem?_cons_zero, List.getElem?_cons_succ, List.set_cons_zero, List.set_cons_succ, Option.map_some, wk]
  refine lc_to (N := xs.length) (fun j acc s' => j ≤ xs.length ∧ s0 = s' ∧ acc = ((xs.take j).map b).map D.bl) ?_ (nb h2) fuel 0 [] _ (by rw [show fuel = 100000000 from rfl]; omega) ⟨Nat.zero_le _, rfl, rfl⟩
  rintro j acc s' ⟨hj, rfl, rfl⟩
  refine ⟨hj, by simp only [List.length_map, List.length_take]; omega, fun e => ⟨List.getElem?_eq_none (by omega), ?_⟩, fun e => ?_⟩
  · have tk : xs.take j = xs := List.take_of_length_le (by omega)
    rw [tk, newL_to (nb (by simp only [List.length_map]; omega))]
    have al : ∀ (t : S) (bs : List Bool), allD (.ref t.len) (t.push (.lst (bs.map D.bl))) = .ok (.bl (bs.all id)) (t.push (.lst (bs.map D.bl))) := fun t bs => by
      show (match (S.rd _ _).bind asBls with | some bs => _ | none => _) = _
      rw [rd_push]
      show (match asBls _ with | some bs => _ | none => _) = _
      rw [asBls_map]
    simp only [biD, un1, al, to_ok, tr]
    have ea : (xs.map b).all id = xs.all b := by rw [List.all_map]; rfl
    rw [ea]
    cases ha : xs.all b with
    | false =>
      simp only [Bool.not_false, if_true]
      rw [evSs_last]
      simp only [evS, evE, evEs, evO, evC, evIt, quiet_to, to_bind, to_ok, bind_ok, List.getElem?_cons_zero, List.getElem?_cons_succ, List.set_cons_zero, List.set_cons_succ, Option.map_some]
      exact ⟨⟨_, rfl⟩, _, rfl⟩
    | true =>
      simp only [Bool.not_true, Bool.false_eq_true, if_false]
      rw [evSs_nil]
      show (evSs _ (.cons (.ret _) .nil) [some (.tup xs), none, none] _).to _
      have wk : ∀ t, walkOf (.tup xs) t = some (seqW xs) := fun _ => rfl
      rw [evSs_last]
      simp only [evS, evE, evEs, evO, evC, evIt, quiet_to, to_bind, to_ok, bind_ok, List.getElem?_cons_zero, List.getElem?_cons_succ, List.set_cons_zero, List.set_cons_succ, Option.map_some, wk]
      generalize ht : (S.push s0 (.lst ((xs.map b).map D.bl))) = t
      refine lc_to (N := xs.length) (fun j acc s' => j ≤ xs.length ∧ t = s' ∧ acc = (ends xs j).map D.int) ?_ (nb h2) fuel 0 [] _ (by rw [show fuel = 100000000 from rfl]; omega) ⟨Nat.zero_le _, rfl, rfl⟩
      rintro j acc s' ⟨hj, rfl, rfl⟩
      refine ⟨hj, by rw [List.length_map]; exact ends_len j, fun e => ⟨?_, ?_⟩, fun e => ?_⟩
      · show ((xs[j]?).map _) = none
        rw [List.getElem?_eq_none (by omega)]
        rfl
      · have e : j = xs.length := by omega
        subst e
        rw [newL_to (nb (by rw [List.length_map]; exact Nat.le_trans (ends_len _) h2))]
        have l1 : ∀ a : D, ([a] : List D).length ≤ big := fun _ => by show 1 ≤ big; decide
        simp only [evS, evE, evEs, evO, evC, evIt, quiet_to, to_bind, to_ok, bind_ok, List.getElem?_cons_zero, List.getElem?_cons_succ, List.set_cons_zero, List.set_cons_succ, Option.map_some, biD, un1, len_tup, bin_sub, sub_int, newL_to (l1 _), hn]
        have q := eq_lists (ns := ends xs xs.length) (ms := [n - 1]) (s := (t.push (.lst ((ends xs xs.length).map D.int))).push (.lst [.int (n - 1)])) (a := t.len) (b := (t.push (.lst ((ends xs xs.length).map D.int))).len) (lst_push lst_pushed) lst_pushed
        rw [q]
        exact ⟨⟨_, rfl⟩, _, (by show (⟨(t.objs ++ [_]) ++ [_], t.low⟩ : S) = _; rw [← ht]; simp [S.push]; rfl)⟩
      · obtain ⟨x, hx⟩ : ∃ x, xs[j]? = some x := ⟨_, List.getElem?_eq_getElem e⟩
        obtain ⟨w, r, hw⟩ := hh ha x (List.mem_of_getElem? hx)
        refine ⟨.tup [.int j, x], [some (.tup xs), some x, some (.int j)], ?_, rfl, ?_⟩
        · show (xs[j]?).map _ = _
          rw [hx]
          rfl
        · have ie : isEnd x = (w == [101, 110, 100]) := by rw [hw]; rfl
          have i0 : ∀ t, idxD x (.int 0) t = .ok (.str w) t := fun t => by
            rw [hw]
            have : atD (D.str w :: r) 0 = some (.str w) := by simp [atD, ixOf]
            show oD (atD (D.str w :: r) 0) t = _
            rw [this]
            rfl
          have ce : ∀ t, cmpD .eq (.str w) (.str [101, 110, 100]) t = .ok (.bl (w == [101, 110, 100])) t := fun _ => rfl
          have sc : ∀ (a b c : Option D), ([a, b, c] : List (Option D)).length = 3 := fun _ _ _ => rfl
          simp only [evS, evE, evEs, evO, evC, evIt, quiet_to, to_bind, to_ok, bind_ok, List.getElem?_cons_zero, List.getElem?_cons_succ, List.set_cons_zero, List.set_cons_succ, Option.map_some, i0, ce, tr]
          rw [← ie, ends_succ hx]
          cases isEnd x with
          | true => exact ⟨by omega, trivial, by rw [if_pos rfl, List.map_append]; rfl⟩
          | false => exact ⟨by omega, trivial, by rw [if_neg Bool.false_ne_true]⟩
  · obtain ⟨x, hx⟩ : ∃ x, xs[j]? = some x := ⟨_, List.getElem?_eq_getElem e⟩
    refine ⟨x, _, hx, rfl, ?_⟩
    have := hb x (List.mem_of_getElem? hx)
    simp only [evS, evE, evEs, evO, evC, evIt, quiet_to, to_bind, to_ok, bind_ok, List.getElem?_cons_zero, List.getElem?_cons_succ, List.set_cons_zero, List.set_cons_succ, Option.map_some, if_true, biD, un1, len_tup, hn, f_is_step, this]
    refine ⟨by omega, trivial, ?_⟩
    rw [List.take_add_one, hx]
    simp
theorem code_to (h1 : 1 ≤ xs.length) (h2 : xs.length ≤ 200) (hp : D.pures xs = true) (hb : ∀ x ∈ xs, ∀ s, run T d r_is_step.fn [x, .int xs.length] s = .ok (.bl (b x)) s) (hh : xs.all b = true → ∀ x ∈ xs, Head x) :
    run T (d + 1) r_is_code.fn [.tup xs] s = .ok (.bl (xs.all b && decide (ends xs xs.length = [(xs.length : Int) - 1]))) s := by
  refine (run_top rfl (by show (D.pures xs && true) = true; rw [hp]; rfl) ?_).eq
  refine (code_body h1 h2 (fun x hx => hb x hx _) hh).mono fun r t ⟨⟨ρ, e⟩, g, e2⟩ => ?_
  subst e
  exact .inl ⟨rfl, rfl, rfl⟩
/-- .. with lists within -/
theorem code_to2 (h1 : 1 ≤ xs.length) (h2 : xs.length ≤ 200) (hp : D.pures xs = false) (hb : ∀ x ∈ xs, ∀ l, run T d r_is_step.fn [x, .int xs.length] ⟨s.objs, l⟩ = .ok (.bl (b x)) ⟨s.objs, l⟩) (hf : xs.all b = false) :
    run T (d + 1) r_is_code.fn [.tup xs] s = .ok (.bl false) s := by
  refine (run_to rfl (by show (D.pures xs && true) = false; rw [hp]; rfl) ?_).eq
  refine (code_body h1 h2 (fun x hx => hb x hx _) (fun z => by rw [hf] at z; cases z)).mono fun r t ⟨⟨ρ, e⟩, g, e2⟩ => ?_
  subst e e2
  rw [hf]
  refine ret_pure (t := s) (Nat.lt_irrefl _) rfl ?_ rfl ⟨rfl, rfl⟩
  show (s.objs ++ g).take s.objs.length = s.objs
  rw [List.take_append_of_le_length (Nat.le_refl _), List.take_length]
end
end Ev

set_option linter.all false
set_option maxRecDepth 100000
set_option maxHeartbeats 1000000
/-! K72f: which codes are taken. -/
namespace Ev
def vb (n : Int) (x : D) : Bool := isB (run T 50 r_is_step.fn [x, .int n] ⟨[], 0⟩) true
def Known (n : Int) (x : D) (c : Bool) : Prop := x.pure = true ∧ isB (run T 50 r_is_step.fn [x, .int n] ⟨[], 0⟩) c = true
theorem Known.run {n : Int} {x : D} {c : Bool} (h : Known n x c) (s : S) : run T 50 r_is_step.fn [x, .int n] s = .ok (.bl c) s :=
  run_any s (by show (x.pure && (true && true)) = true; rw [h.1]; rfl) (isB_eq h.2) rfl
theorem Known.vb {n : Int} {x : D} {c : Bool} (h : Known n x c) : vb n x = c := by
  unfold Ev.vb
  rw [isB_eq h.2]
  cases c <;> rfl
theorem fixed_known {n : Nat} (hn : n < 22) {x : D} (h : x ∈ endS :: fixedS) (hp : x.pure = true) : Known n x true :=
  ⟨hp, List.all_eq_true.mp (List.all_eq_true.mp k_fixed x h) n (List.mem_range.mpr hn)⟩
theorem jump_known {n to : Nat} (hn : n < 22) (ht : to < 20) {x : D} (h : x ∈ jumpS to) (hp : x.pure = true) : Known n x (decide (to < n)) := by
  have := List.all_eq_true.mp (List.all_eq_true.mp (List.all_eq_true.mp k_jump to (List.mem_range.mpr ht)) x h) n (List.mem_range.mpr hn)
  exact ⟨hp, this⟩
theorem stepOk_known {n : Nat} {sz : Int} (hz : sz ≤ 19) (hn : n < 22) {x : D} (h : StepOk sz x) : ∃ c, Known n x c ∧ (sz ≤ n → c = true) := by
  have hp := stepOk_pure h
  rcases h with h | ⟨to, h0, h1, h⟩
  · exact ⟨true, fixed_known hn (List.mem_cons_of_mem _ h) hp, fun _ => rfl⟩
  · obtain ⟨t, rfl⟩ := Int.eq_ofNat_of_zero_le h0
    exact ⟨_, jump_known hn (by omega) h hp, fun g => decide_eq_true (by omega)⟩
theorem head_fixed : fixedS.all (fun x => match x with | .tup (.str w :: _) => !(w == [101, 110, 100]) | _ => false) = true := by decide +kernel
theorem stepOk_head {sz : Int} {x : D} (h : StepOk sz x) : Head x ∧ isEnd x = false := by
  rcases h with h | ⟨to, _, _, h⟩
  · have := List.all_eq_true.mp head_fixed x h
    split at this
    · rename_i w r
      exact ⟨⟨w, r, rfl⟩, by simpa [isEnd] using this⟩
    · cases this
  · simp only [jumpS, KN, List.map_cons, List.map_nil, List.cons_append, List.nil_append, List.mem_cons, List.not_mem_nil, or_false] at h
    rcases h with rfl | rfl | rfl | rfl | rfl | rfl | rfl | rfl <;> exact ⟨⟨_, _, rfl⟩, rfl⟩
theorem mem_ends {xs : List D} {j : Nat} {i : Int} : i ∈ ends xs j ↔ ∃ m, m < j ∧ isEnd (xs.getD m .non) = true ∧ (m : Int) = i := by
  unfold ends
  simp [List.mem_map, List.mem_filter, and_assoc]
theorem ends_nil {xs : List D} (h : ∀ x ∈ xs, isEnd x = false) : ∀ j, j ≤ xs.length → ends xs j = []
  | j, hj => by
    cases e : ends xs j with
    | nil => rfl
    | cons i r =>
      exfalso
      obtain ⟨m, h1, h2, _⟩ := mem_ends.mp (show i ∈ ends xs j by rw [e]; exact List.mem_cons_self ..)
      have hm : m < xs.length := by omega
      rw [List.getD_eq_getElem?_getD, List.getElem?_eq_getElem hm] at h2
      have := h _ (List.getElem_mem hm)
      simp only [Option.getD_some] at h2
      rw [this] at h2
      cases h2
section
variable {s : S} {xs : List D}
/-- a code that holds only things whose verdicts are known -/
theorem code_known {n : Nat} (hn : xs.length = n) (h1 : 1 ≤ n) (h2 : n ≤ 200) (hk : ∀ x ∈ xs, ∃ c, Known n x c) (hh : xs.all (vb n) = true → ∀ x ∈ xs, Head x) :
    run T 51 r_is_code.fn [.tup xs] s = .ok (.bl (xs.all (vb n) && decide (ends xs n = [(n : Int) - 1]))) s := by
  subst hn
  refine code_to h1 h2 (pures_iff.mpr fun x hx => ?_) (fun x hx s => ?_) hh
  · obtain ⟨c, k⟩ := hk x hx
    exact k.1
  · obtain ⟨c, k⟩ := hk x hx
    rw [k.run s, k.vb]
theorem code_true {sz : Int} {ys : List D} (hz : 2 ≤ sz ∧ sz ≤ 19) (hl : (ys.length : Int) = sz - 1) (hy : ∀ x ∈ ys, StepOk sz x) : run T 51 r_is_code.fn [.tup (ys ++ [endS])] s = .ok (.bl true) s := by
  have ln : (ys ++ [endS]).length = sz.toNat := by rw [List.length_append]; simp; omega
  have kn : ∀ x ∈ ys ++ [endS], ∃ c, Known sz.toNat x c ∧ c = true := fun x hx => by
    rcases List.mem_append.mp hx with hx | hx
    · obtain ⟨c, k, g⟩ := stepOk_known hz.2 (show sz.toNat < 22 by omega) (hy x hx)
      exact ⟨c, k, g (by omega)⟩
    · rw [List.mem_singleton.mp hx]
      exact ⟨true, fixed_known (by omega) (List.mem_cons_self ..) rfl, rfl⟩
  rw [code_known ln (by omega) (by omega) (fun x hx => (kn x hx).imp fun c h => h.1) fun _ x hx => ?_]
  · have e1 : (ys ++ [endS]).all (vb sz.toNat) = true := List.all_eq_true.mpr fun x hx => by
      obtain ⟨c, k, rfl⟩ := kn x hx
      exact k.vb
    have e2 : ends (ys ++ [endS]) sz.toNat = [(sz.toNat : Int) - 1] := by
      have h0 : sz.toNat = ys.length + 1 := by omega
      have hx : (ys ++ [endS])[ys.length]? = some endS := by simp
      rw [h0, ends_succ hx, if_pos (show isEnd endS = true from rfl)]
      have : ends (ys ++ [endS]) ys.length = ends ys ys.length := by
        unfold ends
        congr 1
        refine List.filter_congr fun i hi => ?_
        have : i < ys.length := List.mem_range.mp hi
        rw [List.getD_eq_getElem?_getD, List.getD_eq_getElem?_getD, List.getElem?_append_left this]
      rw [this, ends_nil (fun x hx => (stepOk_head (hy x hx)).2) _ (Nat.le_refl _)]
      show [(ys.length : Int)] = [((ys.length + 1 : Nat) : Int) - 1]
      congr 1
      omega
    rw [e1, e2]
    simp
  · rcases List.mem_append.mp hx with hx | hx
    · exact (stepOk_head (hy x hx)).1
    · rw [List.mem_singleton.mp hx]; exact ⟨_, _, rfl⟩
/-- not taken: a step that is none, or an end where it must not be -/
theorem code_false {n : Nat} (hn : xs.length = n) (h1 : 1 ≤ n) (h2 : n ≤ 200) (hk : ∀ x ∈ xs, ∃ c, Known n x c) (hh : xs.all (vb n) = true → (∀ x ∈ xs, Head x) ∧ ends xs n ≠ [(n : Int) - 1]) :
    run T 51 r_is_code.fn [.tup xs] s = .ok (.bl false) s := by
  rw [code_known hn h1 h2 hk fun h => (hh h).1]
  cases e : xs.all (vb n) with
  | false => rfl
  | true => rw [decide_eq_false (hh e).2]; rfl
end
end Ev

set_option linter.all false
set_option maxRecDepth 100000
set_option maxHeartbeats 1000000
/-! K72g: the turned codes. -/
namespace Ev
def w0 (z : Int) (R : Nat) : List D := [.tup [.str [103, 111], .int z], .tup [.str [103, 111], .int (0 - 1)], .tup [.str [103, 111], .bl true], .tup [.str [103, 111], .non], .tup [.str [103, 111]], .tup [.str [103, 111], .int 0, .int 0], .tup [.str [97, 115, 107], .tup [.str [115, 105, 103, 110], .str [97]], .int z]]
def w1 (z : Int) (R : Nat) : List D := [.tup [.str [97, 115, 107], .int 0, .int 0]]
def w2 (z : Int) (R : Nat) : List D := [.tup [.str [97, 115, 107], .tup [.str [115, 105, 103, 110], .str [97]]], .tup [.str [101, 97, 99, 104], .int z], .tup [.str [111, 116, 104, 101, 114], .int z], .tup [.str [103, 97, 116, 104, 101, 114], .int z], .tup [.str [101, 97, 99, 104]], .tup [.str [115, 104, 117, 116], .int 0], .tup [.str [100, 114, 111, 112], .int 0]]
def w3 (z : Int) (R : Nat) : List D := [.tup [.str [100, 105, 103], .int 0], .tup [.str [100, 105, 103], .int 10], .tup [.str [100, 105, 103], .bl true], .tup [.str [100, 105, 103]], .tup [.str [115, 97, 121], .str [65]], .tup [.str [115, 97, 121], .str (List.replicate 21 97)], .tup [.str [115, 97, 121]]]
def w4 (z : Int) (R : Nat) : List D := [.tup [.str [115, 97, 121], .int 0]]
def w5 (z : Int) (R : Nat) : List D := [.tup [.str [99, 117, 116], .tup [.str [115, 105, 103, 110], .str [97]]], .tup [.str [99, 117, 116], .tup [.str [115, 105, 103, 110], .str [97]], .tup [.str [115, 105, 103, 110], .str [98, 97]]], .tup [.str [99, 117, 116], .int 0, .tup [.str [115, 105, 103, 110], .str [97]]], .tup [.str [98, 101, 103, 105, 110], .tup [.str [109, 97, 110, 121]]], .tup [.str [98, 101, 103, 105, 110]]]
def w6 (z : Int) (R : Nat) : List D := [.tup [.str [115, 119, 97, 112], .int 1]]
def w7 (z : Int) (R : Nat) : List D := [.tup [.str [110, 111, 116]], .tup [], .non, .str [101, 110, 100], .ref R, .tup [.str [101, 110, 100], .int 0], .tup [.int 1], .tup [.str [101, 110, 100]], .tup [.str [116, 119, 105, 99, 101], .str [97]], .tup [.str [106, 111, 105, 110], .int 0]]
def wl (z : Int) : List D := [.tup [.str [110, 111, 116]], .tup [], .non, .str [101, 110, 100], .tup [.str [101, 110, 100], .int 0], .tup [.int 1], .tup [.str [116, 119, 105, 99, 101], .str [97]], .tup [.str [106, 111, 105, 110], .int 0]]
def W (z : Int) : List D := w0 z 0 ++ w1 z 0 ++ w2 z 0 ++ w3 z 0 ++ w4 z 0 ++ w5 z 0 ++ w6 z 0 ++ wl z
theorem k_wrong : (List.range 22).all (fun z => (W z).all fun x => x.pure && stpB 50 x z false) = true := by decide +kernel
theorem m21 {s : S} : mulD (.str [97]) (.int 21) s = .ok (.str (List.replicate 21 97)) s := rfl
theorem newT0 {s : S} : newT s [] = .ok (.tup []) s := rfl
section
variable {O : Ocl} {b s1 s1' : S} {n i j : Nat} {xs ys : List D} {ρ : En} {es : Es} {e : E} {Q : Fl × En → S → Prop}
theorem asg_plus (hρ : ρ[i]? = some (some (.ref j))) (he : evEs O es ρ s1 = .ok ys s1') (hj : s1'.lst j = some xs) (hb : xs.length + ys.length ≤ big) (g : Gd b n s1')
    (q : ∀ s2 j', s2.lst j' = some (xs ++ ys) → b.objs.length ≤ j' → j' ≠ n → Gd b n s2 → (∀ k zs, s1'.lst k = some zs → s2.lst k = some zs) → Q (.nx, ρ.set i (some (.ref j'))) s2) :
    (evS O (.asg i (.bin .add (.v i) (.lst es))) ρ s1).to Q := by
  have h1 : ys.length ≤ big := by omega
  have h2 : (xs ++ ys).length ≤ big := by rw [List.length_append]; exact hb
  simp only [evS, evE, to_bind, hρ, to_ok, he, bind_ok, newL_to h1, bin_add, lst_add (lst_push hj) lst_pushed, newL_to h2]
  exact q _ _ lst_pushed (g.push _).len (g.push _).ne ((g.push _).push _) fun k zs h => lst_push (lst_push h)
theorem asg_lst (he : evEs O es ρ s1 = .ok ys s1') (hb : ys.length ≤ big) (g : Gd b n s1')
    (q : ∀ s2 j', s2.lst j' = some ys → b.objs.length ≤ j' → j' ≠ n → Gd b n s2 → Q (.nx, ρ.set i (some (.ref j'))) s2) :
    (evS O (.asg i (.lst es)) ρ s1).to Q := by
  simp only [evS, evE, to_bind, he, to_ok, newL_to hb]
  exact q _ _ lst_pushed g.len g.ne (g.push _)
theorem app_to {v : D} (hρ : ρ[i]? = some (some (.ref j))) (he : evE O e ρ s1 = .ok v s1) (hj : s1.lst j = some xs) (hjb : b.objs.length ≤ j) (hv : v.pure = true) (hb : xs.length < big) (g : Gd b n s1)
    (q : ∀ s2, s2.lst j = some (xs ++ [v]) → Gd b n s2 → Q (.nx, ρ) s2) : (evS O (.expr (.lm (.v i) "append" (.cons e .nil))) ρ s1).to Q := by
  have il : isL (.ref j) s1 = true := by show (s1.lst j).isSome = true; rw [hj]; rfl
  simp only [evS, evE, evEs, to_bind, hρ, to_ok, il, if_true, he, bind_ok, methD, hj, if_pos hb]
  exact q _ (lst_put (lst_lt hj)) (g.put hjb hv)
end
theorem ret_obj {b low n : Nat} {xs : List D} {s' : S} {Q : D → S → Prop} (hl : ¬ s'.low < b) (hg : s'.lst n = some xs) (hp : D.pures xs = false) (q : Q (.ref n) ⟨s'.objs, low⟩) : (retD b low (.ref n) s').to Q := by
  unfold retD
  rw [if_neg hl, if_neg (by intro h; cases h)]
  simp only [hg, hp, Bool.and_false, Bool.false_eq_true, if_false]
  exact q
/-- the code with a step put in -/
def ins (cs : List D) (r : Nat) (x : D) : D := .tup (cs.take r ++ [x] ++ cs.drop r)
def longT : List D := (List.replicate 100 [D.tup [.str [115, 97, 121], .str [97]], .tup [.str [100, 114, 111, 112]]]).flatten
def told (cs : List D) (r : Nat) (z : Int) (R R2 : Nat) : List D := (w0 z R ++ w1 z R ++ w2 z R ++ w3 z R ++ w4 z R ++ w5 z R ++ w6 z R ++ w7 z R).map (ins cs r) ++ [.tup (cs.take (cs.length - 1)), .tup (cs ++ [endS]), .tup (cs ++ [.tup [.str [100, 114, 111, 112]]]), .tup [], .non, .ref R2, .str [99, 111, 100, 101]] ++ [.tup (longT ++ [endS])]
theorem cut_drop {α : Type} {xs : List α} {m : Int} (h : 0 ≤ m) (h2 : m ≤ xs.length) : cutD xs (some m) none = xs.drop m.toNat := by
  show (xs.drop (if m < 0 then (m + xs.length).toNat else min m.toNat xs.length)).take (xs.length - (if m < 0 then (m + xs.length).toNat else min m.toNat xs.length)) = _
  rw [if_neg (by omega)]
  have : min m.toNat xs.length = m.toNat := by omega
  rw [this]
  exact List.take_of_length_le (by rw [List.length_drop]; omega)
section
variable {s : S} {n d : Nat} {cs : List D}
theorem wr_to {ds : List Int} {Q : D → S → Prop} (hd : s.ints n ds) (h1 : 1 ≤ cs.length) (h2 : cs.length ≤ 20)
    (q : ∀ s' l r R R2, 0 ≤ r → r < cs.length → s'.lst l = some (told cs r (cs.length + 1) R R2) → (∃ ds, s'.ints n ds) → l ≠ n → s'.lst R = some [.str [100, 114, 111, 112]] → s'.lst R2 = some cs → Q (.ref l) s') :
    (run T (d + 2) r__law_wrongs.fn [.ref n, .tup cs] s).to Q := by
  have g : Gd ⟨s.objs, s.objs.length⟩ n ⟨s.objs, s.objs.length⟩ := Gd.start hd
  refine run_to rfl rfl ?_
  have B : ∀ {m : Nat}, m ≤ 100 → m ≤ big := fun h => Nat.le_trans h (by decide)
  generalize hO : (⟨fun f => (T.fns f).map (run T (d + 1)), T.gl⟩ : Ocl) = O
  generalize hz : (cs.length : Int) + 1 = z at q
  have fnx : O.fn "_law_next" = some (run T (d + 1) ⟨2, 2, bNext⟩) := by rw [← hO]; rfl
  show (evSs O (.cons (.asg 2 _) (.cons (.asg 3 _) (.cons (.asg 4 _) (.cons (.asg 5 _) (.cons (.expr _) (.cons (.asg 5 _) (.cons (.asg 5 _) (.cons (.expr _) (.cons (.asg 5 _) (.cons (.expr _) (.cons (.asg 5 _) (.cons (.asg 6 _) (.cons (.asg 6 _) (.cons (.asg 8 _) (.cons (.ret _) .nil))))))))))))))) [some (.ref n), some (.tup cs), none, none, none, none, none, none, none] _).to _
  rw [evSs_cons]
  simp only [evS, evE, evEs, evO, to_bind, to_ok, bind_ok, List.getElem?_cons_zero, List.getElem?_cons_succ, List.set_cons_zero, List.set_cons_succ, f_next, Option.map_some, fnx, biD, un1, len_tup]
  refine next_g g (show (0 : Int) < cs.length by omega) fun r s2 r0 r1 g2 _ => ?_
  rw [evSs_cons]
  simp only [evS, evE, evEs, evO, to_bind, to_ok, bind_ok, List.getElem?_cons_zero, List.getElem?_cons_succ, List.set_cons_zero, List.set_cons_succ, f_next, Option.map_some, biD, un1, len_tup, bin_add, add_int, hz]
  rw [evSs_cons]
  simp only [evS, evE, evEs, evO, to_bind, to_ok, bind_ok, List.getElem?_cons_zero, List.getElem?_cons_succ, List.set_cons_zero, List.set_cons_succ, f_next, Option.map_some, newT2]
  rw [evSs_cons]
  refine asg_lst (ys := w0 z 0) (by simp only [evE, evEs, bind_ok, List.getElem?_cons_zero, List.getElem?_cons_succ, newT1, newT2, newT3, bin_sub, sub_int, bin_mul, m21]; rfl) (show 7 ≤ big by decide) g2 fun s3 j3 h3 b3 n3 g3 => ?_
  dsimp only [List.set_cons_zero, List.set_cons_succ]
  rw [evSs_cons]
  refine app_to (b := ⟨s.objs, s.objs.length⟩) rfl (by simp only [evE, evEs, bind_ok, List.getElem?_cons_zero, List.getElem?_cons_succ, newT1, newT2, newT3, bin_sub, sub_int, bin_mul, m21]; rfl) h3 b3 rfl (show 7 < big by decide) g3 fun s4 h4 g4 => ?_
  dsimp only [List.set_cons_zero, List.set_cons_succ]
  rw [evSs_cons]
  refine asg_plus (ys := w2 z 0) rfl (by simp only [evE, evEs, bind_ok, List.getElem?_cons_zero, List.getElem?_cons_succ, newT1, newT2, newT3, bin_sub, sub_int, bin_mul, m21]; rfl) h4 (show 15 ≤ big by decide) g4 fun s5 j5 h5 b5 n5 g5 _ => ?_
  dsimp only [List.set_cons_zero, List.set_cons_succ]
  rw [evSs_cons]
  refine asg_plus (ys := w3 z 0) rfl (by simp only [evE, evEs, bind_ok, List.getElem?_cons_zero, List.getElem?_cons_succ, newT1, newT2, newT3, bin_sub, sub_int, bin_mul, m21]; rfl) h5 (show 22 ≤ big by decide) g5 fun s6 j6 h6 b6 n6 g6 _ => ?_
  dsimp only [List.set_cons_zero, List.set_cons_succ]
  rw [evSs_cons]
  refine app_to (b := ⟨s.objs, s.objs.length⟩) rfl (by simp only [evE, evEs, bind_ok, List.getElem?_cons_zero, List.getElem?_cons_succ, newT1, newT2, newT3, bin_sub, sub_int, bin_mul, m21]; rfl) h6 b6 rfl (show 22 < big by decide) g6 fun s7 h7 g7 => ?_
  dsimp only [List.set_cons_zero, List.set_cons_succ]
  rw [evSs_cons]
  refine asg_plus (ys := w5 z 0) rfl (by simp only [evE, evEs, bind_ok, List.getElem?_cons_zero, List.getElem?_cons_succ, newT1, newT2, newT3, bin_sub, sub_int, bin_mul, m21]; rfl) h7 (show 28 ≤ big by decide) g7 fun s8 j8 h8 b8 n8 g8 _ => ?_
  dsimp only [List.set_cons_zero, List.set_cons_succ]
  rw [evSs_cons]
  refine app_to (b := ⟨s.objs, s.objs.length⟩) rfl (by simp only [evE, evEs, bind_ok, List.getElem?_cons_zero, List.getElem?_cons_succ, newT1, newT2, newT3, bin_sub, sub_int, bin_mul, m21]; rfl) h8 b8 rfl (show 28 < big by decide) g8 fun s9 h9 g9 => ?_
  dsimp only [List.set_cons_zero, List.set_cons_succ]
  rw [evSs_cons]
  have nl1 : ∀ (st : S) (a : D), st.newL [a] = .ok (.ref st.len) (st.push (.lst [a])) := fun _ _ => rfl
  refine asg_plus (ys := w7 z s9.len) (s1' := s9.push (.lst [.str [100, 114, 111, 112]])) rfl (by simp only [evE, evEs, bind_ok, List.getElem?_cons_zero, List.getElem?_cons_succ, newT1, newT2, newT3, bin_sub, sub_int, bin_mul, m21, nl1, newT0]; rfl) (lst_push h9) (show 39 ≤ big by decide) (g9.push _) fun s10 j10 h10 b10 n10 g10 o10 => ?_
  dsimp only [List.set_cons_zero, List.set_cons_succ]
  have hR := o10 _ _ (lst_pushed (s1 := s9) (xs := [.str [100, 114, 111, 112]]))
  generalize s9.len = R at h10 hR
  generalize hL : ((((((((w0 z 0) ++ [_]) ++ w2 z 0) ++ w3 z 0) ++ [_]) ++ w5 z 0) ++ [_]) ++ w7 z R) = L at h10
  have hLl : L.length = 39 := by rw [← hL]; rfl
  rw [evSs_cons, evS, to_bind, evE_lc]
  have wk : walkOf (.ref j10) s10 = some (lstW j10) := by
    show (match s10.rd j10 with | some _ => some (lstW j10) | none => none) = _
    rw [rd_lst h10]
  have lb : L.length ≤ big := by rw [hLl]; decide
  have sl : ∀ lo hi (t : S), slcD (.tup cs) lo hi t = .ok (.tup (cutD cs lo hi)) t := fun _ _ _ => rfl
  have ct : cutD cs none (some r) = cs.take r.toNat := cut_take r0
  have cd : cutD cs (some r) none = cs.drop r.toNat := cut_drop r0 (by omega)
  simp only [evIt, evE, to_bind, to_ok, List.getElem?_cons_zero, List.getElem?_cons_succ, wk]
  refine lc_to (N := L.length) (fun k acc s' => k ≤ L.length ∧ s10 = s' ∧ acc = (L.take k).map (ins cs r.toNat)) ?_ lb fuel 0 [] _ (by rw [hLl]; decide) ⟨Nat.zero_le _, rfl, rfl⟩
  rintro k acc s' ⟨hk, rfl, rfl⟩
  refine ⟨hk, by rw [List.length_map, List.length_take]; omega, fun e => ⟨?_, ?_⟩, fun e => ?_⟩
  · show (s10.rd j10).bind _ = none
    rw [rd_lst h10]
    exact List.getElem?_eq_none (by omega)
  · have tk : L.take k = L := List.take_of_length_le (by omega)
    rw [tk, newL_to (by rw [List.length_map]; exact lb)]
    simp only [to_ok, List.set_cons_zero, List.set_cons_succ]
    have h11 : (s10.push (.lst (L.map (ins cs r.toNat)))).lst s10.len = some (L.map (ins cs r.toNat)) := lst_pushed
    have g11 := g10.push (.lst (L.map (ins cs r.toNat)))
    have hR11 := lst_push (o := .lst (L.map (ins cs r.toNat))) hR
    generalize s10.push (.lst (L.map (ins cs r.toNat))) = s11 at h11 g11 hR11
    generalize s10.len = j11 at h11
    rw [evSs_cons]
    have ctl : cutD cs none (some ((cs.length : Int) - 1)) = cs.take (cs.length - 1) := by
      rw [cut_take (by omega)]
      congr 1
      omega
    have ad : ∀ (x : D) (t : S), addD (.tup cs) (.tup [x]) t = .ok (.tup (cs ++ [x])) t := fun x t => tup_add (by rw [List.length_append]; exact Nat.le_trans (by show _ + 1 ≤ 21; omega : _ ≤ 21) (by decide))
    have ld : ∀ t : S, listD (.tup cs) t = .ok (.ref t.len) (t.push (.lst cs)) := fun t => by
      show t.newL cs = _
      rw [S.newL, if_pos (Nat.le_trans h2 (by decide))]
      rfl
    refine asg_plus (ys := [.tup (cs.take (cs.length - 1)), .tup (cs ++ [endS]), .tup (cs ++ [.tup [.str [100, 114, 111, 112]]]), .tup [], .non, .ref s11.len, .str [99, 111, 100, 101]]) (s1' := s11.push (.lst cs)) rfl (by simp only [evE, evEs, bind_ok, List.getElem?_cons_zero, List.getElem?_cons_succ, newT1, newT2, newT3, bin_sub, sub_int, bin_mul, m21, evO, biD, un1, len_tup, sl, ctl, bin_add, ad, newT0, ld]; rfl) (lst_push h11) (by rw [List.length_map, hLl]; show 46 ≤ big; decide) (g11.push _) fun s12 j12 h12 b12 n12 g12 o12 => ?_
    dsimp only [List.set_cons_zero, List.set_cons_succ]
    have hR12 := o12 _ _ (lst_push hR11)
    have hR2 := o12 _ _ (lst_pushed (s1 := s11) (xs := cs))
    generalize s11.len = R2 at h12 hR2
    rw [evSs_cons]
    have m100 : ∀ t : S, mulD (.tup [.tup [.str [115, 97, 121], .str [97]], .tup [.str [100, 114, 111, 112]]]) (.int 100) t = .ok (.tup longT) t := fun _ => rfl
    simp only [evS, evE, evEs, to_bind, to_ok, bind_ok, newT1, newT2, bin_mul, m100, List.set_cons_zero, List.set_cons_succ]
    rw [evSs_last]
    have al : ∀ (x : D) (t : S), addD (.tup longT) (.tup [x]) t = .ok (.tup (longT ++ [x])) t := fun x t => tup_add (by rw [List.length_append, show longT.length = 200 from rfl]; show 201 ≤ big; decide)
    have l1 : ∀ a : D, ([a] : List D).length ≤ big := fun _ => by show 1 ≤ big; decide
    simp only [evS, evE, evEs, to_bind, to_ok, bind_ok, List.getElem?_cons_zero, List.getElem?_cons_succ, newT1, newT2, bin_add, al, newL_to (l1 _), lst_add (lst_push h12) lst_pushed]
    rw [newL_to (by rw [List.length_append, List.length_append, List.length_map, hLl]; show 47 ≤ big; decide)]
    refine ret_obj (xs := told cs r.toNat z R R2) ?_ ?_ ?_ ?_
    · show ¬ s12.low < s.len
      rw [g12.low]
      exact Nat.lt_irrefl _
    · rw [lst_pushed, ← hL]
      rfl
    · cases e : D.pures (told cs r.toNat z R R2) with
      | false => rfl
      | true =>
        have := pures_iff.mp e (.ref R2) (by unfold told; exact List.mem_append_left _ (List.mem_append_right _ (by simp)))
        cases this
    · have gg := (g12.push (.lst [.tup (longT ++ [endS])])).push (.lst (told cs r.toNat z R R2))
      obtain ⟨ds', hds⟩ := gg.ints
      have ll : (s12.push (.lst [.tup (longT ++ [endS])])).len ≠ n := (g12.push _).ne
      have key := q ⟨((s12.push (.lst [.tup (longT ++ [endS])])).push (.lst (told cs r.toNat z R R2))).objs, s.low⟩ _ r.toNat R R2 (Nat.zero_le _) (by omega) (lst_pushed) ⟨ds', hds⟩ ll (lst_push (lst_push hR12)) (lst_push (lst_push hR2))
      rw [← hL]
      exact key
  · obtain ⟨x, hx⟩ : ∃ x, L[k]? = some x := ⟨_, List.getElem?_eq_getElem e⟩
    refine ⟨x, _, ?_, rfl, ?_⟩
    · show (s10.rd j10).bind _ = _
      rw [rd_lst h10]
      exact hx
    · have a1 : ∀ t : S, addD (.tup (cs.take r.toNat)) (.tup [x]) t = .ok (.tup (cs.take r.toNat ++ [x])) t := fun t => tup_add (by rw [List.length_append, List.length_take]; exact Nat.le_trans (by show _ + 1 ≤ 21; omega : _ ≤ 21) (by decide))
      have a2 : ∀ t : S, addD (.tup (cs.take r.toNat ++ [x])) (.tup (cs.drop r.toNat)) t = .ok (ins cs r.toNat x) t := fun t => tup_add (by rw [List.length_append, List.length_append, List.length_take, List.length_drop]; exact Nat.le_trans (by show _ + 1 + _ ≤ 41; omega : _ ≤ 41) (by decide))
      simp only [evS, evE, evEs, evO, to_bind, to_ok, bind_ok, List.getElem?_cons_zero, List.getElem?_cons_succ, List.set_cons_zero, List.set_cons_succ, f_next, Option.map_some, evC, if_true, sl, ct, cd, newT1, bin_add, a1, a2]
      refine ⟨by omega, trivial, ?_⟩
      rw [List.take_add_one, hx]
      simp
end
end Ev

set_option linter.all false
set_option maxRecDepth 100000
set_option maxHeartbeats 1000000
/-! K72i: no turned code is taken. -/
namespace Ev
theorem k_nil : isB (run T 51 r_is_code.fn [.tup []] ⟨[], 0⟩) false = true := by decide +kernel
theorem k_non : isB (run T 51 r_is_code.fn [.non] ⟨[], 0⟩) false = true := by decide +kernel
theorem k_str : isB (run T 51 r_is_code.fn [.str [99, 111, 100, 101]] ⟨[], 0⟩) false = true := by decide +kernel
theorem k_long : isB (run T 51 r_is_code.fn [.tup (longT ++ [endS])] ⟨[], 0⟩) false = true := by decide +kernel
theorem isi_ref {k : Nat} {ys : List D} {t : S} (h : t.lst k = some ys) : isiD (.ref k) .tuple t = some false := by
  show isiO (t.get k) .tuple = some false
  unfold S.lst at h
  split at h
  · rename_i e; rw [e]; rfl
  · cases h
theorem step_ref {k : Nat} {ys : List D} {t : S} {n : Int} {d : Nat} (h : t.lst k = some ys) : run T (d + 1) r_is_step.fn [.ref k, .int n] t = .ok (.bl false) t := by
  refine (run_to rfl rfl ?_).eq
  show (evSs _ (.cons (.ite _ (.cons (.ret _) .nil) _) _) [some (.ref k), some (.int n), none] ⟨t.objs, t.objs.length⟩).to _
  rw [evSs_cons, evS_ite']
  have hi : isiD (.ref k) .tuple ⟨t.objs, t.objs.length⟩ = some false := isi_ref (t := ⟨t.objs, t.objs.length⟩) h
  simp only [evE, to_bind, to_ok, bind_ok, List.getElem?_cons_zero, hi, oB, truthy, Bool.not_false, if_true]
  rw [evSs_last]
  simp only [evS, evE, to_bind, to_ok]
  exact ret_pure (t := t) (Nat.lt_irrefl _) rfl List.take_length rfl ⟨rfl, rfl⟩
theorem code_ref {k : Nat} {ys : List D} {t : S} {d : Nat} (h : t.lst k = some ys) : run T (d + 1) r_is_code.fn [.ref k] t = .ok (.bl false) t := by
  refine (run_to rfl rfl ?_).eq
  show (evSs _ (.cons (.ite _ (.cons (.ret _) .nil) _) _) [some (.ref k), none, none] ⟨t.objs, t.objs.length⟩).to _
  rw [evSs_cons, evS_ite']
  have hi : isiD (.ref k) .tuple ⟨t.objs, t.objs.length⟩ = some false := isi_ref (t := ⟨t.objs, t.objs.length⟩) h
  simp only [evE, to_bind, to_ok, bind_ok, List.getElem?_cons_zero, hi, oB, truthy, Bool.not_false, if_true]
  rw [evSs_last]
  simp only [evS, evE, to_bind, to_ok]
  exact ret_pure (t := t) (Nat.lt_irrefl _) rfl List.take_length rfl ⟨rfl, rfl⟩
theorem wrong_known {n : Nat} (hn : n < 22) {x : D} (h : x ∈ W n) : Known n x false := by
  have := List.all_eq_true.mp (List.all_eq_true.mp k_wrong n (List.mem_range.mpr hn)) x h
  obtain ⟨a, b⟩ := Bool.and_eq_true_iff.mp this
  exact ⟨a, b⟩
theorem steps_of {z : Int} {R : Nat} {x : D} (h : x ∈ w0 z R ++ w1 z R ++ w2 z R ++ w3 z R ++ w4 z R ++ w5 z R ++ w6 z R ++ w7 z R) : x ∈ W z ∨ x = endS ∨ x = .ref R := by
  rcases List.mem_append.mp h with h | h
  · exact .inl (List.mem_append_left _ h)
  · simp only [w7, List.mem_cons, List.not_mem_nil, or_false] at h
    rcases h with rfl | rfl | rfl | rfl | rfl | rfl | rfl | rfl | rfl | rfl <;> first | exact .inr (.inl rfl) | exact .inr (.inr rfl) | exact .inl (List.mem_append_right _ (List.mem_of_getElem? (i := 0) rfl)) | exact .inl (List.mem_append_right _ (List.mem_of_getElem? (i := 1) rfl)) | exact .inl (List.mem_append_right _ (List.mem_of_getElem? (i := 2) rfl)) | exact .inl (List.mem_append_right _ (List.mem_of_getElem? (i := 3) rfl)) | exact .inl (List.mem_append_right _ (List.mem_of_getElem? (i := 4) rfl)) | exact .inl (List.mem_append_right _ (List.mem_of_getElem? (i := 5) rfl)) | exact .inl (List.mem_append_right _ (List.mem_of_getElem? (i := 6) rfl)) | exact .inl (List.mem_append_right _ (List.mem_of_getElem? (i := 7) rfl))
section
variable {s : S} {sz : Int} {ys : List D} {r R R2 : Nat}
theorem told_false (hz : 2 ≤ sz ∧ sz ≤ 19) (hl : (ys.length : Int) = sz - 1) (hy : ∀ x ∈ ys, StepOk sz x) (hr : r < (ys ++ [endS]).length) (hR : s.lst R = some [.str [100, 114, 111, 112]]) (hR2 : s.lst R2 = some (ys ++ [endS])) {w : D}
    (hw : w ∈ told (ys ++ [endS]) r ((ys ++ [endS]).length + 1) R R2) : run T 51 r_is_code.fn [w] s = .ok (.bl false) s := by
  have ln : (ys ++ [endS]).length = ys.length + 1 := by rw [List.length_append]; rfl
  -- what stands in the code is known
  have kc : ∀ n : Nat, n < 22 → ∀ x ∈ ys ++ [endS], ∃ c, Known n x c := fun n hn x hx => by
    rcases List.mem_append.mp hx with hx | hx
    · obtain ⟨c, k, _⟩ := stepOk_known hz.2 hn (hy x hx)
      exact ⟨c, k⟩
    · rw [List.mem_singleton.mp hx]
      exact ⟨true, fixed_known hn (List.mem_cons_self ..) rfl⟩
  have hc : ∀ x ∈ ys ++ [endS], Head x := fun x hx => by
    rcases List.mem_append.mp hx with hx | hx
    · exact (stepOk_head (hy x hx)).1
    · rw [List.mem_singleton.mp hx]; exact ⟨_, _, rfl⟩
  -- an end that is not the last
  have early : ∀ (xs : List D) (n m : Nat), m + 1 < n → xs[m]? = some endS → ends xs n ≠ [(n : Int) - 1] := fun xs n m hm hx he => by
    have : (m : Int) ∈ ends xs n := mem_ends.mpr ⟨m, by omega, by rw [List.getD_eq_getElem?_getD, hx]; rfl, rfl⟩
    rw [he, List.mem_singleton] at this
    omega
  have tail : ∀ x : D, (∃ c, Known (ys.length + 2 : Nat) x c) → Head x → run T 51 r_is_code.fn [.tup (ys ++ [endS] ++ [x])] s = .ok (.bl false) s := fun x hk hh => by
    refine code_false (n := ys.length + 2) (by rw [List.length_append, ln]; rfl) (by omega) (by omega) (fun y hy => ?_) fun _ => ⟨fun y hy => ?_, early _ _ ys.length (by omega) ?_⟩
    · rcases List.mem_append.mp hy with hy | hy
      · exact kc _ (by omega) y hy
      · rw [List.mem_singleton.mp hy]; exact hk
    · rcases List.mem_append.mp hy with hy | hy
      · exact hc y hy
      · rw [List.mem_singleton.mp hy]; exact hh
    · simp
  unfold told at hw
  rcases List.mem_append.mp hw with hw | hw
  · rcases List.mem_append.mp hw with hw | hw
    · obtain ⟨x, hx, rfl⟩ := List.mem_map.mp hw
      have li : ((ys ++ [endS]).take r ++ [x] ++ (ys ++ [endS]).drop r).length = ys.length + 2 := by
        rw [List.length_append, List.length_append, List.length_take, List.length_drop, ln]
        show min r (ys.length + 1) + 1 + (ys.length + 1 - r) = _
        rw [ln] at hr
        omega
      have mi : ∀ y, y ∈ (ys ++ [endS]).take r ++ [x] ++ (ys ++ [endS]).drop r → y = x ∨ y ∈ ys ++ [endS] := fun y hy => by
        rcases List.mem_append.mp hy with hy | hy
        · rcases List.mem_append.mp hy with hy | hy
          · exact .inr (List.mem_of_mem_take hy)
          · exact .inl (List.mem_singleton.mp hy)
        · exact .inr (List.mem_of_mem_drop hy)
      have mx : x ∈ (ys ++ [endS]).take r ++ [x] ++ (ys ++ [endS]).drop r := List.mem_append_left _ (List.mem_append_right _ (List.mem_singleton.mpr rfl))
      have zn : (((ys ++ [endS]).length : Int) + 1) = ((ys.length + 2 : Nat) : Int) := by rw [ln]; omega
      rw [zn] at hx
      rcases steps_of hx with hx | rfl | rfl
      · have kx := wrong_known (by omega) hx
        refine code_false li (by omega) (by omega) (fun y hy => ?_) fun ha => ?_
        · rcases mi y hy with rfl | hy
          · exact ⟨_, kx⟩
          · exact kc _ (by omega) y hy
        · have := List.all_eq_true.mp ha x mx
          rw [kx.vb] at this
          cases this
      · refine code_false li (by omega) (by omega) (fun y hy => ?_) fun _ => ⟨fun y hy => ?_, early _ _ r (by rw [ln] at hr; omega) ?_⟩
        · rcases mi y hy with rfl | hy
          · exact ⟨true, fixed_known (by omega) (List.mem_cons_self ..) rfl⟩
          · exact kc _ (by omega) y hy
        · rcases mi y hy with rfl | hy
          · exact ⟨_, _, rfl⟩
          · exact hc y hy
        · rw [List.append_assoc, List.getElem?_append_right (by rw [List.length_take]; omega), List.length_take]
          have : r - min r (ys ++ [endS]).length = 0 := by omega
          rw [this]
          rfl
      · refine code_to2 (d := 50) (b := fun x => match x with | .ref _ => false | x => vb (ys.length + 2 : Nat) x) (by rw [li]; omega) (by rw [li]; omega) ?_ (fun y hy l => ?_) ?_
        · cases e : D.pures ((ys ++ [endS]).take r ++ [.ref R] ++ (ys ++ [endS]).drop r) with
          | false => rfl
          | true => have := pures_iff.mp e _ mx; cases this
        · rw [li]
          rcases mi y hy with rfl | hy
          · exact step_ref (t := ⟨s.objs, l⟩) (d := 49) hR
          · obtain ⟨c, k⟩ := kc (ys.length + 2) (by omega) y hy
            have : y.pure = true := k.1
            rw [k.run]
            cases y with
            | ref _ => cases this
            | _ => exact congrArg (fun b => Out.ok (D.bl b) (⟨s.objs, l⟩ : S)) k.vb.symm
        · cases e : List.all _ _ with
          | false => rfl
          | true => have := List.all_eq_true.mp e _ mx; cases this
    · simp only [List.mem_cons, List.not_mem_nil, or_false] at hw
      rcases hw with rfl | rfl | rfl | rfl | rfl | rfl | rfl
      · have tk : (ys ++ [endS]).take ((ys ++ [endS]).length - 1) = ys := by rw [ln]; simp
        rw [tk]
        refine code_false (n := ys.length) rfl (by omega) (by omega) (fun y hy => kc _ (by omega) y (List.mem_append_left _ hy)) fun _ => ⟨fun y hy => hc y (List.mem_append_left _ hy), ?_⟩
        rw [ends_nil (fun x hx => (stepOk_head (hy x hx)).2) _ (Nat.le_refl _)]
        intro z
        cases z
      · exact tail _ ⟨true, fixed_known (by omega) (List.mem_cons_self ..) rfl⟩ ⟨_, _, rfl⟩
      · exact tail _ ⟨true, fixed_known (by omega) (List.mem_cons_of_mem _ (List.mem_of_getElem? (i := 6) rfl)) rfl⟩ ⟨_, _, rfl⟩
      · exact run_any s rfl (isB_eq k_nil) rfl
      · exact run_any s rfl (isB_eq k_non) rfl
      · exact code_ref (d := 50) hR2
      · exact run_any s rfl (isB_eq k_str) rfl
  · rw [List.mem_singleton.mp hw]
    exact run_any s (by decide +kernel) (isB_eq k_long) rfl
end
end Ev

set_option linter.all false
set_option maxRecDepth 100000
set_option maxHeartbeats 1000000
/-! K72j: the law, of each script. -/
namespace Ev
theorem f_draws : T.fns "_law_draws" = some (⟨2, 9, bDraws⟩ : Fn) := rfl
theorem f_any : T.fns "_law_any_code" = some r__law_any_code.fn := rfl
theorem f_wr : T.fns "_law_wrongs" = some r__law_wrongs.fn := rfl
theorem f_code : T.fns "is_code" = some r_is_code.fn := rfl
def long99 : List D := (List.replicate 99 [D.tup [.str [115, 97, 121], .str [97]], .tup [.str [100, 114, 111, 112]]]).flatten
theorem k_e1 : isB (run T 51 r_is_code.fn [.tup [endS]] ⟨[], 0⟩) true = true := by decide +kernel
theorem k_e2 : isB (run T 51 r_is_code.fn [.tup (long99 ++ [.tup [.str [103, 111], .int 0], endS])] ⟨[], 0⟩) true = true := by decide +kernel
theorem k_e3 : isB (run T 51 r_is_code.fn [.tup [.tup [.str [100, 105, 103], .int 9], .tup [.str [100, 105, 103], .int 1], .tup [.str [103, 111], .int 0], .tup [.str [111, 116, 104, 101, 114], .int 4], endS]] ⟨[], 0⟩) true = true := by decide +kernel
theorem ints_set {s : S} {n : Nat} (h : ∃ ds, s.ints n ds) (ds : List Int) : (s.setL n (ds.map D.int)).ints n ds := by
  obtain ⟨ds0, h⟩ := h
  have hn := lst_lt h
  have : (s.setL n (ds.map D.int)).get n = some (.lst (ds.map D.int)) := List.getElem?_set_self hn
  unfold S.ints S.lst
  rw [this]
theorem law_true (ns : List Int) : ∃ s, run T 52 r_law.fn [.kl ns] ⟨[], 0⟩ = .ok (.bl true) s := by
  have key : (run T 52 r_law.fn [.kl ns] ⟨[], 0⟩).to fun v s => v = .bl true := by
    refine run_to rfl rfl ?_
    show (evSs _ (.cons (.asg 1 _) (.cons (.for_ [2] (.range1 (.int 3)) _) (.cons (.asg 5 _) (.cons (.ite _ _ _) (.cons (.ret _) .nil))))) [some (.kl ns), none, none, none, none, none] ⟨[], 0⟩).to _
    have nt : ∀ (b : Bool) (s : S), cmpD .isnot (.bl b) (.bl b) s = .ok (.bl false) s := fun b _ => by cases b <;> rfl
    have it : ∀ (b : Bool) (s : S), cmpD .is_ (.bl b) (.bl b) s = .ok (.bl true) s := fun b _ => by cases b <;> rfl
    have s3 : small62 3 = true := by decide
    rw [evSs_cons]
    simp only [evS, evE, evEs, evO, evIt, to_bind, to_ok, bind_ok, List.getElem?_cons_zero, List.getElem?_cons_succ, List.set_cons_zero, List.set_cons_succ, Option.map_some, f_draws]
    refine draws_to (d := 50) (by decide) (by decide) (by decide) fun ds => ?_
    have h0 : (S.push ⟨[], 0⟩ (.lst (ds.map D.int))).ints 0 ds := rfl
    rw [evSs_cons, evS_for']
    simp only [evS, evE, evEs, evO, evIt, to_bind, to_ok, bind_ok, List.getElem?_cons_zero, List.getElem?_cons_succ, List.set_cons_zero, List.set_cons_succ, Option.map_some, s3, if_true]
    refine for_to (N := 3) (fun j ρ s => j ≤ 3 ∧ ∃ a2 a3 a4 a5, ρ = [some (.kl ns), some (.ref 0), a2, a3, a4, a5] ∧ (∃ ds, s.ints 0 ds)) ?_ fuel 0 _ _ (by decide) ⟨by decide, none, none, none, none, rfl, ds, h0⟩
    rintro j ρ s ⟨hj, a2, a3, a4, a5, rfl, ds1, hd1⟩
    refine ⟨hj, fun e => ⟨by unfold rangeW; rw [if_neg (by omega)], ?_⟩, fun e => ?_⟩
    · -- the end
      show (evSs _ (.cons (.asg 5 _) (.cons (.ite _ _ _) (.cons (.ret _) .nil))) [some (.kl ns), some (.ref 0), a2, a3, a4, a5] s).to _
      have m99 : ∀ t : S, mulD (.tup [.tup [.str [115, 97, 121], .str [97]], .tup [.str [100, 114, 111, 112]]]) (.int 99) t = .ok (.tup long99) t := fun _ => rfl
      rw [evSs_cons]
      simp only [evS, evE, evEs, evO, evIt, to_bind, to_ok, bind_ok, List.getElem?_cons_zero, List.getElem?_cons_succ, List.set_cons_zero, List.set_cons_succ, Option.map_some, newT1, newT2, bin_mul, m99]
      rw [evSs_cons, evS_ite']
      have e1 : ∀ t, run T 51 r_is_code.fn [.tup [.tup [.str [101, 110, 100]]]] t = .ok (.bl true) t := fun t => run_any t rfl (isB_eq k_e1) rfl
      have ad : ∀ t, addD (.tup long99) (.tup [.tup [.str [103, 111], .int 0], .tup [.str [101, 110, 100]]]) t = .ok (.tup (long99 ++ [.tup [.str [103, 111], .int 0], endS])) t := fun t => tup_add (by rw [List.length_append, show long99.length = 198 from rfl]; show 200 ≤ big; decide)
      have e2 : ∀ t, run T 51 r_is_code.fn [.tup (long99 ++ [.tup [.str [103, 111], .int 0], endS])] t = .ok (.bl true) t := fun t => run_any t (by decide +kernel) (isB_eq k_e2) rfl
      have tr : ∀ (b : Bool) (s : S), truthy (.bl b) s = .ok b s := fun _ _ => rfl
      simp only [evS, evE, evEs, evO, evIt, to_bind, to_ok, bind_ok, List.getElem?_cons_zero, List.getElem?_cons_succ, List.set_cons_zero, List.set_cons_succ, Option.map_some, newT1, newT2, f_code, e1, nt, tr, Bool.false_eq_true, if_false, bin_add, ad, e2]
      rw [evSs_nil]
      show (evSs _ (.cons (.ret _) .nil) [some (.kl ns), some (.ref 0), a2, a3, a4, some (.tup long99)] s).to _
      have n5 : ∀ (a b c d e : D) (t : S), newT t [a, b, c, d, e] = .ok (.tup [a, b, c, d, e]) t := fun _ _ _ _ _ _ => rfl
      have e3 : ∀ t, run T 51 r_is_code.fn [.tup [.tup [.str [100, 105, 103], .int 9], .tup [.str [100, 105, 103], .int 1], .tup [.str [103, 111], .int 0], .tup [.str [111, 116, 104, 101, 114], .int 4], .tup [.str [101, 110, 100]]]] t = .ok (.bl true) t := fun t => run_any t rfl (isB_eq k_e3) rfl
      rw [evSs_last]
      simp only [evS, evE, evEs, evO, evIt, to_bind, to_ok, bind_ok, List.getElem?_cons_zero, List.getElem?_cons_succ, List.set_cons_zero, List.set_cons_succ, Option.map_some, newT1, newT2, n5, f_code, e3, it]
      exact ret_pure (t := ⟨[], 0⟩) (Nat.not_lt_zero _) rfl rfl rfl rfl
    · obtain ⟨kk, hkk⟩ : ∃ kk : Int, kk = 0 + (j : Int) := ⟨_, rfl⟩
      refine ⟨.int kk, [some (.kl ns), some (.ref 0), some (.int kk), a3, a4, a5], by unfold rangeW; rw [← hkk, if_pos (by omega)], rfl, ?_⟩
      show (evSs _ (.cons (.asg 3 _) (.cons (.ite _ _ _) (.cons (.for_ [4] (.plain _) _) .nil))) [some (.kl ns), some (.ref 0), some (.int kk), a3, a4, a5] s).to _
      rw [evSs_cons]
      simp only [evS, evE, evEs, evO, evIt, to_bind, to_ok, bind_ok, List.getElem?_cons_zero, List.getElem?_cons_succ, List.set_cons_zero, List.set_cons_succ, Option.map_some, f_any]
      refine any_to (d := 48) hd1 fun sz ys ds2 z0 z1 hl hy => ?_
      have hd2 := ints_set ⟨ds1, hd1⟩ ds2
      generalize s.setL 0 (ds2.map D.int) = s2 at hd2
      rw [evSs_cons, evS_ite']
      simp only [evS, evE, evEs, evO, evIt, to_bind, to_ok, bind_ok, List.getElem?_cons_zero, List.getElem?_cons_succ, List.set_cons_zero, List.set_cons_succ, Option.map_some, f_code, code_true ⟨z0, z1⟩ hl hy, nt, truthy, Bool.false_eq_true, if_false]
      rw [evSs_nil]
      show (evSs _ (.cons (.for_ [4] (.plain _) _) .nil) [some (.kl ns), some (.ref 0), some (.int kk), some (.tup (ys ++ [endS])), a4, a5] s2).to _
      rw [evSs_last, evS_for']
      simp only [evS, evE, evEs, evO, evIt, to_bind, to_ok, bind_ok, List.getElem?_cons_zero, List.getElem?_cons_succ, List.set_cons_zero, List.set_cons_succ, Option.map_some, f_wr]
      have ln : (ys ++ [endS]).length = ys.length + 1 := by rw [List.length_append]; rfl
      refine wr_to (d := 49) hd2 (by omega) (by omega) fun s3 l r R R2 _ r1 hw hds ln0 hR hR2 => ?_
      have wk : walkOf (.ref l) s3 = some (lstW l) := by
        show (match s3.rd l with | some _ => some (lstW l) | none => none) = _
        rw [rd_lst hw]
      have tl : (told (ys ++ [endS]) r ((ys ++ [endS]).length + 1) R R2).length = 47 := by
        unfold told
        rw [List.length_append, List.length_append, List.length_map]
        rfl
      simp only [wk, to_ok]
      refine for_to (N := 47) (fun i ρ s => i ≤ 47 ∧ s3 = s ∧ ∃ a4, ρ = [some (.kl ns), some (.ref 0), some (.int kk), some (.tup (ys ++ [endS])), a4, a5]) ?_ fuel 0 _ _ (by decide) ⟨by decide, rfl, a4, rfl⟩
      rintro i ρ s' ⟨hi, rfl, b4, rfl⟩
      refine ⟨hi, fun e => ⟨?_, by omega, _, _, _, _, rfl, hds⟩, fun e => ?_⟩
      · show (s3.rd l).bind _ = none
        rw [rd_lst hw]
        exact List.getElem?_eq_none (by omega)
      · obtain ⟨w, hwi⟩ : ∃ w, (told (ys ++ [endS]) r ((ys ++ [endS]).length + 1) R R2)[i]? = some w := ⟨_, List.getElem?_eq_getElem (by omega)⟩
        refine ⟨w, [some (.kl ns), some (.ref 0), some (.int kk), some (.tup (ys ++ [endS])), some w, a5], ?_, rfl, ?_⟩
        · show (s3.rd l).bind _ = _
          rw [rd_lst hw]
          exact hwi
        · have cf := told_false ⟨z0, z1⟩ hl hy r1 hR hR2 (List.mem_of_getElem? hwi)
          rw [evSs_last, evS_ite']
          simp only [evS, evE, evEs, evO, evIt, to_bind, to_ok, bind_ok, List.getElem?_cons_zero, List.getElem?_cons_succ, List.set_cons_zero, List.set_cons_succ, Option.map_some, f_code, cf, nt, truthy, Bool.false_eq_true, if_false]
          rw [evSs_nil]
          exact ⟨by omega, rfl, _, rfl⟩
  obtain ⟨v, s, e, rfl⟩ := to_ex key
  exact ⟨s, e⟩
end Ev

set_option Elab.async false
set_option linter.all false
set_option maxRecDepth 100000
set_option maxHeartbeats 0
namespace Ev
open PySem PySem.Spec PyProof.Rows L2
abbrev Rw : PySem.W.OpenRow := PySem.W.OpenLaw.row PySem.Challenge.rw_textglass_k72_code_judged
abbrev hk : PySem.W.Hook := He.hookD 4 (faOf rows gls) (rows.map DefRow.dd)
def ob (s : PySem.W.SharedT) : He.AlD := He.obsDG 4 (faOf rows gls) (rows.map DefRow.dd) (HandSHeadRun.getT s)
theorem ob_eq (s : PySem.W.SharedT) : ob s = hk.obs s.abs := He.obsDG_eq (HandSHeadRun.getT_eq s)
def loose : List Str := ["SIGNS", "is_whole", "is_within", "is_signs", "is_rising", "inner_kinds", "is_kind_of", "is_kind", "MOST_STEPS", "is_step", "is_code", "_law_draws", "_law_next", "_law_code_step", "_law_any_code", "_law_wrongs"].map nm
theorem runs (w : World) : HandSHeadRun.RunEq Rw (PySem.W.view Rw.prog [20]) hk ob 4000 loose w := by
  intro os
  kernel_rfl
theorem hlaw (ns : List Int) (h : ns.length ≤ 63) : ∃ s, run (tabOf rows gls) 52 r_law.fn [.kl ns] ⟨[], 0⟩ = .ok (.bl true) s := law_true ns
end Ev
open PySem PySem.W PySem.Calls PyProof.Rows
theorem PySem.Challenge.cw_textglass_k72_code_judged_holds : PySem.Challenge.rw_textglass_k72_code_judged.Holds := by
  w_on; o_law
  refine HandSHeadRun.head_any (r := OpenLaw.row PySem.Challenge.rw_textglass_k72_code_judged) (q := view (OpenLaw.row PySem.Challenge.rw_textglass_k72_code_judged).prog [20]) (H := Ev.hk) (ob := Ev.ob) (M := 4000) (loose := Ev.loose) (d := HandSHeadRun.topDef (OpenLaw.row PySem.Challenge.rw_textglass_k72_code_judged).prog 20) (kwd := []) Ev.ob_eq
    (by kernel_rfl) (fun s => by kernel_rfl) Ev.runs (by kernel_rfl) (by kernel_rfl) (by kernel_rfl) (by rfl) (by first | assumption | decide +kernel) (by decide +kernel) ⟨rfl, rfl, rfl, rfl, rfl, by decide +kernel⟩ ?hw ?hc
  case hw => w_witness2
  case hc => exact Ev.law_walk (l := PySem.Challenge.rw_textglass_k72_code_judged) (n := 63) (D := 51) (i := 14) (r := Ev.r_law) rfl (by decide) (by kernel_rfl) ⟨rfl, by decide, by decide⟩ Ev.good (by kernel_rfl) rfl rfl rfl Ev.hlaw

